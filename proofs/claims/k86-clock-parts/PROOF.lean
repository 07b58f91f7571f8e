import PyProof.Rows.All
import Wide.All
import OpenK.AllK
import Wide.FinOn
import HandS.ForMost
import HandS.Conv
import HandS.Deep
import HandS.TupAny
import HandS.TupLe
import HandS.Defaults
import HandS.Exc
import HandS.WordsExc
import HandS.HeadEnd
import PyProof.ReprRoads
import HandS.Dict
import HandS.IsInst
import HandS.SortInts
import KE.DataCmp
import KE.SortData
import PyProof.Rows.StrSplitCount
import PyProof.ReprLen
import PySem.Challenge.RW_plainhearing_k86_clock_parts
import KE.KStateDown
import Lean
import HandS.Head0
import HandS.Head1
import HandS.Head2
import HandS.HeadHook1
import HandS.HeadHook2
set_option Elab.async false
set_option linter.all false
set_option maxRecDepth 100000
/-! Dl: a layer of pure data over HandS. -/
namespace Dl
open PySem PySem.Spec PyProof.Rows L2

abbrev D := PyData
abbrev Sg := List (Option V)
def keyD : Key → D
  | .inl i => .int i
  | .inr x => .str x
/-! ### values that stand for data, in a part Z of the heap that nobody changes -/
mutual
inductive Rp (K : PySem.W.Frag) (Z : Hp) : V → D → Prop
  | non : Rp K Z .non .none
  | bl (b : Bool) : Rp K Z (.bl b) (.bool b)
  | int (i : Int) : Rp K Z (.int i) (.int i)
  | str (x : Str) : Rp K Z (.str x) (.str x)
  | lst {a : Addr} {vs : List V} {ds : List D} : Z a = some (.lst vs) → RpA K Z vs ds → ds.length ≤ sizeLine → Rp K Z (.ref a) (.list ds)
  | tup {a : Addr} {vs : List V} {ds : List D} : Z a = some (.tup vs) → RpA K Z vs ds → ds.length ≤ sizeLine → Rp K Z (.ref a) (.tuple ds)
  | dct {a : Addr} {ks : List (List Key)} {vs : List V} {ds : List D} : Z a = some (.dT (ks.zip vs)) → RpA K Z vs ds → ks.length = ds.length →
      Rp K Z (.ref a) (.dict ((ks.map fun k => PyData.tuple (k.map keyD)).zip ds))
  | dck {a : Addr} {ks : List Key} {vs : List V} {ds : List D} : Z a = some (.dK (ks.zip vs)) → RpA K Z vs ds → ks.length = ds.length → Rp K Z (.ref a) (.dict ((ks.map keyD).zip ds))
inductive RpA (K : PySem.W.Frag) (Z : Hp) : List V → List D → Prop
  | nil : RpA K Z [] []
  | cons {v : V} {vs : List V} {d : D} {ds : List D} : Rp K Z v d → RpA K Z vs ds → RpA K Z (v :: vs) (d :: ds)
end
section
variable {K : PySem.W.Frag} {Z Z' H : Hp}
theorem sq_l {a : Addr} {vs : List V} (m : Same Z Z') (h : SqL K Z a vs) : SqL K Z' a vs := m.seq h
theorem sq_t {a : Addr} {vs : List V} (m : Same Z Z') (h : SqT K Z a vs) : SqT K Z' a vs := by
  rcases h with (q | ⟨o, q⟩) | q
  · exact Or.inl (Or.inl (m _ _ q))
  · exact Or.inl (Or.inr ⟨o, m _ _ q⟩)
  · exact Or.inr q
mutual
theorem Rp.mono (m : Same Z Z') : ∀ {v : V} {d : D}, Rp K Z v d → Rp K Z' v d
  | _, _, .non => .non
  | _, _, .bl b => .bl b
  | _, _, .int i => .int i
  | _, _, .str x => .str x
  | _, _, .lst q r n => .lst (m _ _ q) (RpA.mono m r) n
  | _, _, .tup q r n => .tup (m _ _ q) (RpA.mono m r) n
  | _, _, .dct q r n => .dct (m _ _ q) (RpA.mono m r) n
  | _, _, .dck q r n => .dck (m _ _ q) (RpA.mono m r) n
theorem RpA.mono (m : Same Z Z') : ∀ {vs : List V} {ds : List D}, RpA K Z vs ds → RpA K Z' vs ds
  | _, _, .nil => .nil
  | _, _, .cons r t => .cons (Rp.mono m r) (RpA.mono m t)
end
theorem RpA.len : ∀ {vs : List V} {ds : List D}, RpA K Z vs ds → vs.length = ds.length
  | _, _, .nil => rfl
  | _, _, .cons _ t => by rw [List.length_cons, List.length_cons, RpA.len t]
theorem RpA.get : ∀ {vs : List V} {ds : List D} {i : Nat} {d : D}, RpA K Z vs ds → ds[i]? = some d → ∃ v, vs[i]? = some v ∧ Rp K Z v d
  | _, _, _, _, .nil, e => by simp at e
  | _, _, 0, _, .cons r _, e => by
    simp at e
    subst e
    exact ⟨_, rfl, r⟩
  | _, _, i + 1, _, .cons _ t, e => by
    obtain ⟨v, h1, h2⟩ := RpA.get (i := i) t (by simpa using e)
    exact ⟨v, by simpa using h1, h2⟩
theorem RpA.getV : ∀ {vs : List V} {ds : List D} {i : Nat} {v : V}, RpA K Z vs ds → vs[i]? = some v → ∃ d, ds[i]? = some d ∧ Rp K Z v d
  | _, _, _, _, .nil, e => by simp at e
  | _, _, 0, _, .cons r _, e => by
    simp at e
    subst e
    exact ⟨_, rfl, r⟩
  | _, _, i + 1, _, .cons _ t, e => by
    obtain ⟨v, h1, h2⟩ := RpA.getV (i := i) t (by simpa using e)
    exact ⟨v, by simpa using h1, h2⟩
theorem RpA.app : ∀ {vs ws : List V} {ds es : List D}, RpA K Z vs ds → RpA K Z ws es → RpA K Z (vs ++ ws) (ds ++ es)
  | _, _, _, _, .nil, s => s
  | _, _, _, _, .cons r t, s => .cons r (RpA.app t s)
theorem RpA.one {v : V} {d : D} (r : Rp K Z v d) : RpA K Z [v] [d] := .cons r .nil
theorem RpA.take : ∀ {vs : List V} {ds : List D} (n : Nat), RpA K Z vs ds → RpA K Z (vs.take n) (ds.take n)
  | _, _, 0, _ => by
    rw [List.take_zero, List.take_zero]
    exact .nil
  | _, _, _ + 1, .nil => .nil
  | _, _, n + 1, .cons r t => .cons r (RpA.take n t)
theorem RpA.drop : ∀ {vs : List V} {ds : List D} (n : Nat), RpA K Z vs ds → RpA K Z (vs.drop n) (ds.drop n)
  | _, _, 0, r => r
  | _, _, _ + 1, .nil => .nil
  | _, _, n + 1, .cons _ t => RpA.drop n t
theorem RpA.set {v : V} {d : D} (r : Rp K Z v d) : ∀ {vs : List V} {ds : List D} (i : Nat), RpA K Z vs ds → RpA K Z (vs.set i v) (ds.set i d)
  | _, _, _, .nil => .nil
  | _, _, 0, .cons _ t => .cons r t
  | _, _, i + 1, .cons q t => .cons q (RpA.set r i t)
theorem RpA.erase : ∀ {vs : List V} {ds : List D} (i : Nat), RpA K Z vs ds → RpA K Z (vs.eraseIdx i) (ds.eraseIdx i)
  | _, _, _, .nil => .nil
  | _, _, 0, .cons _ t => t
  | _, _, i + 1, .cons q t => .cons q (RpA.erase i t)
theorem RpA.dropLast {vs : List V} {ds : List D} (r : RpA K Z vs ds) : RpA K Z vs.dropLast ds.dropLast := by
  rw [List.dropLast_eq_take, List.dropLast_eq_take, r.len]
  exact r.take _
theorem RpA.rev {vs : List V} {ds : List D} (r : RpA K Z vs ds) : RpA K Z vs.reverse ds.reverse := by
  induction vs generalizing ds with
  | nil => cases r; exact .nil
  | cons v vs ih =>
    cases r with
    | cons r t =>
      rw [List.reverse_cons, List.reverse_cons]
      exact (ih t).app (.one r)
theorem RpA.ints : ∀ (ns : List Int), RpA K Z (ns.map V.int) (ns.map PyData.int)
  | [] => .nil
  | n :: r => .cons (.int n) (RpA.ints r)
theorem RpA.of_ints : ∀ {ns : List Int} {vs : List V}, RpA K Z vs (ns.map PyData.int) → vs = ns.map V.int
  | [], _, .nil => rfl
  | n :: r, _, .cons (.int _) t => by rw [RpA.of_ints t]; rfl
theorem RpA.strs : ∀ (ns : List Str), RpA K Z (ns.map V.str) (ns.map PyData.str)
  | [] => .nil
  | n :: r => .cons (.str n) (RpA.strs r)
theorem RpA.of_strs : ∀ {ns : List Str} {vs : List V}, RpA K Z vs (ns.map PyData.str) → vs = ns.map V.str
  | [], _, .nil => rfl
  | n :: r, _, .cons (.str _) t => by rw [RpA.of_strs t]; rfl
end

/-! ### slots -/
/-- what a slot holds: nothing known; data; an own list (p: the caller's, at its place); a state of draws; an own dict with tuple keys -/
inductive Sl where
  | non | d (x : D) | own (p : Bool) (xs : List D) | drw (p : Bool) | ownT (ks : List (List Key)) (ds : List D) | ownK (ks : List Key) (ds : List D) | scr (ns : List Int) | pin (a : Addr)
abbrev Rho := List Sl
/-- a state of draws -/
def DrawInv (xs : List D) : Prop := ∃ (cs : List Int) (i b s : Int), xs = [.list (cs.map PyData.int), .int i, .int b, .int s] ∧ 0 ≤ i ∧ cs.length ≤ 1000
structure Ctx where
  H0 : Hp
  Z0 : Hp
  io : Nat → Option Addr
  fz : Addr → Prop
def OwnAt (C : Ctx) (Z : Hp) (i : Nat) (p : Bool) (a : Addr) : Prop := Z a = none ∧ (match p with
  | true => C.io i = some a
  | false => C.H0 a = none ∨ C.fz a)
def SlO (K : PySem.W.Frag) (C : Ctx) (Z H : Hp) (i : Nat) (v : Option V) : Sl → Prop
  | .non => True
  | .d x => ∃ u, v = some u ∧ Rp K Z u x
  | .own p xs => ∃ a vs, v = some (.ref a) ∧ H a = some (.lst vs) ∧ RpA K Z vs xs ∧ xs.length ≤ sizeLine ∧ OwnAt C Z i p a
  | .drw p => ∃ a vs xs, v = some (.ref a) ∧ H a = some (.lst vs) ∧ RpA K Z vs xs ∧ DrawInv xs ∧ OwnAt C Z i p a
  | .ownT ks ds => ∃ a vs, v = some (.ref a) ∧ H a = some (.dT (ks.zip vs)) ∧ RpA K Z vs ds ∧ ks.length = ds.length ∧ OwnAt C Z i false a
  | .ownK ks ds => ∃ a vs, v = some (.ref a) ∧ H a = some (.dK (ks.zip vs)) ∧ RpA K Z vs ds ∧ ks.length = ds.length ∧ OwnAt C Z i false a
  | .scr ns => ∃ a, v = some (.ref a) ∧ SqL K Z a (ns.map V.int)
  | .pin a => v = some (.ref a)
def ownA (v : Option V) (s : Sl) : Option Addr := match s, v with
  | .own _ _, some (.ref a) => some a
  | .drw _, some (.ref a) => some a
  | .ownT _ _, some (.ref a) => some a
  | .ownK _ _, some (.ref a) => some a
  | _, _ => none
def OA (σ : Sg) (ρ : Rho) (i : Nat) (a : Addr) : Prop := ∃ s v, ρ[i]? = some s ∧ σ[i]? = some v ∧ ownA v s = some a
structure Base (C : Ctx) (Z H : Hp) : Prop where
  le : Same Z H
  z0 : Same C.Z0 Z
  frame : ∀ b o, (∀ i, C.io i ≠ some b) → ¬ C.fz b → C.H0 b = some o → H b = some o
  trk : ∀ b, C.H0 b ≠ none → H b ≠ none
  new : ∀ b, Z b ≠ none → C.Z0 b ≠ none ∨ C.H0 b = none ∨ C.fz b
  ioT : ∀ i a, C.io i = some a → C.H0 a ≠ none
  fzT : ∀ a, C.fz a → C.H0 a ≠ none
structure Sls (K : PySem.W.Frag) (C : Ctx) (Z H : Hp) (σ : Sg) (ρ : Rho) : Prop where
  len : σ.length = ρ.length
  slot : ∀ i s v, ρ[i]? = some s → σ[i]? = some v → SlO K C Z H i v s
  inj : ∀ i j a, OA σ ρ i a → OA σ ρ j a → i = j
structure RB (K : PySem.W.Frag) (C : Ctx) (Z : Hp) (σ : Sg) (H : Hp) (ρ : Rho) : Prop where
  b : Base C Z H
  s : Sls K C Z H σ ρ
/-- a value that an expression yields -/
def isVal : Sl → Bool
  | .d _ => true
  | .own p _ => !p
  | .drw p => !p
  | .ownT _ _ => true
  | .ownK _ _ => true
  | .non => false
  | .scr _ => false
  | .pin _ => false
structure VR (K : PySem.W.Frag) (C : Ctx) (Z H : Hp) (σ : Sg) (ρ : Rho) (v : V) (s : Sl) : Prop where
  val : isVal s = true
  at_ : SlO K C Z H 0 (some v) s
  apart : ∀ a, ownA (some v) s = some a → ∀ j, ¬ OA σ ρ j a

section
variable {K : PySem.W.Frag} {C C' : Ctx} {Z Z' H H' : Hp} {σ σ' : Sg} {ρ ρ' : Rho} {i j : Nat} {v : Option V} {s : Sl} {a : Addr} {o : HO}
theorem none_of_ne {α : Type} {x : Option α} (h : ¬ x ≠ none) : x = none := by
  cases x with
  | none => rfl
  | some y => exact absurd (by simp) h
theorem OwnAt.z {p : Bool} (h : OwnAt C Z i p a) : Z a = none := h.1
theorem SlO.own_at (h : SlO K C Z H i v s) (e : ownA v s = some a) : ∃ p, OwnAt C Z i p a ∧ H a ≠ none ∧ (p = true → ∃ xs, s = .own true xs ∨ s = .drw true) := by
  cases s with
  | non => cases v <;> cases e
  | d x => cases v <;> cases e
  | scr ns => cases v <;> cases e
  | pin b => cases v <;> cases e
  | own p xs =>
    obtain ⟨b, vs, rfl, hb, _, _, ow⟩ := h
    have e' : some b = some a := e
    cases e'
    exact ⟨p, ow, by rw [hb]; simp, fun z => ⟨xs, Or.inl (by rw [z])⟩⟩
  | drw p =>
    obtain ⟨b, vs, xs, rfl, hb, _, _, ow⟩ := h
    have e' : some b = some a := e
    cases e'
    exact ⟨p, ow, by rw [hb]; simp, fun z => ⟨[], Or.inr (by rw [z])⟩⟩
  | ownT ks ds =>
    obtain ⟨b, vs, rfl, hb, _, _, ow⟩ := h
    have e' : some b = some a := e
    cases e'
    exact ⟨false, ow, by rw [hb]; simp, fun z => Bool.noConfusion z⟩
  | ownK ks ds =>
    obtain ⟨b, vs, rfl, hb, _, _, ow⟩ := h
    have e' : some b = some a := e
    cases e'
    exact ⟨false, ow, by rw [hb]; simp, fun z => Bool.noConfusion z⟩
/-- the slot's description where its own object and the data stay; the place's own condition is given anew -/
theorem SlO.keep (h : SlO K C Z H i v s) (m : Same Z Z') (hk : ∀ a, ownA v s = some a → H' a = H a) (ho : ∀ a p, ownA v s = some a → OwnAt C Z i p a → OwnAt C' Z' j p a) : SlO K C' Z' H' j v s := by
  cases s with
  | non => trivial
  | d x =>
    obtain ⟨u, e, r⟩ := h
    exact ⟨u, e, r.mono m⟩
  | scr ns =>
    obtain ⟨b, e, r⟩ := h
    exact ⟨b, e, sq_l m r⟩
  | pin b => exact h
  | own p xs =>
    obtain ⟨b, vs, rfl, hb, r, l, ow⟩ := h
    exact ⟨b, vs, rfl, (hk b rfl).trans hb, r.mono m, l, ho b p rfl ow⟩
  | drw p =>
    obtain ⟨b, vs, xs, rfl, hb, r, l, ow⟩ := h
    exact ⟨b, vs, xs, rfl, (hk b rfl).trans hb, r.mono m, l, ho b p rfl ow⟩
  | ownT ks ds =>
    obtain ⟨b, vs, rfl, hb, r, l, ow⟩ := h
    exact ⟨b, vs, rfl, (hk b rfl).trans hb, r.mono m, l, ho b false rfl ow⟩
  | ownK ks ds =>
    obtain ⟨b, vs, rfl, hb, r, l, ow⟩ := h
    exact ⟨b, vs, rfl, (hk b rfl).trans hb, r.mono m, l, ho b false rfl ow⟩
theorem Sls.slotAt (S : Sls K C Z H σ ρ) {s : Sl} (h : ρ[i]? = some s) : ∃ v, σ[i]? = some v ∧ SlO K C Z H i v s := by
  have hi : i < σ.length := by
    rw [S.len]
    exact (List.getElem?_eq_some_iff.mp h).1
  exact ⟨σ[i], List.getElem?_eq_getElem hi, S.slot i s _ h (List.getElem?_eq_getElem hi)⟩
theorem Sls.oa (S : Sls K C Z H σ ρ) (h : OA σ ρ i a) : ∃ p, OwnAt C Z i p a ∧ H a ≠ none := by
  obtain ⟨s, v, e1, e2, e3⟩ := h
  obtain ⟨p, ow, hn, _⟩ := (S.slot i s v e1 e2).own_at e3
  exact ⟨p, ow, hn⟩
theorem Base.back (B : Base C Z H) (B' : Base C' Z' H') (eh : C'.H0 = H) (ez : C'.Z0 = Z)
    (hio : ∀ j a, C'.io j = some a → (∃ i, C.io i = some a) ∨ C.H0 a = none ∨ C.fz a) (hfz : ∀ a, C'.fz a → C.H0 a = none ∨ C.fz a) : Base C Z' H' := by
  subst eh ez
  refine ⟨B'.le, B.z0.trans B'.z0, fun b o n1 n2 e => ?_, fun b e => B'.trk b (B.trk b e), fun b e => ?_, B.ioT, B.fzT⟩
  · refine B'.frame b o (fun j q => ?_) (fun q => ?_) (B.frame b o n1 n2 e)
    · rcases hio j b q with ⟨i, z⟩ | z | z
      · exact n1 i z
      · rw [z] at e; cases e
      · exact n2 z
    · rcases hfz b q with z | z
      · rw [z] at e; cases e
      · exact n2 z
  · rcases B'.new b e with z | z | z
    · exact B.new b z
    · refine Or.inr (Or.inl (none_of_ne fun q => ?_))
      exact B.trk b q z
    · exact Or.inr (hfz b z)
/-- the heap grew by a new object -/
theorem Same.new (h : H a = none) : Same H (upd H a o) := fun b u e => by
  rw [upd_ne (ne_of_none e h)]
  exact e
theorem Base.none0 (B : Base C Z H) (h : H a = none) : C.H0 a = none := none_of_ne fun q => B.trk a q h
theorem Base.noneZ (B : Base C Z H) (h : H a = none) : Z a = none := none_of_ne fun q => by
  cases e : Z a with
  | none => exact q e
  | some u => rw [B.le a u e] at h; cases h
theorem upd_not {b : Addr} (h : H b ≠ none) : upd H a o b ≠ none := by
  by_cases e : b = a
  · subst e; rw [upd_same]; simp
  · rw [upd_ne e]; exact h
/-- a new object beside Z -/
theorem Base.grow (B : Base C Z H) (h : H a = none) : Base C Z (upd H a o) :=
  ⟨B.le.trans (Same.new h), B.z0, fun b u n1 n2 e => Same.new h b u (B.frame b u n1 n2 e), fun b e => upd_not (B.trk b e), B.new, B.ioT, B.fzT⟩
/-- an object that is C's own to change -/
theorem Base.write (B : Base C Z H) (hz : Z a = none) (hc : (∃ i, C.io i = some a) ∨ C.H0 a = none ∨ C.fz a) : Base C Z (upd H a o) := by
  refine ⟨fun b u e => ?_, B.z0, fun b u n1 n2 e => ?_, fun b e => upd_not (B.trk b e), B.new, B.ioT, B.fzT⟩
  · rw [upd_ne (ne_of_none e hz)]
    exact B.le b u e
  · have hb : b ≠ a := fun q => by
      subst q
      rcases hc with ⟨i, z⟩ | z | z
      · exact n1 i z
      · rw [z] at e; cases e
      · exact n2 z
    rw [upd_ne hb]
    exact B.frame b u n1 n2 e
/-- an object goes over to Z -/
theorem Base.freeze (B : Base C Z H) (hz : Z a = none) (e : H a = some o) (hc : C.H0 a = none ∨ C.fz a) : Base C (upd Z a o) H := by
  refine ⟨fun b u q => ?_, B.z0.trans (Same.new hz), B.frame, B.trk, fun b q => ?_, B.ioT, B.fzT⟩
  · by_cases hb : b = a
    · subst hb; rw [upd_same] at q; cases q; exact e
    · rw [upd_ne hb] at q; exact B.le b u q
  · by_cases hb : b = a
    · subst hb; exact Or.inr hc
    · rw [upd_ne hb] at q; exact B.new b q
theorem OwnAt.mayW {p : Bool} (h : OwnAt C Z i p a) : (∃ i, C.io i = some a) ∨ C.H0 a = none ∨ C.fz a := by
  cases p with
  | true => exact Or.inl ⟨i, h.2⟩
  | false => exact Or.inr h.2
theorem OwnAt.zt {p : Bool} (h : OwnAt C Z i p a) (hz : Z' a = none) : OwnAt C Z' i p a := ⟨hz, h.2⟩
/-- all slots kept: Z grows off their objects, H is the same at them -/
theorem Sls.keep (S : Sls K C Z H σ ρ) (m : Same Z Z') (hk : ∀ i a, OA σ ρ i a → H' a = H a ∧ Z' a = none) : Sls K C Z' H' σ ρ :=
  ⟨S.len, fun i s v e1 e2 => (S.slot i s v e1 e2).keep m (fun a q => (hk i a ⟨s, v, e1, e2, q⟩).1) fun a p q ow => ow.zt (hk i a ⟨s, v, e1, e2, q⟩).2, S.inj⟩
theorem oa_set_ne {x : Option V} {t : Sl} (h : j ≠ i) : OA (σ.set i x) (ρ.set i t) j a ↔ OA σ ρ j a := by
  unfold OA
  rw [List.getElem?_set_ne (Ne.symm h), List.getElem?_set_ne (Ne.symm h)]
theorem oa_set {x : Option V} {t : Sl} (h : OA (σ.set i x) (ρ.set i t) j a) : (j ≠ i ∧ OA σ ρ j a) ∨ (j = i ∧ ownA x t = some a) := by
  by_cases hj : j = i
  · subst hj
    obtain ⟨s, v, e1, e2, e3⟩ := h
    have l1 : j < ρ.length := by
      have := (List.getElem?_eq_some_iff.mp e1).1
      simpa using this
    have l2 : j < σ.length := by
      have := (List.getElem?_eq_some_iff.mp e2).1
      simpa using this
    rw [List.getElem?_set_self l1] at e1
    rw [List.getElem?_set_self l2] at e2
    cases e1
    cases e2
    exact Or.inr ⟨rfl, e3⟩
  · exact Or.inl ⟨hj, (oa_set_ne hj).mp h⟩
/-- one slot is set anew -/
theorem Sls.put {x : Option V} {t : Sl} (S : Sls K C Z H σ ρ) (h : SlO K C Z H i x t) (ap : ∀ a, ownA x t = some a → ∀ j, j ≠ i → ¬ OA σ ρ j a) : Sls K C Z H (σ.set i x) (ρ.set i t) := by
  refine ⟨by simp [S.len], fun j s v e1 e2 => ?_, fun j k a h1 h2 => ?_⟩
  · by_cases hj : j = i
    · subst hj
      have l1 : j < ρ.length := by
        have := (List.getElem?_eq_some_iff.mp e1).1
        simpa using this
      have l2 : j < σ.length := by
        have := (List.getElem?_eq_some_iff.mp e2).1
        simpa using this
      rw [List.getElem?_set_self l1] at e1
      rw [List.getElem?_set_self l2] at e2
      cases e1
      cases e2
      exact h
    · rw [List.getElem?_set_ne (Ne.symm hj)] at e1 e2
      exact S.slot j s v e1 e2
  · rcases oa_set h1 with ⟨n1, q1⟩ | ⟨e1, q1⟩
    · rcases oa_set h2 with ⟨n2, q2⟩ | ⟨e2, q2⟩
      · exact S.inj j k a q1 q2
      · exact absurd q1 (ap a q2 j n1)
    · rcases oa_set h2 with ⟨n2, q2⟩ | ⟨e2, q2⟩
      · exact absurd q2 (ap a q1 k n2)
      · exact e1.trans e2.symm
theorem SlO.ix (h : SlO K C Z H i v s) (n : isVal s = true) : SlO K C Z H j v s := by
  cases s with
  | non => cases n
  | scr ns => cases n
  | pin b => cases n
  | d x => exact h
  | own p xs =>
    cases p with
    | true => cases n
    | false => exact h
  | drw p =>
    cases p with
    | true => cases n
    | false => exact h
  | ownT ks ds => exact h
  | ownK ks ds => exact h
/-- a value is stored in a slot -/
theorem RB.store {x : V} {t : Sl} (R : RB K C Z σ H ρ) (h : VR K C Z H σ ρ x t) : RB K C Z (σ.set i (some x)) H (ρ.set i t) :=
  ⟨R.b, R.s.put (h.at_.ix h.val) fun a e j _ => h.apart a e j⟩
/-- a slot is forgotten -/
theorem set_self {α : Type} {l : List α} {i : Nat} {x : α} (h : l[i]? = some x) : l.set i x = l := by
  obtain ⟨hi, e⟩ := List.getElem?_eq_some_iff.mp h
  rw [← e, List.set_getElem_self]
theorem Sls.slotPut {t : Sl} {x : Option V} (S : Sls K C Z H σ ρ) (hv : σ[i]? = some x) (h : SlO K C Z H i x t) (ap : ∀ a, ownA x t = some a → ∀ j, j ≠ i → ¬ OA σ ρ j a) : Sls K C Z H σ (ρ.set i t) := by
  have q := S.put (i := i) h ap
  rw [set_self hv] at q
  exact q
end
end Dl

set_option Elab.async false
set_option linter.all false
set_option maxRecDepth 100000
set_option autoImplicit false
namespace Dl
open PySem PySem.Spec PyProof.Rows L2

/-! ### transformers over slots -/
abbrev ET := Rho → (Sl → Rho → Prop) → Prop
abbrev BT := Rho → (Bool → Rho → Prop) → Prop
abbrev AT := Rho → (List D → Rho → Prop) → Prop
def MonoE (T : ET) : Prop := ∀ ρ (k k' : Sl → Rho → Prop), (∀ s ρ', k s ρ' → k' s ρ') → T ρ k → T ρ k'
def MonoB (T : BT) : Prop := ∀ ρ (k k' : Bool → Rho → Prop), (∀ s ρ', k s ρ' → k' s ρ') → T ρ k → T ρ k'
def MonoA (T : AT) : Prop := ∀ ρ (k k' : List D → Rho → Prop), (∀ s ρ', k s ρ' → k' s ρ') → T ρ k → T ρ k'
def rdE (K : PySem.W.Frag) (C : Ctx) (T : ET) : TE := fun σ H Q => ∃ Z ρ, RB K C Z σ H ρ ∧ T ρ fun s ρ' => ∀ v Z' H', Same Z Z' → RB K C Z' σ H' ρ' → VR K C Z' H' σ ρ' v s → Q v H'
def rdB (K : PySem.W.Frag) (C : Ctx) (T : BT) : TT := fun σ H Q => ∃ Z ρ, RB K C Z σ H ρ ∧ T ρ fun b ρ' => ∀ Z' H', Same Z Z' → RB K C Z' σ H' ρ' → Q b H'
def rdA (K : PySem.W.Frag) (C : Ctx) (T : AT) : TA := fun σ H Q => ∃ Z ρ, RB K C Z σ H ρ ∧ T ρ fun ds ρ' => ∀ vs Z' H', Same Z Z' → RB K C Z' σ H' ρ' → RpA K Z' vs ds → Q vs H'
structure DE (X : Cx) (C : Ctx) (e : Expr) (T : ET) : Prop where
  mono : MonoE T
  run : PE X e (rdE X.K C T)
structure DT (X : Cx) (C : Ctx) (e : Expr) (T : BT) : Prop where
  mono : MonoB T
  run : PT X e (rdB X.K C T)
structure DW (X : Cx) (C : Ctx) (e : Expr) (T : BT) : Prop where
  mono : MonoB T
  run : PW X e (rdB X.K C T)
structure DA (X : Cx) (C : Ctx) (es : List Expr) (T : AT) : Prop where
  mono : MonoA T
  run : PA X es (rdA X.K C T)
/-- the datum of a value; an own object is handed over -/
def asD (k : D → Rho → Prop) (s : Sl) (ρ : Rho) : Prop := match s with
  | .d x => k x ρ
  | .own false xs => k (.list xs) ρ
  | .ownT ks ds => k (.dict ((ks.map fun q => PyData.tuple (q.map keyD)).zip ds)) ρ
  | .ownK ks ds => k (.dict ((ks.map keyD).zip ds)) ρ
  | _ => False
theorem asD.imp {k k' : D → Rho → Prop} (h : ∀ x ρ', k x ρ' → k' x ρ') {s : Sl} {ρ : Rho} (q : asD k s ρ) : asD k' s ρ := by
  cases s with
  | non => exact q
  | scr ns => exact q
  | pin b => exact q
  | d x => exact h x ρ q
  | own p xs =>
    cases p with
    | true => exact q
    | false => exact h _ ρ q
  | drw p => exact q
  | ownT ks ds => exact h _ ρ q
  | ownK ks ds => exact h _ ρ q
section
variable {K : PySem.W.Frag} {C C' : Ctx} {Z Z' H H' : Hp} {σ σ' : Sg} {ρ ρ' : Rho} {i j : Nat} {v : V} {s : Sl} {a : Addr} {o : HO}
theorem PE.imp {X : Cx} {e : Expr} {t t' : TE} (h : PE X e t) (q : ∀ σ H Q, t' σ H Q → t σ H Q) : PE X e t' := ⟨fun pins s σ H Q I w => h.run pins s σ H Q I (q _ _ _ w)⟩
theorem PT.imp {X : Cx} {e : Expr} {t t' : TT} (h : PT X e t) (q : ∀ σ H Q, t' σ H Q → t σ H Q) : PT X e t' := ⟨fun pins s σ H Q I w => h.run pins s σ H Q I (q _ _ _ w)⟩
theorem PW.imp {X : Cx} {e : Expr} {t t' : TT} (h : PW X e t) (q : ∀ σ H Q, t' σ H Q → t σ H Q) : PW X e t' := ⟨fun wh pins s σ H Q I w => h.run wh pins s σ H Q I (q _ _ _ w)⟩
theorem PA.imp {X : Cx} {es : List Expr} {t t' : TA} (h : PA X es t) (q : ∀ σ H Q, t' σ H Q → t σ H Q) : PA X es t' := ⟨fun pos pins s σ H Q I w => h.run pos pins s σ H Q I (q _ _ _ w)⟩
theorem PS.imp {X : Cx} {st : Stmt} {t t' : TS} (h : PS X st t) (q : ∀ E σ H, t' E σ H → t E σ H) : PS X st t' := ⟨fun pins s σ H E I w => h.run pins s σ H E I (q _ _ _ w)⟩
theorem PSs.imp {X : Cx} {st : List Stmt} {t t' : TS} (h : PSs X st t) (q : ∀ E σ H, t' E σ H → t E σ H) : PSs X st t' := ⟨fun pins s σ H E I w => h.run pins s σ H E I (q _ _ _ w)⟩
theorem rdE.go {T : ET} (mT : MonoE T) (R : RB K C Z σ H ρ) {k : Sl → Rho → Prop} (hT : T ρ k) {Q : VK}
    (h : ∀ s ρ' v Z' H', k s ρ' → Same Z Z' → RB K C Z' σ H' ρ' → VR K C Z' H' σ ρ' v s → Q v H') : rdE K C T σ H Q :=
  ⟨Z, ρ, R, mT ρ _ _ (fun s ρ' q v Z' H' m R' w => h s ρ' v Z' H' q m R' w) hT⟩
theorem rdB.go {T : BT} (mT : MonoB T) (R : RB K C Z σ H ρ) {k : Bool → Rho → Prop} (hT : T ρ k) {Q : Bool → Hp → Prop}
    (h : ∀ b ρ' Z' H', k b ρ' → Same Z Z' → RB K C Z' σ H' ρ' → Q b H') : rdB K C T σ H Q :=
  ⟨Z, ρ, R, mT ρ _ _ (fun b ρ' q Z' H' m R' => h b ρ' Z' H' q m R') hT⟩
theorem rdA.go {T : AT} (mT : MonoA T) (R : RB K C Z σ H ρ) {k : List D → Rho → Prop} (hT : T ρ k) {Q : List V → Hp → Prop}
    (h : ∀ ds ρ' vs Z' H', k ds ρ' → Same Z Z' → RB K C Z' σ H' ρ' → RpA K Z' vs ds → Q vs H') : rdA K C T σ H Q :=
  ⟨Z, ρ, R, mT ρ _ _ (fun ds ρ' q vs Z' H' m R' w => h ds ρ' vs Z' H' q m R' w) hT⟩

/-! ### handing over, new objects -/
theorem RB.oaSt (R : RB K C Z σ H ρ) (h : OA σ ρ i a) : Z a = none ∧ H a ≠ none ∧ ((∃ i, C.io i = some a) ∨ C.H0 a = none ∨ C.fz a) := by
  obtain ⟨p, ow, hn⟩ := R.s.oa h
  exact ⟨ow.z, hn, ow.mayW⟩
/-- Z takes an own object that no slot holds -/
theorem RB.give (R : RB K C Z σ H ρ) (hz : Z a = none) (e : H a = some o) (hc : C.H0 a = none ∨ C.fz a) (ap : ∀ j, ¬ OA σ ρ j a) : RB K C (upd Z a o) σ H ρ := by
  refine ⟨R.b.freeze hz e hc, R.s.keep (Same.new hz) fun i b q => ⟨rfl, ?_⟩⟩
  have hb : b ≠ a := fun w => by
    subst w
    exact ap i q
  rw [upd_ne hb]
  exact (R.oaSt q).1
theorem VR.give (R : RB K C Z σ H ρ) (w : VR K C Z H σ ρ v s) {k : D → Rho → Prop} (h : asD k s ρ) : ∃ x Z', k x ρ ∧ Same Z Z' ∧ RB K C Z' σ H ρ ∧ Rp K Z' v x := by
  obtain ⟨hv, ha, ap⟩ := w
  cases s with
  | non => cases hv
  | scr ns => cases hv
  | pin b => cases hv
  | d x =>
    obtain ⟨u, e, r⟩ := ha
    cases e
    exact ⟨x, Z, h, Same.refl Z, R, r⟩
  | own p xs =>
    cases p with
    | true => cases hv
    | false =>
      obtain ⟨b, vs, e, hb, r, l, ow⟩ := ha
      cases e
      exact ⟨.list xs, _, h, Same.new ow.1, R.give ow.1 hb ow.2 (ap b rfl), .lst upd_same (r.mono (Same.new ow.1)) l⟩
  | drw p =>
    cases p <;> exact absurd h id
  | ownT ks ds =>
    obtain ⟨b, vs, e, hb, r, l, ow⟩ := ha
    cases e
    exact ⟨_, _, h, Same.new ow.1, R.give ow.1 hb ow.2 (ap b rfl), .dct upd_same (r.mono (Same.new ow.1)) l⟩
  | ownK ks ds =>
    obtain ⟨b, vs, e, hb, r, l, ow⟩ := ha
    cases e
    exact ⟨_, _, h, Same.new ow.1, R.give ow.1 hb ow.2 (ap b rfl), .dck upd_same (r.mono (Same.new ow.1)) l⟩
/-- an own object that a slot holds is handed over -/
theorem RB.giveAt (R : RB K C Z σ H ρ) {xs : List D} (h : ρ[i]? = some (.own false xs)) : ∃ a vs, σ[i]? = some (some (.ref a)) ∧ Z a = none ∧ RB K C (upd Z a (.lst vs)) σ H (ρ.set i (.d (.list xs))) ∧ Rp K (upd Z a (.lst vs)) (.ref a) (.list xs) := by
  obtain ⟨v, hv, b, vs, e, hb, r, l, ow⟩ := R.s.slotAt h
  subst e
  have m := Same.new (o := .lst vs) ow.1
  have rp : Rp K (upd Z b (.lst vs)) (.ref b) (.list xs) := .lst upd_same (r.mono m) l
  have oi : OA σ ρ i b := ⟨_, _, h, hv, rfl⟩
  refine ⟨b, vs, hv, ow.1, ⟨R.b.freeze ow.1 hb ow.2, ?_⟩, rp⟩
  refine ⟨by simp [R.s.len], fun j s w e1 e2 => ?_, fun j k c h1 h2 => ?_⟩
  · by_cases hj : j = i
    · subst hj
      have l1 : j < ρ.length := (List.getElem?_eq_some_iff.mp h).1
      rw [List.getElem?_set_self l1] at e1
      cases e1
      rw [hv] at e2
      cases e2
      exact ⟨_, rfl, rp⟩
    · rw [List.getElem?_set_ne (Ne.symm hj)] at e1
      refine (R.s.slot j s w e1 e2).keep m (fun _ _ => rfl) fun c p q o => o.zt ?_
      have hc : c ≠ b := fun z => by
        subst z
        exact hj (R.s.inj j i c ⟨s, w, e1, e2, q⟩ oi)
      rw [upd_ne hc]
      exact o.1
  · have low : ∀ {j c}, OA σ (ρ.set i (.d (.list xs))) j c → OA σ ρ j c := fun {j c} ⟨s, w, e1, e2, q⟩ => by
      by_cases hj : j = i
      · subst hj
        have l1 : j < ρ.length := (List.getElem?_eq_some_iff.mp h).1
        rw [List.getElem?_set_self l1] at e1
        cases e1
        cases w <;> cases q
      · rw [List.getElem?_set_ne (Ne.symm hj)] at e1
        exact ⟨s, w, e1, e2, q⟩
    exact R.s.inj j k c (low h1) (low h2)
theorem RB.giveAtT (R : RB K C Z σ H ρ) {ks : List (List Key)} {ds : List D} (h : ρ[i]? = some (.ownT ks ds)) : ∃ a vs, σ[i]? = some (some (.ref a)) ∧ Z a = none ∧
    RB K C (upd Z a (.dT (ks.zip vs))) σ H (ρ.set i (.d (.dict ((ks.map fun q => PyData.tuple (q.map keyD)).zip ds)))) ∧ Rp K (upd Z a (.dT (ks.zip vs))) (.ref a) (.dict ((ks.map fun q => PyData.tuple (q.map keyD)).zip ds)) := by
  obtain ⟨v, hv, b, vs, e, hb, r, l, ow⟩ := R.s.slotAt h
  subst e
  have m := Same.new (o := .dT (ks.zip vs)) ow.1
  have rp : Rp K (upd Z b (.dT (ks.zip vs))) (.ref b) (.dict ((ks.map fun q => PyData.tuple (q.map keyD)).zip ds)) := .dct upd_same (r.mono m) l
  have oi : OA σ ρ i b := ⟨_, _, h, hv, rfl⟩
  refine ⟨b, vs, hv, ow.1, ⟨R.b.freeze ow.1 hb ow.2, ?_⟩, rp⟩
  refine ⟨by simp [R.s.len], fun j s w e1 e2 => ?_, fun j k c h1 h2 => ?_⟩
  · by_cases hj : j = i
    · subst hj
      have l1 : j < ρ.length := (List.getElem?_eq_some_iff.mp h).1
      rw [List.getElem?_set_self l1] at e1
      cases e1
      rw [hv] at e2
      cases e2
      exact ⟨_, rfl, rp⟩
    · rw [List.getElem?_set_ne (Ne.symm hj)] at e1
      refine (R.s.slot j s w e1 e2).keep m (fun _ _ => rfl) fun c p q o => o.zt ?_
      have hc : c ≠ b := fun z => by
        subst z
        exact hj (R.s.inj j i c ⟨s, w, e1, e2, q⟩ oi)
      rw [upd_ne hc]
      exact o.1
  · have low : ∀ {j c}, OA σ (ρ.set i (.d (.dict ((ks.map fun q => PyData.tuple (q.map keyD)).zip ds)))) j c → OA σ ρ j c := fun {j c} ⟨s, w, e1, e2, q⟩ => by
      by_cases hj : j = i
      · subst hj
        have l1 : j < ρ.length := (List.getElem?_eq_some_iff.mp h).1
        rw [List.getElem?_set_self l1] at e1
        cases e1
        cases w <;> cases q
      · rw [List.getElem?_set_ne (Ne.symm hj)] at e1
        exact ⟨s, w, e1, e2, q⟩
    exact R.s.inj j k c (low h1) (low h2)
theorem RB.giveAtK (R : RB K C Z σ H ρ) {ks : List Key} {ds : List D} (h : ρ[i]? = some (.ownK ks ds)) : ∃ a vs, σ[i]? = some (some (.ref a)) ∧ Z a = none ∧
    RB K C (upd Z a (.dK (ks.zip vs))) σ H (ρ.set i (.d (.dict ((ks.map keyD).zip ds)))) ∧ Rp K (upd Z a (.dK (ks.zip vs))) (.ref a) (.dict ((ks.map keyD).zip ds)) := by
  obtain ⟨v, hv, b, vs, e, hb, r, l, ow⟩ := R.s.slotAt h
  subst e
  have m := Same.new (o := .dK (ks.zip vs)) ow.1
  have rp : Rp K (upd Z b (.dK (ks.zip vs))) (.ref b) (.dict ((ks.map keyD).zip ds)) := .dck upd_same (r.mono m) l
  have oi : OA σ ρ i b := ⟨_, _, h, hv, rfl⟩
  refine ⟨b, vs, hv, ow.1, ⟨R.b.freeze ow.1 hb ow.2, ?_⟩, rp⟩
  refine ⟨by simp [R.s.len], fun j s w e1 e2 => ?_, fun j k c h1 h2 => ?_⟩
  · by_cases hj : j = i
    · subst hj
      have l1 : j < ρ.length := (List.getElem?_eq_some_iff.mp h).1
      rw [List.getElem?_set_self l1] at e1
      cases e1
      rw [hv] at e2
      cases e2
      exact ⟨_, rfl, rp⟩
    · rw [List.getElem?_set_ne (Ne.symm hj)] at e1
      refine (R.s.slot j s w e1 e2).keep m (fun _ _ => rfl) fun c p q o => o.zt ?_
      have hc : c ≠ b := fun z => by
        subst z
        exact hj (R.s.inj j i c ⟨s, w, e1, e2, q⟩ oi)
      rw [upd_ne hc]
      exact o.1
  · have low : ∀ {j c}, OA σ (ρ.set i (.d (.dict ((ks.map keyD).zip ds)))) j c → OA σ ρ j c := fun {j c} ⟨s, w, e1, e2, q⟩ => by
      by_cases hj : j = i
      · subst hj
        have l1 : j < ρ.length := (List.getElem?_eq_some_iff.mp h).1
        rw [List.getElem?_set_self l1] at e1
        cases e1
        cases w <;> cases q
      · rw [List.getElem?_set_ne (Ne.symm hj)] at e1
        exact ⟨s, w, e1, e2, q⟩
    exact R.s.inj j k c (low h1) (low h2)
/-- a new object in the heap, outside of Z -/
theorem RB.fresh (R : RB K C Z σ H ρ) (h : H a = none) : RB K C Z σ (upd H a o) ρ ∧ Z a = none ∧ C.H0 a = none ∧ ∀ j, ¬ OA σ ρ j a := by
  have ap : ∀ j, ¬ OA σ ρ j a := fun j q => (R.oaSt q).2.1 h
  refine ⟨⟨R.b.grow h, R.s.keep (Same.refl Z) fun i b q => ⟨?_, (R.oaSt q).1⟩⟩, R.b.noneZ h, R.b.none0 h, ap⟩
  rw [upd_ne (fun z => by subst z; exact ap i q)]
/-- a new object that goes to Z at once -/
theorem RB.newZ (R : RB K C Z σ H ρ) (h : H a = none) : RB K C (upd Z a o) σ (upd H a o) ρ := by
  obtain ⟨R1, hz, h0, ap⟩ := R.fresh (o := o) h
  exact R1.give hz upd_same (Or.inl h0) ap
theorem VR.ofD {x : D} (r : Rp K Z v x) : VR K C Z H σ ρ v (.d x) := ⟨rfl, ⟨v, rfl, r⟩, fun a e => by cases v <;> cases e⟩
theorem VR.ofOwn {vs : List V} {xs : List D} (hz : Z a = none) (e : H a = some (.lst vs)) (h0 : C.H0 a = none ∨ C.fz a) (ap : ∀ j, ¬ OA σ ρ j a) (r : RpA K Z vs xs) (l : xs.length ≤ sizeLine) : VR K C Z H σ ρ (.ref a) (.own false xs) :=
  ⟨rfl, ⟨a, vs, rfl, e, r, l, hz, h0⟩, fun b q => by
    have q' : some a = some b := q
    cases q'
    exact ap⟩
/-- what comes of an operation by values -/
structure Res (K : PySem.W.Frag) (Z H : Hp) (Q : VK) (s : Sl) : Prop where
  d0 : ∀ v x, s = .d x → Rp K Z v x → Q v H
  dN : ∀ p o x, s = .d x → H p = none → (∀ b u, Z b = some u → upd Z p o b = some u) → Rp K (upd Z p o) (.ref p) x → Q (.ref p) (upd H p o)
  oN : ∀ p vs xs, s = .own false xs → H p = none → RpA K Z vs xs → xs.length ≤ sizeLine → Q (.ref p) (upd H p (.lst vs))
theorem Res.of (R : RB K C Z σ H ρ) {Q : VK} (h : ∀ v Z' H', Same Z Z' → RB K C Z' σ H' ρ → VR K C Z' H' σ ρ v s → Q v H') : Res K Z H Q s := by
  refine ⟨fun v x e r => ?_, fun p o x e n _ r => ?_, fun p vs xs e n r l => ?_⟩
  · subst e
    exact h v Z H (Same.refl Z) R (.ofD r)
  · subst e
    exact h _ _ _ (Same.new (R.b.noneZ n)) (R.newZ n) (.ofD r)
  · subst e
    obtain ⟨R1, hz, h0, ap⟩ := R.fresh (o := .lst vs) n
    exact h _ _ _ (Same.refl Z) R1 (.ofOwn hz upd_same (Or.inl h0) ap r l)
/-- a new tuple, told -/
theorem Res.tup {Q : VK} {xs : List D} {vs : List V} {p : Addr} (h : Res K Z H Q (.d (.tuple xs))) (m : Same Z H) (n : H p = none) (r : RpA K Z vs xs) (l : xs.length ≤ sizeLine) : Q (.ref p) (upd H p (.tup vs)) := by
  have hz : Z p = none := m.free n
  exact h.dN p _ _ rfl n (Same.new hz) (.tup upd_same (r.mono (Same.new hz)) l)
end

/-! ### names, constants -/
section
variable {X : Cx} {C : Ctx} {e a b : Expr} {es : List Expr} {T Ta Tb : ET} {pos : Pos} {x : Str}
def eVar (i : Nat) : ET := fun ρ k => match ρ[i]? with
  | some (.d x) => k (.d x) ρ
  | some (.own false xs) => k (.d (.list xs)) (ρ.set i (.d (.list xs)))
  | some (.ownT ks ds) => k (.d (.dict ((ks.map fun q => PyData.tuple (q.map keyD)).zip ds))) (ρ.set i (.d (.dict ((ks.map fun q => PyData.tuple (q.map keyD)).zip ds))))
  | some (.ownK ks ds) => k (.d (.dict ((ks.map keyD).zip ds))) (ρ.set i (.d (.dict ((ks.map keyD).zip ds))))
  | _ => False
theorem mono_var {i : Nat} : MonoE (eVar i) := fun ρ k k' h q => by
  unfold eVar at q ⊢
  split at q
  · exact h _ _ q
  · exact h _ _ q
  · exact h _ _ q
  · exact h _ _ q
  · exact q.elim
theorem de_var {i : Nat} (hN : X.N[i]? = some x := by rfl) (hv : Vis X.env.scope x := by first | exact Or.inl rfl | exact Or.inr (Or.inl rfl) | exact Or.inr (Or.inr rfl)) (hd : (x == ("__debug__" : Str)) = false := by decide)
    (hcd : (x == ("__classdict__" : Str)) = false := by decide) : DE X C (.Name x pos) (eVar i) := by
  refine ⟨mono_var, PE.imp (pe_var hN hv hd hcd) fun σ H Q h => ?_⟩
  obtain ⟨Z, ρ, R, h⟩ := h
  unfold eVar at h
  split at h
  · rename_i x hx
    obtain ⟨v, hv, u, e, r⟩ := R.s.slotAt hx
    subst e
    exact ⟨u, hv, h u Z H (Same.refl Z) R (.ofD r)⟩
  · rename_i xs hx
    obtain ⟨a, vs, hv, hz, R', r⟩ := R.giveAt hx
    exact ⟨_, hv, h _ _ H (Same.new hz) R' (.ofD r)⟩
  · rename_i ks ds hx
    obtain ⟨a, vs, hv, hz, R', r⟩ := R.giveAtT hx
    exact ⟨_, hv, h _ _ H (Same.new hz) R' (.ofD r)⟩
  · rename_i ks ds hx
    obtain ⟨a, vs, hv, hz, R', r⟩ := R.giveAtK hx
    exact ⟨_, hv, h _ _ H (Same.new hz) R' (.ofD r)⟩
  · exact h.elim
def eC (x : D) : ET := fun ρ k => k (.d x) ρ
theorem mono_c {x : D} : MonoE (eC x) := fun ρ k k' h q => h _ _ q
theorem de_c {v : V} {x : D} (h : PE X e (tC v)) (r : ∀ Z, Rp X.K Z v x) : DE X C e (eC x) := by
  refine ⟨mono_c, PE.imp h fun σ H Q w => ?_⟩
  obtain ⟨Z, ρ, R, w⟩ := w
  exact w v Z H (Same.refl Z) R (.ofD (r Z))
theorem de_int {i : Int} {j : Nat} : DE X C (.Constant (.int i) j pos) (eC (.int i)) := de_c pe_int fun Z => .int i
theorem de_bl {i : Bool} {j : Nat} : DE X C (.Constant (.bool i) j pos) (eC (.bool i)) := de_c pe_bl fun Z => .bl i
theorem de_non {j : Nat} : DE X C (.Constant .none j pos) (eC .none) := de_c pe_non fun Z => .non
theorem de_str {z : Str} {j : Nat} : DE X C (.Constant (.str z) j pos) (eC (.str z)) := de_c pe_str fun Z => .str z

/-! ### argument lists, displays -/
def aNil : AT := fun ρ k => k [] ρ
def aCons (T : ET) (A : AT) : AT := fun ρ k => T ρ (asD fun x ρ1 => A ρ1 fun xs ρ2 => k (x :: xs) ρ2)
theorem mono_nil : MonoA aNil := fun ρ k k' h q => h _ _ q
theorem mono_cons {A : AT} (hT : MonoE T) (hA : MonoA A) : MonoA (aCons T A) := fun ρ k k' h q => hT ρ _ _ (fun s ρ1 q1 => asD.imp (fun x ρ1 q2 => hA ρ1 _ _ (fun xs ρ2 q3 => h _ _ q3) q2) q1) q
theorem da_nil : DA X C [] aNil := ⟨mono_nil, PA.imp pa_nil fun σ H Q w => by
  obtain ⟨Z, ρ, R, w⟩ := w
  exact w [] Z H (Same.refl Z) R .nil⟩
theorem da_cons {A : AT} (he : DE X C e T) (hr : DA X C es A) (hs : starEach (e :: es) X.env = (false, eval e X.env) :: starEach es X.env := by rfl) : DA X C (e :: es) (aCons T A) := by
  refine ⟨mono_cons he.mono hr.mono, PA.imp (pa_cons he.run hr.run hs) fun σ H Q w => ?_⟩
  obtain ⟨Z, ρ, R, w⟩ := w
  refine rdE.go he.mono R w fun s ρ1 v Z1 H1 q1 m1 R1 w1 => ?_
  obtain ⟨x, Z2, q2, m2, R2, r⟩ := w1.give R1 q1
  refine rdA.go hr.mono R2 q2 fun xs ρ3 vs Z3 H3 q3 m3 R3 rs => ?_
  exact q3 (v :: vs) Z3 H3 (m1.trans (m2.trans m3)) R3 (.cons (r.mono m3) rs)
def eTup (A : AT) : ET := fun ρ k => A ρ fun xs ρ1 => xs.length ≤ sizeLine ∧ k (.d (.tuple xs)) ρ1
def eLst (A : AT) : ET := fun ρ k => A ρ fun xs ρ1 => xs.length ≤ sizeLine ∧ k (.own false xs) ρ1
theorem mono_tup {A : AT} (hA : MonoA A) : MonoE (eTup A) := fun ρ k k' h q => hA ρ _ _ (fun xs ρ1 q1 => ⟨q1.1, h _ _ q1.2⟩) q
theorem mono_lst {A : AT} (hA : MonoA A) : MonoE (eLst A) := fun ρ k k' h q => hA ρ _ _ (fun xs ρ1 q1 => ⟨q1.1, h _ _ q1.2⟩) q
theorem de_tup {A : AT} {x1 : Nat} (h : DA X C es A) : DE X C (.Tuple es x1 pos) (eTup A) := by
  refine ⟨mono_tup h.mono, PE.imp (pe_tup h.run) fun σ H Q w => ?_⟩
  obtain ⟨Z, ρ, R, w⟩ := w
  refine rdA.go h.mono R w fun xs ρ1 vs Z1 H1 q1 m1 R1 rs => ⟨by rw [rs.len]; exact q1.1, fun p n => ?_⟩
  exact (Res.of R1 fun v Z' H' m R' w' => q1.2 v Z' H' (m1.trans m) R' w').tup R1.b.le n rs q1.1
theorem de_lst {A : AT} (h : DA X C es A) : DE X C (.List es pos) (eLst A) := by
  refine ⟨mono_lst h.mono, PE.imp (pe_lst h.run) fun σ H Q w => ?_⟩
  obtain ⟨Z, ρ, R, w⟩ := w
  refine rdA.go h.mono R w fun xs ρ1 vs Z1 H1 q1 m1 R1 rs => ⟨by rw [rs.len]; exact q1.1, fun p n => ?_⟩
  exact (Res.of R1 fun v Z' H' m R' w' => q1.2 v Z' H' (m1.trans m) R' w').oN p vs xs rfl n rs q1.1

/-! ### operations by values -/
def OpD (X : Cx) (f : Value → Value → Sem Value) (g : D → D → Option Sl) : Prop :=
  OpR X f fun x y H Q => ∃ Z dx dy s, Rp X.K Z x dx ∧ Rp X.K Z y dy ∧ Same Z H ∧ g dx dy = some s ∧ Res X.K Z H Q s
def eBin (g : D → D → Option Sl) (Ta Tb : ET) : ET := fun ρ k => Ta ρ (asD fun x ρ1 => Tb ρ1 (asD fun y ρ2 => ∃ s, g x y = some s ∧ k s ρ2))
theorem mono_bin {g : D → D → Option Sl} (ha : MonoE Ta) (hb : MonoE Tb) : MonoE (eBin g Ta Tb) := fun ρ k k' h q =>
  ha ρ _ _ (fun s ρ1 q1 => asD.imp (fun x ρ1 q2 => hb ρ1 _ _ (fun s ρ2 q3 => asD.imp (fun y ρ2 ⟨s, e, q4⟩ => ⟨s, e, h _ _ q4⟩) q3) q2) q1) q
/-- two parts in a row, then r by values -/
theorem bin_go {r : R2} {g : D → D → Option Sl} (ha : DE X C a Ta) (hb : DE X C b Tb) (hr : ∀ x y H Q, (∃ Z dx dy s, Rp X.K Z x dx ∧ Rp X.K Z y dy ∧ Same Z H ∧ g dx dy = some s ∧ Res X.K Z H Q s) → r x y H Q)
    {σ : Sg} {H : Hp} {Q : VK} (w : rdE X.K C (eBin g Ta Tb) σ H Q) : tOp r (rdE X.K C Ta) (rdE X.K C Tb) σ H Q := by
  obtain ⟨Z, ρ, R, w⟩ := w
  refine rdE.go ha.mono R w fun s1 ρ1 v Z1 H1 q1 m1 R1 w1 => ?_
  obtain ⟨x, Z2, q2, m2, R2, rx⟩ := w1.give R1 q1
  refine rdE.go hb.mono R2 q2 fun s3 ρ3 u Z3 H3 q3 m3 R3 w3 => ?_
  obtain ⟨y, Z4, ⟨s, e, q4⟩, m4, R4, ry⟩ := w3.give R3 q3
  exact hr v u H3 Q ⟨Z4, x, y, s, (rx.mono m3).mono m4, ry, R4.b.le, e, Res.of R4 fun v' Z' H' m R' w' => q4 v' Z' H' (m1.trans (m2.trans (m3.trans (m4.trans m)))) R' w'⟩
theorem de_bin {op : Operator} {g : D → D → Option Sl} (ho : OpD X (binaryOp op) g) (ha : DE X C a Ta) (hb : DE X C b Tb) : DE X C (.BinOp a op b pos) (eBin g Ta Tb) :=
  ⟨mono_bin ha.mono hb.mono, PE.imp (pe_op ho ha.run hb.run) fun _ _ _ w => bin_go ha hb (fun _ _ _ _ z => z) w⟩
theorem de_cmp {op : CmpOp} {g : D → D → Option Sl} (ho : OpD X (compareOp op) g) (ha : DE X C a Ta) (hb : DE X C b Tb) (hm : behindInMarks op b = false := by first | exact nomark _ | with_unfolding_all rfl) : DE X C (.Compare a [op] [b] pos) (eBin g Ta Tb) :=
  ⟨mono_bin ha.mono hb.mono, PE.imp (pe_cmpR ho ha.run hb.run hm) fun _ _ _ w => bin_go ha hb (fun _ _ _ _ z => z) w⟩
def bBin (g : D → D → Option Sl) (Ta Tb : ET) : BT := fun ρ k => Ta ρ (asD fun x ρ1 => Tb ρ1 (asD fun y ρ2 => ∃ b, g x y = some (.d (.bool b)) ∧ k b ρ2))
theorem mono_binB {g : D → D → Option Sl} (ha : MonoE Ta) (hb : MonoE Tb) : MonoB (bBin g Ta Tb) := fun ρ k k' h q =>
  ha ρ _ _ (fun s ρ1 q1 => asD.imp (fun x ρ1 q2 => hb ρ1 _ _ (fun s ρ2 q3 => asD.imp (fun y ρ2 ⟨s, e, q4⟩ => ⟨s, e, h _ _ q4⟩) q3) q2) q1) q
theorem dt_cmp {op : CmpOp} {g : D → D → Option Sl} (ho : OpD X (compareOp op) g) (ha : DE X C a Ta) (hb : DE X C b Tb) (hm : behindInMarks op b = false := by first | exact nomark _ | with_unfolding_all rfl) : DT X C (.Compare a [op] [b] pos) (bBin g Ta Tb) := by
  refine ⟨mono_binB ha.mono hb.mono, PT.imp (pt_cmpR ho ha.run hb.run hm) fun σ H Q w => ?_⟩
  refine bin_go (g := g) ha hb (fun _ _ _ _ z => z) ?_
  obtain ⟨Z, ρ, R, w⟩ := w
  refine ⟨Z, ρ, R, ha.mono ρ _ _ (fun s1 ρ1 q1 => asD.imp (fun x ρ1 q2 => hb.mono ρ1 _ _ (fun s2 ρ2 q3 => asD.imp (fun y ρ2 ⟨c, e, q4⟩ => ⟨_, e, fun v Z' H' m R' w' => ?_⟩) q3) q2) q1) w⟩
  obtain ⟨_, ⟨u, eu, r⟩, _⟩ := w'
  cases eu
  cases r
  exact ⟨c, rfl, q4 Z' H' m R'⟩
/-- is None, is not None -/
def eIsN (n : Bool) (Ta : ET) : ET := fun ρ k => Ta ρ (asD fun x ρ1 => k (.d (.bool (match x with | .none => !n | _ => n))) ρ1)
def bIsN (n : Bool) (Ta : ET) : BT := fun ρ k => Ta ρ (asD fun x ρ1 => k (match x with | .none => !n | _ => n) ρ1)
theorem mono_isN {n : Bool} (ha : MonoE Ta) : MonoE (eIsN n Ta) := fun ρ k k' h q => ha ρ _ _ (fun s ρ1 q1 => asD.imp (fun x ρ1 q2 => h _ _ q2) q1) q
theorem mono_isNB {n : Bool} (ha : MonoE Ta) : MonoB (bIsN n Ta) := fun ρ k k' h q => ha ρ _ _ (fun s ρ1 q1 => asD.imp (fun x ρ1 q2 => h _ _ q2) q1) q
theorem isN_of {K : PySem.W.Frag} {Z : Hp} {v : V} {x : D} (r : Rp K Z v x) : decide (v = .non) = (match x with | .none => true | _ => false) := by
  cases r <;> simp
theorem de_isN {j : Nat} {p' : Pos} (ha : DE X C a Ta) : DE X C (.Compare a [.Is] [.Constant .none j p'] pos) (eIsN false Ta) := by
  refine ⟨mono_isN ha.mono, PE.imp (pe_cmp (pc_isN ha.run)) fun σ H Q w => ?_⟩
  obtain ⟨Z, ρ, R, w⟩ := w
  refine rdE.go ha.mono R w fun s1 ρ1 v Z1 H1 q1 m1 R1 w1 => ?_
  obtain ⟨x, Z2, q2, m2, R2, rx⟩ := w1.give R1 q1
  rw [isN_of rx]
  exact q2 _ Z2 H1 (m1.trans m2) R2 (.ofD (by cases x <;> exact .bl _))
theorem de_notN {j : Nat} {p' : Pos} (ha : DE X C a Ta) : DE X C (.Compare a [.IsNot] [.Constant .none j p'] pos) (eIsN true Ta) := by
  refine ⟨mono_isN ha.mono, PE.imp (pe_cmp (pc_notN ha.run)) fun σ H Q w => ?_⟩
  obtain ⟨Z, ρ, R, w⟩ := w
  refine rdE.go ha.mono R w fun s1 ρ1 v Z1 H1 q1 m1 R1 w1 => ?_
  obtain ⟨x, Z2, q2, m2, R2, rx⟩ := w1.give R1 q1
  rw [isN_of rx]
  exact q2 _ Z2 H1 (m1.trans m2) R2 (.ofD (by cases x <;> exact .bl _))
theorem dt_isN {j : Nat} {p' : Pos} (ha : DE X C a Ta) : DT X C (.Compare a [.Is] [.Constant .none j p'] pos) (bIsN false Ta) := by
  refine ⟨mono_isNB ha.mono, PT.imp (pt_cmp (pc_isN ha.run)) fun σ H Q w => ?_⟩
  obtain ⟨Z, ρ, R, w⟩ := w
  refine rdE.go ha.mono R w fun s1 ρ1 v Z1 H1 q1 m1 R1 w1 => ?_
  obtain ⟨x, Z2, q2, m2, R2, rx⟩ := w1.give R1 q1
  rw [isN_of rx]
  refine ⟨_, rfl, ?_⟩
  have h := q2 Z2 H1 (m1.trans m2) R2
  cases x <;> exact h
theorem dt_notN {j : Nat} {p' : Pos} (ha : DE X C a Ta) : DT X C (.Compare a [.IsNot] [.Constant .none j p'] pos) (bIsN true Ta) := by
  refine ⟨mono_isNB ha.mono, PT.imp (pt_cmp (pc_notN ha.run)) fun σ H Q w => ?_⟩
  obtain ⟨Z, ρ, R, w⟩ := w
  refine rdE.go ha.mono R w fun s1 ρ1 v Z1 H1 q1 m1 R1 w1 => ?_
  obtain ⟨x, Z2, q2, m2, R2, rx⟩ := w1.give R1 q1
  rw [isN_of rx]
  refine ⟨_, rfl, ?_⟩
  have h := q2 Z2 H1 (m1.trans m2) R2
  cases x <;> exact h
end
end Dl

set_option Elab.async false
set_option linter.all false
set_option maxRecDepth 100000
set_option autoImplicit false
set_option maxHeartbeats 1000000
namespace Dl
open PySem PySem.Spec PyProof.Rows L2

theorem ite_some {α : Type} {c : Prop} [Decidable c] {x y : α} (h : (if c then some x else none) = some y) : c ∧ x = y := by
  split at h
  · rename_i q
    exact ⟨q, Option.some.inj h⟩
  · cases h
/-! ### truth, and, or, not -/
def truD : D → Option Bool
  | .none => some false
  | .bool b => some b
  | .int i => some (i != 0)
  | .str y => if y.length ≤ sizeLine then some ((y.length : Int) != 0) else none
  | .list xs => some (!xs.isEmpty)
  | .tuple xs => some (!xs.isEmpty)
  | .dict _ => none
section
variable {K : PySem.W.Frag} {C C' : Ctx} {Z Z' H H' : Hp} {σ σ' : Sg} {ρ ρ' : Rho} {i j : Nat} {v : V} {s : Sl} {a : Addr} {o : HO}
theorem isEmpty_len {α β : Type} {xs : List α} {ys : List β} (h : xs.length = ys.length) : xs.isEmpty = ys.isEmpty := by
  cases xs <;> cases ys <;> simp_all
theorem tru_of {x : D} {b : Bool} (r : Rp K Z v x) (m : Same Z H) (h : truD x = some b) : TruV K v H b := by
  cases r with
  | non =>
    cases h
    exact rfl
  | bl c =>
    cases h
    exact rfl
  | int c =>
    cases h
    exact rfl
  | str y =>
    simp only [truD] at h
    obtain ⟨q, rfl⟩ := ite_some h
    exact ⟨q, rfl⟩
  | lst q rs l =>
    cases h
    refine Or.inl ⟨_, Or.inl (Or.inl (m _ _ q)), ?_⟩
    rw [isEmpty_len rs.len]
  | tup q rs l =>
    cases h
    refine Or.inr (Or.inl ⟨_, Or.inl (Or.inl (m _ _ q)), ?_⟩)
    rw [isEmpty_len rs.len]
  | dct q rs l => cases h
  | dck q rs l => cases h
/-- what a slot shows to a reader that changes nothing -/
def peek (ρ : Rho) (i : Nat) : Option D := match ρ[i]? with
  | some (.d x) => some x
  | some (.own _ xs) => some (.list xs)
  | _ => none
theorem peek_at (R : RB K C Z σ H ρ) {x : D} (h : peek ρ i = some x) : ∃ v, σ[i]? = some (some v) ∧ Rp K H v x := by
  unfold peek at h
  split at h
  · rename_i y hy
    cases h
    obtain ⟨v, hv, u, e, r⟩ := R.s.slotAt hy
    subst e
    exact ⟨u, hv, r.mono R.b.le⟩
  · rename_i p xs hy
    cases h
    obtain ⟨v, hv, a, vs, e, hb, r, l, ow⟩ := R.s.slotAt hy
    subst e
    exact ⟨_, hv, .lst hb (r.mono R.b.le) l⟩
  · cases h
end
section
variable {X : Cx} {C : Ctx} {e a b c : Expr} {es : List Expr} {T Ta Tb : ET} {B Ba Bb : BT} {pos : Pos} {x : Str} {rest : List Expr} {i : Nat}
def bTru (T : ET) : BT := fun ρ k => T ρ (asD fun x ρ1 => ∃ b, truD x = some b ∧ k b ρ1)
theorem mono_tru (h : MonoE T) : MonoB (bTru T) := fun ρ k k' hk q => h ρ _ _ (fun s ρ1 q1 => asD.imp (fun x ρ1 ⟨b, e, q2⟩ => ⟨b, e, hk _ _ q2⟩) q1) q
theorem dt_tru (h : DE X C e T) (he : ∀ whole, isTrue e X.env whole = (do let v ← whole; standAt e.pos; holding [v] (truthy v)) := by intro _; rfl) : DT X C e (bTru T) := by
  refine ⟨mono_tru h.mono, PT.imp (pt_truth h.run he) fun σ H Q w => ?_⟩
  obtain ⟨Z, ρ, R, w⟩ := w
  refine rdE.go h.mono R w fun s1 ρ1 v Z1 H1 q1 m1 R1 w1 => ?_
  obtain ⟨x, Z2, ⟨b, eb, q2⟩, m2, R2, rx⟩ := w1.give R1 q1
  exact ⟨b, tru_of rx R2.b.le eb, q2 Z2 H1 (m1.trans m2) R2⟩
/-- the truth of a name -/
def bTruV (i : Nat) : BT := fun ρ k => ∃ x b, peek ρ i = some x ∧ truD x = some b ∧ k b ρ
theorem mono_truV : MonoB (bTruV i) := fun ρ k k' hk ⟨x, b, e1, e2, q⟩ => ⟨x, b, e1, e2, hk _ _ q⟩
theorem dt_truV (hN : X.N[i]? = some x := by rfl) (hv : Vis X.env.scope x := by first | exact Or.inl rfl | exact Or.inr (Or.inl rfl) | exact Or.inr (Or.inr rfl)) (hd : (x == ("__debug__" : Str)) = false := by decide)
    (hcd : (x == ("__classdict__" : Str)) = false := by decide) (he : ∀ whole, isTrue (.Name x pos) X.env whole = (do let v ← whole; standAt (Expr.Name x pos).pos; holding [v] (truthy v)) := by intro _; rfl) : DT X C (.Name x pos) (bTruV i) := by
  refine ⟨mono_truV, PT.imp (pt_truth (pe_var hN hv hd hcd) he) fun σ H Q w => ?_⟩
  obtain ⟨Z, ρ, R, x, b, e1, e2, w⟩ := w
  obtain ⟨v, hv, r⟩ := peek_at R e1
  exact ⟨v, hv, b, tru_of r (Same.refl H) e2, w Z H (Same.refl Z) R⟩
def bAnd (Ba Bb : BT) : BT := fun ρ k => Ba ρ fun c ρ1 => if c = true then Bb ρ1 k else k false ρ1
def bOr (Ba Bb : BT) : BT := fun ρ k => Ba ρ fun c ρ1 => if c = true then k true ρ1 else Bb ρ1 k
def bNot (Ba : BT) : BT := fun ρ k => Ba ρ fun c ρ1 => k (!c) ρ1
theorem mono_bAnd (ha : MonoB Ba) (hb : MonoB Bb) : MonoB (bAnd Ba Bb) := fun ρ k k' hk q => ha ρ _ _ (fun c ρ1 q1 => by
  cases c with
  | true => exact hb ρ1 k k' hk q1
  | false => exact hk _ _ q1) q
theorem mono_bOr (ha : MonoB Ba) (hb : MonoB Bb) : MonoB (bOr Ba Bb) := fun ρ k k' hk q => ha ρ _ _ (fun c ρ1 q1 => by
  cases c with
  | true => exact hk _ _ q1
  | false => exact hb ρ1 k k' hk q1) q
theorem mono_bNot (ha : MonoB Ba) : MonoB (bNot Ba) := fun ρ k k' hk q => ha ρ _ _ (fun c ρ1 q1 => hk _ _ q1) q
theorem DW.dt (h : DW X C e B) : DT X C e B := ⟨h.mono, h.run.pt⟩
theorem dw_and1 (h : DT X C a B) : DW X C (.BoolOp .And [a] pos) B := ⟨h.mono, pw_and1 h.run⟩
theorem dw_or1 (h : DT X C a B) : DW X C (.BoolOp .Or [a] pos) B := ⟨h.mono, pw_or1 h.run⟩
theorem dw_and (ha : DT X C a Ba) (hb : DW X C (.BoolOp .And (b :: rest) pos) Bb) : DW X C (.BoolOp .And (a :: b :: rest) pos) (bAnd Ba Bb) := by
  refine ⟨mono_bAnd ha.mono hb.mono, PW.imp (pw_and ha.run hb.run) fun σ H Q w => ?_⟩
  obtain ⟨Z, ρ, R, w⟩ := w
  refine rdB.go ha.mono R w fun c ρ1 Z1 H1 q1 m1 R1 => ?_
  cases c with
  | true => exact rdB.go hb.mono R1 q1 fun d ρ2 Z2 H2 q2 m2 R2 => q2 Z2 H2 (m1.trans m2) R2
  | false => exact q1 Z1 H1 m1 R1
theorem dw_or (ha : DT X C a Ba) (hb : DW X C (.BoolOp .Or (b :: rest) pos) Bb) : DW X C (.BoolOp .Or (a :: b :: rest) pos) (bOr Ba Bb) := by
  refine ⟨mono_bOr ha.mono hb.mono, PW.imp (pw_or ha.run hb.run) fun σ H Q w => ?_⟩
  obtain ⟨Z, ρ, R, w⟩ := w
  refine rdB.go ha.mono R w fun c ρ1 Z1 H1 q1 m1 R1 => ?_
  cases c with
  | true => exact q1 Z1 H1 m1 R1
  | false => exact rdB.go hb.mono R1 q1 fun d ρ2 Z2 H2 q2 m2 R2 => q2 Z2 H2 (m1.trans m2) R2
theorem dt_not (ha : DT X C a Ba) : DT X C (.UnaryOp .Not a pos) (bNot Ba) := by
  refine ⟨mono_bNot ha.mono, PT.imp (pt_not ha.run) fun σ H Q w => ?_⟩
  obtain ⟨Z, ρ, R, w⟩ := w
  exact rdB.go ha.mono R w fun c ρ1 Z1 H1 q1 m1 R1 => q1 Z1 H1 m1 R1
/-- as values: bools -/
def asB (k : Bool → Rho → Prop) (s : Sl) (ρ : Rho) : Prop := match s with
  | .d (.bool b) => k b ρ
  | _ => False
theorem asB.imp {k k' : Bool → Rho → Prop} (h : ∀ x ρ', k x ρ' → k' x ρ') {s : Sl} {ρ : Rho} (q : asB k s ρ) : asB k' s ρ := by
  unfold asB at q ⊢
  split at q
  · exact h _ _ q
  · exact q.elim
theorem asB.give {K : PySem.W.Frag} {Z H : Hp} {σ : Sg} {ρ : Rho} {v : V} {s : Sl} {k : Bool → Rho → Prop} (w : VR K C Z H σ ρ v s) (h : asB k s ρ) : ∃ b, v = .bl b ∧ k b ρ := by
  unfold asB at h
  split at h
  · obtain ⟨u, e, r⟩ := w.at_
    cases e
    cases r
    exact ⟨_, rfl, h⟩
  · exact h.elim
def eAnd (Ta Tb : ET) : ET := fun ρ k => Ta ρ (asB fun c ρ1 => if c = true then Tb ρ1 k else k (.d (.bool false)) ρ1)
def eOr (Ta Tb : ET) : ET := fun ρ k => Ta ρ (asB fun c ρ1 => if c = true then k (.d (.bool true)) ρ1 else Tb ρ1 k)
def eNot (Ta : ET) : ET := fun ρ k => Ta ρ (asB fun c ρ1 => k (.d (.bool (!c))) ρ1)
theorem mono_eAnd (ha : MonoE Ta) (hb : MonoE Tb) : MonoE (eAnd Ta Tb) := fun ρ k k' hk q => ha ρ _ _ (fun s ρ1 q1 => asB.imp (fun c ρ1 q2 => by
  cases c with
  | true => exact hb ρ1 k k' hk q2
  | false => exact hk _ _ q2) q1) q
theorem mono_eOr (ha : MonoE Ta) (hb : MonoE Tb) : MonoE (eOr Ta Tb) := fun ρ k k' hk q => ha ρ _ _ (fun s ρ1 q1 => asB.imp (fun c ρ1 q2 => by
  cases c with
  | true => exact hk _ _ q2
  | false => exact hb ρ1 k k' hk q2) q1) q
theorem mono_eNot (ha : MonoE Ta) : MonoE (eNot Ta) := fun ρ k k' hk q => ha ρ _ _ (fun s ρ1 q1 => asB.imp (fun c ρ1 q2 => hk _ _ q2) q1) q
theorem de_one {op : BoolOp} (h : DE X C a T) : DE X C (.BoolOp op [a] pos) T := ⟨h.mono, pe_one h.run⟩
theorem de_and (ha : DE X C a Ta) (hb : DE X C (.BoolOp .And (b :: rest) pos) Tb) : DE X C (.BoolOp .And (a :: b :: rest) pos) (eAnd Ta Tb) := by
  refine ⟨mono_eAnd ha.mono hb.mono, PE.imp (pe_and ha.run hb.run) fun σ H Q w => ?_⟩
  obtain ⟨Z, ρ, R, w⟩ := w
  refine rdE.go ha.mono R w fun s1 ρ1 v Z1 H1 q1 m1 R1 w1 => ?_
  obtain ⟨c, rfl, q2⟩ := asB.give w1 q1
  refine ⟨c, rfl, ?_⟩
  cases c with
  | true => exact rdE.go hb.mono R1 q2 fun s2 ρ2 u Z2 H2 q3 m2 R2 w2 => q3 u Z2 H2 (m1.trans m2) R2 w2
  | false => exact q2 _ Z1 H1 m1 R1 (.ofD (.bl false))
theorem de_or (ha : DE X C a Ta) (hb : DE X C (.BoolOp .Or (b :: rest) pos) Tb) : DE X C (.BoolOp .Or (a :: b :: rest) pos) (eOr Ta Tb) := by
  refine ⟨mono_eOr ha.mono hb.mono, PE.imp (pe_or ha.run hb.run) fun σ H Q w => ?_⟩
  obtain ⟨Z, ρ, R, w⟩ := w
  refine rdE.go ha.mono R w fun s1 ρ1 v Z1 H1 q1 m1 R1 w1 => ?_
  obtain ⟨c, rfl, q2⟩ := asB.give w1 q1
  refine ⟨c, rfl, ?_⟩
  cases c with
  | true => exact q2 _ Z1 H1 m1 R1 (.ofD (.bl true))
  | false => exact rdE.go hb.mono R1 q2 fun s2 ρ2 u Z2 H2 q3 m2 R2 w2 => q3 u Z2 H2 (m1.trans m2) R2 w2
theorem de_not (ha : DE X C a Ta) : DE X C (.UnaryOp .Not a pos) (eNot Ta) := by
  refine ⟨mono_eNot ha.mono, PE.imp (pe_not ha.run) fun σ H Q w => ?_⟩
  obtain ⟨Z, ρ, R, w⟩ := w
  refine rdE.go ha.mono R w fun s1 ρ1 v Z1 H1 q1 m1 R1 w1 => ?_
  obtain ⟨c, rfl, q2⟩ := asB.give w1 q1
  exact ⟨c, rfl, q2 _ Z1 H1 m1 R1 (.ofD (.bl _))⟩
/-- not of a value by its truth (de_not asks a bool) -/
theorem mono_eNotT (ha : MonoB Ba) : MonoE (fun ρ k => Ba ρ fun c ρ1 => k (.d (.bool (!c))) ρ1) := fun ρ k k' hk q => ha ρ _ _ (fun c ρ1 q1 => hk _ _ q1) q
/-- a bool's value as a test -/
def bVal (T : ET) : BT := fun ρ k => T ρ (asB k)
theorem mono_bVal (h : MonoE T) : MonoB (bVal T) := fun ρ k k' hk q => h ρ _ _ (fun s ρ1 q1 => asB.imp hk q1) q
theorem dt_val (h : DE X C e T) (he : ∀ whole, isTrue e X.env whole = (do let v ← whole; standAt e.pos; holding [v] (truthy v)) := by intro _; rfl) : DT X C e (bVal T) := by
  refine ⟨mono_bVal h.mono, PT.imp (pt_val h.run he) fun σ H Q w => ?_⟩
  obtain ⟨Z, ρ, R, w⟩ := w
  refine rdE.go h.mono R w fun s1 ρ1 v Z1 H1 q1 m1 R1 w1 => ?_
  obtain ⟨c, rfl, q2⟩ := asB.give w1 q1
  exact ⟨c, rfl, q2 Z1 H1 m1 R1⟩
/-- a if t else b -/
def eIf (B : BT) (Ta Tb : ET) : ET := fun ρ k => B ρ fun c ρ1 => if c = true then Ta ρ1 k else Tb ρ1 k
theorem mono_eIf (h : MonoB B) (ha : MonoE Ta) (hb : MonoE Tb) : MonoE (eIf B Ta Tb) := fun ρ k k' hk q => h ρ _ _ (fun c ρ1 q1 => by
  cases c with
  | true => exact ha ρ1 k k' hk q1
  | false => exact hb ρ1 k k' hk q1) q
theorem de_if (h : DT X C c B) (ha : DE X C a Ta) (hb : DE X C b Tb) : DE X C (.IfExp c a b pos) (eIf B Ta Tb) := by
  refine ⟨mono_eIf h.mono ha.mono hb.mono, PE.imp (pe_ifExp h.run ha.run hb.run) fun σ H Q w => ?_⟩
  obtain ⟨Z, ρ, R, w⟩ := w
  refine rdB.go h.mono R w fun d ρ1 Z1 H1 q1 m1 R1 => ?_
  cases d with
  | true => exact rdE.go ha.mono R1 q1 fun s2 ρ2 u Z2 H2 q3 m2 R2 w2 => q3 u Z2 H2 (m1.trans m2) R2 w2
  | false => exact rdE.go hb.mono R1 q1 fun s2 ρ2 u Z2 H2 q3 m2 R2 w2 => q3 u Z2 H2 (m1.trans m2) R2 w2
end

/-! ### the operations by values, told over data -/
theorem OpR.imp {X : Cx} {f : Value → Value → Sem Value} {r r' : R2} (h : OpR X f r) (q : ∀ x y H Q, r' x y H Q → r x y H Q) : OpR X f r' := fun pins s σ H x y v u Q I rx ry w => h pins s σ H x y v u Q I rx ry (q _ _ _ _ w)
section
variable {X : Cx}
def intOp (c : Int → Int → Bool) (f : Int → Int → Int) : D → D → Option Sl
  | .int i, .int j => if c i j = true then some (.d (.int (f i j))) else none
  | _, _ => none
def cmpOp (f : Int → Int → Bool) : D → D → Option Sl
  | .int i, .int j => some (.d (.bool (f i j)))
  | _, _ => none
theorem opD_int {f : Value → Value → Sem Value} {c : Int → Int → Bool} {g : Int → Int → Int} (h : OpR X f (rI (fun i j => c i j = true) fun i j => .int (g i j))) : OpD X f (intOp c g) := by
  refine OpR.imp h fun x y H Q ⟨Z, dx, dy, s, rx, ry, m, e, w⟩ => ?_
  cases rx with
  | int i =>
    cases ry with
    | int j =>
      simp only [intOp] at e
      obtain ⟨hc, rfl⟩ := ite_some e
      exact ⟨_, _, rfl, rfl, hc, w.d0 _ _ rfl (.int _)⟩
    | _ => cases e
  | _ => cases e
theorem opD_cmp {f : Value → Value → Sem Value} {g : Int → Int → Bool} (h : OpR X f (rI0 fun i j => .bl (g i j))) : OpD X f (cmpOp g) := by
  refine OpR.imp h fun x y H Q ⟨Z, dx, dy, s, rx, ry, m, e, w⟩ => ?_
  cases rx with
  | int i =>
    cases ry with
    | int j =>
      cases e
      exact ⟨_, _, rfl, rfl, w.d0 _ _ rfl (.bl _)⟩
    | _ => cases e
  | _ => cases e
def subD : D → D → Option Sl := intOp (fun _ _ => true) fun i j => i - j
def cMulB (i j : Int) : Bool := decide ((-(2 ^ 64) < i ∧ i < 2 ^ 64) ∨ (-(2 ^ 64) < j ∧ j < 2 ^ 64))
def mulD : D → D → Option Sl := intOp cMulB fun i j => i * j
def fdivD : D → D → Option Sl := intOp (fun _ j => decide (0 < j ∧ j < 1073741824)) fun i j => i / j
def modD : D → D → Option Sl := intOp (fun _ j => decide (0 < j)) fun i j => i % j
def powD : D → D → Option Sl := intOp (fun i j => decide (0 ≤ j ∧ j ≤ 1000000 ∧ i.natAbs < 2 ^ 64)) fun i j => i ^ j.toNat
def shlD : D → D → Option Sl := intOp (fun i j => decide (0 ≤ j ∧ j ≤ 1000000 ∧ i.natAbs < 2 ^ 64)) fun i j => i * 2 ^ j.toNat
def shrD : D → D → Option Sl := intOp (fun _ j => decide (0 ≤ j)) fun i j => i / 2 ^ j.toNat
theorem opR_cond {f : Value → Value → Sem Value} {P : Int → Int → Prop} {c : Int → Int → Bool} {g : Int → Int → V} (h : OpR X f (rI P g)) (q : ∀ i j, c i j = true → P i j) : OpR X f (rI (fun i j => c i j = true) g) :=
  OpR.imp h fun x y H Q ⟨i, j, e1, e2, hc, w⟩ => ⟨i, j, e1, e2, q i j hc, w⟩
theorem opD_sub : OpD X (binaryOp .Sub) subD := opD_int (OpR.imp op_sub fun x y H Q ⟨i, j, e1, e2, _, w⟩ => ⟨i, j, e1, e2, w⟩)
theorem opD_mul : OpD X (binaryOp .Mult) mulD := opD_int (opR_cond op_mul fun i j h => by
  have q : (-(2 ^ 64) < i ∧ i < 2 ^ 64) ∨ (-(2 ^ 64) < j ∧ j < 2 ^ 64) := of_decide_eq_true h
  exact q)
theorem opD_fdiv : OpD X (binaryOp .FloorDiv) fdivD := opD_int (opR_cond op_fdiv fun i j h => (of_decide_eq_true h : 0 < j ∧ j < 1073741824))
theorem opD_mod : OpD X (binaryOp .Mod) modD := opD_int (opR_cond op_mod fun i j h => of_decide_eq_true h)
theorem opD_pow : OpD X (binaryOp .Pow) powD := opD_int (opR_cond op_pow fun i j h => (of_decide_eq_true h : 0 ≤ j ∧ j ≤ 1000000 ∧ i.natAbs < 2 ^ 64))
theorem opD_shl : OpD X (binaryOp .LShift) shlD := opD_int (opR_cond op_shl fun i j h => (of_decide_eq_true h : 0 ≤ j ∧ j ≤ 1000000 ∧ i.natAbs < 2 ^ 64))
theorem opD_shr : OpD X (binaryOp .RShift) shrD := opD_int (opR_cond op_shr fun i j h => of_decide_eq_true h)
def ltD : D → D → Option Sl := cmpOp fun i j => decide (i < j)
def leD : D → D → Option Sl := cmpOp fun i j => decide (i ≤ j)
def gtD : D → D → Option Sl := cmpOp fun i j => decide (j < i)
def geD : D → D → Option Sl := cmpOp fun i j => decide (j ≤ i)
theorem opD_lt : OpD X (compareOp .Lt) ltD := opD_cmp op_lt
theorem opD_le : OpD X (compareOp .LtE) leD := opD_cmp op_le
theorem opD_gt : OpD X (compareOp .Gt) gtD := opD_cmp op_gt
theorem opD_ge : OpD X (compareOp .GtE) geD := opD_cmp op_ge
/-- + of ints, texts, tuples, lists -/
def addD : D → D → Option Sl
  | .int i, .int j => some (.d (.int (i + j)))
  | .str x, .str y => if x.length + y.length ≤ sizeLine then some (.d (.str (x ++ y))) else none
  | .tuple xs, .tuple ys => if xs.length + ys.length ≤ sizeLine then some (.d (.tuple (xs ++ ys))) else none
  | .list xs, .list ys => if xs.length + ys.length ≤ sizeLine then some (.own false (xs ++ ys)) else none
  | _, _ => none
theorem RpA.nil_iff {K : PySem.W.Frag} {Z : Hp} {vs : List V} {ds : List D} (r : RpA K Z vs ds) : vs = [] ↔ ds = [] := by
  cases r <;> simp
theorem opD_add : OpD X (binaryOp .Add) addD := by
  refine OpR.imp (op_add.or (op_add_str.or (op_catA.or op_cat))) fun x y H Q ⟨Z, dx, dy, s, rx, ry, m, e, w⟩ => ?_
  cases rx with
  | non => cases ry <;> cases e
  | bl b => cases ry <;> cases e
  | dct _ _ _ => cases ry <;> cases e
  | dck _ _ _ => cases ry <;> cases e
  | int i =>
    cases ry with
    | int j =>
      cases e
      exact Or.inl ⟨_, _, rfl, rfl, w.d0 _ _ rfl (.int _)⟩
    | _ => cases e
  | str z =>
    cases ry with
    | str z' =>
      simp only [addD] at e
      obtain ⟨hl, rfl⟩ := ite_some e
      exact Or.inr (Or.inl ⟨_, _, rfl, rfl, hl, w.d0 _ _ rfl (.str _)⟩)
    | _ => cases e
  | lst q rs l =>
    cases ry with
    | lst q' rs' l' =>
      simp only [addD] at e
      obtain ⟨hl, rfl⟩ := ite_some e
      refine Or.inr (Or.inr (Or.inr ⟨_, _, _, _, rfl, rfl, m _ _ q, m _ _ q', ?_, fun p n => w.oN p _ _ rfl n (rs.app rs') ?_⟩))
      · rw [rs.len, rs'.len]; exact hl
      · rw [List.length_append]; exact hl
    | _ => cases e
  | tup q rs l =>
    cases ry with
    | tup q' rs' l' =>
      simp only [addD] at e
      obtain ⟨hl, rfl⟩ := ite_some e
      · refine Or.inr (Or.inr (Or.inl ⟨_, _, _, _, rfl, rfl, Or.inl (Or.inl (m _ _ q)), Or.inl (Or.inl (m _ _ q')), by rw [rs.len, rs'.len]; exact hl, fun z => ?_, fun _ z => ?_, fun _ _ p n => ?_⟩))
        · have e1 := rs.nil_iff.mp z
          subst e1
          rw [List.nil_append] at w
          exact w.d0 _ _ rfl (.tup q' rs' l')
        · have e1 := rs'.nil_iff.mp z
          subst e1
          rw [List.append_nil] at w
          exact w.d0 _ _ rfl (.tup q rs l)
        · exact w.tup m n (rs.app rs') (by rw [List.length_append]; exact hl)
    | _ => cases e
end
end Dl

set_option Elab.async false
set_option linter.all false
set_option maxRecDepth 100000
set_option autoImplicit false
set_option maxHeartbeats 1000000
namespace Dl
open PySem PySem.Spec PyProof.Rows L2

/-! ### == and in -/
section
variable {K : PySem.W.Frag} {Z H : Hp}
mutual
theorem Rp.dp (m : Same Z H) : ∀ {v : V} {d : D}, Rp K Z v d → d.canLay0 = true → Dp K H v d
  | _, _, .non, _ => .non
  | _, _, .bl b, _ => .bl b
  | _, _, .int i, _ => .int i
  | _, _, .str x, _ => .str x
  | _, _, .lst q r n, h => .lst (Or.inl (Or.inl (m _ _ q))) (RpA.dp m r (by simpa only [PyData.canLay0] using h))
  | _, _, .tup q r n, h => .tup (Or.inl (Or.inl (m _ _ q))) (RpA.dp m r (by simpa only [PyData.canLay0] using h))
  | _, _, .dct q r n, h => by simp [PyData.canLay0] at h
  | _, _, .dck q r n, h => by simp [PyData.canLay0] at h
theorem RpA.dp (m : Same Z H) : ∀ {vs : List V} {ds : List D}, RpA K Z vs ds → PyData.canLayAll0 ds = true → DpAll K H vs ds
  | _, _, .nil, _ => .nil
  | _, _, .cons r t, h => by
    simp only [PyData.canLayAll0, Bool.and_eq_true] at h
    exact .cons (Rp.dp m r h.1) (RpA.dp m t h.2)
end
def flatD : D → Bool
  | .none => true
  | .bool _ => true
  | .int _ => true
  | .str _ => true
  | _ => false
theorem flat_of {v : V} {x : D} (r : Rp K Z v x) (h : flatD x = true) : flatV v = true := by
  cases r <;> first | rfl | cases h
theorem flat_all : ∀ {vs : List V} {ds : List D}, RpA K Z vs ds → ds.all flatD = true → vs.all flatV = true
  | _, _, .nil, _ => rfl
  | _, _, .cons r t, h => by
    simp only [List.all_cons, Bool.and_eq_true] at h ⊢
    exact ⟨flat_of r h.1, flat_all t h.2⟩
theorem eqv_of {v u : V} {x y : D} (r : Rp K Z v x) (q : Rp K Z u y) (hx : flatD x = true) (hy : flatD y = true) : eqV v u = PyData.eqv x y := by
  cases r <;> cases q <;> first | rfl | cases hx | cases hy | skip
  all_goals simp only [eqV, PyData.eqv]
theorem inV_of {u : V} {y : D} (q : Rp K Z u y) (hy : flatD y = true) : ∀ {vs : List V} {ds : List D}, RpA K Z vs ds → ds.all flatD = true → inV u vs = ds.any fun z => PyData.eqv z y
  | _, _, .nil, _ => rfl
  | _, _, .cons r t, h => by
    simp only [List.all_cons, Bool.and_eq_true] at h
    have e := inV_of q hy t h.2
    unfold inV at e ⊢
    rw [List.any_cons, List.any_cons, e, eqv_of r q h.1 hy]
end
section
variable {X : Cx}
def eqB : D → D → Option Bool
  | .int i, .int j => some (decide (i = j))
  | .str x, .str y => some (decide (x = y))
  | x, y => if (SeqAt.shaped x && SeqAt.shaped y) = true then some (PyData.eqv x y) else none
def eqD (x y : D) : Option Sl := (eqB x y).map fun b => .d (.bool b)
def neD (x y : D) : Option Sl := (eqB x y).map fun b => .d (.bool (!b))
theorem map_some {α β : Type} {f : α → β} {o : Option α} {y : β} (h : o.map f = some y) : ∃ x, o = some x ∧ f x = y := by
  cases o with
  | none => cases h
  | some x => exact ⟨x, rfl, Option.some.inj h⟩
theorem shaped_lay {x : D} (h : SeqAt.shaped x = true) : x.canLay0 = true := SeqAt.canLay_of_shaped h
theorem eqB_cases {x y : D} {b : Bool} (h : eqB x y = some b) : (∃ i j, x = .int i ∧ y = .int j ∧ b = decide (i = j)) ∨ (∃ i j, x = .str i ∧ y = .str j ∧ b = decide (i = j)) ∨ (SeqAt.shaped x = true ∧ SeqAt.shaped y = true ∧ b = PyData.eqv x y) := by
  unfold eqB at h
  split at h
  · cases h
    exact Or.inl ⟨_, _, rfl, rfl, rfl⟩
  · cases h
    exact Or.inr (Or.inl ⟨_, _, rfl, rfl, rfl⟩)
  · obtain ⟨q, rfl⟩ := ite_some h
    rw [Bool.and_eq_true] at q
    exact Or.inr (Or.inr ⟨q.1, q.2, rfl⟩)
theorem opD_eq (hu : X.A.units + 64 < cLine) : OpD X (compareOp .Eq) eqD := by
  refine OpR.imp (op_eq.or (op_eqD hu)) fun x y H Q ⟨Z, dx, dy, s, rx, ry, m, e, w⟩ => ?_
  obtain ⟨b, e1, rfl⟩ := map_some e
  rcases eqB_cases e1 with ⟨i, j, rfl, rfl, rfl⟩ | ⟨i, j, rfl, rfl, rfl⟩ | ⟨s1, s2, rfl⟩
  · cases rx
    cases ry
    refine Or.inl ⟨rfl, ?_⟩
    rw [dec_int, Bool.beq_eq_decide_eq]
    exact w.d0 _ _ rfl (.bl _)
  · cases rx
    cases ry
    refine Or.inl ⟨rfl, ?_⟩
    rw [dec_str, Bool.beq_eq_decide_eq]
    exact w.d0 _ _ rfl (.bl _)
  · exact Or.inr ⟨dx, dy, rx.dp m (shaped_lay s1), ry.dp m (shaped_lay s2), s1, s2, w.d0 _ _ rfl (.bl _)⟩
theorem opD_ne (hu : X.A.units + 64 < cLine) : OpD X (compareOp .NotEq) neD := by
  refine OpR.imp (op_ne.or (op_neD hu)) fun x y H Q ⟨Z, dx, dy, s, rx, ry, m, e, w⟩ => ?_
  obtain ⟨b, e1, rfl⟩ := map_some e
  rcases eqB_cases e1 with ⟨i, j, rfl, rfl, rfl⟩ | ⟨i, j, rfl, rfl, rfl⟩ | ⟨s1, s2, rfl⟩
  · cases rx
    cases ry
    refine Or.inl ⟨rfl, ?_⟩
    rw [dec_int, Bool.beq_eq_decide_eq]
    exact w.d0 _ _ rfl (.bl _)
  · cases rx
    cases ry
    refine Or.inl ⟨rfl, ?_⟩
    rw [dec_str, Bool.beq_eq_decide_eq]
    exact w.d0 _ _ rfl (.bl _)
  · exact Or.inr ⟨dx, dy, rx.dp m (shaped_lay s1), ry.dp m (shaped_lay s2), s1, s2, w.d0 _ _ rfl (.bl _)⟩
/-- x in a list, a tuple, a text -/
def inB : D → D → Option Bool
  | .str x, .str y => some (!(Builtin.Str.occurrences y x 0 y.length 1).isEmpty)
  | x, .list ys => if (flatD x && ys.all flatD) = true then some (ys.any fun z => PyData.eqv z x) else if (SeqAt.shaped x && SeqAt.shaped (.list ys)) = true then some (ys.any fun z => PyData.eqv z x) else none
  | x, .tuple ys => if (flatD x && ys.all flatD) = true then some (ys.any fun z => PyData.eqv z x) else none
  | _, _ => none
def inD (n : Bool) (x y : D) : Option Sl := (inB x y).map fun b => .d (.bool (if n then !b else b))
theorem inB_cases {x y : D} {b : Bool} (h : inB x y = some b) : (∃ i j, x = .str i ∧ y = .str j ∧ b = !(Builtin.Str.occurrences j i 0 j.length 1).isEmpty) ∨
    (∃ ys, (y = .list ys ∨ y = .tuple ys) ∧ flatD x = true ∧ ys.all flatD = true ∧ b = ys.any fun z => PyData.eqv z x) ∨
    (∃ ys, y = .list ys ∧ SeqAt.shaped x = true ∧ SeqAt.shaped (.list ys) = true ∧ b = ys.any fun z => PyData.eqv z x) := by
  unfold inB at h
  split at h
  · cases h
    exact Or.inl ⟨_, _, rfl, rfl, rfl⟩
  · split at h
    · rename_i q
      cases h
      rw [Bool.and_eq_true] at q
      exact Or.inr (Or.inl ⟨_, Or.inl rfl, q.1, q.2, rfl⟩)
    · obtain ⟨q, rfl⟩ := ite_some h
      rw [Bool.and_eq_true] at q
      exact Or.inr (Or.inr ⟨_, rfl, q.1, q.2, rfl⟩)
  · obtain ⟨q, rfl⟩ := ite_some h
    rw [Bool.and_eq_true] at q
    exact Or.inr (Or.inl ⟨_, Or.inr rfl, q.1, q.2, rfl⟩)
  · cases h
theorem opD_in (hu : X.A.units + 65 < cLine) : OpD X (compareOp .In) (inD false) := by
  refine OpR.imp (op_in_str.or (op_in_seq.or (op_inD hu))) fun x y H Q ⟨Z, dx, dy, s, rx, ry, m, e, w⟩ => ?_
  obtain ⟨b, e1, rfl⟩ := map_some e
  rcases inB_cases e1 with ⟨i, j, rfl, rfl, rfl⟩ | ⟨ys, hy, hx, ha, rfl⟩ | ⟨ys, rfl, s1, s2, rfl⟩
  · cases rx
    cases ry
    exact Or.inl ⟨_, _, rfl, rfl, w.d0 _ _ rfl (.bl _)⟩
  · rcases hy with rfl | rfl
    · cases ry with
      | lst q rs l =>
        refine Or.inr (Or.inl ⟨_, _, rfl, Or.inl (Or.inl (Or.inl (m _ _ q))), flat_of rx hx, flat_all rs ha, ?_⟩)
        rw [inV_of rx hx rs ha]
        exact w.d0 _ _ rfl (.bl _)
    · cases ry with
      | tup q rs l =>
        refine Or.inr (Or.inl ⟨_, _, rfl, Or.inr (Or.inl (Or.inl (m _ _ q))), flat_of rx hx, flat_all rs ha, ?_⟩)
        rw [inV_of rx hx rs ha]
        exact w.d0 _ _ rfl (.bl _)
  · exact Or.inr (Or.inr ⟨dx, ys, rx.dp m (shaped_lay s1), ry.dp m (shaped_lay s2), s1, s2, w.d0 _ _ rfl (.bl _)⟩)
theorem opD_notIn (hu : X.A.units + 65 < cLine) : OpD X (compareOp .NotIn) (inD true) := by
  refine OpR.imp (L2.op_notIn_str.or (op_notIn_seq.or (op_notInD hu))) fun x y H Q ⟨Z, dx, dy, s, rx, ry, m, e, w⟩ => ?_
  obtain ⟨b, e1, rfl⟩ := map_some e
  rcases inB_cases e1 with ⟨i, j, rfl, rfl, rfl⟩ | ⟨ys, hy, hx, ha, rfl⟩ | ⟨ys, rfl, s1, s2, rfl⟩
  · cases rx
    cases ry
    exact Or.inl ⟨_, _, rfl, rfl, w.d0 _ _ rfl (.bl _)⟩
  · rcases hy with rfl | rfl
    · cases ry with
      | lst q rs l =>
        refine Or.inr (Or.inl ⟨_, _, rfl, Or.inl (Or.inl (Or.inl (m _ _ q))), flat_of rx hx, flat_all rs ha, ?_⟩)
        rw [inV_of rx hx rs ha]
        exact w.d0 _ _ rfl (.bl _)
    · cases ry with
      | tup q rs l =>
        refine Or.inr (Or.inl ⟨_, _, rfl, Or.inr (Or.inl (Or.inl (m _ _ q))), flat_of rx hx, flat_all rs ha, ?_⟩)
        rw [inV_of rx hx rs ha]
        exact w.d0 _ _ rfl (.bl _)
  · exact Or.inr (Or.inr ⟨dx, ys, rx.dp m (shaped_lay s1), ry.dp m (shaped_lay s2), s1, s2, w.d0 _ _ rfl (.bl _)⟩)
end

/-! ### items, slices -/
theorem atI_rp {K : PySem.W.Frag} {Z : Hp} {vs : List V} {ds : List D} {i : Int} {d : D} (r : RpA K Z vs ds) (h : atI ds i = some d) : ∃ v, atI vs i = some v ∧ Rp K Z v d := by
  unfold atI at h ⊢
  rw [r.len]
  cases q : ixN ds.length i with
  | none =>
    rw [q] at h
    cases h
  | some j =>
    rw [q] at h
    exact r.get (show ds[j]? = some d from h)
def idxD : D → D → Option D
  | .tuple xs, .int i => atI xs i
  | .list xs, .int i => atI xs i
  | .str z, .int i => if z.length ≤ sizeLine then (atI z.cps.toList i).map fun c => .str ⟨#[c]⟩ else none
  | _, _ => none
def idxS (x y : D) : Option Sl := (idxD x y).map .d
section
variable {X : Cx} {C : Ctx} {e a b c : Expr} {es : List Expr} {T Ta Tb : ET} {pos : Pos} {x : Str} {i : Nat}
theorem idx_of {K : PySem.W.Frag} {Z H : Hp} {Q : VK} {u v : V} {x y z : D} (rx : Rp K Z u x) (ry : Rp K Z v y) (m : Same Z H) (h : idxD x y = some z) (q : ∀ w, Rp K Z w z → Q w H) : rIx K u v H Q := by
  cases rx with
  | tup g rs l =>
    cases ry with
    | int i =>
      obtain ⟨w, e1, e2⟩ := atI_rp rs h
      exact Or.inr (Or.inl ⟨_, _, _, _, rfl, rfl, Or.inl (Or.inl (m _ _ g)), e1, q _ e2⟩)
    | _ => cases h
  | lst g rs l =>
    cases ry with
    | int i =>
      obtain ⟨w, e1, e2⟩ := atI_rp rs h
      exact Or.inl ⟨_, _, _, _, rfl, rfl, Or.inl (Or.inl (m _ _ g)), e1, q _ e2⟩
    | _ => cases h
  | str t =>
    cases ry with
    | int i =>
      simp only [idxD] at h
      split at h
      · rename_i hl
        obtain ⟨c, e1, rfl⟩ := map_some h
        exact Or.inr (Or.inr ⟨_, _, _, rfl, rfl, hl, e1, q _ (.str _)⟩)
      · cases h
    | _ => cases h
  | non => cases ry <;> cases h
  | bl _ => cases ry <;> cases h
  | int _ => cases ry <;> cases h
  | dct _ _ _ => cases ry <;> cases h
  | dck _ _ _ => cases ry <;> cases h
theorem de_idx (ha : DE X C a Ta) (hb : DE X C b Tb) (hs : PlainIx b := by intro _ _; rfl) : DE X C (.Subscript a b pos) (eBin idxS Ta Tb) := by
  refine ⟨mono_bin ha.mono hb.mono, PE.imp (pe_ix ix_seq ha.run hb.run hs) fun _ _ _ w => bin_go ha hb (fun u v H Q ⟨Z, dx, dy, s, rx, ry, m, e, w⟩ => ?_) w⟩
  obtain ⟨z, e1, rfl⟩ := map_some e
  exact idx_of rx ry m e1 fun v' r => w.d0 _ _ rfl r
/-- an item of a name's list, which stays the name's own -/
def eIdxV (i : Nat) (Tb : ET) : ET := fun ρ k => peek ρ i ≠ none ∧ Tb ρ (asD fun y ρ1 => ∃ x z, peek ρ1 i = some x ∧ idxD x y = some z ∧ k (.d z) ρ1)
theorem mono_idxV (hb : MonoE Tb) : MonoE (eIdxV i Tb) := fun ρ k k' hk ⟨n, q⟩ => ⟨n, hb ρ _ _ (fun s ρ1 q1 => asD.imp (fun y ρ1 ⟨x, z, e1, e2, q2⟩ => ⟨x, z, e1, e2, hk _ _ q2⟩) q1) q⟩
theorem RpA.gives {K : PySem.W.Frag} {Z H : Hp} {vs : List V} {xs : List D} {C : Ctx} {σ : Sg} {ρ : Rho} (R : RB K C Z σ H ρ) {j : Int} {z : D} (r : RpA K Z vs xs) (h : atI xs j = some z) : ∃ w, atI vs j = some w ∧ Rp K Z w z := atI_rp r h
theorem peek_item {K : PySem.W.Frag} {Z H : Hp} {C : Ctx} {σ : Sg} {ρ : Rho} {Q : VK} {v u : V} {x y z : D} (R : RB K C Z σ H ρ) (h : peek ρ i = some x) (hv : σ[i]? = some (some v)) (ry : Rp K Z u y) (e : idxD x y = some z) (q : ∀ w, Rp K Z w z → Q w H) : rIx K v u H Q := by
  unfold peek at h
  split at h
  · rename_i x' hx
    cases h
    obtain ⟨v', hv', w, e', r⟩ := R.s.slotAt hx
    rw [hv] at hv'
    cases hv'
    cases e'
    exact idx_of r ry R.b.le e q
  · rename_i p xs hx
    cases h
    obtain ⟨v', hv', b, vs, e', hb, r, l, ow⟩ := R.s.slotAt hx
    rw [hv] at hv'
    cases hv'
    cases e'
    cases ry with
    | int j =>
      obtain ⟨w, e1, e2⟩ := atI_rp r (show atI xs j = some z from e)
      exact Or.inl ⟨_, _, _, _, rfl, rfl, Or.inl (Or.inl hb), e1, q _ e2⟩
    | _ => cases e
  · cases h
theorem de_idxV (hb : DE X C b Tb) (hN : X.N[i]? = some x := by rfl) (hv : Vis X.env.scope x := by first | exact Or.inl rfl | exact Or.inr (Or.inl rfl) | exact Or.inr (Or.inr rfl)) (hs : PlainIx b := by intro _ _; rfl)
    (hd : (x == ("__debug__" : Str)) = false := by decide) (hcd : (x == ("__classdict__" : Str)) = false := by decide) {np : Pos} : DE X C (.Subscript (.Name x np) b pos) (eIdxV i Tb) := by
  refine ⟨mono_idxV hb.mono, PE.imp (pe_ix ix_seq (pe_var hN hv hd hcd) hb.run hs) fun σ H Q w => ?_⟩
  obtain ⟨Z, ρ, R, n, w⟩ := w
  cases hp : peek ρ i with
  | none => exact absurd hp n
  | some x0 =>
    obtain ⟨v, hv, _⟩ := peek_at R hp
    refine ⟨v, hv, rdE.go hb.mono R w fun s1 ρ1 u Z1 H1 q1 m1 R1 w1 => ?_⟩
    obtain ⟨y, Z2, ⟨x', z, e1, e2, q2⟩, m2, R2, ry⟩ := w1.give R1 q1
    exact peek_item R2 e1 hv ry e2 fun w' r => q2 w' Z2 H1 (m1.trans m2) R2 (.ofD r)
/-- slices -/
abbrev OT := Rho → (Option Int → Rho → Prop) → Prop
def MonoO (T : OT) : Prop := ∀ ρ (k k' : Option Int → Rho → Prop), (∀ s ρ', k s ρ' → k' s ρ') → T ρ k → T ρ k'
def rdO (K : PySem.W.Frag) (C : Ctx) (T : OT) : TO := fun σ H Q => ∃ Z ρ, RB K C Z σ H ρ ∧ T ρ fun o ρ' => ∀ Z' H', Same Z Z' → RB K C Z' σ H' ρ' → Q o H'
structure DO (X : Cx) (C : Ctx) (e : Option Expr) (T : OT) : Prop where
  mono : MonoO T
  run : PO X e (rdO X.K C T)
def oNone : OT := fun ρ k => k none ρ
def oSome (T : ET) : OT := fun ρ k => T ρ (asD fun x ρ1 => ∃ i, x = .int i ∧ k (some i) ρ1)
theorem PO.imp {X : Cx} {e : Option Expr} {t t' : TO} (h : PO X e t) (q : ∀ σ H Q, t' σ H Q → t σ H Q) : PO X e t' := by
  obtain ⟨h⟩ := h
  exact ⟨fun pins s σ H Q I w => h pins s σ H Q I (q _ _ _ w)⟩
theorem do_none : DO X C none oNone := ⟨fun ρ k k' h q => h _ _ q, PO.imp po_none fun σ H Q w => by
  obtain ⟨Z, ρ, R, w⟩ := w
  exact w Z H (Same.refl Z) R⟩
theorem do_some (h : DE X C e T) : DO X C (some e) (oSome T) := by
  refine ⟨fun ρ k k' hk q => h.mono ρ _ _ (fun s ρ1 q1 => asD.imp (fun x ρ1 ⟨i, e, q2⟩ => ⟨i, e, hk _ _ q2⟩) q1) q, PO.imp (po_some h.run) fun σ H Q w => ?_⟩
  obtain ⟨Z, ρ, R, w⟩ := w
  refine rdE.go h.mono R w fun s1 ρ1 v Z1 H1 q1 m1 R1 w1 => ?_
  obtain ⟨x, Z2, ⟨i, rfl, q2⟩, m2, R2, rx⟩ := w1.give R1 q1
  cases rx
  exact ⟨i, rfl, q2 Z2 H1 (m1.trans m2) R2⟩
def cutL {α : Type} (xs : List α) (lo hi : Option Int) : List α := (xs.drop (HT.sIx xs.length 0 lo)).take (HT.sIx xs.length xs.length hi - HT.sIx xs.length 0 lo)
def slD (lo hi : Option Int) : D → Option Sl
  | .tuple xs => some (.d (.tuple (cutL xs lo hi)))
  | .list xs => some (.own false (cutL xs lo hi))
  | .str z => if z.length ≤ sizeLine then some (.d (.str (cutS z lo hi))) else none
  | _ => none
theorem cutL_len {α : Type} (xs : List α) (lo hi : Option Int) : (cutL xs lo hi).length ≤ xs.length := by
  unfold cutL
  rw [List.length_take, List.length_drop]
  omega
theorem RpA.cut {K : PySem.W.Frag} {Z : Hp} {vs : List V} {ds : List D} (r : RpA K Z vs ds) (lo hi : Option Int) : RpA K Z (cutV vs lo hi) (cutL ds lo hi) := by
  unfold cutV cutL
  rw [r.len]
  exact (r.drop _).take _
def eSl (Ta : ET) (Tl Th : OT) : ET := fun ρ k => Ta ρ (asD fun x ρ1 => Tl ρ1 fun l ρ2 => Th ρ2 fun h ρ3 => ∃ s, slD l h x = some s ∧ k s ρ3)
theorem cut_whole {α : Type} {xs : List α} {lo hi : Option Int} (h : HT.sIx xs.length 0 lo = 0 ∧ HT.sIx xs.length xs.length hi = xs.length) : cutL xs lo hi = xs := by
  unfold cutL
  rw [h.1, h.2, List.drop_zero, Nat.sub_zero, List.take_length]
theorem de_slice {lo hi : Option Expr} {Tl Th : OT} {p2 : Pos} (ha : DE X C a Ta) (hl : DO X C lo Tl) (hh : DO X C hi Th) : DE X C (.Subscript a (.Slice lo hi none p2) pos) (eSl Ta Tl Th) := by
  refine ⟨fun ρ k k' hk q => ha.mono ρ _ _ (fun s ρ1 q1 => asD.imp (fun x ρ1 q2 => hl.mono ρ1 _ _ (fun l ρ2 q3 => hh.mono ρ2 _ _ (fun h ρ3 ⟨s, e, q4⟩ => ⟨s, e, hk _ _ q4⟩) q3) q2) q1) q,
    PE.imp (pe_slice (sl_tupA.or (sl_list.or sl_str)) ha.run hl.run hh.run) fun σ H Q w => ?_⟩
  obtain ⟨Z, ρ, R, w⟩ := w
  refine rdE.go ha.mono R w fun s1 ρ1 v Z1 H1 q1 m1 R1 w1 => ?_
  obtain ⟨x, Z2, q2, m2, R2, rx⟩ := w1.give R1 q1
  refine ⟨Z2, ρ1, R2, hl.mono ρ1 _ _ (fun l ρ3 q3 Z3 H3 m3 R3 => ?_) q2⟩
  refine ⟨Z3, ρ3, R3, hh.mono ρ3 _ _ (fun h ρ4 q4 Z4 H4 m4 R4 => ?_) q3⟩
  obtain ⟨s, e, q5⟩ := q4
  have rx' := (rx.mono m3).mono m4
  have W : Res X.K Z4 H4 Q s := Res.of R4 fun v' Z' H' m R' w' => q5 v' Z' H' (m1.trans (m2.trans (m3.trans (m4.trans m)))) R' w'
  cases rx' with
  | tup g rs ll =>
    cases e
    refine Or.inl ⟨_, _, rfl, Or.inl (Or.inl (R4.b.le _ _ g)), fun z => ?_, fun _ p n => ?_⟩
    · rw [rs.len] at z
      rw [cut_whole z] at W
      exact W.d0 _ _ rfl (.tup g rs ll)
    · exact W.tup R4.b.le n (rs.cut l h) (Nat.le_trans (cutL_len _ _ _) ll)
  | lst g rs ll =>
    cases e
    exact Or.inr (Or.inl ⟨_, _, rfl, Or.inl (Or.inl (R4.b.le _ _ g)), fun p n => W.oN p _ _ rfl n (rs.cut l h) (Nat.le_trans (cutL_len _ _ _) ll)⟩)
  | str z =>
    simp only [slD] at e
    obtain ⟨hz, rfl⟩ := ite_some e
    exact Or.inr (Or.inr ⟨_, rfl, hz, W.d0 _ _ rfl (.str _)⟩)
  | _ => cases e

/-! ### calls of built-ins -/
def CallD (X : Cx) (f : Value) (g : List D → Option Sl) : Prop := CallR X f fun vs H Q => ∃ Z ds s, RpA X.K Z vs ds ∧ Same Z H ∧ g ds = some s ∧ Res X.K Z H Q s
theorem CallR.imp {f : Value} {r r' : List V → Hp → VK → Prop} (h : CallR X f r) (q : ∀ xs H Q, r' xs H Q → r xs H Q) : CallR X f r' := fun pins s σ H xs us Q I rv w => h pins s σ H xs us Q I rv (q _ _ _ w)
def eCB (g : List D → Option Sl) (A : AT) : ET := fun ρ k => A ρ fun ds ρ1 => ∃ s, g ds = some s ∧ k s ρ1
theorem mono_CB {g : List D → Option Sl} {A : AT} (hA : MonoA A) : MonoE (eCB g A) := fun ρ k k' hk q => hA ρ _ _ (fun ds ρ1 ⟨s, e, q1⟩ => ⟨s, e, hk _ _ q1⟩) q
theorem cb_go {g : List D → Option Sl} {A : AT} (hA : DA X C es A) {σ : Sg} {H : Hp} {Q : VK} (w : rdE X.K C (eCB g A) σ H Q) : rdA X.K C A σ H fun vs H1 => ∃ Z ds s, RpA X.K Z vs ds ∧ Same Z H1 ∧ g ds = some s ∧ Res X.K Z H1 Q s := by
  obtain ⟨Z, ρ, R, w⟩ := w
  refine rdA.go hA.mono R w fun ds ρ1 vs Z1 H1 ⟨s, e, q1⟩ m1 R1 rs => ?_
  exact ⟨Z1, ds, s, rs, R1.b.le, e, Res.of R1 fun v Z' H' m R' w' => q1 v Z' H' (m1.trans m) R' w'⟩
theorem de_callB {g : List D → Option Sl} {A : AT} {p : Pos} {id : String} (hc : CallD X (.builtin id) g) (hm : X.mg x = none) (hA : DA X C (e :: es) A) (hv : bootBuiltins x = some (.builtin id) := by decide +kernel) (hg : Gl X x := by rfl) (hn : x ≠ "__name__" := by decide) (hdb : (x == ("__debug__" : Str)) = false := by decide)
    (he : starEach (e :: es) X.env = (false, eval e X.env) :: starEach es X.env := by rfl) (hpl : (backTo pos (starEach es X.env)).any (·.1) = false := by rfl) : DE X C (.Call (.Name x p) (e :: es) [] pos) (eCB g A) :=
  ⟨mono_CB hA.mono, PE.imp (pe_callB hc hg hm hv hA.run hn hdb he hpl) fun _ _ _ w => cb_go hA w⟩
theorem de_callTy {g : List D → Option Sl} {A : AT} {p : Pos} {id : String} (hc : CallD X (.type id) g) (hm : X.mg x = none) (hA : DA X C (e :: es) A) (hv : bootBuiltins x = some (.type id) := by decide +kernel) (hg : Gl X x := by rfl) (hn : x ≠ "__name__" := by decide) (hdb : (x == ("__debug__" : Str)) = false := by decide)
    (he : starEach (e :: es) X.env = (false, eval e X.env) :: starEach es X.env := by rfl) (hpl : (backTo pos (starEach es X.env)).any (·.1) = false := by rfl) : DE X C (.Call (.Name x p) (e :: es) [] pos) (eCB g A) :=
  ⟨mono_CB hA.mono, PE.imp (pe_callTy hc hg hm hv hA.run hn hdb he hpl) fun _ _ _ w => cb_go hA w⟩
def lenN : D → Option Nat
  | .tuple xs => some xs.length
  | .list xs => some xs.length
  | .str z => if z.length ≤ sizeLine then some z.length else none
  | _ => none
def lenD : List D → Option Sl
  | [x] => (lenN x).map fun (m : Nat) => .d (.int (m : Int))
  | _ => none
theorem len_of {K : PySem.W.Frag} {Z H : Hp} {v : V} {x : D} {n : Nat} (r : Rp K Z v x) (m : Same Z H) (h : lenN x = some n) : LenV K v H n := by
  cases r with
  | tup g rs l =>
    cases h
    exact Or.inr ⟨_, Or.inl (Or.inl (m _ _ g)), rs.len.symm⟩
  | lst g rs l =>
    cases h
    exact Or.inl ⟨_, Or.inl (Or.inl (m _ _ g)), rs.len.symm⟩
  | str z =>
    simp only [lenN] at h
    obtain ⟨q, rfl⟩ := ite_some h
    exact ⟨q, rfl⟩
  | _ => cases h
theorem RpA.one_inv {K : PySem.W.Frag} {Z : Hp} {vs : List V} {x : D} (r : RpA K Z vs [x]) : ∃ v, vs = [v] ∧ Rp K Z v x := by
  cases r with
  | cons r t =>
    cases t
    exact ⟨_, rfl, r⟩
theorem RpA.two_inv {K : PySem.W.Frag} {Z : Hp} {vs : List V} {x y : D} (r : RpA K Z vs [x, y]) : ∃ v u, vs = [v, u] ∧ Rp K Z v x ∧ Rp K Z u y := by
  cases r with
  | cons r t =>
    obtain ⟨u, rfl, q⟩ := t.one_inv
    exact ⟨_, u, rfl, r, q⟩
theorem callD_len : CallD X (.builtin "len") lenD := by
  refine CallR.imp call_len fun vs H Q ⟨Z, ds, s, rs, m, e, w⟩ => ?_
  unfold lenD at e
  split at e
  · obtain ⟨v, rfl, r⟩ := rs.one_inv
    obtain ⟨n, e1, rfl⟩ := map_some e
    exact ⟨v, n, rfl, len_of r m e1, w.d0 _ _ rfl (.int _)⟩
  · cases e
def eLenV (i : Nat) : ET := fun ρ k => ∃ (x : D) (n : Nat), peek ρ i = some x ∧ lenN x = some n ∧ k (.d (.int (n : Int))) ρ
theorem mono_lenV : MonoE (eLenV i) := fun ρ k k' hk ⟨x, n, e1, e2, q⟩ => ⟨x, n, e1, e2, hk _ _ q⟩
theorem de_lenV {p np : Pos} (hm : X.mg "len" = none) (hN : X.N[i]? = some x := by rfl) (hv : Vis X.env.scope x := by first | exact Or.inl rfl | exact Or.inr (Or.inl rfl) | exact Or.inr (Or.inr rfl)) (hg : Gl X "len" := by rfl) (hb : bootBuiltins "len" = some (.builtin "len") := by decide +kernel)
    (hd : (x == ("__debug__" : Str)) = false := by decide) (hcd : (x == ("__classdict__" : Str)) = false := by decide) (he : starEach [.Name x np] X.env = (false, eval (.Name x np) X.env) :: starEach [] X.env := by rfl) (hpl : (backTo pos (starEach ([] : List Expr) X.env)).any (·.1) = false := by rfl) :
    DE X C (.Call (.Name "len" p) [.Name x np] [] pos) (eLenV i) := by
  refine ⟨mono_lenV, PE.imp (pe_callB call_len hg hm hb (pa_cons (pe_var hN hv hd hcd) pa_nil he) (he := he) (hpl := hpl)) fun σ H Q w => ?_⟩
  obtain ⟨Z, ρ, R, x0, n, e1, e2, q⟩ := w
  obtain ⟨v, hv, r⟩ := peek_at R e1
  exact ⟨v, hv, v, n, rfl, len_of r (Same.refl H) e2, q _ Z H (Same.refl Z) R (.ofD (.int _))⟩
def absD : List D → Option Sl
  | [.int i] => some (.d (.int (if i < 0 then -i else i)))
  | _ => none
theorem callD_abs : CallD X (.builtin "abs") absD := by
  refine CallR.imp call_abs fun vs H Q ⟨Z, ds, s, rs, m, e, w⟩ => ?_
  unfold absD at e
  split at e
  · obtain ⟨v, rfl, r⟩ := rs.one_inv
    cases e
    cases r
    exact ⟨_, rfl, w.d0 _ _ rfl (.int _)⟩
  · cases e
def maxI : Int → List Int → Int
  | m, [] => m
  | m, n :: r => maxI (if n > m then n else m) r
def minI : Int → List Int → Int
  | m, [] => m
  | m, n :: r => minI (if n < m then n else m) r
def intsOf : List D → Option (List Int)
  | [] => some []
  | .int i :: r => (intsOf r).map (i :: ·)
  | _ :: _ => none
theorem intsOf_of : ∀ {ds : List D} {ns : List Int}, intsOf ds = some ns → ds = ns.map PyData.int
  | [], _, h => by
    cases h
    rfl
  | d :: r, ns, h => by
    cases d with
    | int i =>
      obtain ⟨ms, e, rfl⟩ := map_some (show (intsOf r).map (i :: ·) = some ns from h)
      rw [intsOf_of e]
      rfl
    | _ => cases h
theorem intsOf_map : ∀ ns : List Int, intsOf (ns.map PyData.int) = some ns
  | [] => rfl
  | n :: r => by
    show (intsOf (r.map PyData.int)).map (n :: ·) = _
    rw [intsOf_map r]
    rfl
theorem maxI_ge : ∀ (r : List Int) (m : Int), m ≤ maxI m r ∧ (∀ y ∈ r, y ≤ maxI m r) ∧ (maxI m r = m ∨ maxI m r ∈ r)
  | [], m => ⟨Int.le_refl m, (fun _ h => by cases h), Or.inl rfl⟩
  | n :: r, m => by
    obtain ⟨h1, h2, h3⟩ := maxI_ge r (if n > m then n else m)
    unfold maxI
    by_cases c : n > m
    · rw [if_pos c] at h1 h2 h3 ⊢
      refine ⟨by omega, fun y hy => ?_, ?_⟩
      · rcases List.mem_cons.mp hy with rfl | hy
        · exact h1
        · exact h2 y hy
      · rcases h3 with h3 | h3
        · rw [h3]; exact Or.inr List.mem_cons_self
        · exact Or.inr (List.mem_cons_of_mem _ h3)
    · rw [if_neg c] at h1 h2 h3 ⊢
      refine ⟨h1, fun y hy => ?_, ?_⟩
      · rcases List.mem_cons.mp hy with rfl | hy
        · omega
        · exact h2 y hy
      · rcases h3 with h3 | h3
        · exact Or.inl h3
        · exact Or.inr (List.mem_cons_of_mem _ h3)
theorem minI_le : ∀ (r : List Int) (m : Int), minI m r ≤ m ∧ (∀ y ∈ r, minI m r ≤ y) ∧ (minI m r = m ∨ minI m r ∈ r)
  | [], m => ⟨Int.le_refl m, (fun _ h => by cases h), Or.inl rfl⟩
  | n :: r, m => by
    obtain ⟨h1, h2, h3⟩ := minI_le r (if n < m then n else m)
    unfold minI
    by_cases c : n < m
    · rw [if_pos c] at h1 h2 h3 ⊢
      refine ⟨by omega, fun y hy => ?_, ?_⟩
      · rcases List.mem_cons.mp hy with rfl | hy
        · exact h1
        · exact h2 y hy
      · rcases h3 with h3 | h3
        · rw [h3]; exact Or.inr List.mem_cons_self
        · exact Or.inr (List.mem_cons_of_mem _ h3)
    · rw [if_neg c] at h1 h2 h3 ⊢
      refine ⟨h1, fun y hy => ?_, ?_⟩
      · rcases List.mem_cons.mp hy with rfl | hy
        · omega
        · exact h2 y hy
      · rcases h3 with h3 | h3
        · exact Or.inl h3
        · exact Or.inr (List.mem_cons_of_mem _ h3)
def maxD : List D → Option Sl
  | [.int i, .int j] => some (.d (.int (if j > i then j else i)))
  | [.list (.int i :: ds)] => (intsOf ds).map fun ns => .d (.int (maxI i ns))
  | _ => none
def minD : List D → Option Sl
  | [.int i, .int j] => some (.d (.int (if j < i then j else i)))
  | [.list (.int i :: ds)] => (intsOf ds).map fun ns => .d (.int (minI i ns))
  | _ => none
theorem callD_max (hc : X.calm = true) : CallD X (.builtin "max") maxD := by
  refine CallR.imp ((call_max2 hc).or (cr_max hc)) fun vs H Q ⟨Z, ds, s, rs, m, e, w⟩ => ?_
  unfold maxD at e
  split at e
  · obtain ⟨v, u, rfl, r, r'⟩ := rs.two_inv
    cases e
    cases r
    cases r'
    exact Or.inl ⟨_, _, rfl, w.d0 _ _ rfl (.int _)⟩
  · rename_i i ds
    obtain ⟨v, rfl, r⟩ := rs.one_inv
    obtain ⟨ns, e1, rfl⟩ := map_some e
    rw [intsOf_of e1] at r
    cases r with
    | lst g rs l =>
      have e2 : _ = (i :: ns).map V.int := RpA.of_ints rs
      rw [e2] at g
      refine Or.inr ⟨_, i :: ns, rfl, Or.inl (Or.inl (m _ _ g)), by simp, fun mm h1 h2 => ?_⟩
      obtain ⟨g1, g2, g3⟩ := maxI_ge ns i
      have a1 : maxI i ns ≤ mm := by
        rcases g3 with g3 | g3
        · rw [g3]; exact h2 i List.mem_cons_self
        · exact h2 _ (List.mem_cons_of_mem _ g3)
      have a2 : mm ≤ maxI i ns := by
        rcases List.mem_cons.mp h1 with rfl | h1
        · exact g1
        · exact g2 mm h1
      rw [Int.le_antisymm a2 a1]
      exact w.d0 _ _ rfl (.int _)
  · cases e
theorem callD_min (hc : X.calm = true) : CallD X (.builtin "min") minD := by
  refine CallR.imp ((call_min2 hc).or (cr_min hc)) fun vs H Q ⟨Z, ds, s, rs, m, e, w⟩ => ?_
  unfold minD at e
  split at e
  · obtain ⟨v, u, rfl, r, r'⟩ := rs.two_inv
    cases e
    cases r
    cases r'
    exact Or.inl ⟨_, _, rfl, w.d0 _ _ rfl (.int _)⟩
  · rename_i i ds
    obtain ⟨v, rfl, r⟩ := rs.one_inv
    obtain ⟨ns, e1, rfl⟩ := map_some e
    rw [intsOf_of e1] at r
    cases r with
    | lst g rs l =>
      have e2 : _ = (i :: ns).map V.int := RpA.of_ints rs
      rw [e2] at g
      refine Or.inr ⟨_, i :: ns, rfl, Or.inl (Or.inl (m _ _ g)), by simp, fun mm h1 h2 => ?_⟩
      obtain ⟨g1, g2, g3⟩ := minI_le ns i
      have a1 : mm ≤ minI i ns := by
        rcases g3 with g3 | g3
        · rw [g3]; exact h2 i List.mem_cons_self
        · exact h2 _ (List.mem_cons_of_mem _ g3)
      have a2 : minI i ns ≤ mm := by
        rcases List.mem_cons.mp h1 with rfl | h1
        · exact g1
        · exact g2 mm h1
      rw [Int.le_antisymm a1 a2]
      exact w.d0 _ _ rfl (.int _)
  · cases e
def intD : List D → Option Sl
  | [.int i] => some (.d (.int i))
  | [.bool b] => some (.d (.int (if b then 1 else 0)))
  | _ => none
theorem callD_int : CallD X (.type "int") intD := by
  refine CallR.imp call_int1 fun vs H Q ⟨Z, ds, s, rs, m, e, w⟩ => ?_
  unfold intD at e
  split at e
  · obtain ⟨v, rfl, r⟩ := rs.one_inv
    cases e
    cases r
    exact Or.inl ⟨_, rfl, w.d0 _ _ rfl (.int _)⟩
  · obtain ⟨v, rfl, r⟩ := rs.one_inv
    cases e
    cases r
    exact Or.inr ⟨_, rfl, w.d0 _ _ rfl (.int _)⟩
  · cases e
def strD : List D → Option Sl
  | [.int i] => if i.natAbs.log2 < 1920 then some (.d (.str (toString i))) else none
  | _ => none
theorem callD_str : CallD X (.type "str") strD := by
  refine CallR.imp call_str_int fun vs H Q ⟨Z, ds, s, rs, m, e, w⟩ => ?_
  unfold strD at e
  split at e
  · obtain ⟨v, rfl, r⟩ := rs.one_inv
    obtain ⟨q, rfl⟩ := ite_some e
    cases r
    exact ⟨_, rfl, q, w.d0 _ _ rfl (.str _)⟩
  · cases e
def tupD : List D → Option Sl
  | [.list xs] => some (.d (.tuple xs))
  | [.tuple xs] => some (.d (.tuple xs))
  | _ => none
def lstD : List D → Option Sl
  | [.list xs] => some (.own false xs)
  | [.tuple xs] => some (.own false xs)
  | _ => none
theorem callD_tuple : CallD X (.type "tuple") tupD := by
  refine CallR.imp call_tuple_of fun vs H Q ⟨Z, ds, s, rs, m, e, w⟩ => ?_
  unfold tupD at e
  split at e
  · obtain ⟨v, rfl, r⟩ := rs.one_inv
    cases e
    cases r with
    | lst g rs l => exact ⟨_, _, rfl, Or.inl ⟨Or.inl (Or.inl (m _ _ g)), fun p n => w.tup m n rs l⟩⟩
  · obtain ⟨v, rfl, r⟩ := rs.one_inv
    cases e
    cases r with
    | tup g rs l => exact ⟨_, _, rfl, Or.inr ⟨Or.inl (Or.inl (m _ _ g)), w.d0 _ _ rfl (.tup g rs l)⟩⟩
  · cases e
theorem callD_list : CallD X (.type "list") lstD := by
  refine CallR.imp call_list_of fun vs H Q ⟨Z, ds, s, rs, m, e, w⟩ => ?_
  unfold lstD at e
  split at e
  · obtain ⟨v, rfl, r⟩ := rs.one_inv
    cases e
    cases r with
    | lst g rs l => exact ⟨_, _, rfl, Or.inl (Or.inl (Or.inl (m _ _ g))), fun p n => w.oN _ _ _ rfl n rs l⟩
  · obtain ⟨v, rfl, r⟩ := rs.one_inv
    cases e
    cases r with
    | tup g rs l => exact ⟨_, _, rfl, Or.inr (Or.inl (Or.inl (m _ _ g))), fun p n => w.oN _ _ _ rfl n rs l⟩
  · cases e
def sumD : List D → Option Sl
  | [.list ds] => (intsOf ds).map fun ns => .d (.int ns.sum)
  | _ => none
theorem callD_sum (hc : X.calm = true) : CallD X (.builtin "sum") sumD := by
  refine CallR.imp (cr_sum hc) fun vs H Q ⟨Z, ds, s, rs, m, e, w⟩ => ?_
  unfold sumD at e
  split at e
  · obtain ⟨v, rfl, r⟩ := rs.one_inv
    obtain ⟨ns, e1, rfl⟩ := map_some e
    rw [intsOf_of e1] at r
    cases r with
    | lst g rs l =>
      rw [RpA.of_ints rs] at g
      exact ⟨_, ns, rfl, Or.inl (Or.inl (m _ _ g)), w.d0 _ _ rfl (.int _)⟩
  · cases e
/-- tuple(range(..)), list(range(..)) -/
def rgD (a b : Int) : List D := (List.range (b - a).toNat).map fun i => .int (a + (i : Nat))
theorem rgD_ints (a b : Int) : rgD a b = ((List.range (b - a).toNat).map fun i => a + ((i : Nat) : Int)).map PyData.int := by
  unfold rgD
  rw [List.map_map]
  rfl
theorem rg_rp {K : PySem.W.Frag} {Z : Hp} (a b : Int) : RpA K Z (rgV a b) (rgD a b) := by
  have e : rgV a b = ((List.range (b - a).toNat).map fun i => a + ((i : Nat) : Int)).map V.int := by
    unfold rgV
    rw [List.map_map]
    rfl
  rw [e, rgD_ints]
  exact RpA.ints _
theorem rgD_len (a b : Int) : (rgD a b).length = (b - a).toNat := by
  unfold rgD
  rw [List.length_map, List.length_range]
def rgB (n : Int) : Bool := decide (-(2 ^ 62) ≤ n ∧ n ≤ 16777216)
def eTupRg (T : ET) : ET := fun ρ k => T ρ (asD fun x ρ1 => ∃ n, x = .int n ∧ rgB n = true ∧ k (.d (.tuple (rgD 0 n))) ρ1)
def eLstRg (T : ET) : ET := fun ρ k => T ρ (asD fun x ρ1 => ∃ n, x = .int n ∧ rgB n = true ∧ k (.own false (rgD 0 n)) ρ1)
theorem rgB_ok {n : Int} (h : rgB n = true) : RgOk 0 n := by
  have q : -(2 ^ 62) ≤ n ∧ n ≤ 16777216 := of_decide_eq_true h
  refine ⟨by omega, by omega, q.1, by omega, ?_⟩
  omega
theorem rg_size {n : Int} (h : rgB n = true) : (rgD 0 n).length ≤ sizeLine := by
  have q : -(2 ^ 62) ≤ n ∧ n ≤ 16777216 := of_decide_eq_true h
  rw [rgD_len, sizeLine_eq]
  omega
theorem de_tupRg {p p2 pos2 : Pos} (hc : X.calm = true) (hm : X.mg "tuple" = none) (hm2 : X.mg "range" = none) (ha : DE X C a Ta) (hg : Gl X "tuple" := by rfl) (hg2 : Gl X "range" := by rfl) (n1 : starEach [.Call (.Name "range" p2) [a] [] pos2] X.env = (false, eval (.Call (.Name "range" p2) [a] [] pos2) X.env) :: starEach [] X.env := by rfl)
    (n2 : starEach [a] X.env = (false, eval a X.env) :: starEach [] X.env := by rfl) : DE X C (.Call (.Name "tuple" p) [.Call (.Name "range" p2) [a] [] pos2] [] pos) (eTupRg Ta) := by
  refine ⟨fun ρ k k' hk q => ha.mono ρ _ _ (fun s ρ1 q1 => asD.imp (fun x ρ1 ⟨n, e, h, q2⟩ => ⟨n, e, h, hk _ _ q2⟩) q1) q, PE.imp (pe_tupRg hc hg hm (prg_1 hg2 hm2 ha.run n2) n1) fun σ H Q w => ?_⟩
  obtain ⟨Z, ρ, R, w⟩ := w
  refine rdE.go ha.mono R w fun s1 ρ1 v Z1 H1 q1 m1 R1 w1 => ?_
  obtain ⟨x, Z2, ⟨n, rfl, hn, q2⟩, m2, R2, rx⟩ := w1.give R1 q1
  cases rx
  refine ⟨n, rfl, rgB_ok hn, fun q nq => ?_⟩
  exact (Res.of R2 fun v' Z' H' m R' w' => q2 v' Z' H' (m1.trans (m2.trans m)) R' w').tup R2.b.le nq (rg_rp 0 n) (rg_size hn)
theorem de_lstRg {p p2 pos2 : Pos} (hc : X.calm = true) (hm : X.mg "list" = none) (hm2 : X.mg "range" = none) (ha : DE X C a Ta) (hg : Gl X "list" := by rfl) (hg2 : Gl X "range" := by rfl) (n1 : starEach [.Call (.Name "range" p2) [a] [] pos2] X.env = (false, eval (.Call (.Name "range" p2) [a] [] pos2) X.env) :: starEach [] X.env := by rfl)
    (n2 : starEach [a] X.env = (false, eval a X.env) :: starEach [] X.env := by rfl) : DE X C (.Call (.Name "list" p) [.Call (.Name "range" p2) [a] [] pos2] [] pos) (eLstRg Ta) := by
  refine ⟨fun ρ k k' hk q => ha.mono ρ _ _ (fun s ρ1 q1 => asD.imp (fun x ρ1 ⟨n, e, h, q2⟩ => ⟨n, e, h, hk _ _ q2⟩) q1) q, PE.imp (pe_listRg hc hg hm (prg_1 hg2 hm2 ha.run n2) n1) fun σ H Q w => ?_⟩
  obtain ⟨Z, ρ, R, w⟩ := w
  refine rdE.go ha.mono R w fun s1 ρ1 v Z1 H1 q1 m1 R1 w1 => ?_
  obtain ⟨x, Z2, ⟨n, rfl, hn, q2⟩, m2, R2, rx⟩ := w1.give R1 q1
  cases rx
  refine ⟨n, rfl, rgB_ok hn, fun q nq => ?_⟩
  exact (Res.of R2 fun v' Z' H' m R' w' => q2 v' Z' H' (m1.trans (m2.trans m)) R' w').oN q _ _ rfl nq (rg_rp 0 n) (rg_size hn)
/-- - e -/
def eNeg (T : ET) : ET := fun ρ k => T ρ (asD fun x ρ1 => ∃ n, x = .int n ∧ k (.d (.int (-n))) ρ1)
theorem de_neg (ha : DE X C a Ta) : DE X C (.UnaryOp .USub a pos) (eNeg Ta) := by
  refine ⟨fun ρ k k' hk q => ha.mono ρ _ _ (fun s ρ1 q1 => asD.imp (fun x ρ1 ⟨n, e, q2⟩ => ⟨n, e, hk _ _ q2⟩) q1) q, PE.imp (pe_un un_neg ha.run) fun σ H Q w => ?_⟩
  obtain ⟨Z, ρ, R, w⟩ := w
  refine rdE.go ha.mono R w fun s1 ρ1 v Z1 H1 q1 m1 R1 w1 => ?_
  obtain ⟨x, Z2, ⟨n, rfl, q2⟩, m2, R2, rx⟩ := w1.give R1 q1
  cases rx
  exact ⟨n, rfl, q2 _ Z2 H1 (m1.trans m2) R2 (.ofD (.int _))⟩
end
end Dl

set_option Elab.async false
set_option linter.all false
set_option maxRecDepth 100000
set_option autoImplicit false
set_option maxHeartbeats 1000000
namespace Dl
open PySem PySem.Spec PyProof.Rows L2

/-! ### an own object is written -/
section
variable {K : PySem.W.Frag} {C C' : Ctx} {Z Z' H H' : Hp} {σ σ' : Sg} {ρ ρ' : Rho} {i j : Nat} {s t : Sl} {a : Addr} {o : HO}
theorem RB.rewrite {v : Option V} (R : RB K C Z σ H ρ) (hs : ρ[i]? = some s) (hv : σ[i]? = some v) (es : ownA v s = some a) (et : ownA v t = some a) (ht : SlO K C Z (upd H a o) i v t) : RB K C Z σ (upd H a o) (ρ.set i t) := by
  have oi : OA σ ρ i a := ⟨s, v, hs, hv, es⟩
  have li : i < ρ.length := (List.getElem?_eq_some_iff.mp hs).1
  have low : ∀ {j b}, OA σ (ρ.set i t) j b → OA σ ρ j b := fun {j b} ⟨s', w, e1, e2, q⟩ => by
    by_cases hj : j = i
    · subst hj
      rw [List.getElem?_set_self li] at e1
      cases e1
      rw [hv] at e2
      cases e2
      rw [et] at q
      cases q
      exact oi
    · rw [List.getElem?_set_ne (Ne.symm hj)] at e1
      exact ⟨s', w, e1, e2, q⟩
  refine ⟨R.b.write (R.oaSt oi).1 (R.oaSt oi).2.2, by simp [R.s.len], fun j s' w e1 e2 => ?_, fun j k b h1 h2 => R.s.inj j k b (low h1) (low h2)⟩
  by_cases hj : j = i
  · subst hj
    rw [List.getElem?_set_self li] at e1
    cases e1
    rw [hv] at e2
    cases e2
    exact ht
  · rw [List.getElem?_set_ne (Ne.symm hj)] at e1
    refine (R.s.slot j s' w e1 e2).keep (Same.refl Z) (fun b q => ?_) fun b p q ow => ow
    rw [upd_ne]
    exact fun z => hj (R.s.inj j i a ⟨s', w, e1, e2, z ▸ q⟩ oi)
theorem RB.writeL {p : Bool} {xs ys : List D} {vs : List V} (R : RB K C Z σ H ρ) (hs : ρ[i]? = some (.own p xs)) (hv : σ[i]? = some (some (.ref a))) (r : RpA K Z vs ys) (l : ys.length ≤ sizeLine) : RB K C Z σ (upd H a (.lst vs)) (ρ.set i (.own p ys)) := by
  obtain ⟨v, hv', b, ws, e, hb, r', l', ow⟩ := R.s.slotAt hs
  rw [hv] at hv'
  cases hv'
  cases e
  exact R.rewrite hs hv rfl rfl ⟨a, vs, rfl, upd_same, r, l, ow⟩
theorem RB.ownAt {p : Bool} {xs : List D} (R : RB K C Z σ H ρ) (hs : ρ[i]? = some (.own p xs)) : ∃ a vs, σ[i]? = some (some (.ref a)) ∧ H a = some (.lst vs) ∧ RpA K Z vs xs ∧ xs.length ≤ sizeLine := by
  obtain ⟨v, hv, b, ws, e, hb, r, l, ow⟩ := R.s.slotAt hs
  subst e
  exact ⟨b, ws, hv, hb, r, l⟩
end
section
variable {X : Cx} {C : Ctx} {e a b c : Expr} {es : List Expr} {T Ta Tb Tv : ET} {pos cpos apos np : Pos} {x : Str} {i : Nat}
/-- xs.append(e), xs a name's own list -/
def eApp (i : Nat) (T : ET) : ET := fun ρ k => match ρ[i]? with
  | some (.own _ _) => T ρ (asD fun y ρ1 => match ρ1[i]? with
    | some (.own p xs) => xs.length < sizeLine ∧ k (.d .none) (ρ1.set i (.own p (xs ++ [y])))
    | _ => False)
  | _ => False
theorem mono_app (h : MonoE T) : MonoE (eApp i T) := fun ρ k k' hk q => by
  unfold eApp at q ⊢
  split at q
  · refine h ρ _ _ (fun s ρ1 q1 => asD.imp (fun y ρ1 q2 => ?_) q1) q
    split at q2
    · exact ⟨q2.1, hk _ _ q2.2⟩
    · exact q2
  · exact q
theorem de_append (h : DE X C e T) (hN : X.N[i]? = some x := by rfl) (hv : Vis X.env.scope x := by first | exact Or.inl rfl | exact Or.inr (Or.inl rfl) | exact Or.inr (Or.inr rfl)) (hd : (x == ("__debug__" : Str)) = false := by decide) (hcd : (x == ("__classdict__" : Str)) = false := by decide)
    (hbase : attributeBase (.Name x np) "append" X.env (eval (.Name x np) X.env) = eval (.Name x np) X.env := by rfl)
    (hfew : ((backTo cpos (starEach [e] X.env)).all (fun x => !x.1) && (backToKw cpos (keywordEach [] X.env)).all (fun x => x.1.isSome) && decide (([e] : List Expr).length + ([] : List Keyword).length + (if ([] : List Keyword).isEmpty then 0 else 1) < 30)) = true := by rfl)
    (hline : (apos.endLine == cpos.line) = true := by rfl) (hs : starEach [e] X.env = (false, eval e X.env) :: starEach [] X.env := by rfl) (hplain : (backTo cpos (starEach ([] : List Expr) X.env)).any (·.1) = false := by rfl) :
    DE X C (.Call (.Attribute (.Name x np) "append" apos) [e] [] cpos) (eApp i T) := by
  refine ⟨mono_app h.mono, PE.imp (pe_bm PySem.F.plainAttrs_list PySem.F.slot_list_append PySem.F.type_list_append mt_append (pe_var hN hv hd hcd) (pa_cons h.run pa_nil hs) hbase hfew hline hs hplain) fun σ H Q w => ?_⟩
  obtain ⟨Z, ρ, R, w⟩ := w
  unfold eApp at w
  split at w
  · rename_i p0 xs0 hx0
    obtain ⟨a, vs0, hv0, hb0, _, _⟩ := R.ownAt hx0
    refine ⟨_, hv0, Or.inl ⟨rfl, _, Or.inl (Or.inl hb0)⟩, rdE.go h.mono R w fun s1 ρ1 v Z1 H1 q1 m1 R1 w1 => ?_⟩
    obtain ⟨y, Z2, q2, m2, R2, ry⟩ := w1.give R1 q1
    split at q2
    · rename_i p xs hx
      obtain ⟨a', vs, hv1, hb, r, l⟩ := R2.ownAt hx
      rw [hv0] at hv1
      cases hv1
      refine ⟨a, vs, v, rfl, rfl, hb, by rw [r.len]; exact q2.1, ?_⟩
      exact q2.2 _ Z2 _ (m1.trans m2) (R2.writeL hx hv0 (r.app (.one ry)) (by rw [List.length_append]; exact q2.1)) (.ofD .non)
    · exact q2.elim
  · exact w.elim
/-- xs.extend(ys) -/
def eExt (i : Nat) (T : ET) : ET := fun ρ k => match ρ[i]? with
  | some (.own _ _) => T ρ (asD fun y ρ1 => match y, ρ1[i]? with
    | .list ys, some (.own p xs) => xs.length + ys.length ≤ sizeLine ∧ k (.d .none) (ρ1.set i (.own p (xs ++ ys)))
    | _, _ => False)
  | _ => False
theorem mono_ext (h : MonoE T) : MonoE (eExt i T) := fun ρ k k' hk q => by
  unfold eExt at q ⊢
  split at q
  · refine h ρ _ _ (fun s ρ1 q1 => asD.imp (fun y ρ1 q2 => ?_) q1) q
    split at q2
    · exact ⟨q2.1, hk _ _ q2.2⟩
    · exact q2
  · exact q
theorem de_extend (h : DE X C e T) (hN : X.N[i]? = some x := by rfl) (hv : Vis X.env.scope x := by first | exact Or.inl rfl | exact Or.inr (Or.inl rfl) | exact Or.inr (Or.inr rfl)) (hd : (x == ("__debug__" : Str)) = false := by decide) (hcd : (x == ("__classdict__" : Str)) = false := by decide)
    (hbase : attributeBase (.Name x np) "extend" X.env (eval (.Name x np) X.env) = eval (.Name x np) X.env := by rfl)
    (hfew : ((backTo cpos (starEach [e] X.env)).all (fun x => !x.1) && (backToKw cpos (keywordEach [] X.env)).all (fun x => x.1.isSome) && decide (([e] : List Expr).length + ([] : List Keyword).length + (if ([] : List Keyword).isEmpty then 0 else 1) < 30)) = true := by rfl)
    (hline : (apos.endLine == cpos.line) = true := by rfl) (hs : starEach [e] X.env = (false, eval e X.env) :: starEach [] X.env := by rfl) (hplain : (backTo cpos (starEach ([] : List Expr) X.env)).any (·.1) = false := by rfl) :
    DE X C (.Call (.Attribute (.Name x np) "extend" apos) [e] [] cpos) (eExt i T) := by
  refine ⟨mono_ext h.mono, PE.imp (pe_bm PySem.F.plainAttrs_list PySem.F.slot_list_extend PySem.F.type_list_extend mt_extend (pe_var hN hv hd hcd) (pa_cons h.run pa_nil hs) hbase hfew hline hs hplain) fun σ H Q w => ?_⟩
  obtain ⟨Z, ρ, R, w⟩ := w
  unfold eExt at w
  split at w
  · rename_i p0 xs0 hx0
    obtain ⟨a, vs0, hv0, hb0, _, _⟩ := R.ownAt hx0
    refine ⟨_, hv0, Or.inl ⟨rfl, _, Or.inl (Or.inl hb0)⟩, rdE.go h.mono R w fun s1 ρ1 v Z1 H1 q1 m1 R1 w1 => ?_⟩
    obtain ⟨y, Z2, q2, m2, R2, ry⟩ := w1.give R1 q1
    split at q2
    · rename_i ys p xs hx
      obtain ⟨a', vs, hv1, hb, r, l⟩ := R2.ownAt hx
      rw [hv0] at hv1
      cases hv1
      cases ry with
      | lst g rs lg =>
        refine ⟨a, _, vs, _, rfl, rfl, hb, R2.b.le _ _ g, by rw [r.len, rs.len]; exact q2.1, ?_⟩
        exact q2.2 _ Z2 _ (m1.trans m2) (R2.writeL hx hv0 (r.app rs) (by rw [List.length_append]; exact q2.1)) (.ofD .non)
    · exact q2.elim
  · exact w.elim
/-- xs.pop() -/
def ePop (i : Nat) : ET := fun ρ k => match ρ[i]? with
  | some (.own p xs) => (match xs[xs.length - 1]? with
    | some y => k (.d y) (ρ.set i (.own p xs.dropLast))
    | none => False)
  | _ => False
theorem mono_pop : MonoE (ePop i) := fun ρ k k' hk q => by
  unfold ePop at q ⊢
  split at q
  · split at q
    · exact hk _ _ q
    · exact q
  · exact q
theorem de_pop (hN : X.N[i]? = some x := by rfl) (hv : Vis X.env.scope x := by first | exact Or.inl rfl | exact Or.inr (Or.inl rfl) | exact Or.inr (Or.inr rfl)) (hd : (x == ("__debug__" : Str)) = false := by decide) (hcd : (x == ("__classdict__" : Str)) = false := by decide)
    (hbase : attributeBase (.Name x np) "pop" X.env (eval (.Name x np) X.env) = eval (.Name x np) X.env := by rfl)
    (hline : (apos.endLine == cpos.line) = true := by rfl) :
    DE X C (.Call (.Attribute (.Name x np) "pop" apos) [] [] cpos) (ePop i) := by
  refine ⟨mono_pop, PE.imp (pe_bm0 PySem.F.plainAttrs_list PySem.F.slot_list_pop PySem.F.type_list_pop mt_pop (pe_var hN hv hd hcd) hbase hline) fun σ H Q w => ?_⟩
  obtain ⟨Z, ρ, R, w⟩ := w
  unfold ePop at w
  split at w
  · rename_i p xs hx
    obtain ⟨a, vs, hv0, hb, r, l⟩ := R.ownAt hx
    split at w
    · rename_i y hy
      obtain ⟨v, hv, ry⟩ := r.get hy
      rw [← r.len] at hv
      refine ⟨_, hv0, Or.inl ⟨rfl, _, Or.inl (Or.inl hb)⟩, a, vs, v, rfl, rfl, hb, hv, ?_⟩
      exact w _ Z _ (Same.refl Z) (R.writeL hx hv0 r.dropLast (by rw [List.length_dropLast]; omega)) (.ofD ry)
    · exact w.elim
  · exact w.elim
/-- xs.pop(e) -/
def ePopAt (i : Nat) (T : ET) : ET := fun ρ k => match ρ[i]? with
  | some (.own _ _) => T ρ (asD fun y ρ1 => match y, ρ1[i]? with
    | .int j, some (.own p xs) => ∃ (n : Nat) (z : D), j = (n : Int) ∧ xs[n]? = some z ∧ k (.d z) (ρ1.set i (.own p (xs.eraseIdx n)))
    | _, _ => False)
  | _ => False
theorem mono_popAt (h : MonoE T) : MonoE (ePopAt i T) := fun ρ k k' hk q => by
  unfold ePopAt at q ⊢
  split at q
  · refine h ρ _ _ (fun s ρ1 q1 => asD.imp (fun y ρ1 q2 => ?_) q1) q
    split at q2
    · obtain ⟨n, z, e1, e2, q3⟩ := q2
      exact ⟨n, z, e1, e2, hk _ _ q3⟩
    · exact q2
  · exact q
theorem seq_nat {n m : Nat} (h : n < m) : seqIndex? (n : Int) m = some n := by
  unfold seqIndex?
  have h0 : ¬ ((n : Int) < 0) := by omega
  simp only [h0, if_false]
  have h1 : (0 : Int) ≤ (n : Int) := by omega
  have h2 : (n : Int) < (m : Int) := by omega
  simp [h1, h2]
theorem de_popAt (h : DE X C e T) (hN : X.N[i]? = some x := by rfl) (hv : Vis X.env.scope x := by first | exact Or.inl rfl | exact Or.inr (Or.inl rfl) | exact Or.inr (Or.inr rfl)) (hd : (x == ("__debug__" : Str)) = false := by decide) (hcd : (x == ("__classdict__" : Str)) = false := by decide)
    (hbase : attributeBase (.Name x np) "pop" X.env (eval (.Name x np) X.env) = eval (.Name x np) X.env := by rfl)
    (hfew : ((backTo cpos (starEach [e] X.env)).all (fun x => !x.1) && (backToKw cpos (keywordEach [] X.env)).all (fun x => x.1.isSome) && decide (([e] : List Expr).length + ([] : List Keyword).length + (if ([] : List Keyword).isEmpty then 0 else 1) < 30)) = true := by rfl)
    (hline : (apos.endLine == cpos.line) = true := by rfl) (hs : starEach [e] X.env = (false, eval e X.env) :: starEach [] X.env := by rfl) (hplain : (backTo cpos (starEach ([] : List Expr) X.env)).any (·.1) = false := by rfl) :
    DE X C (.Call (.Attribute (.Name x np) "pop" apos) [e] [] cpos) (ePopAt i T) := by
  refine ⟨mono_popAt h.mono, PE.imp (pe_bm PySem.F.plainAttrs_list PySem.F.slot_list_pop PySem.F.type_list_pop mt_popAt (pe_var hN hv hd hcd) (pa_cons h.run pa_nil hs) hbase hfew hline hs hplain) fun σ H Q w => ?_⟩
  obtain ⟨Z, ρ, R, w⟩ := w
  unfold ePopAt at w
  split at w
  · rename_i p0 xs0 hx0
    obtain ⟨a, vs0, hv0, hb0, _, _⟩ := R.ownAt hx0
    refine ⟨_, hv0, Or.inl ⟨rfl, _, Or.inl (Or.inl hb0)⟩, rdE.go h.mono R w fun s1 ρ1 v Z1 H1 q1 m1 R1 w1 => ?_⟩
    obtain ⟨y, Z2, q2, m2, R2, ry⟩ := w1.give R1 q1
    split at q2
    · rename_i j p xs hx
      obtain ⟨n, z, rfl, hz, q3⟩ := q2
      obtain ⟨a', vs, hv1, hb, r, l⟩ := R2.ownAt hx
      rw [hv0] at hv1
      cases hv1
      cases ry
      obtain ⟨u, hu, ru⟩ := r.get hz
      have hn : n < vs.length := (List.getElem?_eq_some_iff.mp hu).1
      have hsz := sizeLine_eq
      have hl := r.len
      refine ⟨a, vs, _, n, u, rfl, rfl, hb, by omega, by omega, seq_nat hn, hu, ?_⟩
      exact q3 _ Z2 _ (m1.trans m2) (R2.writeL hx hv0 (r.erase n) (Nat.le_trans (L2.len_erase _ _) l)) (.ofD ru)
    · exact q2.elim
  · exact w.elim
/-- xs.index(e): the first place -/
def eIndex (Ta Tb : ET) : ET := fun ρ k => Ta ρ (asD fun x ρ1 => ∃ ds : List D, x = .list ds ∧ SeqAt.shaped (.list ds) = true ∧ Tb ρ1 (asD fun y ρ2 => ∃ j : Nat, SeqAt.shaped y = true ∧ (ds.findIdx? fun z => PyData.eqv z y) = some j ∧ k (.d (.int (j : Nat))) ρ2))
theorem mono_index (ha : MonoE Ta) (hb : MonoE Tb) : MonoE (eIndex Ta Tb) := fun ρ k k' hk q =>
  ha ρ _ _ (fun s ρ1 q1 => asD.imp (fun x ρ1 ⟨ds, e0, e1, q2⟩ => ⟨ds, e0, e1, hb ρ1 _ _ (fun s ρ2 q3 => asD.imp (fun y ρ2 ⟨j, e2, e3, q4⟩ => ⟨j, e2, e3, hk _ _ q4⟩) q3) q2⟩) q1) q
theorem de_index (hu : X.A.units + 65 < cLine) (ha : DE X C a Ta) (hb : DE X C b Tb)
    (hbase : attributeBase a "index" X.env (eval a X.env) = eval a X.env := by rfl)
    (hfew : ((backTo cpos (starEach [b] X.env)).all (fun x => !x.1) && (backToKw cpos (keywordEach [] X.env)).all (fun x => x.1.isSome) && decide (([b] : List Expr).length + ([] : List Keyword).length + (if ([] : List Keyword).isEmpty then 0 else 1) < 30)) = true := by rfl)
    (hline : (apos.endLine == cpos.line) = true := by rfl) (hs : starEach [b] X.env = (false, eval b X.env) :: starEach [] X.env := by rfl) (hplain : (backTo cpos (starEach ([] : List Expr) X.env)).any (·.1) = false := by rfl) :
    DE X C (.Call (.Attribute a "index" apos) [b] [] cpos) (eIndex Ta Tb) := by
  refine ⟨mono_index ha.mono hb.mono, PE.imp (pe_bm PySem.F.plainAttrs_list PySem.F.slot_list_index PySem.F.type_list_index (mt_indexD hu) ha.run (pa_cons hb.run pa_nil hs) hbase hfew hline hs hplain) fun σ H Q w => ?_⟩
  obtain ⟨Z, ρ, R, w⟩ := w
  refine rdE.go ha.mono R w fun s1 ρ1 v Z1 H1 q1 m1 R1 w1 => ?_
  obtain ⟨x, Z2, ⟨ds, rfl, sh, q2⟩, m2, R2, rx⟩ := w1.give R1 q1
  have dx := rx.dp R2.b.le (shaped_lay sh)
  cases rx with
  | lst g rs l =>
    refine ⟨Or.inl ⟨rfl, _, Or.inl (Or.inl (R2.b.le _ _ g))⟩, rdE.go hb.mono R2 q2 fun s3 ρ3 u Z3 H3 q3 m3 R3 w3 => ?_⟩
    obtain ⟨y, Z4, ⟨j, sy, hf, q4⟩, m4, R4, ry⟩ := w3.give R3 q3
    obtain ⟨hj, hy, hno⟩ := List.findIdx?_eq_some_iff_getElem.mp hf
    have dx' : Dp X.K H3 _ (.list ds) := (Rp.lst ((m3.trans m4) _ _ g) (rs.mono (m3.trans m4)) l : Rp X.K Z4 _ (.list ds)).dp R4.b.le (shaped_lay sh)
    refine ⟨_, u, y, ds, j, ds[j], rfl, rfl, dx', ry.dp R4.b.le (shaped_lay sy), sh, sy, List.getElem?_eq_getElem hj, hy, fun n z hn hz => ?_, ?_⟩
    · obtain ⟨hn', ez⟩ := List.getElem?_eq_some_iff.mp hz
      have hq := hno n hn
      rw [ez] at hq
      simpa using hq
    · exact q4 _ Z4 H3 (m1.trans (m2.trans (m3.trans m4))) R4 (.ofD (.int _))
/-- xs.split(e), a new list of texts -/
def eSplit (Ta Tb : ET) : ET := fun ρ k => Ta ρ (asD fun x ρ1 => ∃ y : Str, x = .str y ∧ Tb ρ1 (asD fun z ρ2 => ∃ b : Str, z = .str b ∧ (b.length == 0) = false ∧ y.length + 2 ≤ sizeLine ∧ (Txt.split y b).length ≤ sizeLine ∧ k (.own false ((Txt.split y b).map .str)) ρ2))
theorem de_split (ha : DE X C a Ta) (hb : DE X C b Tb)
    (h : ∀ {to te : TE}, PE X a to → PE X b te → PE X (.Call (.Attribute a "split" apos) [b] [] cpos) (tM1 (fun x xs H Q => ∃ a b, x = .str a ∧ xs = [.str b] ∧ (b.length == 0) = false ∧ a.length + 2 ≤ sizeLine ∧ rNewStrs (Txt.split a b) H Q) to te) := by intro _ _ h1 h2; exact pe_split h1 h2) :
    DE X C (.Call (.Attribute a "split" apos) [b] [] cpos) (eSplit Ta Tb) := by
  refine ⟨fun ρ k k' hk q => ha.mono ρ _ _ (fun s ρ1 q1 => asD.imp (fun x ρ1 ⟨y, e1, q2⟩ => ⟨y, e1, hb.mono ρ1 _ _ (fun s ρ2 q3 => asD.imp (fun z ρ2 ⟨b, e2, e3, e4, e5, q4⟩ => ⟨b, e2, e3, e4, e5, hk _ _ q4⟩) q3) q2⟩) q1) q,
    PE.imp (h ha.run hb.run) fun σ H Q w => ?_⟩
  obtain ⟨Z, ρ, R, w⟩ := w
  refine rdE.go ha.mono R w fun s1 ρ1 v Z1 H1 q1 m1 R1 w1 => ?_
  obtain ⟨x, Z2, ⟨y, rfl, q2⟩, m2, R2, rx⟩ := w1.give R1 q1
  cases rx
  refine ⟨⟨y, rfl⟩, rdE.go hb.mono R2 q2 fun s3 ρ3 u Z3 H3 q3 m3 R3 w3 => ?_⟩
  obtain ⟨z, Z4, ⟨b', rfl, h1, h2, h3, q4⟩, m4, R4, rz⟩ := w3.give R3 q3
  cases rz
  refine ⟨y, b', rfl, rfl, h1, h2, fun p n => ?_⟩
  exact (Res.of R4 fun v' Z' H' m R' w' => q4 v' Z' H' (m1.trans (m2.trans (m3.trans (m4.trans m)))) R' w').oN p _ _ rfl n (RpA.strs _) (by rw [List.length_map]; exact h3)
/-- sep.join(xs) -/
def eJoin (Ta Tb : ET) : ET := fun ρ k => Ta ρ (asD fun x ρ1 => ∃ y : Str, x = .str y ∧ Tb ρ1 (asD fun z ρ2 => ∃ ys : List Str, (z = .list (ys.map .str) ∨ z = .tuple (ys.map .str)) ∧ (ys.map (·.length)).sum + ys.length * y.length ≤ 16777216 ∧ k (.d (.str (Txt.join y ys))) ρ2))
theorem de_join (ha : DE X C a Ta) (hb : DE X C b Tb)
    (h : ∀ {to te : TE}, PE X a to → PE X b te → PE X (.Call (.Attribute a "join" apos) [b] [] cpos) (tM1 (fun x xs H Q => ∃ a p, ∃ ys : List Str, x = .str a ∧ xs = [.ref p] ∧ (SqL X.K H p (ys.map V.str) ∨ SqT X.K H p (ys.map V.str)) ∧ (ys.map (·.length)).sum + ys.length * a.length ≤ 16777216 ∧ Q (.str (Txt.join a ys)) H) to te) := by intro _ _ h1 h2; exact pe_join h1 h2) :
    DE X C (.Call (.Attribute a "join" apos) [b] [] cpos) (eJoin Ta Tb) := by
  refine ⟨fun ρ k k' hk q => ha.mono ρ _ _ (fun s ρ1 q1 => asD.imp (fun x ρ1 ⟨y, e1, q2⟩ => ⟨y, e1, hb.mono ρ1 _ _ (fun s ρ2 q3 => asD.imp (fun z ρ2 ⟨b, e2, e3, q4⟩ => ⟨b, e2, e3, hk _ _ q4⟩) q3) q2⟩) q1) q,
    PE.imp (h ha.run hb.run) fun σ H Q w => ?_⟩
  obtain ⟨Z, ρ, R, w⟩ := w
  refine rdE.go ha.mono R w fun s1 ρ1 v Z1 H1 q1 m1 R1 w1 => ?_
  obtain ⟨x, Z2, ⟨y, rfl, q2⟩, m2, R2, rx⟩ := w1.give R1 q1
  cases rx
  refine ⟨⟨y, rfl⟩, rdE.go hb.mono R2 q2 fun s3 ρ3 u Z3 H3 q3 m3 R3 w3 => ?_⟩
  obtain ⟨z, Z4, ⟨ys, hz, h1, q4⟩, m4, R4, rz⟩ := w3.give R3 q3
  have fin := q4 (.str (Txt.join y ys)) Z4 H3 (m1.trans (m2.trans (m3.trans m4))) R4 (.ofD (.str _))
  rcases hz with rfl | rfl
  · cases rz with
    | lst g rs l =>
      rw [RpA.of_strs rs] at g
      exact ⟨y, _, ys, rfl, rfl, Or.inl (Or.inl (Or.inl (R4.b.le _ _ g))), h1, fin⟩
  · cases rz with
    | tup g rs l =>
      rw [RpA.of_strs rs] at g
      exact ⟨y, _, ys, rfl, rfl, Or.inr (Or.inl (Or.inl (R4.b.le _ _ g))), h1, fin⟩
end
end Dl

set_option Elab.async false
set_option linter.all false
set_option maxRecDepth 100000
set_option autoImplicit false
set_option maxHeartbeats 1000000
namespace Dl
open PySem PySem.Spec PyProof.Rows L2

/-! ### statements -/
structure EndD where
  nx : Rho → Prop
  rt : Sl → Rho → Prop
  bk : Rho → Prop := fun _ => False
  ct : Rho → Prop := fun _ => False
abbrev ST := EndD → Rho → Prop
structure EndD.Le (E E' : EndD) : Prop where
  nx : ∀ ρ, E.nx ρ → E'.nx ρ
  rt : ∀ s ρ, E.rt s ρ → E'.rt s ρ
  bk : ∀ ρ, E.bk ρ → E'.bk ρ
  ct : ∀ ρ, E.ct ρ → E'.ct ρ
def MonoS (W : ST) : Prop := ∀ (E E' : EndD) ρ, E.Le E' → W E ρ → W E' ρ
def liftE (K : PySem.W.Frag) (C : Ctx) (Z : Hp) (E : Ends) : EndD where
  nx := fun ρ' => ∀ Z' σ' H', Same Z Z' → RB K C Z' σ' H' ρ' → E.nx σ' H'
  rt := fun s ρ' => ∀ v Z' σ' H', Same Z Z' → RB K C Z' σ' H' ρ' → VR K C Z' H' σ' ρ' v s → E.rt v H'
  bk := fun ρ' => ∀ Z' σ' H', Same Z Z' → RB K C Z' σ' H' ρ' → E.bk σ' H'
  ct := fun ρ' => ∀ Z' σ' H', Same Z Z' → RB K C Z' σ' H' ρ' → E.ct σ' H'
def rdS (K : PySem.W.Frag) (C : Ctx) (W : ST) : TS := fun E σ H => ∃ Z ρ, RB K C Z σ H ρ ∧ W (liftE K C Z E) ρ
structure DS (X : Cx) (C : Ctx) (st : Stmt) (W : ST) : Prop where
  mono : MonoS W
  run : PS X st (rdS X.K C W)
structure DSs (X : Cx) (C : Ctx) (st : List Stmt) (W : ST) : Prop where
  mono : MonoS W
  run : PSs X st (rdS X.K C W)
section
variable {K : PySem.W.Frag} {C C' : Ctx} {Z Z' H H' : Hp} {σ σ' : Sg} {ρ ρ' : Rho} {i j : Nat} {s t : Sl} {a : Addr} {o : HO}
theorem EndD.Le.refl (E : EndD) : E.Le E := ⟨fun _ h => h, fun _ _ h => h, fun _ h => h, fun _ h => h⟩
theorem liftE.le {E : Ends} (m : Same Z Z') : (liftE K C Z E).Le (liftE K C Z' E) :=
  ⟨fun ρ h Z2 σ2 H2 m2 R2 => h Z2 σ2 H2 (m.trans m2) R2, fun s ρ h v Z2 σ2 H2 m2 R2 => h v Z2 σ2 H2 (m.trans m2) R2, fun ρ h Z2 σ2 H2 m2 R2 => h Z2 σ2 H2 (m.trans m2) R2, fun ρ h Z2 σ2 H2 m2 R2 => h Z2 σ2 H2 (m.trans m2) R2⟩
theorem rdS.go {W : ST} (mW : MonoS W) (R : RB K C Z σ H ρ) {D : EndD} (hW : W D ρ) {E : Ends} (hn : ∀ ρ', D.nx ρ' → (liftE K C Z E).nx ρ') (hr : ∀ s ρ', D.rt s ρ' → (liftE K C Z E).rt s ρ') (hb : ∀ ρ', D.bk ρ' → (liftE K C Z E).bk ρ') (hc : ∀ ρ', D.ct ρ' → (liftE K C Z E).ct ρ') : rdS K C W E σ H :=
  ⟨Z, ρ, R, mW _ _ ρ ⟨hn, hr, hb, hc⟩ hW⟩
end
section
variable {X : Cx} {C : Ctx} {st : Stmt} {rest : List Stmt} {W W1 W2 : ST} {e : Expr} {T : ET} {B : BT} {pos : Pos} {x : Str} {i : Nat}
def sNext : ST := fun E ρ => E.nx ρ
def sSeq (W1 W2 : ST) : ST := fun E ρ => W1 { E with nx := W2 E } ρ
theorem mono_next : MonoS sNext := fun E E' ρ l h => l.nx _ h
theorem mono_seq (h1 : MonoS W1) (h2 : MonoS W2) : MonoS (sSeq W1 W2) := fun E E' ρ l h => h1 { E with nx := W2 E } { E' with nx := W2 E' } ρ ⟨fun ρ' q => h2 E E' ρ' l q, l.rt, l.bk, l.ct⟩ h
theorem dss_nil : DSs X C [] sNext := ⟨mono_next, PSs.imp pss_nil fun E σ H w => by
  obtain ⟨Z, ρ, R, w⟩ := w
  exact w Z σ H (Same.refl Z) R⟩
theorem dss_cons (h1 : DS X C st W1) (h2 : DSs X C rest W2) : DSs X C (st :: rest) (sSeq W1 W2) := by
  refine ⟨mono_seq h1.mono h2.mono, PSs.imp (pss_cons h1.run h2.run) fun E σ H w => ?_⟩
  obtain ⟨Z, ρ, R, w⟩ := w
  refine rdS.go h1.mono R w (fun ρ1 q Z1 σ1 H1 m1 R1 => ?_) (fun _ _ q => q) (fun _ q => q) fun _ q => q
  exact ⟨Z1, ρ1, R1, h2.mono _ _ ρ1 (liftE.le m1) q⟩
theorem dss_one (h1 : DS X C st W1) : DSs X C [st] W1 := ⟨h1.mono, pss_one h1.run⟩
def sBreak : ST := fun E ρ => E.bk ρ
def sCont : ST := fun E ρ => E.ct ρ
theorem ds_break : DS X C (.Break pos) sBreak := ⟨fun E E' ρ l h => l.bk _ h, PS.imp ps_break fun E σ H w => by
  obtain ⟨Z, ρ, R, w⟩ := w
  exact w Z σ H (Same.refl Z) R⟩
theorem ds_continue : DS X C (.Continue pos) sCont := ⟨fun E E' ρ l h => l.ct _ h, PS.imp ps_continue fun E σ H w => by
  obtain ⟨Z, ρ, R, w⟩ := w
  exact w Z σ H (Same.refl Z) R⟩
theorem ds_pass : DS X C (.Pass pos) sNext := ⟨mono_next, PS.imp ps_pass fun E σ H w => by
  obtain ⟨Z, ρ, R, w⟩ := w
  exact w Z σ H (Same.refl Z) R⟩
def sExpr (T : ET) : ST := fun E ρ => T ρ fun _ ρ1 => E.nx ρ1
theorem ds_expr (h : DE X C e T) (hs : swapsWith e none pos.line X.env = pure false := by rfl) : DS X C (.Expr e pos) (sExpr T) := by
  refine ⟨fun E E' ρ l q => h.mono ρ _ _ (fun s ρ1 q1 => l.nx _ q1) q, PS.imp (ps_expr h.run hs) fun E σ H w => ?_⟩
  obtain ⟨Z, ρ, R, w⟩ := w
  exact rdE.go h.mono R w fun s1 ρ1 v Z1 H1 q1 m1 R1 w1 => q1 Z1 σ H1 m1 R1
def sRet (T : ET) : ST := fun E ρ => T ρ fun s ρ1 => E.rt s ρ1
theorem ds_ret (h : DE X C e T) : DS X C (.Return (some e) pos) (sRet T) := by
  refine ⟨fun E E' ρ l q => h.mono ρ _ _ (fun s ρ1 q1 => l.rt _ _ q1) q, PS.imp (ps_ret h.run) fun E σ H w => ?_⟩
  obtain ⟨Z, ρ, R, w⟩ := w
  exact rdE.go h.mono R w fun s1 ρ1 v Z1 H1 q1 m1 R1 w1 => q1 v Z1 σ H1 m1 R1 w1
def sRetN : ST := fun E ρ => E.rt (.d .none) ρ
theorem ds_retN : DS X C (.Return none pos) sRetN := ⟨fun E E' ρ l h => l.rt _ _ h, PS.imp ps_retN fun E σ H w => by
  obtain ⟨Z, ρ, R, w⟩ := w
  exact w .non Z σ H (Same.refl Z) R (.ofD .non)⟩
def sIf (B : BT) (W1 W2 : ST) : ST := fun E ρ => B ρ fun c ρ1 => if c = true then W1 E ρ1 else W2 E ρ1
theorem ds_if {c : Expr} {s1 s2 : List Stmt} (hc : DT X C c B) (h1 : DSs X C s1 W1) (h2 : DSs X C s2 W2) : DS X C (.If c s1 s2 pos) (sIf B W1 W2) := by
  refine ⟨fun E E' ρ l q => hc.mono ρ _ _ (fun c ρ1 q1 => ?_) q, PS.imp (ps_if hc.run h1.run h2.run) fun E σ H w => ?_⟩
  · cases c with
    | true => exact h1.mono E E' ρ1 l q1
    | false => exact h2.mono E E' ρ1 l q1
  · obtain ⟨Z, ρ, R, w⟩ := w
    refine rdB.go hc.mono R w fun c ρ1 Z1 H1 q1 m1 R1 => ?_
    cases c with
    | true => exact ⟨Z1, ρ1, R1, h1.mono _ _ ρ1 (liftE.le m1) q1⟩
    | false => exact ⟨Z1, ρ1, R1, h2.mono _ _ ρ1 (liftE.le m1) q1⟩
def sSet (i : Nat) (T : ET) : ST := fun E ρ => T ρ fun s ρ1 => E.nx (ρ1.set i s)
theorem ds_set {np : Pos} (hN : X.N.Nodup) (h : DE X C e T) (hi : X.N[i]? = some x := by rfl) (hx : Loc X.env.scope x := by first | exact Or.inl rfl | exact Or.inr rfl) (hs : swapsWith e (some (.Name x np)) pos.line X.env = pure false := by rfl) (hf : X.fn x = true ∨ X.env.scope.names.lookup x = some .local := by first | exact .inl rfl | exact .inr rfl) :
    DS X C (.Assign [.Name x np] e pos) (sSet i T) := by
  refine ⟨fun E E' ρ l q => h.mono ρ _ _ (fun s ρ1 q1 => l.nx _ q1) q, PS.imp (ps_set hN hi hx h.run hs hf) fun E σ H w => ?_⟩
  obtain ⟨Z, ρ, R, w⟩ := w
  exact rdE.go h.mono R w fun s1 ρ1 v Z1 H1 q1 m1 R1 w1 => q1 Z1 _ H1 m1 (R1.store w1)

/-! ### targets -/
abbrev GT := D → Rho → (Rho → Prop) → Prop
abbrev GTs := List D → Rho → (Rho → Prop) → Prop
def MonoG (G : GT) : Prop := ∀ d ρ (k k' : Rho → Prop), (∀ ρ', k ρ' → k' ρ') → G d ρ k → G d ρ k'
def MonoGs (G : GTs) : Prop := ∀ d ρ (k k' : Rho → Prop), (∀ ρ', k ρ' → k' ρ') → G d ρ k → G d ρ k'
/-- the slots that may have changed are these -/
def OutOf (is : List Nat) (σ σ' : Sg) : Prop := σ'.length = σ.length ∧ ∀ j, j ∉ is → σ'[j]? = σ[j]?
def rdG (K : PySem.W.Frag) (C : Ctx) (is : List Nat) (G : GT) : TG := fun v σ H Q => ∃ Z ρ d, RB K C Z σ H ρ ∧ Rp K Z v d ∧ G d ρ fun ρ' => ∀ σ', RB K C Z σ' H ρ' → OutOf is σ σ' → (∀ j a, OA σ' ρ' j a → OA σ ρ j a) → Q σ' H
def rdGs (K : PySem.W.Frag) (C : Ctx) (is : List Nat) (G : GTs) : TGs := fun vs σ H Q => ∃ Z ρ ds, RB K C Z σ H ρ ∧ RpA K Z vs ds ∧ G ds ρ fun ρ' => ∀ σ', RB K C Z σ' H ρ' → OutOf is σ σ' → (∀ j a, OA σ' ρ' j a → OA σ ρ j a) → Q σ' H
structure DG (X : Cx) (C : Ctx) (tg : Expr) (is : List Nat) (G : GT) : Prop where
  mono : MonoG G
  run : PG X tg (rdG X.K C is G)
structure DGs (X : Cx) (C : Ctx) (tg : List Expr) (is : List Nat) (G : GTs) : Prop where
  mono : MonoGs G
  run : PGs X tg (rdGs X.K C is G)
theorem PG.imp {X : Cx} {e : Expr} {t t' : TG} (h : PG X e t) (q : ∀ v σ H Q, t' v σ H Q → t v σ H Q) : PG X e t' := ⟨fun pins s σ H v u Q I r w => h.run pins s σ H v u Q I r (q _ _ _ _ w)⟩
theorem PGs.imp {X : Cx} {e : List Expr} {t t' : TGs} (h : PGs X e t) (q : ∀ v σ H Q, t' v σ H Q → t v σ H Q) : PGs X e t' := ⟨fun pins s σ H v u Q I r w => h.run pins s σ H v u Q I r (q _ _ _ _ w)⟩
def gN (i : Nat) : GT := fun d ρ k => k (ρ.set i (.d d))
theorem dg_name {np : Pos} (hN : X.N.Nodup) (hi : X.N[i]? = some x := by rfl) (hx : Loc X.env.scope x := by first | exact Or.inl rfl | exact Or.inr rfl) (hf : X.fn x = true ∨ X.env.scope.names.lookup x = some .local := by first | exact .inl rfl | exact .inr rfl) : DG X C (.Name x np) [i] (gN i) := by
  refine ⟨fun d ρ k k' hk q => hk _ q, PG.imp (pg_name hN hi hx hf) fun v σ H Q w => ?_⟩
  obtain ⟨Z, ρ, d, R, r, w⟩ := w
  refine w _ (R.store (.ofD r)) ⟨by simp, fun j hj => by rw [List.getElem?_set_ne]; intro z; exact hj (by simp [z])⟩ fun j a q => ?_
  rcases oa_set q with ⟨_, z⟩ | ⟨_, z⟩
  · exact z
  · cases v <;> cases z
def gsN : GTs := fun ds ρ k => ds = [] ∧ k ρ
def gsC (G : GT) (Gs : GTs) : GTs := fun ds ρ k => match ds with
  | d :: r => G d ρ fun ρ1 => Gs r ρ1 k
  | [] => False
theorem mono_gsN : MonoGs gsN := fun d ρ k k' hk ⟨e, q⟩ => ⟨e, hk _ q⟩
theorem mono_gsC {G : GT} {Gs : GTs} (h1 : MonoG G) (h2 : MonoGs Gs) : MonoGs (gsC G Gs) := fun d ρ k k' hk q => by
  unfold gsC at q ⊢
  split at q
  · exact h1 _ ρ _ _ (fun ρ1 q1 => h2 _ ρ1 _ _ hk q1) q
  · exact q
theorem OutOf.trans {is js : List Nat} {σ σ1 σ2 : Sg} (a : OutOf is σ σ1) (b : OutOf js σ1 σ2) : OutOf (is ++ js) σ σ2 :=
  ⟨b.1.trans a.1, fun j hj => (b.2 j fun z => hj (List.mem_append_right _ z)).trans (a.2 j fun z => hj (List.mem_append_left _ z))⟩
theorem OutOf.refl (σ : Sg) (is : List Nat) : OutOf is σ σ := ⟨rfl, fun _ _ => rfl⟩
theorem dgs_nil : DGs X C [] [] gsN := ⟨mono_gsN, PGs.imp pgs_nil fun v σ H Q w => by
  obtain ⟨Z, ρ, ds, R, r, e, w⟩ := w
  subst e
  cases r
  exact ⟨rfl, w σ R (.refl σ _) fun _ _ z => z⟩⟩
theorem dgs_cons {es : List Expr} {is js : List Nat} {G : GT} {Gs : GTs} (h1 : DG X C e is G) (h2 : DGs X C es js Gs) (hs : (assignEach (e :: es) X.env).map (·.2) = assign e X.env :: (assignEach es X.env).map (·.2) := by rfl) : DGs X C (e :: es) (is ++ js) (gsC G Gs) := by
  refine ⟨mono_gsC h1.mono h2.mono, PGs.imp (pgs_cons h1.run h2.run hs) fun v σ H Q w => ?_⟩
  obtain ⟨Z, ρ, ds, R, r, w⟩ := w
  cases r with
  | nil => exact w.elim
  | cons r t =>
    refine ⟨_, _, rfl, Z, ρ, _, R, r, h1.mono _ ρ _ _ (fun ρ1 q σ1 R1 o1 n1 => ?_) w⟩
    exact ⟨Z, ρ1, _, R1, t, h2.mono _ ρ1 _ _ (fun ρ2 q2 σ2 R2 o2 n2 => q2 σ2 R2 (o1.trans o2) fun j a z => n1 j a (n2 j a z)) q⟩
def gT (n : Nat) (Gs : GTs) : GT := fun d ρ k => match d with
  | .tuple xs => xs.length = n ∧ Gs xs ρ k
  | _ => False
theorem dg_tup {es : List Expr} {kk n : Nat} {is : List Nat} {Gs : GTs} (hc : X.calm = true) (h : DGs X C es is Gs) (hn : (assignEach es X.env).length = n := by rfl) (hst : (assignEach es X.env).findIdx? (·.1) = none := by rfl) : DG X C (.Tuple es kk pos) is (gT n Gs) := by
  refine ⟨fun d ρ k k' hk q => ?_, PG.imp (pg_tup hc h.run hn hst) fun v σ H Q w => ?_⟩
  · unfold gT at q ⊢
    split at q
    · exact ⟨q.1, h.mono _ ρ _ _ hk q.2⟩
    · exact q
  · obtain ⟨Z, ρ, d, R, r, w⟩ := w
    cases r with
    | tup g rs l => exact ⟨_, _, rfl, Or.inl (Or.inl (R.b.le _ _ g)), by rw [rs.len]; exact w.1, Z, ρ, _, R, rs, w.2⟩
    | _ => exact w.elim
/-- target = e, the target a tuple of names -/
def sAsgT (T : ET) (G : GT) : ST := fun E ρ => T ρ (asD fun x ρ1 => G x ρ1 E.nx)
theorem ds_asgT {tg : Expr} {is : List Nat} {G : GT} (he : DE X C e T) (hg : DG X C tg is G) (hs : swapsWithSole [tg] e pos.line X.env = pure false := by rfl) (hw : swappedStores [tg] e X.env = pure none := by rfl)
    (h1 : (assignEach [tg] X.env).map (·.2) = [assign tg X.env] := by rfl) : DS X C (.Assign [tg] e pos) (sAsgT T G) := by
  refine ⟨fun E E' ρ l q => he.mono ρ _ _ (fun s ρ1 q1 => asD.imp (fun x ρ1 q2 => hg.mono x ρ1 _ _ l.nx q2) q1) q, PS.imp (ps_asg he.run hg.run hs hw h1) fun E σ H w => ?_⟩
  obtain ⟨Z, ρ, R, w⟩ := w
  refine rdE.go he.mono R w fun s1 ρ1 v Z1 H1 q1 m1 R1 w1 => ?_
  obtain ⟨x, Z2, q2, m2, R2, rx⟩ := w1.give R1 q1
  exact ⟨Z2, ρ1, x, R2, rx, hg.mono x ρ1 _ _ (fun ρ2 q σ2 R3 _ _ => q Z2 σ2 H1 (m1.trans m2) R3) q2⟩
/-- xs[e] = v, xs a name's own list -/
def sPutL (i : Nat) (Ti Tv : ET) : ST := fun E ρ => Tv ρ (asD fun v ρ1 => match ρ1[i]? with
  | some (.own _ _) => Ti ρ1 (asD fun y ρ2 => match y, ρ2[i]? with
    | .int j, some (.own p xs) => ∃ n, ixN xs.length j = some n ∧ E.nx (ρ2.set i (.own p (xs.set n v)))
    | _, _ => False)
  | _ => False)
theorem ds_putL {ie v : Expr} {Ti Tv : ET} {np tp : Pos} (hi : DE X C ie Ti) (hv : DE X C v Tv) (hN : X.N[i]? = some x := by rfl) (hvs : Vis X.env.scope x := by first | exact Or.inl rfl | exact Or.inr (Or.inl rfl) | exact Or.inr (Or.inr rfl)) (hd : (x == ("__debug__" : Str)) = false := by decide) (hcd : (x == ("__classdict__" : Str)) = false := by decide)
    (hs : swapsWithSole [.Subscript (.Name x np) ie tp] v pos.line X.env = pure false := by rfl) (hw : swappedStores [.Subscript (.Name x np) ie tp] v X.env = pure none := by rfl)
    (h1 : (assignEach [.Subscript (.Name x np) ie tp] X.env).map (·.2) = [assign (.Subscript (.Name x np) ie tp) X.env] := by rfl)
    (ha : ∀ v, assign (.Subscript (.Name x np) ie tp) X.env v = (do
      let ov ← holding [v] (eval (.Name x np) X.env)
      let iv ← holding [v, ov] (eval ie X.env)
      standAt tp
      holding [v, ov, iv] (setItem ov iv v)
      release [v, ov, iv] []) := by intro _; rfl) : DS X C (.Assign [.Subscript (.Name x np) ie tp] v pos) (sPutL i Ti Tv) := by
  refine ⟨fun E E' ρ l q => hv.mono ρ _ _ (fun s ρ1 q1 => asD.imp (fun u ρ1 q2 => ?_) q1) q, PS.imp (ps_asg hv.run (pg_sub (pe_var hN hvs hd hcd) hi.run set_list ha) hs hw h1) fun E σ H w => ?_⟩
  · split at q2
    · refine hi.mono ρ1 _ _ (fun s ρ2 q3 => asD.imp (fun y ρ2 q4 => ?_) q3) q2
      split at q4
      · obtain ⟨n, e, q5⟩ := q4
        exact ⟨n, e, l.nx _ q5⟩
      · exact q4
    · exact q2
  · obtain ⟨Z, ρ, R, w⟩ := w
    refine rdE.go hv.mono R w fun s1 ρ1 u Z1 H1 q1 m1 R1 w1 => ?_
    obtain ⟨d, Z2, q2, m2, R2, rd⟩ := w1.give R1 q1
    split at q2
    · rename_i p0 xs0 hx0
      obtain ⟨a, vs0, hv0, hb0, _, _⟩ := R2.ownAt hx0
      refine ⟨_, hv0, rdE.go hi.mono R2 q2 fun s3 ρ3 w3 Z3 H3 q3 m3 R3 v3 => ?_⟩
      obtain ⟨y, Z4, q4, m4, R4, ry⟩ := v3.give R3 q3
      split at q4
      · rename_i j p xs hx
        obtain ⟨n, e, q5⟩ := q4
        obtain ⟨a', vs, hv1, hb, r, l⟩ := R4.ownAt hx
        rw [hv0] at hv1
        cases hv1
        cases ry
        refine ⟨a, vs, j, n, rfl, rfl, hb, by rw [r.len]; exact e, ?_⟩
        exact q5 Z4 σ _ (m1.trans (m2.trans (m3.trans m4))) (R4.writeL hx hv0 (r.set ((rd.mono m3).mono m4) n) (by rw [List.length_set]; exact l))
      · exact q4.elim
    · exact q2.elim
/-- xs[e] += v, xs a name's own list of ints at that place -/
def sAugL (i : Nat) (Ti Tv : ET) : ST := fun E ρ => match ρ[i]? with
  | some (.own _ _) => Ti ρ (asD fun y ρ1 => match y, ρ1[i]? with
    | .int j, some (.own _ xs) => ∃ (n : Nat) (m : Int), ixN xs.length j = some n ∧ xs[n]? = some (.int m) ∧ Tv ρ1 (asD fun z ρ2 => match z, ρ2[i]? with
      | .int b, some (.own p' xs') => xs'.length = xs.length ∧ E.nx (ρ2.set i (.own p' (xs'.set n (.int (m + b)))))
      | _, _ => False)
    | _, _ => False)
  | _ => False
/-- x += e of ints, a name -/
def sAug (i : Nat) (g : D → D → Option Sl) (T : ET) : ST := fun E ρ => match ρ[i]? with
  | some (.d x) => T ρ (asD fun y ρ1 => ∃ s, g x y = some s ∧ E.nx (ρ1.set i s))
  | _ => False
def IpD (X : Cx) (op : Operator) (g : D → D → Option Sl) : Prop := PIp X op fun x y H Q => ∃ Z dx dy s, Rp X.K Z x dx ∧ Rp X.K Z y dy ∧ Same Z H ∧ g dx dy = some s ∧ Res X.K Z H Q s
theorem ipD_add : IpD X .Add (intOp (fun _ _ => true) fun i j => i + j) := by
  intro pins s σ H x y v u Q I rx ry ⟨Z, dx, dy, s', r1, r2, m, e, w⟩
  refine ip_add pins s σ H x y v u Q I rx ry ?_
  cases r1 with
  | int i =>
    cases r2 with
    | int j =>
      cases e
      exact ⟨_, _, rfl, rfl, w.d0 _ _ rfl (.int _)⟩
    | _ => cases e
  | _ => cases e
theorem ipD_sub : IpD X .Sub (intOp (fun _ _ => true) fun i j => i - j) := by
  intro pins s σ H x y v u Q I rx ry ⟨Z, dx, dy, s', r1, r2, m, e, w⟩
  refine ip_sub pins s σ H x y v u Q I rx ry ?_
  cases r1 with
  | int i =>
    cases r2 with
    | int j =>
      cases e
      exact ⟨_, _, rfl, rfl, w.d0 _ _ rfl (.int _)⟩
    | _ => cases e
  | _ => cases e
theorem ds_aug {op : Operator} {g : D → D → Option Sl} {np : Pos} (hN : X.N.Nodup) (ho : IpD X op g) (h : DE X C e T) (hi : X.N[i]? = some x := by rfl) (hx : Loc X.env.scope x := by first | exact Or.inl rfl | exact Or.inr rfl) (hf : X.fn x = true ∨ X.env.scope.names.lookup x = some .local := by first | exact .inl rfl | exact .inr rfl) :
    DS X C (.AugAssign (.Name x np) op e pos) (sAug i g T) := by
  refine ⟨fun E E' ρ l q => ?_, PS.imp (ps_aug hN hi hx h.run ho hf) fun E σ H w => ?_⟩
  · unfold sAug at q ⊢
    split at q
    · exact h.mono ρ _ _ (fun s ρ1 q1 => asD.imp (fun y ρ1 ⟨s, e, q2⟩ => ⟨s, e, l.nx _ q2⟩) q1) q
    · exact q
  · obtain ⟨Z, ρ, R, w⟩ := w
    unfold sAug at w
    split at w
    · rename_i x0 hx0
      obtain ⟨v0, hv0, u0, e0, r0⟩ := R.s.slotAt hx0
      subst e0
      refine ⟨_, hv0, rdE.go h.mono R w fun s1 ρ1 v Z1 H1 q1 m1 R1 w1 => ?_⟩
      obtain ⟨y, Z2, ⟨s, es, q2⟩, m2, R2, ry⟩ := w1.give R1 q1
      exact ⟨Z2, x0, y, s, (r0.mono m1).mono m2, ry, R2.b.le, es, Res.of R2 fun v' Z' H' m R' w' => q2 Z' _ H' (m1.trans (m2.trans m)) (R'.store w')⟩
    · exact w.elim
end
end Dl

set_option Elab.async false
set_option linter.all false
set_option maxRecDepth 100000
set_option autoImplicit false
set_option maxHeartbeats 1000000
namespace Dl
open PySem PySem.Spec PyProof.Rows L2

/-! ### what is walked -/
/-- J yields these data, whatever happens outside of Z -/
def Walks (K : PySem.W.Frag) (J : It) (Z : Hp) (ds : List D) : Prop := ds.length ≤ sizeLine ∧ ∀ Z' H, Same Z Z' → Same Z' H →
  (∀ i, ds.length ≤ i → J.stop i H) ∧ ∀ i d, ds[i]? = some d → J.go i H ∧ ∀ x H', J.yld i H x H' → (H' = H ∧ Rp K Z' x d) ∨ ∃ p o, H p = none ∧ H' = upd H p o ∧ Rp K (upd Z' p o) x d
abbrev IT := Rho → (List D → Rho → Prop) → Prop
def MonoI (I : IT) : Prop := ∀ ρ (k k' : List D → Rho → Prop), (∀ s ρ', k s ρ' → k' s ρ') → I ρ k → I ρ k'
def rdI (K : PySem.W.Frag) (C : Ctx) (I : IT) : TI := fun σ H R => ∃ Z ρ, RB K C Z σ H ρ ∧ I ρ fun ds ρ' => ∀ J Z' H', Same Z Z' → RB K C Z' σ H' ρ' → Walks K J Z' ds → R J H'
structure DI (X : Cx) (C : Ctx) (tg iter : Expr) (I : IT) : Prop where
  mono : MonoI I
  run : PI X tg iter (rdI X.K C I)
theorem PI.imp {X : Cx} {tg e : Expr} {t t' : TI} (h : PI X tg e t) (q : ∀ σ H Q, t' σ H Q → t σ H Q) : PI X tg e t' := ⟨fun pins s σ H R I w => h.run pins s σ H R I (q _ _ _ w)⟩
section
variable {K : PySem.W.Frag} {Z H : Hp}
theorem walks_l {a : Addr} {vs : List V} {ds : List D} (g : Z a = some (.lst vs)) (r : RpA K Z vs ds) (l : ds.length ≤ sizeLine) : Walks K (Itl K a) Z ds := by
  refine ⟨l, fun Z' H m1 m2 => ⟨fun i hi => ⟨vs, Or.inl (Or.inl (m2 _ _ (m1 _ _ g))), by rw [r.len]; exact hi⟩, fun i d hd => ?_⟩⟩
  obtain ⟨v, hv, rv⟩ := r.get hd
  refine ⟨⟨vs, v, Or.inl (Or.inl (m2 _ _ (m1 _ _ g))), hv⟩, fun x H' y => Or.inl ⟨y.1, ?_⟩⟩
  have e := y.2 vs (Or.inl (Or.inl (m2 _ _ (m1 _ _ g))))
  rw [hv] at e
  cases e
  exact rv.mono m1
theorem walks_t {a : Addr} {vs : List V} {ds : List D} (g : Z a = some (.tup vs)) (r : RpA K Z vs ds) (l : ds.length ≤ sizeLine) : Walks K (Itt K a) Z ds := by
  refine ⟨l, fun Z' H m1 m2 => ⟨fun i hi => ⟨vs, Or.inl (Or.inl (m2 _ _ (m1 _ _ g))), by rw [r.len]; exact hi⟩, fun i d hd => ?_⟩⟩
  obtain ⟨v, hv, rv⟩ := r.get hd
  refine ⟨⟨vs, v, Or.inl (Or.inl (m2 _ _ (m1 _ _ g))), hv⟩, fun x H' y => Or.inl ⟨y.1, ?_⟩⟩
  have e := y.2 vs (Or.inl (Or.inl (m2 _ _ (m1 _ _ g))))
  rw [hv] at e
  cases e
  exact rv.mono m1
theorem walks_s {a : Addr} {ns : List Int} (g : SqL K Z a (ns.map V.int)) (l : ns.length ≤ sizeLine) : Walks K (Itl K a) Z (ns.map .int) := by
  refine ⟨by rw [List.length_map]; exact l, fun Z' H m1 m2 => ⟨fun i hi => ⟨_, sq_l (m1.trans m2) g, by rw [List.length_map] at hi ⊢; exact hi⟩, fun i d hd => ?_⟩⟩
  rw [List.getElem?_map] at hd
  obtain ⟨n, hn, rfl⟩ := map_some hd
  have hv : (ns.map V.int)[i]? = some (.int n) := by
    rw [List.getElem?_map, hn]
    rfl
  refine ⟨⟨_, _, sq_l (m1.trans m2) g, hv⟩, fun x H' y => Or.inl ⟨y.1, ?_⟩⟩
  have e := y.2 _ (sq_l (m1.trans m2) g)
  rw [hv] at e
  cases e
  exact .int n
theorem walks_r {lo : Int} {n : Nat} (l : n ≤ sizeLine) : Walks K (Itr lo n) Z ((List.range n).map fun i => .int (lo + (i : Nat))) := by
  refine ⟨by simpa using l, fun Z' H m1 m2 => ⟨fun i hi => (by simpa using hi : n ≤ i), fun i d hd => ?_⟩⟩
  rw [List.getElem?_map] at hd
  obtain ⟨j, hj, rfl⟩ := map_some hd
  have hi : i < n := by
    have := (List.getElem?_eq_some_iff.mp hj).1
    simpa using this
  have ej : i = j := by
    rw [List.getElem?_range hi] at hj
    exact Option.some.inj hj
  subst ej
  refine ⟨hi, fun x H' y => Or.inl ⟨y.1, ?_⟩⟩
  rw [y.2]
  exact .int _
theorem walks_c {lo c : Int} {n : Nat} (l : n ≤ sizeLine) : Walks K (Itc lo c n) Z ((List.range n).map fun i => .int (lo + (i : Nat) * c)) := by
  refine ⟨by simpa using l, fun Z' H m1 m2 => ⟨fun i hi => (by simpa using hi : n ≤ i), fun i d hd => ?_⟩⟩
  rw [List.getElem?_map] at hd
  obtain ⟨j, hj, rfl⟩ := map_some hd
  have hi : i < n := by
    have := (List.getElem?_eq_some_iff.mp hj).1
    simpa using this
  have ej : i = j := by
    rw [List.getElem?_range hi] at hj
    exact Option.some.inj hj
  subst ej
  refine ⟨hi, fun x H' y => Or.inl ⟨y.1, ?_⟩⟩
  rw [y.2]
  exact .int _
end
section
variable {X : Cx} {C : Ctx} {tg e a b c : Expr} {T Ta Tb Tc : ET} {pos : Pos} {x : Str} {i : Nat}
/-- a list or a tuple, whichever comes -/
theorem pi_both {tl : TE} (hl : PE X e tl) : PI X tg e (fun σ H R => tl σ H fun x H1 => ∃ a, x = .ref a ∧ (((∃ vs, SqL X.K H1 a vs) ∧ R (Itl X.K a) H1) ∨ ((∃ vs, SqT X.K H1 a vs) ∧ R (Itt X.K a) H1))) := by
  refine ⟨fun pins st σ H R inv h => ?_⟩
  refine thn (hl.run pins st σ H _ inv h) fun v st1 w => ?_
  obtain ⟨x, G, inv1, rv, b, ex, hb⟩ := w
  subst ex
  cases rv
  have fresh : ∀ u ∈ [st1.heap.objs.size], FpOk X pins G u := fun u hu => by
    have eu : u = st1.heap.objs.size := by simpa using hu
    rw [eu]
    exact inv1.fpOk (Nat.le_refl _) (inv1.hok.fresh (Nat.le_refl _))
  rcases hb with ⟨⟨vs, hq⟩, q⟩ | ⟨⟨vs, hq⟩, q⟩
  · obtain ⟨its, _, pl, _⟩ := inv1.list hq
    exact wpAny_pyIter_list pl.isList ⟨_, _, _, _, G, rfl, inv1.kept (t' := st1.toks) (fun u o eo => Heap.get?_push_of_some _ eo), turn_list b _, ⟨_, Heap.get?_push_size _ rfl, rfl, rfl⟩, fresh, q⟩
  · obtain ⟨its, _, pl, _⟩ := inv1.tuple hq
    exact wpAny_pyIter_tuple (show st1.heap.IsTuple b its.toArray from pl) ⟨_, _, _, _, G, rfl, inv1.kept (t' := st1.toks) (fun u o eo => Heap.get?_push_of_some _ eo), turn_tuple b _, ⟨_, Heap.get?_push_size _ rfl, rfl, rfl⟩, fresh, q⟩
def seqD (k : List D → Rho → Prop) (x : D) (ρ : Rho) : Prop := match x with
  | .list xs => k xs ρ
  | .tuple xs => k xs ρ
  | _ => False
theorem seqD.imp {k k' : List D → Rho → Prop} (h : ∀ x ρ', k x ρ' → k' x ρ') {x : D} {ρ : Rho} (q : seqD k x ρ) : seqD k' x ρ := by
  unfold seqD at q ⊢
  split at q
  · exact h _ _ q
  · exact h _ _ q
  · exact q
def iSeq (T : ET) : IT := fun ρ k => T ρ (asD (seqD k))
theorem mono_iSeq (h : MonoE T) : MonoI (iSeq T) := fun ρ k k' hk q => h ρ _ _ (fun s ρ1 q1 => asD.imp (fun x ρ1 q2 => seqD.imp hk q2) q1) q
theorem di_seq (h : DE X C e T) : DI X C tg e (iSeq T) := by
  refine ⟨mono_iSeq h.mono, PI.imp (pi_both h.run) fun σ H R w => ?_⟩
  obtain ⟨Z, ρ, R0, w⟩ := w
  refine rdE.go h.mono R0 w fun s1 ρ1 v Z1 H1 q1 m1 R1 w1 => ?_
  obtain ⟨x, Z2, q2, m2, R2, rx⟩ := w1.give R1 q1
  unfold seqD at q2
  split at q2
  · cases rx with
    | lst g rs l => exact ⟨_, rfl, Or.inl ⟨⟨_, Or.inl (Or.inl (R2.b.le _ _ g))⟩, q2 _ Z2 H1 (m1.trans m2) R2 (walks_l g rs l)⟩⟩
  · cases rx with
    | tup g rs l => exact ⟨_, rfl, Or.inr ⟨⟨_, Or.inl (Or.inl (R2.b.le _ _ g))⟩, q2 _ Z2 H1 (m1.trans m2) R2 (walks_t g rs l)⟩⟩
  · exact q2.elim
/-- the script -/
def iScr (i : Nat) : IT := fun ρ k => match ρ[i]? with
  | some (.scr ns) => ns.length ≤ sizeLine ∧ k (ns.map .int) ρ
  | _ => False
theorem di_scr (hN : X.N[i]? = some x := by rfl) (hv : Vis X.env.scope x := by first | exact Or.inl rfl | exact Or.inr (Or.inl rfl) | exact Or.inr (Or.inr rfl)) (hd : (x == ("__debug__" : Str)) = false := by decide) (hcd : (x == ("__classdict__" : Str)) = false := by decide) : DI X C tg (.Name x pos) (iScr i) := by
  refine ⟨fun ρ k k' hk q => ?_, PI.imp (pi_list (pe_var hN hv hd hcd)) fun σ H R w => ?_⟩
  · unfold iScr at q ⊢
    split at q
    · exact ⟨q.1, hk _ _ q.2⟩
    · exact q
  · obtain ⟨Z, ρ, R0, w⟩ := w
    unfold iScr at w
    split at w
    · rename_i ns hns
      obtain ⟨v, hv, b, e, g⟩ := R0.s.slotAt hns
      subst e
      exact ⟨_, hv, b, rfl, ⟨_, sq_l R0.b.le g⟩, w.2 _ Z H (Same.refl Z) R0 (walks_s g w.1)⟩
    · exact w.elim
def iRg1 (T : ET) : IT := fun ρ k => T ρ (asD fun x ρ1 => ∃ n, x = .int n ∧ rgB n = true ∧ k (rgD 0 n) ρ1)
theorem di_range1 {p : Pos} (hm : X.mg "range" = none) (ha : DE X C a Ta) (hg : Gl X "range" := by rfl) (hs : starEach [a] X.env = [(false, eval a X.env)] := by rfl) (hs' : starEach [a] X.env = (false, eval a X.env) :: starEach [] X.env := by rfl) : DI X C tg (.Call (.Name "range" p) [a] [] pos) (iRg1 Ta) := by
  refine ⟨fun ρ k k' hk q => ha.mono ρ _ _ (fun s ρ1 q1 => asD.imp (fun x ρ1 ⟨n, e, h, q2⟩ => ⟨n, e, h, hk _ _ q2⟩) q1) q, PI.imp (pi_range1 hg hm (pa_cons ha.run pa_nil hs') hs) fun σ H R w => ?_⟩
  obtain ⟨Z, ρ, R0, w⟩ := w
  refine rdE.go ha.mono R0 w fun s1 ρ1 v Z1 H1 q1 m1 R1 w1 => ?_
  obtain ⟨x, Z2, ⟨n, rfl, hn, q2⟩, m2, R2, rx⟩ := w1.give R1 q1
  cases rx
  have hb : -(2 ^ 62) ≤ n ∧ n ≤ 16777216 := of_decide_eq_true hn
  have hz := sizeLine_eq
  refine ⟨n, rfl, hb.1, by omega, ?_⟩
  have W := walks_r (K := X.K) (Z := Z2) (lo := 0) (n := n.toNat) (by omega)
  have e : rgD 0 n = (List.range n.toNat).map fun i => PyData.int (0 + ((i : Nat) : Int)) := by
    unfold rgD
    rw [Int.sub_zero]
  rw [← e] at W
  exact q2 _ Z2 H1 (m1.trans m2) R2 W
def iRg2 (Ta Tb : ET) : IT := fun ρ k => Ta ρ (asD fun x ρ1 => Tb ρ1 (asD fun y ρ2 => ∃ m n, x = .int m ∧ y = .int n ∧ decide (-(2 ^ 61) ≤ m ∧ m < 2 ^ 61 ∧ -(2 ^ 61) ≤ n ∧ n < 2 ^ 61 ∧ n - m ≤ 16777216) = true ∧ k (rgD m n) ρ2))
theorem di_range2 {p : Pos} (hm : X.mg "range" = none) (ha : DE X C a Ta) (hb : DE X C b Tb) (hg : Gl X "range" := by rfl) (hs : starEach [a, b] X.env = [(false, eval a X.env), (false, eval b X.env)] := by rfl) (hs2 : starEach [b] X.env = [(false, eval b X.env)] := by rfl)
    (hs' : starEach [a, b] X.env = (false, eval a X.env) :: starEach [b] X.env := by rfl) (hs2' : starEach [b] X.env = (false, eval b X.env) :: starEach [] X.env := by rfl) : DI X C tg (.Call (.Name "range" p) [a, b] [] pos) (iRg2 Ta Tb) := by
  refine ⟨fun ρ k k' hk q => ha.mono ρ _ _ (fun s ρ1 q1 => asD.imp (fun x ρ1 q2 => hb.mono ρ1 _ _ (fun s ρ2 q3 => asD.imp (fun y ρ2 ⟨m, n, e1, e2, h, q4⟩ => ⟨m, n, e1, e2, h, hk _ _ q4⟩) q3) q2) q1) q,
    PI.imp (pi_range2 hg hm (pa_cons ha.run (pa_cons hb.run pa_nil hs2') hs') hs hs2) fun σ H R w => ?_⟩
  obtain ⟨Z, ρ, R0, w⟩ := w
  refine rdE.go ha.mono R0 w fun s1 ρ1 v Z1 H1 q1 m1 R1 w1 => ?_
  obtain ⟨x, Z2, q2, m2, R2, rx⟩ := w1.give R1 q1
  refine rdE.go hb.mono R2 q2 fun s3 ρ3 u Z3 H3 q3 m3 R3 w3 => ?_
  obtain ⟨y, Z4, ⟨m, n, rfl, rfl, hq, q4⟩, m4, R4, ry⟩ := w3.give R3 q3
  cases rx
  cases ry
  have hq' : -(2 ^ 61) ≤ m ∧ m < 2 ^ 61 ∧ -(2 ^ 61) ≤ n ∧ n < 2 ^ 61 ∧ n - m ≤ 16777216 := of_decide_eq_true hq
  have hz := sizeLine_eq
  refine ⟨m, n, rfl, ⟨by omega, by omega, by omega, by omega⟩, ?_⟩
  have W := walks_r (K := X.K) (Z := Z4) (lo := m) (n := (n - m).toNat) (by omega)
  exact q4 _ Z4 H3 (m1.trans (m2.trans (m3.trans m4))) R4 W
/-- range(m, n, -1) -/
def rgDown (m n : Int) : List D := (List.range (m - n).toNat).map fun i => .int (m + (i : Nat) * (-1))
def iRgN (Ta Tb : ET) : IT := fun ρ k => Ta ρ (asD fun x ρ1 => Tb ρ1 (asD fun y ρ2 => ∃ m n, x = .int m ∧ y = .int n ∧ decide (-1000000 ≤ m ∧ m < 1000000 ∧ -1000000 ≤ n ∧ n < 1000000) = true ∧ k (rgDown m n) ρ2))
theorem di_rangeN {p : Pos} (hm : X.mg "range" = none) (ha : DE X C a Ta) (hb : DE X C b Tb) (hc : PE X c (fun _ H Q => Q (.int (-1)) H)) (hg : Gl X "range" := by rfl)
    (h : ∀ {ta : TA}, PA X [a, b, c] ta → PI X tg (.Call (.Name "range" p) [a, b, c] [] pos) (iRng3 ta) := by intro _ q; exact pi_range3 (by rfl) (by assumption) q)
    (hs : starEach [a, b, c] X.env = (false, eval a X.env) :: starEach [b, c] X.env := by rfl) (hs2 : starEach [b, c] X.env = (false, eval b X.env) :: starEach [c] X.env := by rfl) (hs3 : starEach [c] X.env = (false, eval c X.env) :: starEach [] X.env := by rfl) : DI X C tg (.Call (.Name "range" p) [a, b, c] [] pos) (iRgN Ta Tb) := by
  refine ⟨fun ρ k k' hk q => ha.mono ρ _ _ (fun s ρ1 q1 => asD.imp (fun x ρ1 q2 => hb.mono ρ1 _ _ (fun s ρ2 q3 => asD.imp (fun y ρ2 ⟨m, n, e1, e2, h, q4⟩ => ⟨m, n, e1, e2, h, hk _ _ q4⟩) q3) q2) q1) q,
    PI.imp (h (pa_cons ha.run (pa_cons hb.run (pa_cons hc pa_nil hs3) hs2) hs)) fun σ H R w => ?_⟩
  obtain ⟨Z, ρ, R0, w⟩ := w
  refine rdE.go ha.mono R0 w fun s1 ρ1 v Z1 H1 q1 m1 R1 w1 => ?_
  obtain ⟨x, Z2, q2, m2, R2, rx⟩ := w1.give R1 q1
  refine rdE.go hb.mono R2 q2 fun s3 ρ3 u Z3 H3 q3 m3 R3 w3 => ?_
  obtain ⟨y, Z4, ⟨m, n, rfl, rfl, hq, q4⟩, m4, R4, ry⟩ := w3.give R3 q3
  cases rx
  cases ry
  have hq' : -1000000 ≤ m ∧ m < 1000000 ∧ -1000000 ≤ n ∧ n < 1000000 := of_decide_eq_true hq
  have hz := sizeLine_eq
  refine ⟨m, n, -1, (m - n).toNat, rfl, RgC.neg (by omega) (by omega) (by omega) (by omega), ?_⟩
  have W := walks_c (K := X.K) (Z := Z4) (lo := m) (c := -1) (n := (m - n).toNat) (by omega)
  exact q4 _ Z4 H3 (m1.trans (m2.trans (m3.trans m4))) R4 W

/-! ### for, while -/
def loopW (G : GT) (W : ST) (E : EndD) : List D → Rho → Prop
  | [], ρ => E.nx ρ
  | d :: ds, ρ => G d ρ fun ρ1 => W { nx := loopW G W E ds, rt := E.rt, bk := E.nx, ct := loopW G W E ds } ρ1
def sFor (I : IT) (G : GT) (W : ST) : ST := fun E ρ => I ρ fun ds ρ1 => loopW G W E ds ρ1
theorem mono_loop {G : GT} {W : ST} (hG : MonoG G) (hW : MonoS W) {E E' : EndD} (l : E.Le E') : ∀ ds ρ, loopW G W E ds ρ → loopW G W E' ds ρ
  | [], ρ, h => l.nx ρ h
  | d :: ds, ρ, h => hG d ρ _ _ (fun ρ1 q => hW { nx := loopW G W E ds, rt := E.rt, bk := E.nx, ct := loopW G W E ds } { nx := loopW G W E' ds, rt := E'.rt, bk := E'.nx, ct := loopW G W E' ds } ρ1 ⟨fun ρ' z => mono_loop hG hW l ds ρ' z, l.rt, l.nx, fun ρ' z => mono_loop hG hW l ds ρ' z⟩ q) h
theorem drop_at {α : Type} {l : List α} {i : Nat} (h : i < l.length) : ∃ d, l[i]? = some d ∧ l.drop i = d :: l.drop (i + 1) := ⟨l[i], List.getElem?_eq_getElem h, List.drop_eq_getElem_cons h⟩
theorem ds_for {iter : Expr} {body : List Stmt} {I : IT} {is : List Nat} {G : GT} {W : ST} (hp : PassesOwn (model X.prog X.w) X.A X.env X.xe) (hc : X.calm = true) (hi : DI X C tg iter I) (hg : DG X C tg is G) (hb : DSs X C body W)
    (hs : ∀ x, foldedSetIterable iter X.env x = pure x := by intro _; rfl) : DS X C (.For tg iter body [] pos) (sFor I G W) := by
  refine ⟨fun E E' ρ l q => hi.mono ρ _ _ (fun ds ρ1 q1 => mono_loop hg.mono hb.mono l ds ρ1 q1) q, PS.imp (ps_for hp hc hi.run hg.run hb.run hs) fun E σ H w => ?_⟩
  obtain ⟨Z, ρ, R, w⟩ := w
  refine ⟨Z, ρ, R, hi.mono ρ _ _ (fun ds ρ1 q1 J Z1 H1 m1 R1 wk => ?_) w⟩
  refine ⟨fun i m σ H => m = ds.length - i ∧ i ≤ ds.length ∧ ∃ Zi ρi, Same Z1 Zi ∧ RB X.K C Zi σ H ρi ∧ loopW G W (liftE X.K C Z E) (ds.drop i) ρi, ⟨ds.length, by simp, Nat.zero_le _, Z1, ρ1, Same.refl Z1, R1, q1⟩, ?_⟩
  rintro i m σ2 H2 ⟨rfl, hi2, Zi, ρi, mi, Ri, qi⟩
  obtain ⟨hstop, hgo⟩ := wk.2 Zi H2 mi Ri.b.le
  by_cases hlt : i < ds.length
  · obtain ⟨d, hd, ed⟩ := drop_at hlt
    obtain ⟨g1, g2⟩ := hgo i d hd
    rw [ed] at qi
    refine Or.inr ⟨g1, fun σ' H' => ∃ Zj ρj, Same Z1 Zj ∧ RB X.K C Zj σ' H' ρj ∧ loopW G W (liftE X.K C Z E) (ds.drop (i + 1)) ρj, fun σ' H' ⟨Zj, ρj, a1, a2, a3⟩ => ⟨ds.length - (i + 1), by omega, rfl, hlt, Zj, ρj, a1, a2, a3⟩, fun x H' y => ?_⟩
    have fin : ∀ Zk, Same Zi Zk → RB X.K C Zk σ2 H' ρi → Rp X.K Zk x d → rdG X.K C is G x σ2 H' fun σ3 H3 => rdS X.K C W { E with nx := (fun σ' H' => ∃ Zj ρj, Same Z1 Zj ∧ RB X.K C Zj σ' H' ρj ∧ loopW G W (liftE X.K C Z E) (ds.drop (i + 1)) ρj), ct := (fun σ' H' => ∃ Zj ρj, Same Z1 Zj ∧ RB X.K C Zj σ' H' ρj ∧ loopW G W (liftE X.K C Z E) (ds.drop (i + 1)) ρj), bk := E.nx } σ3 H3 := fun Zk mk Rk rk => ⟨Zk, ρi, d, Rk, rk, hg.mono d ρi _ _ (fun ρ3 q3 σ3 R3 _ _ => ⟨Zk, ρ3, R3, hb.mono { nx := loopW G W (liftE X.K C Z E) (ds.drop (i + 1)), rt := (liftE X.K C Z E).rt, bk := (liftE X.K C Z E).nx, ct := loopW G W (liftE X.K C Z E) (ds.drop (i + 1)) } _ ρ3 ⟨fun ρ' z Z' σ' H' m' R' => ⟨Z', ρ', mi.trans (mk.trans m'), R', z⟩, fun s ρ' z v Z' σ' H' m' R' w' => z v Z' σ' H' (m1.trans (mi.trans (mk.trans m'))) R' w', fun ρ' z Z' σ' H' m' R' => z Z' σ' H' (m1.trans (mi.trans (mk.trans m'))) R', fun ρ' z Z' σ' H' m' R' => ⟨Z', ρ', mi.trans (mk.trans m'), R', z⟩⟩ q3⟩) qi⟩
    rcases g2 x H' y with ⟨e, r⟩ | ⟨p, o, n, e, r⟩
    · subst e
      exact fin Zi (Same.refl Zi) Ri r
    · subst e
      exact fin _ (Same.new (Ri.b.noneZ n)) (Ri.newZ n) r
  · have e : i = ds.length := by omega
    subst e
    rw [List.drop_length] at qi
    exact Or.inl ⟨hstop _ (Nat.le_refl _), qi Zi σ2 H2 (m1.trans mi) Ri⟩
def sWhile (B : BT) (W : ST) : ST := fun E ρ => ∃ V : Nat → Rho → Prop, (∃ m, V m ρ) ∧ ∀ m ρ, V m ρ → B ρ fun c ρ1 => if c = true then W { nx := fun ρ' => ∃ m', m' < m ∧ V m' ρ', rt := E.rt, bk := E.nx, ct := fun ρ' => ∃ m', m' < m ∧ V m' ρ' } ρ1 else E.nx ρ1
theorem ds_while {c : Expr} {body : List Stmt} {B : BT} {W : ST} (hp : PassesOwn (model X.prog X.w) X.A X.env X.xe) (hc : DT X C c B) (hb : DSs X C body W) : DS X C (.While c body [] pos) (sWhile B W) := by
  refine ⟨fun E E' ρ l ⟨V, h0, ht⟩ => ⟨V, h0, fun m ρ hV => hc.mono ρ _ _ (fun c ρ1 q => ?_) (ht m ρ hV)⟩, PS.imp (ps_while hp hc.run hb.run) fun E σ H w => ?_⟩
  · cases c with
    | true => exact hb.mono { nx := fun ρ' => ∃ m', m' < m ∧ V m' ρ', rt := E.rt, bk := E.nx, ct := fun ρ' => ∃ m', m' < m ∧ V m' ρ' } { nx := fun ρ' => ∃ m', m' < m ∧ V m' ρ', rt := E'.rt, bk := E'.nx, ct := fun ρ' => ∃ m', m' < m ∧ V m' ρ' } ρ1 ⟨fun _ z => z, l.rt, l.nx, fun _ z => z⟩ q
    | false => exact l.nx _ q
  · obtain ⟨Z, ρ, R, V, ⟨m0, h0⟩, ht⟩ := w
    refine ⟨fun m σ H => ∃ Zi ρi, Same Z Zi ∧ RB X.K C Zi σ H ρi ∧ V m ρi, ⟨m0, Z, ρ, Same.refl Z, R, h0⟩, ?_⟩
    rintro m σ2 H2 ⟨Zi, ρi, mi, Ri, hV⟩
    refine rdB.go hc.mono Ri (ht m ρi hV) fun c ρ1 Z1 H1 q1 m1 R1 => ?_
    cases c with
    | true =>
      refine ⟨fun σ' H' => ∃ Zj ρj m', m' < m ∧ Same Z Zj ∧ RB X.K C Zj σ' H' ρj ∧ V m' ρj, fun σ' H' ⟨Zj, ρj, m', hm, a1, a2, a3⟩ => ⟨m', hm, Zj, ρj, a1, a2, a3⟩, Z1, ρ1, R1, hb.mono { nx := fun ρ' => ∃ m', m' < m ∧ V m' ρ', rt := (liftE X.K C Z E).rt, bk := (liftE X.K C Z E).nx, ct := fun ρ' => ∃ m', m' < m ∧ V m' ρ' } _ ρ1 ⟨fun ρ' z Z' σ' H' mm R' => ?_, fun s ρ' z v Z' σ' H' mm R' w' => z v Z' σ' H' (mi.trans (m1.trans mm)) R' w', fun ρ' z Z' σ' H' mm R' => z Z' σ' H' (mi.trans (m1.trans mm)) R', fun ρ' z Z' σ' H' mm R' => ?_⟩ q1⟩
      · obtain ⟨m', hm, hv⟩ := z
        exact ⟨Z', ρ', m', hm, mi.trans (m1.trans mm), R', hv⟩
      · obtain ⟨m', hm, hv⟩ := z
        exact ⟨Z', ρ', m', hm, mi.trans (m1.trans mm), R', hv⟩
    | false => exact q1 Z1 σ2 H1 (mi.trans m1) R1
end
end Dl

set_option Elab.async false
set_option linter.all false
set_option maxRecDepth 100000
set_option autoImplicit false
set_option maxHeartbeats 1000000
namespace Dl
open PySem PySem.Spec PyProof.Rows L2

/-! ### slots forgotten and given back -/
def parB : Sl → Bool
  | .own p _ => p
  | .drw p => p
  | _ => false
def plainB : Sl → Bool
  | .non => true
  | .d _ => true
  | .scr _ => true
  | _ => false
def plainAt (ρ : Rho) (v : Nat) : Bool := match ρ[v]? with
  | some s => plainB s
  | none => true
def plainAll (ρ : Rho) (vs : List Nat) : Bool := vs.all (plainAt ρ)
def wipeR (ρ : Rho) : List Nat → Rho
  | [] => ρ
  | v :: vs => (wipeR ρ vs).set v .non
def slotOr (ρ : Rho) (v : Nat) : Sl := match ρ[v]? with
  | some s => s
  | none => .non
def backR (ρ ρ3 : Rho) : List Nat → Rho
  | [] => ρ3
  | v :: vs => (backR ρ ρ3 vs).set v (slotOr ρ v)
def valOr (σ : Sg) (v : Nat) : Option V := match σ[v]? with
  | some x => x
  | none => none
def backS (σ σ3 : Sg) : List Nat → Sg
  | [] => σ3
  | v :: vs => (backS σ σ3 vs).set v (valOr σ v)
section
variable {K : PySem.W.Frag} {C C' : Ctx} {Z Z' Z3 H H' H3 : Hp} {σ σ' σ3 : Sg} {ρ ρ' ρ3 : Rho} {i j : Nat} {s t : Sl} {a : Addr} {o : HO} {vs is : List Nat}
theorem RB.wipe (R : RB K C Z σ H ρ) : ∀ vs, RB K C Z (L2.wipe σ vs) H (wipeR ρ vs)
  | [] => R
  | v :: vs => ⟨R.b, (R.wipe vs).s.put (i := v) (x := none) (t := .non) trivial fun b e => by cases e⟩
theorem oa_wipe : ∀ vs, OA (L2.wipe σ vs) (wipeR ρ vs) j a → OA σ ρ j a
  | [], h => h
  | v :: vs, h => by
    rcases oa_set (i := v) (x := none) (t := .non) h with ⟨_, z⟩ | ⟨_, z⟩
    · exact oa_wipe vs z
    · cases z
theorem wipe_at (h : j ∈ vs) : (L2.wipe σ vs)[j]? = if j < σ.length then some none else none := by
  induction vs with
  | nil => cases h
  | cons v vs ih =>
    unfold L2.wipe
    by_cases e : v = j
    · subst e
      by_cases hl : v < σ.length
      · rw [if_pos hl, List.getElem?_set_self (by rw [L2.wipe_length]; exact hl)]
      · rw [if_neg hl, List.getElem?_eq_none]
        rw [List.length_set, L2.wipe_length]
        omega
    · rw [List.getElem?_set_ne e]
      exact ih ((List.mem_cons.mp h).resolve_left fun z => e z.symm)
theorem wipe_eq (h : OutOf is (L2.wipe σ vs) σ3) (hs : ∀ i ∈ is, i ∈ vs) : L2.wipe σ3 vs = L2.wipe σ vs := by
  have hl : σ3.length = σ.length := h.1.trans (L2.wipe_length σ vs)
  refine List.ext_getElem? fun j => ?_
  by_cases hj : j ∈ vs
  · rw [wipe_at hj, wipe_at hj, hl]
  · rw [L2.wipe_out hj, L2.wipe_out hj, h.2 j fun z => hj (hs j z), L2.wipe_out hj]
theorem backS_eq (hl : σ3.length = σ.length) (ho : ∀ j, j ∉ vs → σ3[j]? = σ[j]?) : backS σ σ3 vs = σ := by
  have len : ∀ vs, (backS σ σ3 vs).length = σ.length := fun vs => by
    induction vs with
    | nil => exact hl
    | cons v vs ih =>
      unfold backS
      rw [List.length_set]
      exact ih
  have at_ : ∀ (vs : List Nat) j, (backS σ σ3 vs)[j]? = if j ∈ vs then σ[j]? else σ3[j]? := fun vs => by
    induction vs with
    | nil =>
      intro j
      rw [if_neg (by simp)]
      rfl
    | cons v vs ih =>
      intro j
      unfold backS
      by_cases e : v = j
      · subst e
        rw [if_pos List.mem_cons_self]
        by_cases hv : v < σ.length
        · rw [List.getElem?_set_self (by rw [len]; exact hv), List.getElem?_eq_getElem hv]
          unfold valOr
          rw [List.getElem?_eq_getElem hv]
        · rw [List.getElem?_eq_none (l := σ) (by omega), List.getElem?_eq_none]
          rw [List.length_set, len]
          omega
      · rw [List.getElem?_set_ne e, ih]
        by_cases hj : j ∈ vs
        · rw [if_pos hj, if_pos (List.mem_cons_of_mem _ hj)]
        · rw [if_neg hj, if_neg fun z => (List.mem_cons.mp z).elim (fun z => e z.symm) hj]
  refine List.ext_getElem? fun j => ?_
  rw [at_]
  split
  · rfl
  · rename_i hj
    exact ho j hj
theorem RB.unwipe (R : RB K C Z σ H ρ) (R3 : RB K C Z3 σ3 H3 ρ3) (m : Same Z Z3) (hl : σ3.length = σ.length) (ho : ∀ j, j ∉ vs → σ3[j]? = σ[j]?) (pl : plainAll ρ vs = true) : RB K C Z3 σ H3 (backR ρ ρ3 vs) := by
  have key : ∀ vs, plainAll ρ vs = true → Sls K C Z3 H3 (backS σ σ3 vs) (backR ρ ρ3 vs) := fun vs => by
    induction vs with
    | nil => exact fun _ => R3.s
    | cons v vs ih =>
      intro pl
      unfold plainAll at pl
      rw [List.all_cons, Bool.and_eq_true] at pl
      have S := ih pl.2
      unfold backS backR
      have pv := pl.1
      unfold plainAt at pv
      have fin : SlO K C Z3 H3 v (valOr σ v) (slotOr ρ v) ∧ ∀ b, ownA (valOr σ v) (slotOr ρ v) ≠ some b := by
        unfold slotOr valOr
        cases hρ : ρ[v]? with
        | none => exact ⟨trivial, fun b e => by cases h : σ[v]? with
          | none => rw [h] at e; cases e
          | some y => rw [h] at e; cases y <;> cases e⟩
        | some s =>
          rw [hρ] at pv
          obtain ⟨x, hx, sl⟩ := R.s.slotAt hρ
          rw [hx]
          cases s with
          | non => exact ⟨trivial, fun b e => by cases x <;> cases e⟩
          | d y => exact ⟨sl.keep m (fun b e => by cases x <;> cases e) (fun b p e => by cases x <;> cases e), fun b e => by cases x <;> cases e⟩
          | scr y => exact ⟨sl.keep m (fun b e => by cases x <;> cases e) (fun b p e => by cases x <;> cases e), fun b e => by cases x <;> cases e⟩
          | _ => cases pv
      exact S.put fin.1 fun b e => absurd e (fin.2 b)
  have S := key vs pl
  rw [backS_eq hl ho] at S
  exact ⟨R3.b, S⟩
/-- the same slots, a heap that the slots' own objects and new ones alone may change -/
def Ctx.sub (C : Ctx) (Z H : Hp) (σ : Sg) (ρ : Rho) : Ctx := ⟨H, Z, C.io, fun a => ∃ (i : Nat) (s : Sl) (v : Option V), ρ[i]? = some s ∧ σ[i]? = some v ∧ ownA v s = some a ∧ parB s = false⟩
theorem SlO.own2 {v : Option V} (h : SlO K C Z H i v s) (e : ownA v s = some a) : OwnAt C Z i (parB s) a ∧ H a ≠ none := by
  cases s with
  | non => cases v <;> cases e
  | d x => cases v <;> cases e
  | scr ns => cases v <;> cases e
  | pin b => cases v <;> cases e
  | own p xs =>
    obtain ⟨b, vs, rfl, hb, _, _, ow⟩ := h
    have e' : some b = some a := e
    cases e'
    exact ⟨ow, by rw [hb]; simp⟩
  | drw p =>
    obtain ⟨b, vs, xs, rfl, hb, _, _, ow⟩ := h
    have e' : some b = some a := e
    cases e'
    exact ⟨ow, by rw [hb]; simp⟩
  | ownT ks ds =>
    obtain ⟨b, vs, rfl, hb, _, _, ow⟩ := h
    have e' : some b = some a := e
    cases e'
    exact ⟨ow, by rw [hb]; simp⟩
  | ownK ks ds =>
    obtain ⟨b, vs, rfl, hb, _, _, ow⟩ := h
    have e' : some b = some a := e
    cases e'
    exact ⟨ow, by rw [hb]; simp⟩
/-- the owner's condition given anew, by the slot's own flag -/
theorem SlO.keep2 {v : Option V} (h : SlO K C Z H i v s) (ho : ∀ a, ownA v s = some a → OwnAt C Z i (parB s) a → OwnAt C' Z i (parB s) a) : SlO K C' Z H i v s := by
  cases s with
  | non => trivial
  | d x => exact h
  | scr ns => exact h
  | pin b => exact h
  | own p xs =>
    obtain ⟨b, vs, rfl, hb, r, l, ow⟩ := h
    exact ⟨b, vs, rfl, hb, r, l, ho b rfl ow⟩
  | drw p =>
    obtain ⟨b, vs, xs, rfl, hb, r, l, ow⟩ := h
    exact ⟨b, vs, xs, rfl, hb, r, l, ho b rfl ow⟩
  | ownT ks ds =>
    obtain ⟨b, vs, rfl, hb, r, l, ow⟩ := h
    exact ⟨b, vs, rfl, hb, r, l, ho b rfl ow⟩
  | ownK ks ds =>
    obtain ⟨b, vs, rfl, hb, r, l, ow⟩ := h
    exact ⟨b, vs, rfl, hb, r, l, ho b rfl ow⟩
theorem RB.sub (R : RB K C Z σ H ρ) : RB K (C.sub Z H σ ρ) Z σ H ρ := by
  refine ⟨⟨R.b.le, Same.refl Z, fun _ _ _ _ e => e, fun _ e => e, fun b e => Or.inl e, fun i a e => R.b.trk a (R.b.ioT i a e), fun a ⟨i, s, v, e1, e2, e3, _⟩ => ((R.s.slot i s v e1 e2).own2 e3).2⟩, R.s.len, fun i s v e1 e2 => ?_, R.s.inj⟩
  refine (R.s.slot i s v e1 e2).keep2 fun a ea ow => ⟨ow.1, ?_⟩
  have h2 := ow.2
  cases hp : parB s with
  | true =>
    rw [hp] at h2
    exact h2
  | false => exact Or.inr ⟨i, s, v, e1, e2, ea, hp⟩
theorem RB.unsub (R : RB K C Z σ H ρ) {σ' : Sg} (R' : RB K (C.sub Z H σ ρ) Z' σ' H' ρ') : RB K C Z' σ' H' ρ' := by
  have fz : ∀ a, (C.sub Z H σ ρ).fz a → C.H0 a = none ∨ C.fz a := fun a ⟨i, s, v, e1, e2, e3, e4⟩ => by
    have ow := ((R.s.slot i s v e1 e2).own2 e3).1.2
    rw [e4] at ow
    exact ow
  refine ⟨R.b.back R'.b rfl rfl (fun j a e => Or.inl ⟨j, e⟩) fz, R'.s.len, fun i s v e1 e2 => ?_, R'.s.inj⟩
  refine (R'.s.slot i s v e1 e2).keep2 fun a ea ow => ⟨ow.1, ?_⟩
  have h2 := ow.2
  cases hp : parB s with
  | true =>
    rw [hp] at h2
    exact h2
  | false =>
    rw [hp] at h2
    rcases h2 with z | z
    · exact Or.inl (R.b.none0 z)
    · exact fz a z
/-- an object beside the slots stands -/
theorem RB.subKeep (R : RB K C Z σ H ρ) {σ' : Sg} (R' : RB K (C.sub Z H σ ρ) Z' σ' H' ρ') (hD : H a = some o) (hz : Z a = none) (ap : ∀ j, ¬ OA σ ρ j a) (h0 : C.H0 a = none) : H' a = some o ∧ Z' a = none ∧ ∀ j, ¬ OA σ' ρ' j a := by
  have nio : ∀ i, (C.sub Z H σ ρ).io i ≠ some a := fun i e => R.b.ioT i a e h0
  have nfz : ¬ (C.sub Z H σ ρ).fz a := fun ⟨i, s, v, e1, e2, e3, _⟩ => ap i ⟨s, v, e1, e2, e3⟩
  refine ⟨R'.b.frame a o nio nfz hD, none_of_ne fun q => ?_, fun j q => ?_⟩
  · rcases R'.b.new a q with z | z | z
    · exact z hz
    · have z' : H a = none := z
      rw [hD] at z'
      cases z'
    · exact nfz z
  · rcases (R'.oaSt q).2.2 with ⟨i, z⟩ | z | z
    · exact nio i z
    · have z' : H a = none := z
      rw [hD] at z'
      cases z'
    · exact nfz z
theorem oa_back (h : OA σ (backR ρ ρ3 vs) j a) (pl : plainAll ρ vs = true) (hl : σ3.length = σ.length) (ho : ∀ j, j ∉ vs → σ3[j]? = σ[j]?) : OA σ3 ρ3 j a := by
  have key : ∀ vs, plainAll ρ vs = true → (backR ρ ρ3 vs)[j]? = none ∨ (∃ s, (backR ρ ρ3 vs)[j]? = some s ∧ plainB s = true) ∨ (j ∉ vs ∧ (backR ρ ρ3 vs)[j]? = ρ3[j]?) := fun vs => by
    induction vs with
    | nil => exact fun _ => Or.inr (Or.inr ⟨by simp, rfl⟩)
    | cons v vs ih =>
      intro pl
      unfold plainAll at pl
      rw [List.all_cons, Bool.and_eq_true] at pl
      unfold backR
      by_cases e : v = j
      · subst e
        by_cases hv : v < (backR ρ ρ3 vs).length
        · rw [List.getElem?_set_self hv]
          refine Or.inr (Or.inl ⟨_, rfl, ?_⟩)
          have pv := pl.1
          unfold plainAt at pv
          unfold slotOr
          cases hρ : ρ[v]? with
          | none => rfl
          | some s =>
            rw [hρ] at pv
            exact pv
        · refine Or.inl (List.getElem?_eq_none ?_)
          rw [List.length_set]
          omega
      · rw [List.getElem?_set_ne e]
        rcases ih pl.2 with q | q | ⟨q1, q2⟩
        · exact Or.inl q
        · exact Or.inr (Or.inl q)
        · exact Or.inr (Or.inr ⟨fun z => (List.mem_cons.mp z).elim (fun z => e z.symm) q1, q2⟩)
  obtain ⟨s, v, e1, e2, e3⟩ := h
  rcases key vs pl with q | ⟨s', q, pq⟩ | ⟨q1, q2⟩
  · rw [q] at e1
    cases e1
  · rw [q] at e1
    cases e1
    cases s <;> cases v <;> first | cases e3 | cases pq
  · rw [q2] at e1
    rw [← ho j q1] at e2
    exact ⟨s, v, e1, e2, e3⟩
theorem backR_plain (pl : plainAll ρ vs = true) (hl : ρ3.length = ρ.length) : plainAll (backR ρ ρ3 vs) vs = true := by
  have len : ∀ vs, (backR ρ ρ3 vs).length = ρ3.length := fun vs => by
    induction vs with
    | nil => rfl
    | cons v vs ih =>
      unfold backR
      rw [List.length_set]
      exact ih
  have key : ∀ vs ws, (∀ v ∈ vs, v ∈ ws) → plainAll ρ ws = true → ∀ v ∈ vs, plainAt (backR ρ ρ3 vs) v = true := fun vs => by
    induction vs with
    | nil => exact fun _ _ _ v h => by cases h
    | cons u us ih =>
      intro ws hs pl v hv
      unfold backR plainAt
      by_cases e : u = v
      · subst e
        by_cases hl2 : u < (backR ρ ρ3 us).length
        · rw [List.getElem?_set_self hl2]
          have pu := List.all_eq_true.mp pl u (hs u List.mem_cons_self)
          unfold plainAt at pu
          unfold slotOr
          cases hρ : ρ[u]? with
          | none => rfl
          | some s =>
            rw [hρ] at pu
            exact pu
        · rw [List.getElem?_eq_none (by rw [List.length_set]; omega)]
      · rw [List.getElem?_set_ne e]
        exact ih ws (fun w hw => hs w (List.mem_cons_of_mem _ hw)) pl v ((List.mem_cons.mp hv).resolve_left fun z => e z.symm)
  exact List.all_eq_true.mpr fun v hv => key vs vs (fun _ h => h) pl v hv
end

/-! ### list comprehensions -/
def lcW (ck : Bool) (G : GT) (B : BT) (T : ET) (vs : List Nat) : List D → List D → Rho → (List D → Rho → Prop) → Prop
  | [], acc, ρ, k => k acc ρ
  | d :: ds, acc, ρ, k => G d (wipeR ρ vs) fun ρ1 => B ρ1 fun b ρ2 => if b = true then T ρ2 (asD fun y ρ3 => (ck = true → acc.length < sizeLine) ∧ lcW ck G B T vs ds (acc ++ [y]) (backR ρ ρ3 vs) k) else lcW ck G B T vs ds acc (backR ρ ρ2 vs) k
theorem mono_lcW {ck : Bool} {G : GT} {B : BT} {T : ET} {vs : List Nat} (hG : MonoG G) (hB : MonoB B) (hT : MonoE T) {k k' : List D → Rho → Prop} (hk : ∀ x ρ, k x ρ → k' x ρ) : ∀ ds acc ρ, lcW ck G B T vs ds acc ρ k → lcW ck G B T vs ds acc ρ k'
  | [], acc, ρ, h => hk _ _ h
  | d :: ds, acc, ρ, h => hG d _ _ _ (fun ρ1 q => hB ρ1 _ _ (fun b ρ2 q2 => by
      cases b with
      | true => exact hT ρ2 _ _ (fun s ρ3 q3 => asD.imp (fun y ρ3 q4 => ⟨q4.1, mono_lcW hG hB hT hk ds _ _ q4.2⟩) q3) q2
      | false => exact mono_lcW hG hB hT hk ds _ _ q2) q) h
def rdEx (K : PySem.W.Frag) (T : ET) : TE := fun σ H Q => ∃ C, rdE K C T σ H Q
def rdBx (K : PySem.W.Frag) (T : BT) : TT := fun σ H Q => ∃ C, rdB K C T σ H Q
def rdIx (K : PySem.W.Frag) (T : IT) : TI := fun σ H Q => ∃ C, rdI K C T σ H Q
def rdGx (K : PySem.W.Frag) (is : List Nat) (T : GT) : TG := fun v σ H Q => ∃ C, rdG K C is T v σ H Q
theorem pe_x {X : Cx} {K : PySem.W.Frag} (hK : X.K = K) {e : Expr} {T : ET} (h : ∀ C, DE X C e T) : PE X e (rdEx K T) := hK ▸ ⟨fun pins s σ H Q I ⟨C, w⟩ => (h C).run.run pins s σ H Q I w⟩
theorem pi_x {X : Cx} {K : PySem.W.Frag} (hK : X.K = K) {tg e : Expr} {T : IT} (h : ∀ C, DI X C tg e T) : PI X tg e (rdIx K T) := hK ▸ ⟨fun pins s σ H Q I ⟨C, w⟩ => (h C).run.run pins s σ H Q I w⟩
theorem pg_x {X : Cx} {K : PySem.W.Frag} (hK : X.K = K) {e : Expr} {is : List Nat} {T : GT} (h : ∀ C, DG X C e is T) : PG X e (rdGx K is T) := hK ▸ ⟨fun pins s σ H v u Q I r ⟨C, w⟩ => (h C).run.run pins s σ H v u Q I r w⟩
/-- a list of tests: none, one -/
structure DTs (X : Cx) (C : Ctx) (ifs : List Expr) (T : BT) : Prop where
  mono : MonoB T
  run : PTs X ifs (rdB X.K C T)
def bYes : BT := fun ρ k => k true ρ
theorem PTs.imp {X : Cx} {e : List Expr} {t t' : TT} (h : PTs X e t) (q : ∀ σ H Q, t' σ H Q → t σ H Q) : PTs X e t' := ⟨fun pins s σ H Q I w => h.run pins s σ H Q I (q _ _ _ w)⟩
theorem dts_nil {X : Cx} {C : Ctx} : DTs X C [] bYes := ⟨fun ρ k k' hk q => hk _ _ q, PTs.imp pts_nil fun σ H Q w => by
  obtain ⟨Z, ρ, R, w⟩ := w
  exact w Z H (Same.refl Z) R⟩
theorem dts_one {X : Cx} {C : Ctx} {c : Expr} {B : BT} (h : DT X C c B) : DTs X C [c] B := ⟨h.mono, pts_one h.run⟩
theorem pts_x {X : Cx} {K : PySem.W.Frag} (hK : X.K = K) {ifs : List Expr} {T : BT} (h : ∀ C, DTs X C ifs T) : PTs X ifs (rdBx K T) := hK ▸ ⟨fun pins s σ H Q I ⟨C, w⟩ => (h C).run.run pins s σ H Q I w⟩
/-- the list at D so far, beside the slots -/
def LState (K : PySem.W.Frag) (C : Ctx) (Z1 : Hp) (L : Addr) (σ : Sg) (vs : List Nat) (P : List D → Rho → Prop) (H : Hp) : Prop :=
  ∃ Z ρ acc av, Same Z1 Z ∧ RB K C Z σ H ρ ∧ H L = some (.lst av) ∧ RpA K Z av acc ∧ acc.length ≤ sizeLine ∧ Z L = none ∧ (∀ j, ¬ OA σ ρ j L) ∧ plainAll ρ vs = true ∧ P acc ρ
section
variable {K : PySem.W.Frag} {C : Ctx} {Z Z1 H : Hp} {σ : Sg} {ρ : Rho} {L : Addr} {vs is : List Nat} {G : GT} {B : BT} {T : ET}
/-- the list grows -/
theorem RB.growL (R : RB K C Z σ H ρ) (hz : Z L = none) (h0 : C.H0 L = none) (ap : ∀ j, ¬ OA σ ρ j L) {o : HO} : RB K C Z σ (upd H L o) ρ := by
  refine ⟨R.b.write hz (Or.inr (Or.inl h0)), R.s.keep (Same.refl Z) fun i b q => ⟨?_, (R.oaSt q).1⟩⟩
  rw [upd_ne fun z => by subst z; exact ap i q]
theorem lc_turn {ck : Bool} (mG : MonoG G) (mB : MonoB B) (mT : MonoE T) (hv : ∀ i ∈ is, i ∈ vs) {ds : List D} {d : D} {kk : List D → Rho → Prop} {acc : List D} {av : List V} {x : V}
    (m : Same Z1 Z) (R : RB K C Z σ H ρ) (hL : H L = some (.lst av)) (ra : RpA K Z av acc) (hz : Z L = none) (ap : ∀ j, ¬ OA σ ρ j L) (h0 : C.H0 L = none) (pl : plainAll ρ vs = true) (rx : Rp K Z x d)
    (hw : lcW ck G B T vs (d :: ds) acc ρ kk) (hck : ck = false → acc.length < sizeLine) (hal : acc.length ≤ sizeLine) {Nx : Hp → Prop} (hNx : ∀ H', LState K C Z1 L σ vs (fun acc' ρ' => acc'.length ≤ acc.length + 1 ∧ lcW ck G B T vs ds acc' ρ' kk) H' → Nx H') :
    rdGx K is G x (L2.wipe σ vs) H fun σ2 H2 => L2.wipe σ2 vs = L2.wipe σ vs ∧ rdBx K B σ2 H2 fun b H3 => if b = true then rdEx K T σ2 H3 fun y H4 => ∃ acc, H4 L = some (.lst acc) ∧ acc.length < sizeLine ∧ Nx (upd H4 L (.lst (acc ++ [y]))) else Nx H3 := by
  have Rw := R.wipe vs
  refine ⟨C, Z, _, d, Rw, rx, mG d _ _ _ (fun ρ1 q σ2 R2 out nw => ⟨wipe_eq out hv, ?_⟩) hw⟩
  have hl2 : σ2.length = σ.length := out.1.trans (L2.wipe_length σ vs)
  have ho2 : ∀ j, j ∉ vs → σ2[j]? = σ[j]? := fun j hj => (out.2 j fun z => hj (hv j z)).trans (L2.wipe_out hj)
  have ap2 : ∀ j, ¬ OA σ2 ρ1 j L := fun j q2 => ap j (oa_wipe vs (nw j L q2))
  have S := R2.sub
  refine ⟨C.sub Z H σ2 ρ1, Z, ρ1, S, mB ρ1 _ _ (fun b ρ2 q2 Z2 H2 m2 R3 => ?_) q⟩
  obtain ⟨hL2, hz2, ap3⟩ := R2.subKeep R3 hL hz ap2 h0
  cases b with
  | false =>
    refine hNx H2 ⟨Z2, _, acc, av, m.trans m2, R.unwipe (R2.unsub R3) m2 hl2 ho2 pl, hL2, ra.mono m2, hal, hz2, fun j z => ap3 j (oa_back z pl hl2 ho2), backR_plain pl ?_, Nat.le_succ _, q2⟩
    rw [← R3.s.len, hl2, R.s.len]
  | true =>
    refine ⟨C.sub Z H σ2 ρ1, Z2, ρ2, R3, mT ρ2 _ _ (fun s ρ3 q3 y Z3 H3 m3 R4 w => ?_) q2⟩
    obtain ⟨yd, Z4, ⟨q5, q4⟩, m4, R5, ry⟩ := w.give R4 q3
    have RR := R2.unsub R5
    obtain ⟨hL4, hz4, ap4⟩ := R2.subKeep R5 hL hz ap2 h0
    have m24 : Same Z Z4 := m2.trans (m3.trans m4)
    have U := R.unwipe RR m24 hl2 ho2 pl
    have apU : ∀ j, ¬ OA σ (backR ρ ρ3 vs) j L := fun j z => ap4 j (oa_back z pl hl2 ho2)
    have hsz : acc.length < sizeLine := by
      cases hc : ck with
      | false => exact hck hc
      | true => exact q5 hc
    refine ⟨av, hL4, by rw [ra.len]; exact hsz, hNx _ ⟨Z4, _, acc ++ [yd], av ++ [y], m.trans m24, U.growL hz4 h0 apU, upd_same, (ra.mono m24).app (.one ry), by rw [List.length_append]; exact hsz, hz4, apU, backR_plain pl ?_, by rw [List.length_append]; exact Nat.le_refl _, q4⟩⟩
    rw [← R5.s.len, hl2, R.s.len]
end
end Dl

set_option Elab.async false
set_option linter.all false
set_option maxRecDepth 100000
set_option autoImplicit false
set_option maxHeartbeats 1000000
namespace Dl
open PySem PySem.Spec PyProof.Rows L2

def eLC (I : IT) (G : GT) (B : BT) (T : ET) (vs : List Nat) : ET := fun ρ k => I ρ fun ds ρ1 => plainAll ρ1 vs = true ∧ lcW false G B T vs ds [] ρ1 fun acc ρ2 => k (.own false acc) ρ2
theorem mono_eLC {I : IT} {G : GT} {B : BT} {T : ET} {vs : List Nat} (hI : MonoI I) (hG : MonoG G) (hB : MonoB B) (hT : MonoE T) : MonoE (eLC I G B T vs) := fun ρ k k' hk q => hI ρ _ _ (fun ds ρ1 ⟨p, q1⟩ => ⟨p, mono_lcW hG hB hT (fun acc ρ2 q2 => hk _ _ q2) ds [] ρ1 q1⟩) q
section
variable {K : PySem.W.Frag} {C : Ctx} {σ : Sg} {H : Hp} {Q : VK} {vs is vs1 is1 : List Nat} {I I1 : IT} {G G1 : GT} {B B1 : BT} {T : ET}
theorem lc_go (hI : MonoI I) (mG : MonoG G) (mB : MonoB B) (mT : MonoE T) (hv : ∀ i ∈ is, i ∈ vs) (w : rdE K C (eLC I G B T vs) σ H Q) : tLc (rdI K C I) (rdGx K is G) (rdBx K B) (rdEx K T) vs σ H Q := by
  obtain ⟨Z, ρ, R, w⟩ := w
  refine ⟨Z, ρ, R, hI ρ _ _ (fun ds ρ1 ⟨pl, q1⟩ J Z1 H1 m1 R1 wk L hL => ?_) w⟩
  obtain ⟨Rf, hz, h0, ap⟩ := R1.fresh (o := .lst []) hL
  refine ⟨fun i m H2 => m = ds.length - i ∧ i ≤ ds.length ∧ LState K C Z1 L σ vs (fun acc ρ' => acc.length ≤ i ∧ lcW false G B T vs (ds.drop i) acc ρ' fun acc ρ2 => ∀ v Z' H', Same Z Z' → RB K C Z' σ H' ρ2 → VR K C Z' H' σ ρ2 v (.own false acc) → Q v H') H2, ⟨ds.length, by simp, Nat.zero_le _, Z1, ρ1, [], [], Same.refl Z1, Rf, upd_same, .nil, Nat.zero_le _, hz, ap, pl, Nat.zero_le _, q1⟩, ?_⟩
  rintro i m H2 ⟨rfl, hi, Zi, ρi, acc, av, mi, Ri, hLi, ra, hal, hzi, api, pli, hai, qi⟩
  obtain ⟨hstop, hgo⟩ := wk.2 Zi H2 mi Ri.b.le
  by_cases hlt : i < ds.length
  · obtain ⟨d, hd, ed⟩ := drop_at hlt
    obtain ⟨g1, g2⟩ := hgo i d hd
    rw [ed] at qi
    refine Or.inr ⟨g1, fun H' => LState K C Z1 L σ vs (fun acc ρ' => acc.length ≤ i + 1 ∧ lcW false G B T vs (ds.drop (i + 1)) acc ρ' fun acc ρ2 => ∀ v Z' H', Same Z Z' → RB K C Z' σ H' ρ2 → VR K C Z' H' σ ρ2 v (.own false acc) → Q v H') H', fun H' n => ⟨ds.length - (i + 1), by omega, rfl, hlt, n⟩, fun x H' y => ?_⟩
    have hsz := wk.1
    have fin : ∀ Zk, Same Zi Zk → RB K C Zk σ H' ρi → Zk L = none → H' L = some (.lst av) → Rp K Zk x d → _ := fun Zk mk Rk hk hLk rk =>
      lc_turn (Z1 := Z1) (ck := false) mG mB mT hv (mi.trans mk) Rk hLk (ra.mono mk) hk api h0 pli rk qi (fun _ => by omega) hal (Nx := fun H' => LState K C Z1 L σ vs (fun acc ρ' => acc.length ≤ i + 1 ∧ lcW false G B T vs (ds.drop (i + 1)) acc ρ' fun acc ρ2 => ∀ v Z' H', Same Z Z' → RB K C Z' σ H' ρ2 → VR K C Z' H' σ ρ2 v (.own false acc) → Q v H') H')
        fun H3 ⟨Z3, ρ3, acc3, av3, a1, a2, a3, a4, a5, a6, a7, a8, a9, a10⟩ => ⟨Z3, ρ3, acc3, av3, a1, a2, a3, a4, a5, a6, a7, a8, by omega, a10⟩
    rcases g2 x H' y with ⟨e, r⟩ | ⟨p, o, n, e, r⟩
    · subst e
      exact fin Zi (Same.refl Zi) Ri hzi hLi r
    · subst e
      have hp : L ≠ p := ne_of_none hLi n
      refine fin _ (Same.new (Ri.b.noneZ n)) (Ri.newZ n) ?_ ?_ r
      · rw [upd_ne hp]; exact hzi
      · rw [upd_ne hp]; exact hLi
  · have e : i = ds.length := by omega
    subst e
    rw [List.drop_length] at qi
    exact Or.inl ⟨hstop _ (Nat.le_refl _), qi _ Zi H2 (m1.trans mi) Ri (.ofOwn hzi hLi (Or.inl h0) api ra hal)⟩
/-- two clauses -/
def lcW2 (G : GT) (B : BT) (I1 : IT) (G1 : GT) (B1 : BT) (T : ET) (vs vs1 : List Nat) : List D → List D → Rho → (List D → Rho → Prop) → Prop
  | [], acc, ρ, k => k acc ρ
  | d :: ds, acc, ρ, k => G d (wipeR ρ vs) fun ρ1 => B ρ1 fun b ρ2 => if b = true then I1 ρ2 fun ds1 ρ3 => plainAll ρ3 vs1 = true ∧ lcW true G1 B1 T vs1 ds1 acc ρ3 fun acc' ρ4 => lcW2 G B I1 G1 B1 T vs vs1 ds acc' (backR ρ ρ4 vs) k else lcW2 G B I1 G1 B1 T vs vs1 ds acc (backR ρ ρ2 vs) k
theorem mono_lcW2 (hG : MonoG G) (hB : MonoB B) (hI1 : MonoI I1) (hG1 : MonoG G1) (hB1 : MonoB B1) (hT : MonoE T) {k k' : List D → Rho → Prop} (hk : ∀ x ρ, k x ρ → k' x ρ) : ∀ ds acc ρ, lcW2 G B I1 G1 B1 T vs vs1 ds acc ρ k → lcW2 G B I1 G1 B1 T vs vs1 ds acc ρ k'
  | [], acc, ρ, h => hk _ _ h
  | d :: ds, acc, ρ, h => hG d _ _ _ (fun ρ1 q => hB ρ1 _ _ (fun b ρ2 q2 => by
      cases b with
      | true => exact hI1 ρ2 _ _ (fun ds1 ρ3 ⟨p, q3⟩ => ⟨p, mono_lcW hG1 hB1 hT (fun acc' ρ4 q4 => mono_lcW2 hG hB hI1 hG1 hB1 hT hk ds _ _ q4) ds1 acc ρ3 q3⟩) q2
      | false => exact mono_lcW2 hG hB hI1 hG1 hB1 hT hk ds _ _ q2) q) h
def eLC2 (I : IT) (G : GT) (B : BT) (I1 : IT) (G1 : GT) (B1 : BT) (T : ET) (vs vs1 : List Nat) : ET := fun ρ k => I ρ fun ds ρ1 => plainAll ρ1 vs = true ∧ lcW2 G B I1 G1 B1 T vs vs1 ds [] ρ1 fun acc ρ2 => k (.own false acc) ρ2
theorem mono_eLC2 (hI : MonoI I) (hG : MonoG G) (hB : MonoB B) (hI1 : MonoI I1) (hG1 : MonoG G1) (hB1 : MonoB B1) (hT : MonoE T) : MonoE (eLC2 I G B I1 G1 B1 T vs vs1) := fun ρ k k' hk q => hI ρ _ _ (fun ds ρ1 ⟨p, q1⟩ => ⟨p, mono_lcW2 hG hB hI1 hG1 hB1 hT (fun acc ρ2 q2 => hk _ _ q2) ds [] ρ1 q1⟩) q
theorem lc2_go (hI : MonoI I) (mG : MonoG G) (mB : MonoB B) (mI1 : MonoI I1) (mG1 : MonoG G1) (mB1 : MonoB B1) (mT : MonoE T) (hv : ∀ i ∈ is, i ∈ vs) (hv1 : ∀ i ∈ is1, i ∈ vs1) (hvv : ∀ i ∈ vs1, i ∈ vs) (w : rdE K C (eLC2 I G B I1 G1 B1 T vs vs1) σ H Q) :
    tLc2 (rdI K C I) (rdGx K is G) (rdBx K B) (rdIx K I1) (rdGx K is1 G1) (rdBx K B1) (rdEx K T) vs vs1 σ H Q := by
  obtain ⟨Z, ρ, R, w⟩ := w
  refine ⟨Z, ρ, R, hI ρ _ _ (fun ds ρ1 ⟨pl, q1⟩ J Z1 H1 m1 R1 wk L hL => ?_) w⟩
  obtain ⟨Rf, hz, h0, ap⟩ := R1.fresh (o := .lst []) hL
  refine ⟨fun i m H2 => m = ds.length - i ∧ i ≤ ds.length ∧ LState K C Z1 L σ vs (fun acc ρ' => lcW2 G B I1 G1 B1 T vs vs1 (ds.drop i) acc ρ' fun acc ρ2 => ∀ v Z' H', Same Z Z' → RB K C Z' σ H' ρ2 → VR K C Z' H' σ ρ2 v (.own false acc) → Q v H') H2, ⟨ds.length, by simp, Nat.zero_le _, Z1, ρ1, [], [], Same.refl Z1, Rf, upd_same, .nil, Nat.zero_le _, hz, ap, pl, q1⟩, ?_⟩
  rintro i m H2 ⟨rfl, hi, Zi, ρi, acc, av, mi, Ri, hLi, ra, hal, hzi, api, pli, qi⟩
  obtain ⟨hstop, hgo⟩ := wk.2 Zi H2 mi Ri.b.le
  by_cases hlt : i < ds.length
  · obtain ⟨d, hd, ed⟩ := drop_at hlt
    obtain ⟨g1, g2⟩ := hgo i d hd
    rw [ed] at qi
    refine Or.inr ⟨g1, fun H' => LState K C Z1 L σ vs (fun acc ρ' => lcW2 G B I1 G1 B1 T vs vs1 (ds.drop (i + 1)) acc ρ' fun acc ρ2 => ∀ v Z' H', Same Z Z' → RB K C Z' σ H' ρ2 → VR K C Z' H' σ ρ2 v (.own false acc) → Q v H') H', fun H' n => ⟨ds.length - (i + 1), by omega, rfl, hlt, n⟩, fun x H' y => ?_⟩
    have fin : ∀ Zk, Same Zi Zk → RB K C Zk σ H' ρi → Zk L = none → H' L = some (.lst av) → Rp K Zk x d → rdGx K is G x (L2.wipe σ vs) H' fun σ2 H2 => L2.wipe σ2 vs = L2.wipe σ vs ∧ rdBx K B σ2 H2 fun b H3 => if b = true then rdIx K I1 σ2 H3 fun J1 H4 => ∃ W1 : Nat → Nat → Hp → Prop, (∃ m, W1 0 m H4) ∧ ∀ j k H, W1 j k H →
        (J1.stop j H ∧ LState K C Z1 L σ vs (fun acc ρ' => lcW2 G B I1 G1 B1 T vs vs1 (ds.drop (i + 1)) acc ρ' fun acc ρ2 => ∀ v Z' H', Same Z Z' → RB K C Z' σ H' ρ2 → VR K C Z' H' σ ρ2 v (.own false acc) → Q v H') H) ∨ (J1.go j H ∧ ∃ Nx1 : Hp → Prop, (∀ H', Nx1 H' → ∃ k', k' < k ∧ W1 (j + 1) k' H') ∧ ∀ x H', J1.yld j H x H' → rdGx K is1 G1 x (L2.wipe σ2 vs1) H' fun σ3 H5 => L2.wipe σ3 vs1 = L2.wipe σ2 vs1 ∧ rdBx K B1 σ3 H5 fun b H6 =>
          if b = true then rdEx K T σ3 H6 fun y H7 => ∃ acc, H7 L = some (.lst acc) ∧ acc.length < sizeLine ∧ Nx1 (upd H7 L (.lst (acc ++ [y]))) else Nx1 H6)
        else LState K C Z1 L σ vs (fun acc ρ' => lcW2 G B I1 G1 B1 T vs vs1 (ds.drop (i + 1)) acc ρ' fun acc ρ2 => ∀ v Z' H', Same Z Z' → RB K C Z' σ H' ρ2 → VR K C Z' H' σ ρ2 v (.own false acc) → Q v H') H3 := by
      intro Zk mk Rk hk hLk rk
      have Rw := Rk.wipe vs
      refine ⟨C, Zk, _, d, Rw, rk, mG d _ _ _ (fun ρ1 q σ2 R2 out nw => ⟨wipe_eq out hv, ?_⟩) qi⟩
      have hl2 : σ2.length = σ.length := out.1.trans (L2.wipe_length σ vs)
      have ho2 : ∀ j, j ∉ vs → σ2[j]? = σ[j]? := fun j hj => (out.2 j fun z => hj (hv j z)).trans (L2.wipe_out hj)
      have ap2 : ∀ j, ¬ OA σ2 ρ1 j L := fun j q2 => api j (oa_wipe vs (nw j L q2))
      have S := R2.sub
      refine ⟨C.sub Zk H' σ2 ρ1, Zk, ρ1, S, mB ρ1 _ _ (fun b ρ2 q2 Z2 H2 m2 R3 => ?_) q⟩
      obtain ⟨hL2, hz2, ap3⟩ := R2.subKeep R3 hLk hk ap2 h0
      cases b with
      | false =>
        refine ⟨Z2, _, acc, av, (mi.trans mk).trans m2, Rk.unwipe (R2.unsub R3) m2 hl2 ho2 pli, hL2, (ra.mono mk).mono m2, hal, hz2, fun j z => ap3 j (oa_back z pli hl2 ho2), backR_plain pli ?_, q2⟩
        rw [← R3.s.len, hl2, Ri.s.len]
      | true =>
        refine ⟨C.sub Zk H' σ2 ρ1, Z2, ρ2, R3, mI1 ρ2 _ _ (fun ds1 ρ3 ⟨pl3, q3⟩ J1 Z3 H3 m3 R4 wk1 => ?_) q2⟩
        have RR := R2.unsub R4
        obtain ⟨hL4, hz4, ap4⟩ := R2.subKeep R4 hLk hk ap2 h0
        have m23 := m2.trans m3
        refine ⟨fun j n H5 => n = ds1.length - j ∧ j ≤ ds1.length ∧ LState K C Z3 L σ2 vs1 (fun acc ρ' => lcW true G1 B1 T vs1 (ds1.drop j) acc ρ' fun acc' ρ4 => lcW2 G B I1 G1 B1 T vs vs1 (ds.drop (i + 1)) acc' (backR ρi ρ4 vs) fun acc ρ2 => ∀ v Z' H', Same Z Z' → RB K C Z' σ H' ρ2 → VR K C Z' H' σ ρ2 v (.own false acc) → Q v H') H5,
          ⟨ds1.length, by simp, Nat.zero_le _, Z3, ρ3, acc, av, Same.refl Z3, RR, hL4, (ra.mono mk).mono m23, hal, hz4, ap4, pl3, q3⟩, ?_⟩
        rintro j n H5 ⟨rfl, hj, Zj, ρj, accj, avj, mj, Rj, hLj, raj, halj, hzj, apj, plj, qj⟩
        obtain ⟨hstop1, hgo1⟩ := wk1.2 Zj H5 mj Rj.b.le
        by_cases hlt1 : j < ds1.length
        · obtain ⟨d1, hd1, ed1⟩ := drop_at hlt1
          obtain ⟨g3, g4⟩ := hgo1 j d1 hd1
          rw [ed1] at qj
          refine Or.inr ⟨g3, fun H' => LState K C Z3 L σ2 vs1 (fun acc ρ' => lcW true G1 B1 T vs1 (ds1.drop (j + 1)) acc ρ' fun acc' ρ4 => lcW2 G B I1 G1 B1 T vs vs1 (ds.drop (i + 1)) acc' (backR ρi ρ4 vs) fun acc ρ2 => ∀ v Z' H', Same Z Z' → RB K C Z' σ H' ρ2 → VR K C Z' H' σ ρ2 v (.own false acc) → Q v H') H', fun H' n => ⟨ds1.length - (j + 1), by omega, rfl, hlt1, n⟩, fun x1 H6 y1 => ?_⟩
          have fin1 : ∀ Zq, Same Zj Zq → RB K C Zq σ2 H6 ρj → Zq L = none → H6 L = some (.lst avj) → Rp K Zq x1 d1 → _ := fun Zq mq Rq hq hLq rq =>
            lc_turn (Z1 := Z3) (ck := true) mG1 mB1 mT hv1 (mj.trans mq) Rq hLq (raj.mono mq) hq apj h0 plj rq qj (fun z => by cases z) halj (Nx := fun H' => LState K C Z3 L σ2 vs1 (fun acc ρ' => lcW true G1 B1 T vs1 (ds1.drop (j + 1)) acc ρ' fun acc' ρ4 => lcW2 G B I1 G1 B1 T vs vs1 (ds.drop (i + 1)) acc' (backR ρi ρ4 vs) fun acc ρ2 => ∀ v Z' H', Same Z Z' → RB K C Z' σ H' ρ2 → VR K C Z' H' σ ρ2 v (.own false acc) → Q v H') H')
              fun H3 ⟨Z3, ρ3, acc3, av3, a1, a2, a3, a4, a5, a6, a7, a8, a9, a10⟩ => ⟨Z3, ρ3, acc3, av3, a1, a2, a3, a4, a5, a6, a7, a8, a10⟩
          rcases g4 x1 H6 y1 with ⟨e, r⟩ | ⟨p, o, n, e, r⟩
          · subst e
            exact fin1 Zj (Same.refl Zj) Rj hzj hLj r
          · subst e
            have hp : L ≠ p := ne_of_none hLj n
            refine fin1 _ (Same.new (Rj.b.noneZ n)) (Rj.newZ n) ?_ ?_ r
            · rw [upd_ne hp]; exact hzj
            · rw [upd_ne hp]; exact hLj
        · have e : j = ds1.length := by omega
          subst e
          rw [List.drop_length] at qj
          refine Or.inl ⟨hstop1 _ (Nat.le_refl _), Zj, _, accj, avj, ((mi.trans mk).trans m23).trans mj, Rk.unwipe Rj (m23.trans mj) hl2 ho2 pli, hLj, raj, halj, hzj, fun j z => apj j (oa_back z pli hl2 ho2), backR_plain pli ?_, qj⟩
          rw [← Rj.s.len, hl2, Ri.s.len]
    rcases g2 x H' y with ⟨e, r⟩ | ⟨p, o, n, e, r⟩
    · subst e
      exact fin Zi (Same.refl Zi) Ri hzi hLi r
    · subst e
      have hp : L ≠ p := ne_of_none hLi n
      refine fin _ (Same.new (Ri.b.noneZ n)) (Ri.newZ n) ?_ ?_ r
      · rw [upd_ne hp]; exact hzi
      · rw [upd_ne hp]; exact hLi
  · have e : i = ds.length := by omega
    subst e
    rw [List.drop_length] at qi
    exact Or.inl ⟨hstop _ (Nat.le_refl _), qi _ Zi H2 (m1.trans mi) Ri (.ofOwn hzi hLi (Or.inl h0) api ra hal)⟩
end
section
variable {X : Cx} {C : Ctx} {elt tg iter tg1 iter1 : Expr} {ifs ifs1 : List Expr} {scope : Scope} {own : List (Str × Nat)} {pos spos py : Pos} {y : Str} {i : Nat} {I I1 : IT} {G G1 : GT} {B B1 : BT} {T : ET} {is is1 vs1 : List Nat}
theorem de_lc (hc : X.calm = true) (hN : X.N.Nodup) (hi : DI X C tg iter I) (ok : BlkOk X.N X.env.scope scope own) (hv : ∀ i ∈ is, i ∈ own.map (·.2))
    (hg : ∀ (s : Shared) (H : Hp) (Ca : Addr) (cl : List (Str × Addr)) (fp : List Addr) (C : Ctx), DG (X.blk s H scope (compEnvC scope cl Ca X.env) fp) C tg is G)
    (ht : ∀ (s : Shared) (H : Hp) (Ca : Addr) (cl : List (Str × Addr)) (fp : List Addr) (C : Ctx), DTs (X.blk s H scope (compEnvC scope cl Ca X.env) fp) C ifs B)
    (he : ∀ (s : Shared) (H : Hp) (Ca : Addr) (cl : List (Str × Addr)) (fp : List Addr) (C : Ctx), DE (X.blk s H scope (compEnvC scope cl Ca X.env) fp) C elt T) (hs : ∀ x, foldedSetIterable iter X.env x = pure x := by intro _; rfl) :
    DE X C (.ListComp elt [⟨tg, iter, ifs, 0⟩] scope pos) (eLC I G B T (own.map (·.2))) :=
  ⟨mono_eLC hi.mono (hg X.s_0 (fun _ => none) 0 [] [] C).mono (ht X.s_0 (fun _ => none) 0 [] [] C).mono (he X.s_0 (fun _ => none) 0 [] [] C).mono,
    PE.imp (pe_lc hc hN hi.run ok (fun s H Ca cl fp => pg_x (K := X.K) (by rfl) (hg s H Ca cl fp)) (fun s H Ca cl fp => pts_x (K := X.K) (by rfl) (ht s H Ca cl fp)) (fun s H Ca cl fp => pe_x (K := X.K) (by rfl) (he s H Ca cl fp)) hs) fun σ H Q w =>
      lc_go hi.mono (hg X.s_0 (fun _ => none) 0 [] [] C).mono (ht X.s_0 (fun _ => none) 0 [] [] C).mono (he X.s_0 (fun _ => none) 0 [] [] C).mono hv w⟩
theorem ds_setLc (hc : X.calm = true) (hN : X.N.Nodup) (hsw : swapsWith (.ListComp elt [⟨tg, iter, ifs, 0⟩] scope pos) (some (.Name y py)) spos.line X.env = pure true) (hi : DI X C tg iter I) (ok : BlkOk X.N X.env.scope scope own) (hv : ∀ i ∈ is, i ∈ own.map (·.2))
    (hg : ∀ (s : Shared) (H : Hp) (Ca : Addr) (cl : List (Str × Addr)) (fp : List Addr) (C : Ctx), DG (X.blk s H scope (compEnvC scope cl Ca X.env) fp) C tg is G)
    (ht : ∀ (s : Shared) (H : Hp) (Ca : Addr) (cl : List (Str × Addr)) (fp : List Addr) (C : Ctx), DTs (X.blk s H scope (compEnvC scope cl Ca X.env) fp) C ifs B)
    (he : ∀ (s : Shared) (H : Hp) (Ca : Addr) (cl : List (Str × Addr)) (fp : List Addr) (C : Ctx), DE (X.blk s H scope (compEnvC scope cl Ca X.env) fp) C elt T) (hy : X.N[i]? = some y := by rfl) (hyl : X.env.scope.names.lookup y = some .local := by rfl) (hs : ∀ x, foldedSetIterable iter X.env x = pure x := by intro _; rfl) :
    DS X C (.Assign [.Name y py] (.ListComp elt [⟨tg, iter, ifs, 0⟩] scope pos) spos) (sSet i (eLC I G B T (own.map (·.2)))) := by
  have mono : MonoE (eLC I G B T (own.map (·.2))) := mono_eLC hi.mono (hg X.s_0 (fun _ => none) 0 [] [] C).mono (ht X.s_0 (fun _ => none) 0 [] [] C).mono (he X.s_0 (fun _ => none) 0 [] [] C).mono
  refine ⟨fun E E' ρ l q => mono ρ _ _ (fun s ρ1 q1 => l.nx _ q1) q, PS.imp (ps_setLc hc hN hy hyl hsw hi.run ok (fun s H Ca cl fp => pg_x (K := X.K) (by rfl) (hg s H Ca cl fp)) (fun s H Ca cl fp => pts_x (K := X.K) (by rfl) (ht s H Ca cl fp)) (fun s H Ca cl fp => pe_x (K := X.K) (by rfl) (he s H Ca cl fp)) hs) fun E σ H w => ?_⟩
  refine lc_go hi.mono (hg X.s_0 (fun _ => none) 0 [] [] C).mono (ht X.s_0 (fun _ => none) 0 [] [] C).mono (he X.s_0 (fun _ => none) 0 [] [] C).mono hv ?_
  obtain ⟨Z, ρ, R, w⟩ := w
  exact rdE.go mono R w fun s1 ρ1 v Z1 H1 q1 m1 R1 w1 => q1 Z1 _ H1 m1 (R1.store w1)
theorem de_lc2 (hc : X.calm = true) (hN : X.N.Nodup) (hi : DI X C tg iter I) (ok : BlkOk X.N X.env.scope scope own) (hvv : ∀ i ∈ vs1, i ∈ own.map (·.2)) (hv : ∀ i ∈ is, i ∈ own.map (·.2)) (hv1 : ∀ i ∈ is1, i ∈ vs1)
    (hg : ∀ (s : Shared) (H : Hp) (Ca : Addr) (cl : List (Str × Addr)) (fp : List Addr) (C : Ctx), DG (X.blk s H scope (compEnvC scope cl Ca X.env) fp) C tg is G)
    (ht : ∀ (s : Shared) (H : Hp) (Ca : Addr) (cl : List (Str × Addr)) (fp : List Addr) (C : Ctx), DTs (X.blk s H scope (compEnvC scope cl Ca X.env) fp) C ifs B)
    (hi1 : ∀ (s : Shared) (H : Hp) (Ca : Addr) (cl : List (Str × Addr)) (fp : List Addr) (C : Ctx), DI (X.blk s H scope (compEnvC scope cl Ca X.env) fp) C tg1 iter1 I1)
    (hg1 : ∀ (s : Shared) (H : Hp) (Ca : Addr) (cl : List (Str × Addr)) (fp : List Addr) (C : Ctx), DG (X.blk s H scope (compEnvC scope cl Ca X.env) fp) C tg1 is1 G1)
    (ht1 : ∀ (s : Shared) (H : Hp) (Ca : Addr) (cl : List (Str × Addr)) (fp : List Addr) (C : Ctx), DTs (X.blk s H scope (compEnvC scope cl Ca X.env) fp) C ifs1 B1)
    (he : ∀ (s : Shared) (H : Hp) (Ca : Addr) (cl : List (Str × Addr)) (fp : List Addr) (C : Ctx), DE (X.blk s H scope (compEnvC scope cl Ca X.env) fp) C elt T) (hs : ∀ x, foldedSetIterable iter X.env x = pure x := by intro _; rfl) (hs1 : ∀ env x, foldedSetIterable iter1 env x = pure x := by intro _ _; rfl) :
    DE X C (.ListComp elt [⟨tg, iter, ifs, 0⟩, ⟨tg1, iter1, ifs1, 0⟩] scope pos) (eLC2 I G B I1 G1 B1 T (own.map (·.2)) vs1) :=
  have a1 := (hg X.s_0 (fun _ => none) 0 [] [] C).mono
  have a2 := (ht X.s_0 (fun _ => none) 0 [] [] C).mono
  have a3 := (hi1 X.s_0 (fun _ => none) 0 [] [] C).mono
  have a4 := (hg1 X.s_0 (fun _ => none) 0 [] [] C).mono
  have a5 := (ht1 X.s_0 (fun _ => none) 0 [] [] C).mono
  have a6 := (he X.s_0 (fun _ => none) 0 [] [] C).mono
  ⟨mono_eLC2 hi.mono a1 a2 a3 a4 a5 a6,
    PE.imp (pe_lc2 hc hN hi.run ok hvv (fun s H Ca cl fp => pg_x (K := X.K) (by rfl) (hg s H Ca cl fp)) (fun s H Ca cl fp => pts_x (K := X.K) (by rfl) (ht s H Ca cl fp)) (fun s H Ca cl fp => pi_x (K := X.K) (by rfl) (hi1 s H Ca cl fp)) (fun s H Ca cl fp => pg_x (K := X.K) (by rfl) (hg1 s H Ca cl fp)) (fun s H Ca cl fp => pts_x (K := X.K) (by rfl) (ht1 s H Ca cl fp)) (fun s H Ca cl fp => pe_x (K := X.K) (by rfl) (he s H Ca cl fp)) hs hs1) fun σ H Q w =>
      lc2_go hi.mono a1 a2 a3 a4 a5 a6 hv hv1 hvv w⟩
theorem ds_setLc2 (hc : X.calm = true) (hN : X.N.Nodup) (hsw : swapsWith (.ListComp elt [⟨tg, iter, ifs, 0⟩, ⟨tg1, iter1, ifs1, 0⟩] scope pos) (some (.Name y py)) spos.line X.env = pure true) (hi : DI X C tg iter I) (ok : BlkOk X.N X.env.scope scope own) (hvv : ∀ i ∈ vs1, i ∈ own.map (·.2)) (hv : ∀ i ∈ is, i ∈ own.map (·.2)) (hv1 : ∀ i ∈ is1, i ∈ vs1)
    (hg : ∀ (s : Shared) (H : Hp) (Ca : Addr) (cl : List (Str × Addr)) (fp : List Addr) (C : Ctx), DG (X.blk s H scope (compEnvC scope cl Ca X.env) fp) C tg is G)
    (ht : ∀ (s : Shared) (H : Hp) (Ca : Addr) (cl : List (Str × Addr)) (fp : List Addr) (C : Ctx), DTs (X.blk s H scope (compEnvC scope cl Ca X.env) fp) C ifs B)
    (hi1 : ∀ (s : Shared) (H : Hp) (Ca : Addr) (cl : List (Str × Addr)) (fp : List Addr) (C : Ctx), DI (X.blk s H scope (compEnvC scope cl Ca X.env) fp) C tg1 iter1 I1)
    (hg1 : ∀ (s : Shared) (H : Hp) (Ca : Addr) (cl : List (Str × Addr)) (fp : List Addr) (C : Ctx), DG (X.blk s H scope (compEnvC scope cl Ca X.env) fp) C tg1 is1 G1)
    (ht1 : ∀ (s : Shared) (H : Hp) (Ca : Addr) (cl : List (Str × Addr)) (fp : List Addr) (C : Ctx), DTs (X.blk s H scope (compEnvC scope cl Ca X.env) fp) C ifs1 B1)
    (he : ∀ (s : Shared) (H : Hp) (Ca : Addr) (cl : List (Str × Addr)) (fp : List Addr) (C : Ctx), DE (X.blk s H scope (compEnvC scope cl Ca X.env) fp) C elt T) (hy : X.N[i]? = some y := by rfl) (hyl : X.env.scope.names.lookup y = some .local := by rfl) (hs : ∀ x, foldedSetIterable iter X.env x = pure x := by intro _; rfl) (hs1 : ∀ env x, foldedSetIterable iter1 env x = pure x := by intro _ _; rfl) :
    DS X C (.Assign [.Name y py] (.ListComp elt [⟨tg, iter, ifs, 0⟩, ⟨tg1, iter1, ifs1, 0⟩] scope pos) spos) (sSet i (eLC2 I G B I1 G1 B1 T (own.map (·.2)) vs1)) := by
  have a1 := (hg X.s_0 (fun _ => none) 0 [] [] C).mono
  have a2 := (ht X.s_0 (fun _ => none) 0 [] [] C).mono
  have a3 := (hi1 X.s_0 (fun _ => none) 0 [] [] C).mono
  have a4 := (hg1 X.s_0 (fun _ => none) 0 [] [] C).mono
  have a5 := (ht1 X.s_0 (fun _ => none) 0 [] [] C).mono
  have a6 := (he X.s_0 (fun _ => none) 0 [] [] C).mono
  have mono := mono_eLC2 (vs := own.map (·.2)) (vs1 := vs1) hi.mono a1 a2 a3 a4 a5 a6
  refine ⟨fun E E' ρ l q => mono ρ _ _ (fun s ρ1 q1 => l.nx _ q1) q, PS.imp (ps_setLc2 hc hN hy hyl hsw hi.run ok hvv (fun s H Ca cl fp => pg_x (K := X.K) (by rfl) (hg s H Ca cl fp)) (fun s H Ca cl fp => pts_x (K := X.K) (by rfl) (ht s H Ca cl fp)) (fun s H Ca cl fp => pi_x (K := X.K) (by rfl) (hi1 s H Ca cl fp)) (fun s H Ca cl fp => pg_x (K := X.K) (by rfl) (hg1 s H Ca cl fp)) (fun s H Ca cl fp => pts_x (K := X.K) (by rfl) (ht1 s H Ca cl fp)) (fun s H Ca cl fp => pe_x (K := X.K) (by rfl) (he s H Ca cl fp)) hs hs1) fun E σ H w => ?_⟩
  refine lc2_go hi.mono a1 a2 a3 a4 a5 a6 hv hv1 hvv ?_
  obtain ⟨Z, ρ, R, w⟩ := w
  exact rdE.go mono R w fun s1 ρ1 v Z1 H1 q1 m1 R1 w1 => q1 Z1 _ H1 m1 (R1.store w1)
end
end Dl

set_option Elab.async false
set_option linter.all false
set_option maxRecDepth 100000
set_option autoImplicit false
set_option maxHeartbeats 1000000
namespace Dl
open PySem PySem.Spec PyProof.Rows L2

/-! ### promises, where nothing is being shown around the call (guards) -/
structure FnG (P : Program) (w : World) (K : PySem.W.Frag) (mg : Str → Option Value) (base : Heap) (CX : CXT) (k : Nat) (f : Addr) (fd : FuncData) (ps : List Str) (sp : Sp) : Prop where
  len : ∀ vs H Q E, sp vs H Q E → vs.length = ps.length
  run : ∀ (A : Around) (out : List Env) (st : Shared) (H : Hp) (args : Args) (us : List Value) (vs : List V) (Q : VK) (E : XK), Room k A → A.guards = some [] → Env0 P w K mg base A out st H →
    BindsTo st fd args (ps.zip us) → Vals vs us → sp vs H Q E → codeAny (model P w) A (.call (.ref f) args) (CR CX out P w H st Q E) st
section
variable {P : Program} {w : World} {K : PySem.W.Frag} {mg : Str → Option Value} {base : Heap} {CX : CXT} {f : Addr} {fd : FuncData} {ps : List Str} {sp sp' : Sp} {j k : Nat}
theorem FnG.mono (F : FnG P w K mg base CX j f fd ps sp) (h : j ≤ k) : FnG P w K mg base CX k f fd ps sp :=
  ⟨F.len, fun A out st H args us vs Q E room gd => F.run A out st H args us vs Q E (room.mono h) gd⟩
theorem FnG.imp (F : FnG P w K mg base CX k f fd ps sp) (h : ∀ vs H Q E, sp' vs H Q E → sp vs H Q E) : FnG P w K mg base CX k f fd ps sp' :=
  ⟨fun vs H Q E q => F.len vs H Q E (h _ _ _ _ q), fun A out st H args us vs Q E room gd e bd rv q => F.run A out st H args us vs Q E room gd e bd rv (h _ _ _ _ q)⟩
/-- a def by its body; the guards are known in it -/
theorem fnG_of {name qual : Str} {params : Arguments} {body : List Stmt} {scope : Scope} {dV kV doc pm cdv ct oc : Value} {an od : Option Addr} {osl : Array (Option Value)} {N : List Str}
    (at_ : K.lookup f = some ⟨oc, od, .func (PySem.W.fnOf name qual params body scope dV kV doc pm an cdv ct), osl⟩) (code : PySem.W.codeIn K cdv qual = true) (S : FnScope N ps scope) (len : ∀ vs H Q E, sp vs H Q E → vs.length = ps.length)
    (hb : ∀ (A : Around) (out : List Env) (st : Shared) (H : Hp) (vs : List V) (Q : VK) (E : XK), Room k (A.deeper (envOfC qual scope st.heap.objs.size f cdv)) → A.guards = some [] → sp vs H Q E →
      ∃ t, PSs (cxOf CX P w K mg base N qual scope f cdv A out st H E) body t ∧ t { nx := fun _ H' => Q .non H', rt := Q } (start N vs) H) :
    FnG P w K mg base CX (k + 1) f (PySem.W.fnOf name qual params body scope dV kV doc pm an cdv ct) ps sp := by
  refine ⟨len, fun A out st H args us vs Q E room gd at0 bd rv hs => ?_⟩
  have hlen := len vs H Q E hs
  have inK : K.In st.heap := at0.mod.kin.keeps fun b o e => (at0.bs b o e).1
  have nol : st.heap.NoLimit := at0.mod.nolimit.keeps fun b o e => (at0.bs b o e).1
  have kinds : ∀ p ∈ ps.zip us, scope.names.lookup p.1 = some .local ∨ (scope.names.lookup p.1 = some .cell ∧ ((cellsFrom (st.heap.objs.size + 1) scope.names []).lookup p.1).isSome = true) := by
    intro p hp
    obtain ⟨n, v⟩ := p
    rcases S.par n (List.of_mem_zip hp).1 with z | z
    · exact Or.inl z
    · exact Or.inr ⟨z, PySem.W.cellsFrom_some _ _ _ (Or.inl z)⟩
  refine codeAny_call_function room.depth (inK _ _ at_) rfl S.co S.gen rfl (PySem.W.codeRec_of inK code) (bd _ _ _ _ ?_)
  refine wpAny_newFunctionEnv_cells S.kind kinds fun env henv st1 inCall => ?_
  subst henv
  refine ⟨nol.keeps inCall.toInCall.keep, codeAny_func ?_⟩
  obtain ⟨t, ht, hq⟩ := hb A out st H vs Q E (room.deeper _) gd hs
  have J := inv_start (CX := CX) (E := E) (f := f) (cd := cdv) (qual := qual) S room.hd at0 hlen rv inCall
  refine wpAny_mono (ht.run [] st1 (start N vs) H _ J hq) (fun fl st2 h2 => ?_) fun _ _ h2 => h2
  cases fl with
  | ret u =>
    obtain ⟨v, σ', H', I2, r2, q2⟩ := h2
    exact ⟨v, H', I2.os, I2.bare, I2.base, I2.hok, r2, q2⟩
  | next =>
    obtain ⟨σ', H', I2, q2⟩ := h2
    exact ⟨.non, H', I2.os, I2.bare, I2.base, I2.hok, rfl, q2⟩
  | brk =>
    obtain ⟨_, _, _, z⟩ := h2
    exact z.elim
  | cont =>
    obtain ⟨_, _, _, z⟩ := h2
    exact z.elim
end
section
variable {X : Cx} {CX : CXT} {k : Nat} {f : Addr} {fd : FuncData} {ps : List Str} {sp : Sp} {dvs : List V} {ds : List Value} {E : XK} {x : Str} {p pos : Pos} {e : Expr} {es : List Expr} {t : TA}
theorem runG {pins : List (Addr × Obj)} {σ : Sg} {H : Hp} {st : Shared} {Q : VK} {us : List Value} {vs : List V} (F : FnG X.prog X.w X.K X.mg X.base CX k f fd ps sp) (hr : Room k X.A) (gd : X.A.guards = some []) (hb : Binds X.K fd ps ds) (hd : Vals dvs ds) (hx : Passes CX X E)
    (J : Inv X pins σ H st) (rv : Vals vs us) (h : sp (vs ++ dvs) H Q E) : wpAny (model X.prog X.w) X.A (call (.ref f) us) (EP X pins σ Q) X.xe st := by
  have rr := rv.append hd
  have hl : (us ++ ds).length = ps.length := rr.length.symm.trans (F.len _ _ _ _ h)
  refine wpAny_call (codeAny_mono (F.run X.A X.stack st H ⟨us, []⟩ (us ++ ds) (vs ++ dvs) Q E hr gd J.env0 (hb st us J.kIn hl) rr h) fun res st' hq => ?_)
  cases res with
  | error err => exact hx pins σ H st err st' J hq
  | ok fl =>
    cases fl with
    | ret u => exact J.after hq
    | next => exact hq.elim
    | brk => exact hq.elim
    | cont => exact hq.elim
theorem pe_callG (F : FnG X.prog X.w X.K X.mg X.base CX k f fd ps sp) (hr : Room k X.A) (gd : X.A.guards = some []) (hg : Gl X x) (hm : X.mg x = some (.ref f)) (hk : PySem.W.keepIn X.K (.ref f) = true) (hb : Binds X.K fd ps ds) (hd : Vals dvs ds) (hx : Passes CX X E) (ha : PA X (e :: es) t)
    (hdb : (x == ("__debug__" : Str)) = false := by decide) (he : starEach (e :: es) X.env = (false, eval e X.env) :: starEach es X.env := by rfl) (hpl : (backTo pos (starEach es X.env)).any (·.1) = false := by rfl) : PE X (.Call (.Name x p) (e :: es) [] pos) (tCall sp dvs E t) := by
  refine ⟨fun pins st σ H Q J h => wpAny_Call_Name_kw (ld_glob J hg hm ?_ hdb)⟩
  refine PySem.W.callWith_K (h₀ := X.base) J.ok.mod.kin hk (thn (ha.run pos pins st σ H _ J h) fun us st1 hq => ?_) he hpl
  obtain ⟨vs, H1, J1, rv, q⟩ := hq
  exact ⟨J1.kIn, runG F hr gd hb hd hx J1 rv q⟩
theorem pe_callG0 (F : FnG X.prog X.w X.K X.mg X.base CX k f fd ps sp) (hr : Room k X.A) (gd : X.A.guards = some []) (hg : Gl X x) (hm : X.mg x = some (.ref f)) (hk : PySem.W.keepIn X.K (.ref f) = true) (hb : Binds X.K fd ps ds) (hd : Vals dvs ds) (hx : Passes CX X E)
    (hdb : (x == ("__debug__" : Str)) = false := by decide) : PE X (.Call (.Name x p) [] [] pos) (tCall sp dvs E tNil) := by
  refine ⟨fun pins st σ H Q J h => wpAny_Call_Name_kw (ld_glob J hg hm ?_ hdb)⟩
  exact PySem.W.callWith_K0 J.kIn hk (runG (us := []) F hr gd hb hd hx J .nil h)
end

/-! ### a def told over data -/
/-- what a def does with its arguments: k gets the value and the arguments' slots behind the call -/
abbrev FT := List Sl → (Sl → List Sl → Prop) → Prop
def MonoF (F : FT) : Prop := ∀ ss (k k' : Sl → List Sl → Prop), (∀ r ss', k r ss' → k' r ss') → F ss k → F ss k'
def spD (K : PySem.W.Frag) (F : FT) : Sp := fun vs H Q _ => ∃ (C : Ctx) (Z : Hp) (ss : List Sl), C.H0 = H ∧ C.Z0 = Z ∧ RB K C Z (vs.map some) H ss ∧ (∀ a, ¬ C.fz a) ∧
  F ss fun r ss' => ∀ v Z' H', Same Z Z' → RB K C Z' (vs.map some) H' ss' → VR K C Z' H' (vs.map some) ss' v r → Q v H'
/-- an argument: an expression's datum, or a name's own object (the script, a state of draws) -/
inductive Ar where
  | e (T : ET)
  | r (i : Nat)
inductive AV where
  | d (x : D)
  | r (i : Nat)
def lendB : Sl → Bool
  | .own _ _ => true
  | .drw _ => true
  | .scr _ => true
  | _ => false
def lendAt (ρ : Rho) (i : Nat) : Bool := match ρ[i]? with
  | some s => lendB s
  | none => false
def runAr : List Ar → Rho → (List AV → Rho → Prop) → Prop
  | [], ρ, k => k [] ρ
  | .e T :: as, ρ, k => T ρ (asD fun x ρ1 => runAr as ρ1 fun l ρ2 => k (.d x :: l) ρ2)
  | .r i :: as, ρ, k => lendAt ρ i = true ∧ runAr as ρ fun l ρ2 => k (.r i :: l) ρ2
def Ar.mono : List Ar → Prop
  | [] => True
  | .e T :: as => MonoE T ∧ Ar.mono as
  | .r _ :: as => Ar.mono as
theorem mono_runAr : ∀ {as : List Ar}, Ar.mono as → ∀ ρ (k k' : List AV → Rho → Prop), (∀ l ρ', k l ρ' → k' l ρ') → runAr as ρ k → runAr as ρ k'
  | [], _, ρ, k, k', hk, h => hk _ _ h
  | .e T :: as, hm, ρ, k, k', hk, h => hm.1 ρ _ _ (fun s ρ1 q1 => asD.imp (fun x ρ1 q2 => mono_runAr hm.2 ρ1 _ _ (fun l ρ2 q3 => hk _ _ q3) q2) q1) h
  | .r i :: as, hm, ρ, k, k', hk, h => ⟨h.1, mono_runAr (as := as) hm ρ _ _ (fun l ρ2 q3 => hk _ _ q3) h.2⟩
def ArRel (K : PySem.W.Frag) (Z : Hp) (σ : Sg) : List V → List AV → Prop
  | [], [] => True
  | v :: vs, .d x :: as => Rp K Z v x ∧ ArRel K Z σ vs as
  | v :: vs, .r i :: as => σ[i]? = some (some v) ∧ ArRel K Z σ vs as
  | _, _ => False
def rdAr (K : PySem.W.Frag) (C : Ctx) (as : List Ar) : TA := fun σ H Q => ∃ Z ρ, RB K C Z σ H ρ ∧ runAr as ρ fun l ρ' => ∀ vs Z' H', Same Z Z' → RB K C Z' σ H' ρ' → ArRel K Z' σ vs l → Q vs H'
structure DAr (X : Cx) (C : Ctx) (es : List Expr) (as : List Ar) : Prop where
  mono : Ar.mono as
  run : PA X es (rdAr X.K C as)
section
variable {X : Cx} {C : Ctx} {e : Expr} {es : List Expr} {T : ET} {as : List Ar} {pos np : Pos} {x : Str} {i : Nat}
theorem dar_nil : DAr X C [] [] := ⟨trivial, PA.imp pa_nil fun σ H Q w => by
  obtain ⟨Z, ρ, R, w⟩ := w
  exact w [] Z H (Same.refl Z) R trivial⟩
theorem dar_e (he : DE X C e T) (hr : DAr X C es as) (hs : starEach (e :: es) X.env = (false, eval e X.env) :: starEach es X.env := by rfl) : DAr X C (e :: es) (.e T :: as) := by
  refine ⟨⟨he.mono, hr.mono⟩, PA.imp (pa_cons he.run hr.run hs) fun σ H Q w => ?_⟩
  obtain ⟨Z, ρ, R, w⟩ := w
  refine rdE.go he.mono R w fun s ρ1 v Z1 H1 q1 m1 R1 w1 => ?_
  obtain ⟨y, Z2, q2, m2, R2, r⟩ := w1.give R1 q1
  refine ⟨Z2, ρ1, R2, mono_runAr hr.mono ρ1 _ _ (fun l ρ3 q3 vs Z3 H3 m3 R3 rs => ?_) q2⟩
  exact q3 (v :: vs) Z3 H3 (m1.trans (m2.trans m3)) R3 ⟨r.mono m3, rs⟩
theorem dar_r (hr : DAr X C es as) (hN : X.N[i]? = some x := by rfl) (hv : Vis X.env.scope x := by first | exact Or.inl rfl | exact Or.inr (Or.inl rfl) | exact Or.inr (Or.inr rfl)) (hd : (x == ("__debug__" : Str)) = false := by decide) (hcd : (x == ("__classdict__" : Str)) = false := by decide)
    (hs : starEach (.Name x np :: es) X.env = (false, eval (.Name x np) X.env) :: starEach es X.env := by rfl) : DAr X C (.Name x np :: es) (.r i :: as) := by
  refine ⟨hr.mono, PA.imp (pa_cons (pe_var hN hv hd hcd) hr.run hs) fun σ H Q w => ?_⟩
  obtain ⟨Z, ρ, R, hl, w⟩ := w
  unfold lendAt at hl
  cases hρ : ρ[i]? with
  | none =>
    rw [hρ] at hl
    cases hl
  | some s =>
    rw [hρ] at hl
    obtain ⟨v, hv', sl⟩ := R.s.slotAt hρ
    have : ∃ a, v = some (.ref a) := by
      cases s with
      | own p xs => obtain ⟨a, _, e, _⟩ := sl; exact ⟨a, e⟩
      | drw p => obtain ⟨a, _, _, e, _⟩ := sl; exact ⟨a, e⟩
      | scr ns => obtain ⟨a, e, _⟩ := sl; exact ⟨a, e⟩
      | _ => cases hl
    obtain ⟨a, rfl⟩ := this
    refine ⟨_, hv', Z, ρ, R, mono_runAr hr.mono ρ _ _ (fun l ρ3 q3 vs Z3 H3 m3 R3 rs => ?_) w⟩
    exact q3 (_ :: vs) Z3 H3 m3 R3 ⟨hv', rs⟩
end
/-- the callee's slot of an argument -/
def slOf (ρ : Rho) : AV → Sl
  | .d x => .d x
  | .r i => (match ρ[i]? with
    | some (.own _ xs) => .own true xs
    | some (.drw _) => .drw true
    | some (.scr ns) => .scr ns
    | _ => .non)
/-- the caller's slot of an argument behind the call -/
def backOne (s t : Sl) : Sl := match s, t with
  | .own p _, .own true xs => .own p xs
  | .drw p, .drw true => .drw p
  | .scr ns, _ => .scr ns
  | _, _ => .non
def backAr (ρ : Rho) : List AV → List Sl → Rho
  | .r i :: as, t :: ts => (backAr ρ as ts).set i (backOne (slotOr ρ i) t)
  | .d _ :: as, _ :: ts => backAr ρ as ts
  | _, _ => ρ
def refsOf : List AV → List Nat
  | [] => []
  | .d _ :: as => refsOf as
  | .r i :: as => i :: refsOf as
def eCall (F : FT) (as : List Ar) : ET := fun ρ k => runAr as ρ fun l ρ1 => (refsOf l).Nodup ∧ F (l.map (slOf ρ1)) fun r ss => k r (backAr ρ1 l ss)
theorem mono_call {F : FT} {as : List Ar} (hF : MonoF F) (ha : Ar.mono as) : MonoE (eCall F as) := fun ρ k k' hk q => mono_runAr ha ρ _ _ (fun l ρ1 ⟨n, q1⟩ => ⟨n, hF _ _ _ (fun r ss q2 => hk _ _ q2) q1⟩) q
section
variable {K : PySem.W.Frag} {C C' : Ctx} {Z Z' H H' : Hp} {σ : Sg} {ρ : Rho} {i j : Nat} {a : Addr}
theorem ArRel.len : ∀ {vs : List V} {l : List AV}, ArRel K Z σ vs l → vs.length = l.length
  | [], [], _ => rfl
  | v :: vs, .d x :: as, h => congrArg Nat.succ (ArRel.len h.2)
  | v :: vs, .r i :: as, h => congrArg Nat.succ (ArRel.len h.2)
  | [], .d _ :: _, h => h.elim
  | [], .r _ :: _, h => h.elim
  | _ :: _, [], h => h.elim
theorem ArRel.get : ∀ {vs : List V} {l : List AV} {j : Nat} {x : AV}, ArRel K Z σ vs l → l[j]? = some x → ∃ v, vs[j]? = some v ∧ (match x with
    | .d y => Rp K Z v y
    | .r i => σ[i]? = some (some v))
  | [], [], j, x, _, e => by simp at e
  | v :: vs, .d y :: as, 0, x, h, e => by
    simp at e
    subst e
    exact ⟨v, rfl, h.1⟩
  | v :: vs, .r i :: as, 0, x, h, e => by
    simp at e
    subst e
    exact ⟨v, rfl, h.1⟩
  | v :: vs, .d y :: as, j + 1, x, h, e => by
    obtain ⟨u, h1, h2⟩ := ArRel.get (j := j) h.2 (by simpa using e)
    exact ⟨u, by simpa using h1, h2⟩
  | v :: vs, .r i :: as, j + 1, x, h, e => by
    obtain ⟨u, h1, h2⟩ := ArRel.get (j := j) h.2 (by simpa using e)
    exact ⟨u, by simpa using h1, h2⟩
  | [], .d _ :: _, _, _, h, _ => h.elim
  | [], .r _ :: _, _, _, h, _ => h.elim
  | _ :: _, [], _, _, h, _ => h.elim
theorem refs_mem : ∀ {l : List AV} {j i : Nat}, l[j]? = some (.r i) → i ∈ refsOf l
  | [], _, _, e => by simp at e
  | .d _ :: l, 0, i, e => by simp at e
  | .r k :: l, 0, i, e => by
    simp at e
    subst e
    exact List.mem_cons_self
  | .d _ :: l, j + 1, i, e => refs_mem (l := l) (j := j) (by simpa using e)
  | .r k :: l, j + 1, i, e => List.mem_cons_of_mem _ (refs_mem (l := l) (j := j) (by simpa using e))
theorem refs_inj : ∀ {l : List AV} {j k i : Nat}, (refsOf l).Nodup → l[j]? = some (.r i) → l[k]? = some (.r i) → j = k
  | [], _, _, _, _, e, _ => by simp at e
  | .d _ :: l, 0, _, i, _, e, _ => by simp at e
  | .d _ :: l, _ + 1, 0, i, _, _, e => by simp at e
  | .d _ :: l, j + 1, k + 1, i, n, e1, e2 => congrArg Nat.succ (refs_inj (l := l) n (by simpa using e1) (by simpa using e2))
  | .r _ :: l, 0, 0, i, _, _, _ => rfl
  | .r m :: l, 0, k + 1, i, n, e1, e2 => by
    simp at e1
    subst e1
    exact absurd (refs_mem (l := l) (j := k) (by simpa using e2)) (List.nodup_cons.mp n).1
  | .r m :: l, j + 1, 0, i, n, e1, e2 => by
    simp at e2
    subst e2
    exact absurd (refs_mem (l := l) (j := j) (by simpa using e1)) (List.nodup_cons.mp n).1
  | .r m :: l, j + 1, k + 1, i, n, e1, e2 => congrArg Nat.succ (refs_inj (l := l) (List.nodup_cons.mp n).2 (by simpa using e1) (by simpa using e2))
/-- the callee's frame of slots -/
def calleeC (Z H : Hp) (σ : Sg) (ρ : Rho) (l : List AV) : Ctx := ⟨H, Z, fun j => match l[j]? with
  | some (.r i) => (match ρ[i]?, σ[i]? with
    | some (.own _ _), some (some (.ref a)) => some a
    | some (.drw _), some (some (.ref a)) => some a
    | _, _ => none)
  | _ => none, fun _ => False⟩
theorem callee_io {l : List AV} (h : (calleeC Z H σ ρ l).io j = some a) : ∃ i, l[j]? = some (.r i) ∧ OA σ ρ i a := by
  unfold calleeC at h
  simp only at h
  split at h
  · rename_i i hi
    split at h
    · rename_i p xs b h1 h2
      cases h
      exact ⟨i, hi, _, _, h1, h2, rfl⟩
    · rename_i p b h1 h2
      cases h
      exact ⟨i, hi, _, _, h1, h2, rfl⟩
    · cases h
  · cases h
theorem callee_RB {l : List AV} {vs : List V} (R : RB K C Z σ H ρ) (rs : ArRel K Z σ vs l) (n : (refsOf l).Nodup) : RB K (calleeC Z H σ ρ l) Z (vs.map some) H (l.map (slOf ρ)) := by
  have low : ∀ {j b}, OA (vs.map some) (l.map (slOf ρ)) j b → ∃ i, l[j]? = some (.r i) ∧ OA σ ρ i b := fun {j b} ⟨s, v, e1, e2, e3⟩ => by
    rw [List.getElem?_map] at e1 e2
    obtain ⟨x, hx, rfl⟩ := map_some e1
    obtain ⟨u, hu, rfl⟩ := map_some e2
    obtain ⟨u', hu', rel⟩ := rs.get hx
    rw [hu] at hu'
    cases hu'
    cases x with
    | d y => cases u <;> cases e3
    | r i =>
      refine ⟨i, hx, ?_⟩
      unfold slOf at e3
      simp only at e3
      split at e3
      · rename_i p xs h1
        cases u with
        | ref c => exact ⟨_, _, h1, rel, e3⟩
        | _ => cases e3
      · rename_i p h1
        cases u with
        | ref c => exact ⟨_, _, h1, rel, e3⟩
        | _ => cases e3
      · cases u <;> cases e3
      · cases u <;> cases e3
  refine ⟨⟨R.b.le, fun _ _ e => e, fun _ _ _ _ e => e, fun _ e => e, fun b e => Or.inl e, fun j b e => ?_, fun _ z => z.elim⟩, by simp [rs.len], fun j s v e1 e2 => ?_, fun j k b h1 h2 => ?_⟩
  · obtain ⟨i, _, o⟩ := callee_io e
    exact (R.oaSt o).2.1
  · rw [List.getElem?_map] at e1 e2
    obtain ⟨x, hx, rfl⟩ := map_some e1
    obtain ⟨u, hu, rfl⟩ := map_some e2
    obtain ⟨u', hu', rel⟩ := rs.get hx
    rw [hu] at hu'
    cases hu'
    cases x with
    | d y => exact ⟨u, rfl, rel⟩
    | r i =>
      have rel' : σ[i]? = some (some u) := rel
      show SlO K _ Z H j (some u) (match ρ[i]? with
        | some (.own _ xs) => .own true xs
        | some (.drw _) => .drw true
        | some (.scr ns) => .scr ns
        | _ => .non)
      cases hρ : ρ[i]? with
      | none => trivial
      | some s =>
        have sl := R.s.slot i s _ hρ rel'
        cases s with
        | own p xs =>
          obtain ⟨c, ws, e, hc, r, ll, ow⟩ := sl
          cases e
          refine ⟨c, ws, rfl, hc, r, ll, ow.1, ?_⟩
          show (calleeC Z H σ ρ l).io j = some c
          unfold calleeC
          simp only [hx, hρ, rel']
        | drw p =>
          obtain ⟨c, ws, xs, e, hc, r, ll, ow⟩ := sl
          cases e
          refine ⟨c, ws, xs, rfl, hc, r, ll, ow.1, ?_⟩
          show (calleeC Z H σ ρ l).io j = some c
          unfold calleeC
          simp only [hx, hρ, rel']
        | scr ns => exact sl
        | _ => trivial
  · obtain ⟨i1, g1, o1⟩ := low h1
    obtain ⟨i2, g2, o2⟩ := low h2
    have e := R.s.inj i1 i2 b o1 o2
    subst e
    exact refs_inj n g1 g2
/-- how the caller's slots stand behind the call -/
theorem backAr_at : ∀ {l : List AV} {ts : List Sl}, (refsOf l).Nodup → l.length = ts.length → ∀ i : Nat, ((∃ (j : Nat) (t : Sl), l[j]? = some (AV.r i) ∧ ts[j]? = some t ∧ (backAr ρ l ts)[i]? = (if i < ρ.length then some (backOne (slotOr ρ i) t) else none)) ∨ (i ∉ refsOf l ∧ (backAr ρ l ts)[i]? = ρ[i]?)) ∧ (backAr ρ l ts).length = ρ.length
  | [], ts, _, _, i => by
    refine ⟨Or.inr ⟨by simp [refsOf], ?_⟩, ?_⟩
    · cases ts <;> rfl
    · cases ts <;> rfl
  | .d x :: l, [], _, e, i => by cases e
  | .r m :: l, [], _, e, i => by cases e
  | .d x :: l, t :: ts, n, e, i => by
    obtain ⟨h1, h2⟩ := backAr_at (l := l) (ts := ts) n (Nat.succ.inj e) i
    refine ⟨?_, h2⟩
    rcases h1 with ⟨j, t', g1, g2, g3⟩ | ⟨g1, g2⟩
    · exact Or.inl ⟨j + 1, t', by simpa using g1, by simpa using g2, g3⟩
    · exact Or.inr ⟨g1, g2⟩
  | .r m :: l, t :: ts, n, e, i => by
    have n' := List.nodup_cons.mp n
    obtain ⟨h1, h2⟩ := backAr_at (l := l) (ts := ts) n'.2 (Nat.succ.inj e) i
    unfold backAr
    refine ⟨?_, by rw [List.length_set]; exact h2⟩
    by_cases hm : m = i
    · subst hm
      refine Or.inl ⟨0, t, rfl, rfl, ?_⟩
      by_cases hl : m < ρ.length
      · rw [if_pos hl, List.getElem?_set_self (by rw [h2]; exact hl)]
      · rw [if_neg hl, List.getElem?_eq_none (by rw [List.length_set, h2]; omega)]
    · rw [List.getElem?_set_ne hm]
      rcases h1 with ⟨j, t', g1, g2, g3⟩ | ⟨g1, g2⟩
      · exact Or.inl ⟨j + 1, t', by simpa using g1, by simpa using g2, g3⟩
      · exact Or.inr ⟨fun z => (List.mem_cons.mp z).elim (fun z => hm z.symm) g1, g2⟩
theorem backOne_own {s t : Sl} {v : Option V} (h : ownA v (backOne s t) = some a) : ownA v s = some a ∧ ownA v t = some a := by
  cases v with
  | none => unfold backOne at h; split at h <;> cases h
  | some u => cases u with
    | ref c =>
      unfold backOne at h
      split at h
      · have e : some c = some a := h
        exact ⟨e, e⟩
      · have e : some c = some a := h
        exact ⟨e, e⟩
      · cases h
      · cases h
    | _ => unfold backOne at h; split at h <;> cases h
theorem call_back {l : List AV} {vs : List V} {ts : List Sl} (R : RB K C Z σ H ρ) (rs : ArRel K Z σ vs l) (n : (refsOf l).Nodup) (R' : RB K (calleeC Z H σ ρ l) Z' (vs.map some) H' ts) (m : Same Z Z') : RB K C Z' σ H' (backAr ρ l ts) ∧ ∀ j b, OA σ (backAr ρ l ts) j b → OA σ ρ j b := by
  have tl : l.length = ts.length := by
    have h1 := R'.s.len
    rw [List.length_map, rs.len] at h1
    exact h1
  have at_ := fun i => (backAr_at (ρ := ρ) n tl i).1
  have len := (backAr_at (ρ := ρ) n tl 0).2
  have io : ∀ j b, (calleeC Z H σ ρ l).io j = some b → (∃ i, C.io i = some b) ∨ C.H0 b = none ∨ C.fz b := fun j b e => by
    obtain ⟨i, _, o⟩ := callee_io e
    exact (R.oaSt o).2.2
  have low : ∀ {j b}, OA σ (backAr ρ l ts) j b → OA σ ρ j b := fun {j b} ⟨s, v, e1, e2, e3⟩ => by
    rcases at_ j with ⟨q, t, g1, g2, g3⟩ | ⟨g1, g2⟩
    · rw [g3] at e1
      split at e1
      · rename_i hl
        cases e1
        obtain ⟨h1, _⟩ := backOne_own e3
        have hs : ρ[j]? = some (slotOr ρ j) := by
          unfold slotOr
          rw [List.getElem?_eq_getElem hl]
        exact ⟨_, v, hs, e2, h1⟩
      · cases e1
    · rw [g2] at e1
      exact ⟨s, v, e1, e2, e3⟩
  refine ⟨⟨R.b.back R'.b rfl rfl io (fun _ z => z.elim), R.s.len.trans len.symm, fun j s v e1 e2 => ?_, fun j k b h1 h2 => R.s.inj j k b (low h1) (low h2)⟩, fun j b h => low h⟩
  rcases at_ j with ⟨q, t, g1, g2, g3⟩ | ⟨g1, g2⟩
  · rw [g3] at e1
    split at e1
    · rename_i hl
      cases e1
      have hs : ρ[j]? = some (slotOr ρ j) := by
        unfold slotOr
        rw [List.getElem?_eq_getElem hl]
      have sl := R.s.slot j _ v hs e2
      obtain ⟨u, hu, rel⟩ := rs.get g1
      have rel' : σ[j]? = some (some u) := rel
      rw [e2] at rel'
      cases rel'
      have ct : SlO K (calleeC Z H σ ρ l) Z' H' q (some u) t := R'.s.slot q t _ g2 (by rw [List.getElem?_map, hu]; rfl)
      cases hso : slotOr ρ j with
      | own p xs =>
        rw [hso] at sl
        obtain ⟨c, ws, e, hc, r, ll, ow⟩ := sl
        cases e
        cases t with
        | own p' ys =>
          cases p' with
          | false => trivial
          | true =>
            obtain ⟨c', ws', e', hc', r', ll', ow'⟩ := ct
            cases e'
            exact ⟨c, ws', rfl, hc', r', ll', ow'.1, ow.2⟩
        | _ => trivial
      | drw p =>
        rw [hso] at sl
        obtain ⟨c, ws, xs, e, hc, r, ll, ow⟩ := sl
        cases e
        cases t with
        | drw p' =>
          cases p' with
          | false => trivial
          | true =>
            obtain ⟨c', ws', xs', e', hc', r', ll', ow'⟩ := ct
            cases e'
            exact ⟨c, ws', xs', rfl, hc', r', ll', ow'.1, ow.2⟩
        | _ => trivial
      | scr ns =>
        rw [hso] at sl
        obtain ⟨c, e, g⟩ := sl
        cases e
        exact ⟨c, rfl, sq_l m g⟩
      | pin b => trivial
      | non => trivial
      | d x => trivial
      | ownT ks ds => trivial
      | ownK ks ds => trivial
    · cases e1
  · rw [g2] at e1
    refine (R.s.slot j s v e1 e2).keep m (fun b hb => ?_) fun b p hb ow => ow.zt ?_
    · have o : OA σ ρ j b := ⟨s, v, e1, e2, hb⟩
      have nio : ∀ q, (calleeC Z H σ ρ l).io q ≠ some b := fun q z => by
        obtain ⟨i, gi, oi⟩ := callee_io z
        have e := R.s.inj i j b oi o
        subst e
        exact g1 (refs_mem gi)
      obtain ⟨_, hn, _⟩ := R.oaSt o
      cases hh : H b with
      | none => exact absurd hh hn
      | some u => exact R'.b.frame b u nio (fun z => z) hh
    · have o : OA σ ρ j b := ⟨s, v, e1, e2, hb⟩
      obtain ⟨hz, hn, _⟩ := R.oaSt o
      refine none_of_ne fun z => ?_
      rcases R'.b.new b z with y | y | y
      · exact y hz
      · exact hn y
      · exact y
end
section
variable {X : Cx} {C : Ctx} {CX : CXT} {k : Nat} {f : Addr} {fd : FuncData} {ps : List Str} {F : FT} {x : Str} {p pos : Pos} {e : Expr} {es : List Expr} {as : List Ar}
theorem call_go {E : XK} (mF : MonoF F) (ha : DAr X C es as) {σ : Sg} {H : Hp} {Q : VK} (w : rdE X.K C (eCall F as) σ H Q) : tCall (spD X.K F) [] E (rdAr X.K C as) σ H Q := by
  obtain ⟨Z, ρ, R, w⟩ := w
  refine ⟨Z, ρ, R, mono_runAr ha.mono ρ _ _ (fun l ρ1 ⟨n, q1⟩ vs Z1 H1 m1 R1 rs => ?_) w⟩
  show spD X.K F (vs ++ []) H1 Q E
  rw [List.append_nil]
  have R0 := callee_RB R1 rs n
  refine ⟨calleeC Z1 H1 σ ρ1 l, Z1, _, rfl, rfl, R0, fun _ z => z, mF _ _ _ (fun r ss q2 v Z2 H2 m2 R2 v2 => ?_) q1⟩
  obtain ⟨R3, low⟩ := call_back R1 rs n R2 m2
  refine q2 v Z2 H2 (m1.trans m2) R3 ⟨v2.val, ?_, fun a ea j o => ?_⟩
  · refine v2.at_.keep2 fun a ea ow => ⟨ow.1, ?_⟩
    have h2 := ow.2
    have hv := v2.val
    have hp : parB r = false := by
      cases r with
      | own p xs => cases p <;> first | rfl | cases hv
      | drw p => cases p <;> first | rfl | cases hv
      | _ => rfl
    rw [hp] at h2 ⊢
    rcases h2 with z | z
    · exact Or.inl (R1.b.none0 z)
    · exact z.elim
  · have o1 := low j a o
    obtain ⟨_, hn, _⟩ := R1.oaSt o1
    have ow := (v2.at_.own2 ea).1
    have h2 := ow.2
    have hv := v2.val
    have hp : parB r = false := by
      cases r with
      | own p xs => cases p <;> first | rfl | cases hv
      | drw p => cases p <;> first | rfl | cases hv
      | _ => rfl
    rw [hp] at h2
    rcases h2 with z | z
    · exact hn z
    · exact z.elim
theorem de_call (mF : MonoF F) (G : FnG X.prog X.w X.K X.mg X.base CX0 k f fd ps (spD X.K F)) (hr : Room k X.A) (gd : X.A.guards = some []) (hm : X.mg x = some (.ref f)) (hk : PySem.W.keepIn X.K (.ref f) = true) (hb : Binds X.K fd ps []) (ha : DAr X C (e :: es) as) (hg : Gl X x := by rfl)
    (hdb : (x == ("__debug__" : Str)) = false := by decide) (he : starEach (e :: es) X.env = (false, eval e X.env) :: starEach es X.env := by rfl) (hpl : (backTo pos (starEach es X.env)).any (·.1) = false := by rfl) : DE X C (.Call (.Name x p) (e :: es) [] pos) (eCall F as) :=
  ⟨mono_call mF ha.mono, PE.imp (pe_callG G hr gd hg hm hk hb .nil pass0 ha.run hdb he hpl) fun _ _ _ w => call_go mF ha w⟩
theorem de_call0 (mF : MonoF F) (G : FnG X.prog X.w X.K X.mg X.base CX0 k f fd ps (spD X.K F)) (hr : Room k X.A) (gd : X.A.guards = some []) (hm : X.mg x = some (.ref f)) (hk : PySem.W.keepIn X.K (.ref f) = true) (hb : Binds X.K fd ps []) (hg : Gl X x := by rfl)
    (hdb : (x == ("__debug__" : Str)) = false := by decide) : DE X C (.Call (.Name x p) [] [] pos) (eCall F []) :=
  ⟨mono_call mF trivial, PE.imp (pe_callG0 G hr gd hg hm hk hb .nil pass0 hdb) fun σ H Q w => by
    have h := call_go (E := E0) mF (dar_nil (X := X) (C := C)) w
    obtain ⟨Z, ρ, R, w⟩ := w
    have h' : rdAr X.K C [] σ H fun vs H1 => spD X.K F (vs ++ []) H1 Q E0 := h
    obtain ⟨Z2, ρ2, R2, w2⟩ := h'
    exact w2 [] Z2 H (Same.refl Z2) R2 trivial⟩
end

/-! ### a def's body -/
def finOne (s t : Sl) : Sl := match s with
  | .own true _ => (match t with
    | .own true xs => .own true xs
    | _ => .non)
  | .drw true => (match t with
    | .drw true => .drw true
    | _ => .non)
  | .own false _ => .non
  | .drw false => .non
  | .ownT _ _ => .non
  | .ownK _ _ => .non
  | s => s
def fin : List Sl → Rho → List Sl
  | [], _ => []
  | s :: ss, [] => .non :: fin ss []
  | s :: ss, t :: ρ => finOne s t :: fin ss ρ
def entry (n : Nat) (ss : List Sl) : Rho := ss ++ List.replicate (n - ss.length) .non
/-- what the body must do -/
def BodyOk (n : Nat) (W : ST) (F : FT) : Prop := ∀ ss k, F ss k → W { nx := fun ρ' => k (.d .none) (fin ss ρ'), rt := fun r ρ' => k r (fin ss ρ') } (entry n ss)
section
variable {K : PySem.W.Frag} {C : Ctx} {Z Z' H H' : Hp} {σ : Sg} {ρ : Rho} {a : Addr}
theorem fin_at : ∀ {ss : List Sl} {ρ : Rho} {i : Nat} {s : Sl}, ss[i]? = some s → (fin ss ρ)[i]? = some (match ρ[i]? with
    | some t => finOne s t
    | none => .non)
  | [], _, _, _, e => by simp at e
  | s :: ss, [], 0, s', e => by
    simp [fin]
  | s :: ss, [], i + 1, s', e => by
    have h := fin_at (ss := ss) (ρ := []) (i := i) (s := s') (by simpa using e)
    simp only [fin, List.getElem?_cons_succ, h]
    simp
  | s :: ss, t :: ρ, 0, s', e => by
    simp at e
    subst e
    simp [fin]
  | s :: ss, t :: ρ, i + 1, s', e => by
    have h := fin_at (ss := ss) (ρ := ρ) (i := i) (s := s') (by simpa using e)
    simp only [fin, List.getElem?_cons_succ, h]
theorem fin_len : ∀ {ss : List Sl} {ρ : Rho}, (fin ss ρ).length = ss.length
  | [], _ => rfl
  | s :: ss, [] => by simp [fin, fin_len (ss := ss) (ρ := [])]
  | s :: ss, t :: ρ => by simp [fin, fin_len (ss := ss) (ρ := ρ)]
theorem finOne_own {s t : Sl} {v : Option V} (h : ownA v (finOne s t) = some a) : finOne s t = t ∧ parB s = true ∧ parB t = true ∧ isVal s = false ∧ ownA v s = some a := by
  cases v with
  | none =>
    unfold finOne at h
    split at h <;> first | cases h | (split at h <;> cases h) | (rename_i s' _ _ _ _ _ _; cases s' <;> cases h) | skip
    all_goals (cases s <;> cases h)
  | some u =>
    cases s with
    | non => cases u <;> cases h
    | d x => cases u <;> cases h
    | scr x => cases u <;> cases h
    | pin x => cases u <;> cases h
    | ownT _ _ => cases u <;> cases h
    | ownK _ _ => cases u <;> cases h
    | own p xs =>
      cases p with
      | false => cases u <;> cases h
      | true =>
        cases t with
        | own q ys =>
          cases q with
          | true =>
            cases u with
            | ref c => exact ⟨rfl, rfl, rfl, rfl, h⟩
            | _ => cases h
          | false => cases u <;> cases h
        | _ => cases u <;> cases h
    | drw p =>
      cases p with
      | false => cases u <;> cases h
      | true =>
        cases t with
        | drw q =>
          cases q with
          | true =>
            cases u with
            | ref c => exact ⟨rfl, rfl, rfl, rfl, h⟩
            | _ => cases h
          | false => cases u <;> cases h
        | _ => cases u <;> cases h
theorem entry_RB {n : Nat} {N : List Str} {vs : List V} {ss : List Sl} (hN : N.length = n) (R : RB K C Z (vs.map some) H ss) : RB K C Z (L2.start N vs) H (entry n ss) := by
  have hl : vs.length = ss.length := by
    have := R.s.len
    rwa [List.length_map] at this
  have at1 : ∀ (i : Nat) (s : Sl) (v : Option V), (entry n ss)[i]? = some s → (L2.start N vs)[i]? = some v → (ss[i]? = some s ∧ (vs.map some)[i]? = some v) ∨ s = Sl.non := fun i s v e1 e2 => by
    unfold entry at e1
    unfold L2.start at e2
    by_cases hi : i < ss.length
    · rw [List.getElem?_append_left hi] at e1
      rw [List.getElem?_append_left (by rw [List.length_map, hl]; exact hi)] at e2
      exact Or.inl ⟨e1, e2⟩
    · rw [List.getElem?_append_right (by omega), List.getElem?_replicate] at e1
      split at e1
      · cases e1
        exact Or.inr rfl
      · cases e1
  have low : ∀ {i b}, OA (L2.start N vs) (entry n ss) i b → OA (vs.map some) ss i b := fun {i b} ⟨s, v, e1, e2, e3⟩ => by
    rcases at1 i s v e1 e2 with ⟨h1, h2⟩ | rfl
    · exact ⟨s, v, h1, h2, e3⟩
    · cases v <;> cases e3
  refine ⟨R.b, ?_, fun i s v e1 e2 => ?_, fun i j b h1 h2 => R.s.inj i j b (low h1) (low h2)⟩
  · unfold L2.start entry
    rw [List.length_append, List.length_append, List.length_map, List.length_replicate, List.length_replicate, hN, hl]
  · rcases at1 i s v e1 e2 with ⟨h1, h2⟩ | rfl
    · exact R.s.slot i s v h1 h2
    · trivial
theorem fin_RB {vs : List V} {ss : List Sl} (R0 : RB K C Z (vs.map some) H ss) (R : RB K C Z' σ H' ρ) (m : Same Z Z') : RB K C Z' (vs.map some) H' (fin ss ρ) ∧ ∀ j b, OA (vs.map some) (fin ss ρ) j b → OA σ ρ j b := by
  have key : ∀ {i : Nat} {s : Sl} {v : Option V}, (fin ss ρ)[i]? = some s → (vs.map some)[i]? = some v → ∃ s0, ss[i]? = some s0 ∧ s = (match ρ[i]? with
      | some t => finOne s0 t
      | none => Sl.non) := fun {i s v} e1 e2 => by
    have hi : i < ss.length := by
      have := (List.getElem?_eq_some_iff.mp e1).1
      rwa [fin_len] at this
    refine ⟨ss[i], List.getElem?_eq_getElem hi, ?_⟩
    have := fin_at (ρ := ρ) (List.getElem?_eq_getElem hi)
    rw [e1] at this
    exact Option.some.inj this
  have low : ∀ {i b}, OA (vs.map some) (fin ss ρ) i b → OA σ ρ i b := fun {i b} ⟨s, v, e1, e2, e3⟩ => by
    obtain ⟨s0, g1, g2⟩ := key e1 e2
    cases hρ : ρ[i]? with
    | none =>
      rw [hρ] at g2
      subst g2
      cases v <;> cases e3
    | some t =>
      rw [hρ] at g2
      have g2' : s = finOne s0 t := g2
      subst g2'
      obtain ⟨h1, h2, h3, _, h5⟩ := finOne_own e3
      obtain ⟨x, hx, sl⟩ := R.s.slotAt hρ
      have a0 := ((R0.s.slot i s0 v g1 e2).own2 h5).1.2
      rw [h2] at a0
      have a0' : C.io i = some b := a0
      rw [h1] at e3
      cases t with
      | own p xs =>
        obtain ⟨c, ws, rfl, _, _, _, ow⟩ := sl
        have hp : p = true := h3
        subst hp
        have : C.io i = some c := ow.2
        rw [a0'] at this
        cases this
        exact ⟨_, _, hρ, hx, rfl⟩
      | drw p =>
        obtain ⟨c, ws, xs, rfl, _, _, _, ow⟩ := sl
        have hp : p = true := h3
        subst hp
        have : C.io i = some c := ow.2
        rw [a0'] at this
        cases this
        exact ⟨_, _, hρ, hx, rfl⟩
      | _ => cases h3
  refine ⟨⟨R.b, ?_, fun i s v e1 e2 => ?_, fun i j b h1 h2 => R.s.inj i j b (low h1) (low h2)⟩, fun j b h => low h⟩
  · rw [fin_len]
    exact R0.s.len
  · obtain ⟨s0, g1, g2⟩ := key e1 e2
    have sl0 := R0.s.slot i s0 v g1 e2
    cases hρ : ρ[i]? with
    | none =>
      rw [hρ] at g2
      subst g2
      trivial
    | some t =>
      rw [hρ] at g2
      have g2' : s = finOne s0 t := g2
      subst g2'
      obtain ⟨x, hx, sl⟩ := R.s.slotAt hρ
      cases s0 with
      | non => trivial
      | d y =>
        obtain ⟨u, e, r⟩ := sl0
        exact ⟨u, e, r.mono m⟩
      | scr ns =>
        obtain ⟨u, e, r⟩ := sl0
        exact ⟨u, e, sq_l m r⟩
      | pin b => exact sl0
      | ownT _ _ => trivial
      | ownK _ _ => trivial
      | own p xs =>
        cases p with
        | false => trivial
        | true =>
          cases t with
          | own q ys =>
            cases q with
            | false => trivial
            | true =>
              obtain ⟨c0, _, e0, _, _, _, ow0⟩ := sl0
              obtain ⟨c, ws, e, hc, r, l, ow⟩ := sl
              have h1 : C.io i = some c0 := ow0.2
              have h2 : C.io i = some c := ow.2
              rw [h1] at h2
              cases h2
              exact ⟨c0, ws, e0, hc, r, l, ow⟩
          | _ => trivial
      | drw p =>
        cases p with
        | false => trivial
        | true =>
          cases t with
          | drw q =>
            cases q with
            | false => trivial
            | true =>
              obtain ⟨c0, _, _, e0, _, _, _, ow0⟩ := sl0
              obtain ⟨c, ws, xs, e, hc, r, l, ow⟩ := sl
              have h1 : C.io i = some c0 := ow0.2
              have h2 : C.io i = some c := ow.2
              rw [h1] at h2
              cases h2
              exact ⟨c0, ws, xs, e0, hc, r, l, ow⟩
          | _ => trivial
end
section
variable {P : Program} {w : World} {K : PySem.W.Frag} {mg : Str → Option Value} {base : Heap} {x qual : Str} {params : Arguments} {body : List Stmt} {scope : Scope} {dvs : List V} {kws : List (Str × V)} {f : Addr} {fd : FuncData} {N ps : List Str} {k n : Nat} {F : FT} {W : ST}
/-- THE RULE: a def that raises nothing -/
theorem fn_ok (D0 : FunD K x qual params body scope dvs kws f fd) (S : FnScope N ps scope) (hn : N.length = n) (hlen : ∀ ss k, F ss k → ss.length = ps.length)
    (hb : ∀ (cdv : Value) (A : Around) (out : List Env) (st : Shared) (H : Hp) (E : XK) (C : Ctx), Room k (A.deeper (envOfC qual scope st.heap.objs.size f cdv)) → A.guards = some [] →
      DSs (cxOf CX0 P w K mg base N qual scope f cdv A out st H E).nox C body W) (ok : BodyOk n W F) : FnG P w K mg base CX0 (k + 1) f fd ps (spD K F) := by
  obtain ⟨oc, od, dV, kV, doc, pm, an, cdv, ct, osl, rfl, lk, hcd, _, _⟩ := D0.ex
  refine fnG_of lk hcd S (fun vs H Q E h => ?_) fun A out st H vs Q E room gd hs => ?_
  · obtain ⟨C, Z, ss, _, _, R, _, h⟩ := h
    have h1 := hlen ss _ h
    have h2 := R.s.len
    rw [List.length_map] at h2
    exact h2.trans h1
  · obtain ⟨C, Z, ss, hH, hZ, R, hf, h⟩ := hs
    have B := hb cdv A out st H E C room gd
    refine ⟨_, B.run.nox, Z, entry n ss, entry_RB hn R, B.mono _ _ _ ⟨fun ρ' q Z' σ' H' m R' => ?_, fun r ρ' q v Z' σ' H' m R' w' => ?_, fun _ (z : False) => z.elim, fun _ (z : False) => z.elim⟩ (ok ss _ h)⟩
    · obtain ⟨R2, low⟩ := fin_RB R R' m
      exact q .non Z' H' m R2 (.ofD .non)
    · obtain ⟨R2, low⟩ := fin_RB R R' m
      exact q v Z' H' m R2 ⟨w'.val, w'.at_, fun a ea j o => w'.apart a ea j (low j a o)⟩
end
end Dl

set_option Elab.async false
set_option linter.all false
set_option maxRecDepth 100000
set_option autoImplicit false
set_option maxHeartbeats 1000000
namespace Dl
open PySem PySem.Spec PyProof.Rows L2

/-! ### the law's call, its end -/
theorem endG {P : Program} {w : World} {K : PySem.W.Frag} {mg mb : Str → Option Value} {CX : CXT} {k : Nat} {fa a : Addr} {fd : FuncData} {x : Str} {sp : Sp} {st : Shared} {us : List Value} {ns : List Int}
    (inK : K.In st.heap) (gl : st.heap.Ns mainGlobals mg) (bl : st.heap.Ns builtinsNs mb) (bb : ∀ x : Str, x ≠ "__name__" → mb x = bootBuiltins x) (nol : st.heap.NoLimit) (nog : st.gens = #[])
    (at_ : st.heap.get? a = some { cls := .type "list", data := .seq us.toArray }) (ia : IntsAre us ns) (short : ns.length ≤ sizeLine) (room : Room k callerA)
    (F : ∀ base : Heap, K.In base → base.Ns mainGlobals mg → FnG P w K mg base CX k fa fd [x] sp) (bind : ∀ (s : Shared) (u : Value), BindsTo s fd ⟨[u], []⟩ [(x, u)])
    (hsp : ∀ H : Hp, Only H → SqL K H a (ns.map V.int) → sp [.ref a] H (fun v _ => v = .bl true) fun _ _ _ => False)
    (nox : ∀ H e s', CX [] H st (fun _ _ _ => False) e s' → False) :
    codeAny (model P w) callerA (.call (.ref fa) ⟨[.ref a], []⟩) (fun r s' => r = .ok (.ret (.bool true)) ∧ OldK st.heap s'.heap ∧ s'.os = st.os ∧ AllBare s'.gens) st := by
  have vals := vals_ints ia
  have many := ia.length
  -- whatever is tracked ahead of the call (the script at most)
  have go : ∀ H : Hp, Only H → SqL K H a (ns.map V.int) → HOk P w H st.heap → (∀ b, H b ≠ none → b = a) → (H a ≠ none → K.lookup a = none) →
      codeAny (model P w) callerA (.call (.ref fa) ⟨[.ref a], []⟩) (fun r s' => r = .ok (.ret (.bool true)) ∧ OldK st.heap s'.heap ∧ s'.os = st.os ∧ AllBare s'.gens) st := by
    intro H only seq ok onlyA notK
    have freeOf : ∀ {b : Addr} {o : Obj} {es : Array DictEntry} {n : Nat}, st.heap.get? b = some o → o.data = .dict es n → H b = none := by
      intro b o es n e d
      refine none_of_ne fun q => ?_
      have eb := onlyA b q
      subst eb
      rw [at_] at e
      cases e
      cases (show Data.seq us.toArray _ = Data.dict es n from d)
    have ns' : ∀ {b : Addr} {m : Str → Option Value}, st.heap.Ns b m → (hidT st.heap H).Ns b m := by
      rintro b m ⟨o, es, n, e, d, r⟩
      exact ⟨o, es, n, hidT_get e (freeOf e d), d, r⟩
    have inB : K.In (hidT st.heap H) := by
      intro b o e
      refine hidT_get (inK b o e) (none_of_ne fun q => ?_)
      have eb := onlyA b q
      subst eb
      rw [notK q] at e
      cases e
    have nolB : (hidT st.heap H).NoLimit := by
      obtain ⟨mc, h1, h2⟩ := nol
      exact ⟨mc, ns' h1, h2⟩
    have env : Env0 P w K mg (hidT st.heap H) callerA [] st H := by
      refine ⟨rfl, ⟨inB, ns' gl, ⟨mb, ns' bl, bb⟩, nolB⟩, fun b o e => of_hidT e, Nat.le_of_eq (hidT_size _ _), trivial, fun b hb => ?_, ok, .of_eq nog⟩
      exact absurd (show b ∈ ([] : List Addr) from hb) (by simp)
    refine codeAny_mono ((F _ inB (ns' gl)).run callerA [] st H ⟨[.ref a], []⟩ [.ref a] [.ref a] _ _ room rfl env (bind st (.ref a)) (.cons rfl .nil) (hsp H only seq)) fun r s' h => ?_
    cases r with
    | error e => exact (nox H e s' h).elim
    | ok fl =>
      cases fl with
      | ret u =>
        obtain ⟨v, H', os, bare, un, ok', rv, q⟩ := h
        have q' : v = .bl true := q
        subst q'
        have eu : u = Value.bool true := rv
        subst eu
        refine ⟨rfl, OldK.of_keep fun b o e => ?_, os, bare⟩
        cases hb : H b with
        | none => exact un.keep b o e hb (fun z => absurd (show b ∈ ([] : List Addr) from z) (by simp)) (by simp)
        | some u =>
          rcases only b with z | ⟨ob, xs, z⟩
          · rw [hb] at z
            cases z
          · obtain ⟨e1, _⟩ := ok b _ z
            obtain ⟨e2, _⟩ := ok' b _ (un.frzs b ob _ z)
            rw [e] at e1
            cases e1
            exact e2
      | next => exact False.elim h
      | brk => exact False.elim h
      | cont => exact False.elim h
  cases hk : K.lookup a with
  | some o =>
    have e := inK a o hk
    rw [at_] at e
    cases e
    refine go (fun _ => none) (fun _ => Or.inl rfl) (Or.inr ⟨_, us.toArray, _, hk, rfl, rfl, rfl, ?_, by simpa using vals⟩) (fun b u z => ?_) (fun b z => absurd rfl z) fun z => absurd rfl z
    · rw [List.size_toArray, many]
      exact short
    · cases (show (none : Option HO) = some u from z)
  | none =>
    refine go (fun b => if b = a then some (.frz { cls := .type "list", data := .seq us.toArray } (.lst (ns.map V.int))) else none) (fun b => ?_) (Or.inl (Or.inr ⟨{ cls := .type "list", data := .seq us.toArray }, if_pos rfl⟩)) (fun b u z => ?_) (fun b z => ?_) fun _ => hk
    · by_cases hb : b = a
      · exact Or.inr ⟨_, _, if_pos hb⟩
      · exact Or.inl (if_neg hb)
    · by_cases hb : b = a
      · have z' := (if_pos hb).symm.trans z
        cases z'
        subst hb
        exact ⟨at_, by rw [List.length_map]; exact short, us, _, vals, at_⟩
      · cases (if_neg hb).symm.trans z
    · by_cases hb : b = a
      · exact hb
      · exact absurd (if_neg hb) z
/-- the law's row: its promise at every base -/
theorem walkG {l : PySem.W.OpenLaw} {n k : Nat} {q : Program} {loose : List Str} {XP : (Str → Option Value) → Heap → Prop} {YP : World → Heap → Prop} {d : DefRec} {CX : CXT} {x : Str}
    (hn : l.most = some n) (short : n ≤ sizeLine) (hdf : d.params.defaults = []) (room : Room k callerA)
    (F : ∀ (w : World) (mg : Str → Option Value) (fa : Addr) (h : Heap), YP w h → h.Ns mainGlobals mg → mg d.name = some (.ref fa) →
      ∃ (K : PySem.W.Frag) (fd : FuncData) (sp : Sp), K.In h ∧ (∀ (s : Shared) (u : Value), BindsTo s fd ⟨[u], []⟩ [(x, u)]) ∧
        (∀ (H : Hp) (a : Addr) (ns : List Int), ns.length ≤ n → Only H → SqL K H a (ns.map V.int) → sp [.ref a] H (fun v _ => v = .bl true) fun _ _ _ => False) ∧
        ∀ base : Heap, K.In base → base.Ns mainGlobals mg → FnG l.prog w K mg base CX k fa fd [x] sp)
    (nox : ∀ (H : Hp) (s : Shared) (e : Value) (s' : Shared), CX [] H s (fun _ _ _ => False) e s' → False) :
    PySem.W.WalkO q loose XP YP l.row.toRowW d [] (fun f vs => PySem.call f vs) := by
  refine Att.attach_call hn hdf fun w st0 st mg mb fa o pm cd doc a us ns G Y ho hd hcd hmg hobj hints hlen hg => ?_
  obtain ⟨K, fd, sp, KX, hb, hsp, hF⟩ := F w mg fa _ Y G.T.g hmg
  exact endG KX G.T.g G.T.b G.T.builtins G.T.nolimit hg hobj hints (Nat.le_trans hlen short) room hF hb (fun H hO hS => hsp H a ns hlen hO hS) fun H e s' => nox H st e s'
/-- the law's promise over data gives the row's -/
def lawF : FT := fun ss k => ∃ ns : List Int, ss = [.scr ns] ∧ ns.length ≤ 63 ∧ ∀ ss', k (.d (.bool true)) ss'
theorem law_sp {K : PySem.W.Frag} {H : Hp} {a : Addr} {ns : List Int} (h : ns.length ≤ 63) (hS : SqL K H a (ns.map V.int)) : spD K lawF [.ref a] H (fun v _ => v = .bl true) fun _ _ _ => False := by
  refine ⟨⟨H, H, fun _ => none, fun _ => False⟩, H, [.scr ns], rfl, rfl, ⟨⟨Same.refl H, Same.refl H, fun _ _ _ _ e => e, fun _ e => e, fun _ e => Or.inl e, (fun _ _ e => by cases e), fun _ z => z.elim⟩, rfl, fun i s v e1 e2 => ?_, fun i j b h1 h2 => ?_⟩, (fun _ z => z), ns, rfl, h, fun ss' v Z' H' m R w => ?_⟩
  · cases i with
    | zero =>
      simp at e1 e2
      subst e1 e2
      exact ⟨a, rfl, hS⟩
    | succ i => simp at e1
  · obtain ⟨s, v, e1, e2, e3⟩ := h1
    cases i with
    | zero =>
      simp at e1 e2
      subst e1 e2
      cases e3
    | succ i => simp at e1
  · obtain ⟨u, e, r⟩ := w.at_
    cases e
    cases r
    rfl

/-! ### repr of data -/
section
variable {X : Cx} {C : Ctx} {e : Expr} {T : ET} {pos : Pos}
def reprD : D → Option Str
  | .none => some "None"
  | .bool b => some (if b then "True" else "False")
  | .int i => if i.natAbs.log2 < 1920 then some (toString i) else none
  | x => if (x.showable && x.canLay0 && decide (x.depth ≤ 100) && decide (x.shown.length ≤ sizeLine)) = true then some x.shown else none
def isStr : D → Bool
  | .str _ => true
  | _ => false
def rpD : List D → Option Sl
  | [x] => if isStr x = true then none else (reprD x).map fun z => .d (.str z)
  | _ => none
theorem lay_nodict : (∀ d : D, d.canLay0 = true → d.hasDict = false) := by
  have key : ∀ n, (∀ d : D, sizeOf d < n → d.canLay0 = true → d.hasDict = false) ∧ (∀ ds : List D, sizeOf ds < n → PyData.canLayAll0 ds = true → PyData.hasDictAll ds = false) := by
    intro n
    induction n with
    | zero => exact ⟨fun d h => absurd h (Nat.not_lt_zero _), fun d h => absurd h (Nat.not_lt_zero _)⟩
    | succ n ih =>
      refine ⟨fun d h hl => ?_, fun ds h hl => ?_⟩
      · cases d with
        | list xs =>
          simp only [PyData.canLay0] at hl
          simp only [PyData.hasDict]
          exact ih.2 xs (by simp at h; omega) hl
        | tuple xs =>
          simp only [PyData.canLay0] at hl
          simp only [PyData.hasDict]
          exact ih.2 xs (by simp at h; omega) hl
        | dict xs => simp [PyData.canLay0] at hl
        | _ => simp [PyData.hasDict]
      · cases ds with
        | nil => simp [PyData.hasDictAll]
        | cons d ds =>
          simp only [PyData.canLayAll0, Bool.and_eq_true] at hl
          simp only [PyData.hasDictAll, Bool.or_eq_false_iff]
          exact ⟨ih.1 d (by simp at h; omega) hl.1, ih.2 ds (by simp at h; omega) hl.2⟩
  exact fun d => (key (sizeOf d + 1)).1 d (Nat.lt_succ_self _)
theorem callD_repr (gd : X.A.guards = some []) (hu : X.A.units + 110 < cLine) : CallD X (.builtin "repr") rpD := by
  intro pins s σ H vs us Q I rv ⟨Z, ds, sl, rs, m, e, w⟩
  unfold rpD at e
  split at e
  · rename_i x
    obtain ⟨v, rfl, r⟩ := rs.one_inv
    obtain ⟨u, rfl, ru⟩ := vals1 rv
    split at e
    · cases e
    · rename_i hns
      obtain ⟨z, e1, rfl⟩ := map_some e
      have big : (z = x.shown ∧ x.showable = true ∧ x.canLay0 = true ∧ x.depth ≤ 100 ∧ x.shown.length ≤ sizeLine) → (∃ p, v = .ref p) → wpAny (model X.prog X.w) X.A (call (.builtin "repr") [u]) (EP X pins σ Q) X.xe s := fun ⟨ez, h1, h2, h3, h4⟩ ⟨p, ep⟩ => by
        subst ez
        subst ep
        have rd := r.dp m h2
        obtain ⟨as, rr⟩ := Dp.reads I x _ u rd ru
        cases ru
        exact repr_of_reads' rr h1 (fun z => by rw [lay_nodict x h2] at z; cases z) gd (by omega) (fun _ _ e => e) (fun h' tk tk' kp => ⟨.str x.shown, H, I.kept (t' := tk') kp, ⟨_, rfl⟩, w.d0 _ _ rfl (.str _)⟩) h4
      have cond : ∀ {y : D}, (if (y.showable && y.canLay0 && decide (y.depth ≤ 100) && decide (y.shown.length ≤ sizeLine)) = true then some y.shown else none) = some z → (z = y.shown ∧ y.showable = true ∧ y.canLay0 = true ∧ y.depth ≤ 100 ∧ y.shown.length ≤ sizeLine) := fun {y} e => by
        obtain ⟨h, rfl⟩ := ite_some e
        simp only [Bool.and_eq_true, decide_eq_true_eq] at h
        exact ⟨rfl, h.1.1.1, h.1.1.2, h.1.2, h.2⟩
      cases r with
      | non =>
        cases e1
        cases ru
        exact PySem.P.repr_of_none ⟨.str _, H, I.tok _, ⟨_, rfl⟩, w.d0 _ _ rfl (.str _)⟩
      | bl b =>
        cases e1
        cases ru
        exact PySem.P.repr_of_bool ⟨.str _, H, I.tok _, ⟨_, rfl⟩, w.d0 _ _ rfl (.str _)⟩
      | int i =>
        simp only [reprD] at e1
        obtain ⟨h, rfl⟩ := ite_some e1
        obtain ⟨tk, rfl⟩ := ru
        exact PySem.P.repr_of_int h ⟨.str _, H, I.tok _, ⟨_, rfl⟩, w.d0 _ _ rfl (.str _)⟩
      | str y => exact absurd rfl hns
      | lst g rs l => exact big (cond e1) ⟨_, rfl⟩
      | tup g rs l => exact big (cond e1) ⟨_, rfl⟩
      | dct g rs l => exact big (cond e1) ⟨_, rfl⟩
      | dck g rs l => exact big (cond e1) ⟨_, rfl⟩
  · cases e
end
end Dl

set_option Elab.async false
set_option linter.all false
set_option maxRecDepth 100000
set_option autoImplicit false
set_option maxHeartbeats 1000000
namespace Dl
open PySem PySem.Spec PyProof.Rows L2

/-! ### defs at hand -/
structure Has (P : Program) (w : World) (K : PySem.W.Frag) (mg : Str → Option Value) (base : Heap) (x : Str) (k : Nat) (ps : List Str) (F : FT) : Prop where
  ex : ∃ (f : Addr) (fd : FuncData), mg x = some (.ref f) ∧ PySem.W.keepIn K (.ref f) = true ∧ Binds K fd ps [] ∧ FnG P w K mg base CX0 k f fd ps (spD K F)
section
variable {P : Program} {w : World} {K : PySem.W.Frag} {mg : Str → Option Value} {base : Heap} {x qual : Str} {params : Arguments} {body : List Stmt} {scope : Scope} {f : Addr} {fd : FuncData} {N ps : List Str} {k n : Nat} {F : FT} {W : ST}
theorem has_of (D0 : FunD K x qual params body scope [] [] f fd) (hm : mg x = some (.ref f))
    (hb : ∀ (kV doc pm : Value) (an : Option Addr) (cdv ct : Value) (us : List Value), us.length = ps.length → bindArgs (PySem.W.fnOf x qual params body scope .none kV doc pm an cdv ct) ⟨us, []⟩ = pure (ps.zip us))
    (S : FnScope N ps scope) (hn : N.length = n) (hlen : ∀ ss k, F ss k → ss.length = ps.length)
    (hd : ∀ (cdv : Value) (A : Around) (out : List Env) (st : Shared) (H : Hp) (E : XK) (C : Ctx), Room k (A.deeper (envOfC qual scope st.heap.objs.size f cdv)) → A.guards = some [] →
      DSs (cxOf CX0 P w K mg base N qual scope f cdv A out st H E).nox C body W) (ok : BodyOk n W F) : Has P w K mg base x (k + 1) ps F :=
  ⟨f, fd, hm, D0.kp, D0.bindsN hb, fn_ok D0 S hn hlen hd ok⟩
theorem has_none (D0 : FunD K x qual params body scope [] [] f fd) (hm : mg x = some (.ref f))
    (hb : ∀ (kV doc pm : Value) (an : Option Addr) (cdv ct : Value) (us : List Value), us.length = ps.length → bindArgs (PySem.W.fnOf x qual params body scope .none kV doc pm an cdv ct) ⟨us, []⟩ = pure (ps.zip us))
    (no : ∀ ss k, ¬ F ss k) : Has P w K mg base x k ps F :=
  ⟨f, fd, hm, D0.kp, D0.bindsN hb, ⟨fun vs H Q E ⟨C, Z, ss, _, _, _, _, h⟩ => (no _ _ h).elim, fun A out st H args us vs Q E _ _ _ _ _ ⟨C, Z, ss, _, _, _, _, h⟩ => (no _ _ h).elim⟩⟩
theorem Has.mono {j : Nat} (h : Has P w K mg base x j ps F) (q : j ≤ k) : Has P w K mg base x k ps F := by
  obtain ⟨f, fd, a, b, c, d⟩ := h.ex
  exact ⟨f, fd, a, b, c, d.mono q⟩
end
section
variable {X : Cx} {C : Ctx} {k : Nat} {ps : List Str} {F : FT} {x : Str} {p pos : Pos} {e : Expr} {es : List Expr} {as : List Ar}
theorem de_hcall (h : Has X.prog X.w X.K X.mg X.base x k ps F) (mF : MonoF F) (hr : Room k X.A) (gd : X.A.guards = some []) (ha : DAr X C (e :: es) as) (hg : Gl X x := by rfl)
    (hdb : (x == ("__debug__" : Str)) = false := by decide) (he : starEach (e :: es) X.env = (false, eval e X.env) :: starEach es X.env := by rfl) (hpl : (backTo pos (starEach es X.env)).any (·.1) = false := by rfl) : DE X C (.Call (.Name x p) (e :: es) [] pos) (eCall F as) := by
  obtain ⟨f, fd, a, b, c, d⟩ := h.ex
  exact de_call mF d hr gd a b c ha hg hdb he hpl
theorem de_hcall0 (h : Has X.prog X.w X.K X.mg X.base x k ps F) (mF : MonoF F) (hr : Room k X.A) (gd : X.A.guards = some []) (hg : Gl X x := by rfl)
    (hdb : (x == ("__debug__" : Str)) = false := by decide) : DE X C (.Call (.Name x p) [] [] pos) (eCall F []) := by
  obtain ⟨f, fd, a, b, c, d⟩ := h.ex
  exact de_call0 mF d hr gd a b c hg hdb
theorem room_u (h : Room k X.A) : X.A.units + 64 < cLine := by have := h.un; omega
theorem room_u65 (h : Room k X.A) : X.A.units + 65 < cLine := by have := h.un; omega
theorem room_u110 (h : Room k X.A) : X.A.units + 110 < cLine := by have := h.un; omega
theorem room_u1 (h : Room k X.A) : X.A.units + 1 < cLine := by have := h.un; omega
theorem pe_m1 {j : Nat} {p1 : Pos} : PE X (.UnaryOp .USub (.Constant (.int 1) j p1) pos) (fun _ H Q => Q (.int (-1)) H) := PE.imp (pe_un un_neg pe_int) fun σ H Q w => ⟨1, rfl, w⟩
theorem rel_c {i : V} {d : D} (h : ∀ Z, Rp X.K Z i d) {u : Value} (hm : X.mg x = some u) (r : RelV i u) (hg : Gl X x := by rfl) (hdb : (x == ("__debug__" : Str)) = false := by decide) : PE X (.Name x pos) (tC i) :=
  ⟨fun pins s σ H Q J w => ld_glob J hg hm ⟨i, H, J, r, w⟩ hdb⟩
theorem de_globI {i : Int} (h : ∃ u, X.mg x = some u ∧ RelV (.int i) u) (hg : Gl X x := by rfl) (hdb : (x == ("__debug__" : Str)) = false := by decide) : DE X C (.Name x pos) (eC (.int i)) := by
  obtain ⟨u, a, b⟩ := h
  exact de_c (rel_c (fun Z => .int i) a b hg hdb) fun Z => .int i
theorem de_globS {i : Str} (h : ∃ u, X.mg x = some u ∧ RelV (.str i) u) (hg : Gl X x := by rfl) (hdb : (x == ("__debug__" : Str)) = false := by decide) : DE X C (.Name x pos) (eC (.str i)) := by
  obtain ⟨u, a, b⟩ := h
  exact de_c (rel_c (fun Z => .str i) a b hg hdb) fun Z => .str i
end

/-! ### xs[i] += e of an own list -/
section
variable {X : Cx} {C : Ctx} {a b e : Expr} {T Ta Ti Tv : ET} {pos tp np : Pos} {x : Str} {i : Nat}
theorem get_own : PGet X fun o j H Q => ∃ p xs k v, o = .ref p ∧ j = .int k ∧ H p = some (.lst xs) ∧ atI xs k = some v ∧ Q v H := by
  intro pins s σ H o j ov iv Q I ro ri h
  obtain ⟨p, xs, k, z, rfl, rfl, hp, he, q⟩ := h
  cases ro
  obtain ⟨t, rfl⟩ := ri
  obtain ⟨its, r, pl, hz⟩ := I.list (Or.inl (Or.inl hp))
  obtain ⟨j, h1, h2, h3, h4, h5⟩ := atI_get he
  obtain ⟨w, ew, rw'⟩ := r.get h2
  have hn := line63
  have hl := r.length
  by_cases h0 : 0 ≤ k
  · have hj : k.toNat = j := by
      rw [seqIndex_of h0 h5] at h1
      exact Option.some.inj h1
    refine wpAny_mono (wpAny_getItem_list (Q := fun r s' => r = w ∧ EP X pins σ Q r s') pl.isList h0 (by omega) (by rw [hj]; simpa using ew) ⟨rfl, z, H, I, rw', q⟩) (fun _ _ h => h.2) fun _ _ h => h
  · have hj : (k + (its.toArray.size : Int)).toNat = j := by
      rw [seqIndex_neg (by omega) h4] at h1
      rw [List.size_toArray, ← hl]
      exact Option.some.inj h1
    exact wpAny_mono (wpAny_getItem_list_neg (Q := fun r s' => r = w ∧ EP X pins σ Q r s') pl.isList (by omega) (by rw [List.size_toArray] <;> omega) (by omega) (by rw [hj]; simpa using ew) ⟨rfl, z, H, I, rw', q⟩) (fun _ _ h => h.2) fun _ _ h => h
theorem ds_augL (hi : DE X C a Ti) (hv : DE X C e Tv) (hN : X.N[i]? = some x := by rfl) (hvs : Vis X.env.scope x := by first | exact Or.inl rfl | exact Or.inr (Or.inl rfl) | exact Or.inr (Or.inr rfl)) (hd : (x == ("__debug__" : Str)) = false := by decide) (hcd : (x == ("__classdict__" : Str)) = false := by decide)
    (ha : ∀ ov iv new, augStore a ov iv new = (do holding [new, ov, iv] (setItem ov iv new); release [new, ov, iv] []; pure .next) := by intros; rfl) :
    DS X C (.AugAssign (.Subscript (.Name x np) a tp) .Add e pos) (sAugL i Ti Tv) := by
  refine ⟨fun E E' ρ l q => ?_, PS.imp (ps_augS (pe_var hN hvs hd hcd) hi.run get_own hv.run ip_add set_list ha) fun E σ H w => ?_⟩
  · unfold sAugL at q ⊢
    split at q
    · refine hi.mono ρ _ _ (fun s ρ1 q1 => asD.imp (fun y ρ1 q2 => ?_) q1) q
      split at q2
      · obtain ⟨n, m, e1, e2, q3⟩ := q2
        refine ⟨n, m, e1, e2, hv.mono ρ1 _ _ (fun s ρ2 q4 => asD.imp (fun z ρ2 q5 => ?_) q4) q3⟩
        split at q5
        · exact ⟨q5.1, l.nx _ q5.2⟩
        · exact q5
      · exact q2
    · exact q
  · obtain ⟨Z, ρ, R, w⟩ := w
    unfold sAugL at w
    split at w
    · rename_i p0 xs0 hx0
      obtain ⟨c, vs0, hv0, hb0, _, _⟩ := R.ownAt hx0
      refine ⟨_, hv0, rdE.go hi.mono R w fun s1 ρ1 v Z1 H1 q1 m1 R1 w1 => ?_⟩
      obtain ⟨y, Z2, q2, m2, R2, ry⟩ := w1.give R1 q1
      split at q2
      · rename_i j p xs hx
        obtain ⟨n, m, e1, e2, q3⟩ := q2
        obtain ⟨c', vs, hv1, hb, r, l⟩ := R2.ownAt hx
        rw [hv0] at hv1
        cases hv1
        cases ry
        obtain ⟨u, hu, ru⟩ := r.get e2
        cases ru
        refine ⟨c, vs, j, .int m, rfl, rfl, hb, ?_, rdE.go hv.mono R2 q3 fun s3 ρ3 u3 Z3 H3 q4 m3 R3 w3 => ?_⟩
        · unfold atI
          rw [r.len, e1]
          exact hu
        · obtain ⟨z, Z4, q5, m4, R4, rz⟩ := w3.give R3 q4
          split at q5
          · rename_i b p' xs' hx'
            obtain ⟨hl, q6⟩ := q5
            obtain ⟨c'', vs', hv2, hb', r', l'⟩ := R4.ownAt hx'
            rw [hv0] at hv2
            cases hv2
            cases rz
            refine ⟨m, b, rfl, rfl, c, vs', j, n, rfl, rfl, hb', by rw [r'.len, hl]; exact e1, ?_⟩
            exact q6 Z4 σ _ (m1.trans (m2.trans (m3.trans m4))) (R4.writeL hx' hv0 (r'.set (.int _) n) (by rw [List.length_set]; exact l'))
          · exact q5.elim
      · exact q2.elim
    · exact w.elim
end

/-! ### own dicts with tuple keys -/
section
variable {α : Type}
def hasT (ks : List (List Key)) (q : List Key) : Bool := ks.any fun k => decide (k = q)
def putTK (ks : List (List Key)) (q : List Key) : List (List Key) := if hasT ks q = true then ks else ks ++ [q]
def putTV (ks : List (List Key)) (vs : List α) (q : List Key) (v : α) : List α := if hasT ks q = true then (ks.zip vs).map (fun kv => if kv.1 = q then v else kv.2) else vs ++ [v]
def atT (ks : List (List Key)) (vs : List α) (q : List Key) : Option α := ((ks.zip vs).find? fun kv => decide (kv.1 = q)).map (·.2)
theorem atT_pos {k q : List Key} {ks : List (List Key)} {v : α} {vs : List α} (e : k = q) : atT (k :: ks) (v :: vs) q = some v := by simp [atT, List.find?_cons, e]
theorem atT_neg {k q : List Key} {ks : List (List Key)} {v : α} {vs : List α} (e : ¬ k = q) : atT (k :: ks) (v :: vs) q = atT ks vs q := by simp [atT, List.find?_cons, e]
theorem zip_any {ks : List (List Key)} {q : List Key} : ∀ {vs : List V}, vs.length = ks.length → ((ks.zip vs).any fun kv => decide (kv.1 = q)) = hasT ks q := by
  induction ks with
  | nil => intro vs _; rfl
  | cons k ks ih =>
    intro vs hl
    cases vs with
    | nil => simp at hl
    | cons v vs =>
      rw [List.zip_cons_cons, List.any_cons, ih (by simpa using hl)]
      rfl
theorem putK_zip {ks : List (List Key)} {vs : List V} {q : List Key} {v : V} (hl : vs.length = ks.length) : putK (ks.zip vs) q v = (putTK ks q).zip (putTV ks vs q v) := by
  unfold putK putTK putTV
  rw [zip_any hl]
  by_cases h : hasT ks q = true
  · rw [if_pos h, if_pos h, if_pos h]
    clear h
    induction ks generalizing vs with
    | nil => simp
    | cons k ks ih =>
      cases vs with
      | nil => simp at hl
      | cons u vs =>
        rw [List.zip_cons_cons, List.map_cons, List.map_cons, List.zip_cons_cons, ih (by simpa using hl)]
        by_cases hk : k = q <;> simp [hk]
  · rw [if_neg h, if_neg h, if_neg h, List.zip_append hl.symm]
    rfl
theorem putTV_len {ks : List (List Key)} {vs : List α} {q : List Key} {v : α} (hl : vs.length = ks.length) : (putTV ks vs q v).length = (putTK ks q).length := by
  unfold putTV putTK
  by_cases h : hasT ks q = true
  · rw [if_pos h, if_pos h]
    simp [hl]
  · rw [if_neg h, if_neg h]
    simp [hl]
variable {K : PySem.W.Frag} {Z : Hp}
theorem RpA.putT {v : V} {d : D} (r : Rp K Z v d) {q : List Key} : ∀ {ks : List (List Key)} {vs : List V} {ds : List D}, RpA K Z vs ds → RpA K Z (putTV ks vs q v) (putTV ks ds q d) := by
  intro ks vs ds rs
  unfold putTV
  by_cases h : hasT ks q = true
  · rw [if_pos h, if_pos h]
    clear h
    induction ks generalizing vs ds with
    | nil => simpa using RpA.nil
    | cons k ks ih =>
      cases rs with
      | nil => simpa using RpA.nil
      | cons r1 t =>
        rw [List.zip_cons_cons, List.zip_cons_cons, List.map_cons, List.map_cons]
        refine .cons ?_ (ih t)
        by_cases hk : k = q
        · simpa [hk] using r
        · simpa [hk] using r1
  · rw [if_neg h, if_neg h]
    exact rs.app (.one r)
theorem RpA.valT {q : List Key} {d : D} : ∀ {ks : List (List Key)} {vs : List V} {ds : List D}, RpA K Z vs ds → atT ks ds q = some d → ∃ v, atT ks vs q = some v ∧ Rp K Z v d := by
  intro ks
  induction ks with
  | nil => intro vs ds _ h; simp [atT] at h
  | cons k ks ih =>
    intro vs ds rs h
    cases rs with
    | nil => simp [atT] at h
    | cons r1 t =>
      by_cases hk : k = q
      · rw [atT_pos hk] at h ⊢
        cases h
        exact ⟨_, rfl, r1⟩
      · rw [atT_neg hk] at h ⊢
        exact ih t h
theorem RpA.keys : ∀ {q : List Key} {vs : List V}, RpA K Z vs (q.map keyD) → vs = q.map kV
  | [], _, .nil => rfl
  | .inl i :: q, _, .cons (.int _) t => by rw [RpA.keys t]; rfl
  | .inr i :: q, _, .cons (.str _) t => by rw [RpA.keys t]; rfl
theorem keyD_inj : ∀ {q q' : List Key}, q.map keyD = q'.map keyD → q = q'
  | [], [], _ => rfl
  | [], _ :: _, h => by simp at h
  | _ :: _, [], h => by simp at h
  | a :: q, b :: q', h => by
    rw [List.map_cons, List.map_cons] at h
    have h1 := (List.cons.inj h).1
    have h2 := keyD_inj (List.cons.inj h).2
    rw [h2]
    cases a <;> cases b <;> simp_all [keyD]
def dictOf (ks : List (List Key)) (ds : List D) : D := .dict ((ks.map fun k => PyData.tuple (k.map keyD)).zip ds)
theorem dictOf_inj : ∀ {ks ks' : List (List Key)} {ds ds' : List D}, ks.length = ds.length → ks'.length = ds'.length →
    (ks.map fun k => PyData.tuple (k.map keyD)).zip ds = (ks'.map fun k => PyData.tuple (k.map keyD)).zip ds' → ks = ks' ∧ ds = ds'
  | [], [], [], [], _, _, _ => ⟨rfl, rfl⟩
  | [], k' :: ks', [], d' :: ds', _, _, h => by simp at h
  | k :: ks, [], d :: ds, [], _, _, h => by simp at h
  | k :: ks, k' :: ks', d :: ds, d' :: ds', h1, h2, h => by
    rw [List.map_cons, List.map_cons, List.zip_cons_cons, List.zip_cons_cons] at h
    have e := List.cons.inj h
    obtain ⟨a, b⟩ := dictOf_inj (by simpa using h1) (by simpa using h2) e.2
    have e1 := (Prod.mk.inj e.1)
    have e2 := keyD_inj (PyData.tuple.inj e1.1)
    rw [a, b, e2, e1.2]
    exact ⟨rfl, rfl⟩
  | [], [], _ :: _, _, h, _, _ => by simp at h
  | [], _ :: _, _ :: _, _, h, _, _ => by simp at h
  | _ :: _, _, [], _, h, _, _ => by simp at h
  | _, [], _, _ :: _, _, h, _ => by simp at h
  | _, _ :: _, _, [], _, h, _ => by simp at h
end
section
variable {X : Cx} {C : Ctx} {a b e o v : Expr} {T Ta Ti Tv : ET} {pos tp np : Pos} {x : Str} {i : Nat}
def eNewT : ET := fun ρ k => k (.ownT [] []) ρ
theorem de_newT : DE X C (.Dict [] [] pos) eNewT := by
  refine ⟨fun ρ k k' hk q => hk _ _ q, PE.imp pe_dnewT fun σ H Q w p hp => ?_⟩
  obtain ⟨Z, ρ, R, w⟩ := w
  obtain ⟨R1, hz, h0, ap⟩ := R.fresh (o := .dT []) hp
  refine w _ Z _ (Same.refl Z) R1 ⟨rfl, ⟨p, [], rfl, upd_same, .nil, rfl, hz, Or.inl h0⟩, fun a e => ?_⟩
  have e' : some p = some a := e
  cases e'
  exact ap
/-- x[e], x a name's dict, which stays as it is -/
def dictAt (ρ : Rho) (i : Nat) (ks : List (List Key)) (ds : List D) : Prop := ks.length = ds.length ∧ (ρ[i]? = some (.ownT ks ds) ∨ ρ[i]? = some (.d (dictOf ks ds)))
def eGetT (i : Nat) (T : ET) : ET := fun ρ k => (∃ s, ρ[i]? = some s ∧ s ≠ .non) ∧ T ρ (asD fun y ρ1 => ∃ ks ds q z, dictAt ρ1 i ks ds ∧ y = .tuple (q.map keyD) ∧ atT ks ds q = some z ∧ k (.d z) ρ1)
theorem dictAt_get {K : PySem.W.Frag} {Z H : Hp} {σ : Sg} {ρ : Rho} {ks : List (List Key)} {ds : List D} (R : RB K C Z σ H ρ) (h : dictAt ρ i ks ds) (hne : ks ≠ []) : ∃ a vs, σ[i]? = some (some (.ref a)) ∧ H a = some (.dT (ks.zip vs)) ∧ RpA K Z vs ds := by
  obtain ⟨hl, h | h⟩ := h
  · obtain ⟨v, hv, b, vs, e, hb, r, l, ow⟩ := R.s.slotAt h
    subst e
    exact ⟨b, vs, hv, hb, r⟩
  · obtain ⟨v, hv, u, e, r⟩ := R.s.slotAt h
    subst e
    unfold dictOf at r
    generalize hg : (ks.map fun k => PyData.tuple (k.map keyD)).zip ds = g at r
    cases r with
    | dct q rs l =>
      obtain ⟨rfl, rfl⟩ := dictOf_inj hl l hg
      exact ⟨_, _, hv, R.b.le _ _ q, rs⟩
    | @dck _ ks' _ ds' q rs l =>
      cases ks with
      | nil => exact absurd rfl hne
      | cons k0 kr =>
        cases ds with
        | nil => simp at hl
        | cons d0 dr =>
          cases ks' with
          | nil => simp at hg
          | cons k1 kr1 =>
            cases ds' with
            | nil => simp at l
            | cons d1 dr1 =>
              simp only [List.map_cons, List.zip_cons_cons, List.cons.injEq, Prod.mk.injEq] at hg
              have := hg.1.1
              cases k1 <;> cases this
theorem de_getT (hu : X.A.units + 1 < cLine) (he : DE X C e T) (hN : X.N[i]? = some x := by rfl) (hvs : Vis X.env.scope x := by first | exact Or.inl rfl | exact Or.inr (Or.inl rfl) | exact Or.inr (Or.inr rfl)) (hd : (x == ("__debug__" : Str)) = false := by decide) (hcd : (x == ("__classdict__" : Str)) = false := by decide)
    (hs : NoSl e := by intro _ _; rfl) :
    DE X C (.Subscript (.Name x np) e pos) (eGetT i T) := by
  refine ⟨fun ρ k k' hk ⟨n, q⟩ => ⟨n, he.mono ρ _ _ (fun s ρ1 q1 => asD.imp (fun y ρ1 ⟨ks, ds, q, z, h1, h2, h3, h4⟩ => ⟨ks, ds, q, z, h1, h2, h3, hk _ _ h4⟩) q1) q⟩, PE.imp (pe_dget hu (pe_var hN hvs hd hcd) he.run hs) fun σ H Q w => ?_⟩
  obtain ⟨Z, ρ, R, ⟨s0, hs0, hn0⟩, w⟩ := w
  obtain ⟨v0, hv0, sl0⟩ := R.s.slotAt hs0
  obtain ⟨u0, rfl⟩ : ∃ u0, v0 = some u0 := by
    cases s0 with
    | non => exact absurd rfl hn0
    | d x => obtain ⟨u, e, _⟩ := sl0; exact ⟨u, e⟩
    | own p xs => obtain ⟨a, _, e, _⟩ := sl0; exact ⟨_, e⟩
    | drw p => obtain ⟨a, _, _, e, _⟩ := sl0; exact ⟨_, e⟩
    | ownT p xs => obtain ⟨a, _, e, _⟩ := sl0; exact ⟨_, e⟩
    | ownK p xs => obtain ⟨a, _, e, _⟩ := sl0; exact ⟨_, e⟩
    | scr ns => obtain ⟨a, e, _⟩ := sl0; exact ⟨_, e⟩
    | pin b => exact ⟨_, sl0⟩
  refine ⟨u0, hv0, rdE.go he.mono R w fun s1 ρ1 v Z1 H1 q1 m1 R1 w1 => ?_⟩
  obtain ⟨y, Z2, ⟨ks, ds, q, z, h1, rfl, h3, h4⟩, m2, R2, ry⟩ := w1.give R1 q1
  have hne : ks ≠ [] := by
    rintro rfl
    simp [atT] at h3
  obtain ⟨c, vs, g1, g2, g3⟩ := dictAt_get R2 h1 hne
  rw [hv0] at g1
  cases g1
  obtain ⟨u, h5, ru⟩ := g3.valT h3
  cases ry with
  | tup g rs l =>
    rw [RpA.keys rs] at g
    refine ⟨c, u, rfl, ?_, h4 u Z2 H1 (m1.trans m2) R2 (.ofD ru)⟩
    rw [← h5]
    exact DGet.t g2 (R2.b.le _ _ g)
def sPutT (i : Nat) (Ti Tv : ET) : ST := fun E ρ => Tv ρ (asD fun v ρ1 => match ρ1[i]? with
  | some (.ownT _ _) => Ti ρ1 (asD fun y ρ2 => match ρ2[i]? with
    | some (.ownT ks ds) => ∃ q : List Key, y = .tuple (q.map keyD) ∧ ks.length < sizeLine ∧ E.nx (ρ2.set i (.ownT (putTK ks q) (putTV ks ds q v)))
    | _ => False)
  | _ => False)
theorem ds_putT (hu : X.A.units + 1 < cLine) (hi : DE X C a Ti) (hv : DE X C v Tv) (hN : X.N[i]? = some x := by rfl) (hvs : Vis X.env.scope x := by first | exact Or.inl rfl | exact Or.inr (Or.inl rfl) | exact Or.inr (Or.inr rfl)) (hd : (x == ("__debug__" : Str)) = false := by decide) (hcd : (x == ("__classdict__" : Str)) = false := by decide)
    (hs : swapsWith v (some (.Subscript (.Name x np) a tp)) pos.line X.env = pure false := by rfl) : DS X C (.Assign [.Subscript (.Name x np) a tp] v pos) (sPutT i Ti Tv) := by
  refine ⟨fun E E' ρ l q => hv.mono ρ _ _ (fun s ρ1 q1 => asD.imp (fun u ρ1 q2 => ?_) q1) q, PS.imp (ps_dput hu (pe_var hN hvs hd hcd) hi.run hv.run hs) fun E σ H w => ?_⟩
  · split at q2
    · refine hi.mono ρ1 _ _ (fun s ρ2 q3 => asD.imp (fun y ρ2 q4 => ?_) q3) q2
      split at q4
      · obtain ⟨n, e, e2, q5⟩ := q4
        exact ⟨n, e, e2, l.nx _ q5⟩
      · exact q4
    · exact q2
  · obtain ⟨Z, ρ, R, w⟩ := w
    refine rdE.go hv.mono R w fun s1 ρ1 u Z1 H1 q1 m1 R1 w1 => ?_
    obtain ⟨d, Z2, q2, m2, R2, rd⟩ := w1.give R1 q1
    split at q2
    · rename_i ks0 ds0 hx0
      obtain ⟨v0, hv0, c, vs0, e0, hb0, r0, l0, ow0⟩ := R2.s.slotAt hx0
      subst e0
      refine ⟨_, hv0, rdE.go hi.mono R2 q2 fun s3 ρ3 w3 Z3 H3 q3 m3 R3 v3 => ?_⟩
      obtain ⟨y, Z4, q4, m4, R4, ry⟩ := v3.give R3 q3
      split at q4
      · rename_i ks ds hx
        obtain ⟨q, rfl, hl, q5⟩ := q4
        obtain ⟨v1, hv1, c', vs, e1, hb, r, l, ow⟩ := R4.s.slotAt hx
        rw [hv0] at hv1
        cases hv1
        cases e1
        cases ry with
        | tup g rs gl =>
          rw [RpA.keys rs] at g
          have hlen : vs.length = ks.length := by rw [r.len, l]
          refine ⟨c, _, rfl, DPut.t hb (R4.b.le _ _ g) (by rw [List.length_zip, hlen]; omega), ?_⟩
          rw [putK_zip hlen]
          refine q5 Z4 σ _ (m1.trans (m2.trans (m3.trans m4))) (R4.rewrite hx hv0 rfl rfl ⟨c, _, rfl, upd_same, ?_, ?_, ow⟩)
          · exact r.putT ((rd.mono m3).mono m4)
          · exact (putTV_len l.symm).symm
      · exact q4.elim
    · exact q2.elim
end

/-! ### a state of draws, opened as the list that it is -/
section
variable {K : PySem.W.Frag} {C : Ctx} {Z H : Hp} {σ : Sg} {ρ : Rho} {i : Nat} {s t : Sl}
theorem oa_swap (hs : ρ[i]? = some s) (ho : ∀ v, ownA v t = ownA v s) (j : Nat) (a : Addr) : OA σ (ρ.set i t) j a ↔ OA σ ρ j a := by
  have li : i < ρ.length := (List.getElem?_eq_some_iff.mp hs).1
  by_cases hj : j = i
  · subst hj
    unfold OA
    rw [List.getElem?_set_self li, hs]
    constructor
    · rintro ⟨s', v, e1, e2, e3⟩
      cases e1
      exact ⟨s, v, rfl, e2, by rw [← ho]; exact e3⟩
    · rintro ⟨s', v, e1, e2, e3⟩
      cases e1
      exact ⟨t, v, rfl, e2, by rw [ho]; exact e3⟩
  · unfold OA
    rw [List.getElem?_set_ne (Ne.symm hj)]
theorem RB.swap (R : RB K C Z σ H ρ) (hs : ρ[i]? = some s) (ho : ∀ v, ownA v t = ownA v s) (h : ∀ v, σ[i]? = some v → SlO K C Z H i v s → SlO K C Z H i v t) : RB K C Z σ H (ρ.set i t) := by
  refine ⟨R.b, by simp [R.s.len], fun j s' v e1 e2 => ?_, fun j k a h1 h2 => R.s.inj j k a ((oa_swap hs ho j a).mp h1) ((oa_swap hs ho k a).mp h2)⟩
  by_cases hj : j = i
  · subst hj
    have li : j < ρ.length := (List.getElem?_eq_some_iff.mp hs).1
    rw [List.getElem?_set_self li] at e1
    cases e1
    exact h v e2 (R.s.slot j s v hs e2)
  · rw [List.getElem?_set_ne (Ne.symm hj)] at e1
    exact R.s.slot j s' v e1 e2
theorem own_drw (p : Bool) (xs : List D) : ∀ v, ownA v (.own p xs) = ownA v (.drw p) := fun v => by
  cases v with
  | none => rfl
  | some u => cases u <;> rfl
theorem RB.openD {p : Bool} (R : RB K C Z σ H ρ) (hs : ρ[i]? = some (.drw p)) : ∃ xs, DrawInv xs ∧ RB K C Z σ H (ρ.set i (.own p xs)) := by
  obtain ⟨v, hv, a, vs, xs, e, ha, r, dv, ow⟩ := R.s.slotAt hs
  refine ⟨xs, dv, R.swap hs (own_drw p xs) fun v' hv' _ => ?_⟩
  rw [hv] at hv'
  cases hv'
  refine ⟨a, vs, e, ha, r, ?_, ow⟩
  obtain ⟨cs, _, _, _, rfl, _⟩ := dv
  rw [sizeLine_eq]
  simp
theorem RB.closeD {p : Bool} {xs : List D} (R : RB K C Z σ H ρ) (hs : ρ[i]? = some (.own p xs)) (dv : DrawInv xs) : RB K C Z σ H (ρ.set i (.drw p)) := by
  refine R.swap hs (fun v => (own_drw p xs v).symm) fun v' _ sl => ?_
  obtain ⟨a', vs', e', ha', r', l', ow'⟩ := sl
  exact ⟨a', vs', xs, e', ha', r', dv, ow'⟩
end
section
variable {X : Cx} {C : Ctx} {st : List Stmt} {W : ST} {i : Nat}
/-- the state of draws at slot i is the list that it is -/
def openE (i : Nat) (p : Bool) (E : EndD) : EndD where
  nx := fun ρ' => ∃ ys, ρ'[i]? = some (.own p ys) ∧ DrawInv ys ∧ E.nx (ρ'.set i (.drw p))
  rt := fun s ρ' => ∃ ys, ρ'[i]? = some (.own p ys) ∧ DrawInv ys ∧ E.rt s (ρ'.set i (.drw p))
  bk := fun _ => False
  ct := fun _ => False
def sOpen (i : Nat) (W : ST) : ST := fun E ρ => ∃ p, ρ[i]? = some (.drw p) ∧ ∀ xs, DrawInv xs → W (openE i p E) (ρ.set i (.own p xs))
theorem openE_le {i : Nat} {p : Bool} {E E' : EndD} (l : E.Le E') : (openE i p E).Le (openE i p E') :=
  ⟨fun ρ' ⟨ys, a, b, c⟩ => ⟨ys, a, b, l.nx _ c⟩, fun s ρ' ⟨ys, a, b, c⟩ => ⟨ys, a, b, l.rt _ _ c⟩, fun _ z => z, fun _ z => z⟩
theorem dss_open (h : DSs X C st W) : DSs X C st (sOpen i W) := by
  refine ⟨fun E E' ρ l ⟨p, e, q⟩ => ⟨p, e, fun xs dv => h.mono _ _ _ (openE_le l) (q xs dv)⟩, PSs.imp h.run fun E σ H w => ?_⟩
  obtain ⟨Z, ρ, R, p, e, q⟩ := w
  obtain ⟨xs, dv, R1⟩ := R.openD e
  have le : (openE i p (liftE X.K C Z E)).Le (liftE X.K C Z E) := by
    refine ⟨fun ρ' ⟨ys, a, b, c⟩ Z' σ' H' m R' => c Z' σ' H' m (R'.closeD a b), fun s ρ' ⟨ys, a, b, c⟩ v Z' σ' H' m R' w' => c v Z' σ' H' m (R'.closeD a b) ⟨w'.val, w'.at_, fun a' ea j o => w'.apart a' ea j ((oa_swap a (fun v => (own_drw p ys v).symm) j a').mp o)⟩, fun _ z => z.elim, fun _ z => z.elim⟩
  exact ⟨Z, _, R1, h.mono _ _ _ le (q xs dv)⟩
/-- a list that is a state of draws is handed out as one -/
def drawsE (E : EndD) : EndD := { E with rt := fun s ρ' => ∃ xs, s = .own false xs ∧ DrawInv xs ∧ E.rt (.drw false) ρ' }
def sDraws (W : ST) : ST := fun E ρ => W (drawsE E) ρ
theorem dss_draws (h : DSs X C st W) : DSs X C st (sDraws W) := by
  refine ⟨fun E E' ρ l q => h.mono (drawsE E) (drawsE E') _ ⟨l.nx, fun s ρ' ⟨ys, a, b, c⟩ => ⟨ys, a, b, l.rt _ _ c⟩, l.bk, l.ct⟩ q, PSs.imp h.run fun E σ H w => ?_⟩
  obtain ⟨Z, ρ, R, w⟩ := w
  have le : (drawsE (liftE X.K C Z E)).Le (liftE X.K C Z E) := by
    refine ⟨fun _ z => z, fun s ρ' ⟨ys, a, b, c⟩ v Z' σ' H' m R' w' => ?_, fun _ z => z, fun _ z => z⟩
    subst a
    obtain ⟨p, vs, ev, hp, r, l, ow⟩ := w'.at_
    cases ev
    exact c _ Z' σ' H' m R' ⟨rfl, ⟨p, vs, ys, rfl, hp, r, b, ow⟩, fun a' ea j o => w'.apart a' ea j o⟩
  exact ⟨Z, ρ, R, h.mono _ _ _ le w⟩
end
section
variable {X : Cx} {C : Ctx} {e : Expr} {T : ET}
/-- a list display of constants -/
def eKL (xs : List D) : ET := fun ρ k => k (.own false xs) ρ
theorem de_kl {xs : List D} (h : DE X C e T) (q : ∀ ρ k, k (.own false xs) ρ → T ρ k) : DE X C e (eKL xs) :=
  ⟨fun ρ k k' hk z => hk _ _ z, PE.imp h.run fun σ H Q ⟨Z, ρ, R, w⟩ => ⟨Z, ρ, R, q ρ _ w⟩⟩
end
end Dl

set_option Elab.async false
set_option linter.all false
set_option maxRecDepth 100000
set_option autoImplicit false
set_option maxHeartbeats 1000000
namespace Dl
open PySem PySem.Spec PyProof.Rows L2

/-! ### the transformers, run -/
def opt {α : Type} (o : Option α) (k : α → Prop) : Prop := ∃ a, o = some a ∧ k a
section
variable {α β : Type} {k : α → Prop}
@[simp] theorem opt_some {a : α} : opt (some a) k = k a := by simp [opt]
@[simp] theorem opt_none : opt none k = False := by simp [opt]
@[simp] theorem opt_ite {c : Prop} [Decidable c] {o : Option α} : opt (if c then o else none) k = (c ∧ opt o k) := by
  by_cases h : c <;> simp [h]
@[simp] theorem opt_map {o : Option β} {f : β → α} : opt (o.map f) k = opt o fun b => k (f b) := by
  cases o <;> simp
theorem opt_of {o : Option α} {a : α} (h : o = some a) (q : k a) : opt o k := ⟨a, h, q⟩
def boolGo (o : Option Sl) (k : Bool → Prop) : Prop := ∃ b, o = some (.d (.bool b)) ∧ k b
@[simp] theorem boolGo_s {b : Bool} {k : Bool → Prop} : boolGo (some (.d (.bool b))) k = k b := by
  refine propext ⟨fun ⟨b', e, q⟩ => ?_, fun q => ⟨b, rfl, q⟩⟩
  cases e
  exact q
@[simp] theorem boolGo_map {o : Option Bool} {f : Bool → Bool} {k : Bool → Prop} : boolGo (o.map fun b => .d (.bool (f b))) k = opt o fun b => k (f b) := by
  cases o with
  | none => simp [boolGo]
  | some b => simp
def intGo (y : D) (q : Int → Prop) : Prop := match y with
  | .int j => q j
  | _ => False
@[simp] theorem intGo_i {q : Int → Prop} {j : Int} : intGo (.int j) q = q j := rfl
theorem intGo_eq {y : D} {q : Int → Prop} : (∃ j, y = .int j ∧ q j) = intGo y q := by
  cases y <;> simp [intGo]
end
section
variable {ρ : Rho} {k : Sl → Rho → Prop} {kb : Bool → Rho → Prop} {ka : List D → Rho → Prop} {ko : Option Int → Rho → Prop} {kd : D → Rho → Prop} {E : EndD} {i n : Nat} {x y d : D} {xs ds : List D} {T Ta Tb Ti Tv : ET} {A : AT} {B Ba Bb : BT} {W W1 W2 : ST} {G : GT} {Gs : GTs} {Tl Th : OT} {kg : Rho → Prop}
@[simp] theorem x_asD_d : asD kd (.d x) ρ = kd x ρ := rfl
@[simp] theorem x_asD_own : asD kd (.own false xs) ρ = kd (.list xs) ρ := rfl
@[simp] theorem x_asD_K {ks : List Key} : asD kd (.ownK ks ds) ρ = kd (.dict ((ks.map keyD).zip ds)) ρ := rfl
@[simp] theorem x_asD_T {ks : List (List Key)} : asD kd (.ownT ks ds) ρ = kd (dictOf ks ds) ρ := rfl
@[simp] theorem x_asB {b : Bool} : asB kb (.d (.bool b)) ρ = kb b ρ := rfl
@[simp] theorem x_seqD_l : seqD ka (.list xs) ρ = ka xs ρ := rfl
@[simp] theorem x_seqD_t : seqD ka (.tuple xs) ρ = ka xs ρ := rfl
def varGo (o : Option Sl) (ρ : Rho) (i : Nat) (k : Sl → Rho → Prop) : Prop := match o with
  | some (.d x) => k (.d x) ρ
  | some (.own false xs) => k (.d (.list xs)) (ρ.set i (.d (.list xs)))
  | some (.ownT ks ds) => k (.d (dictOf ks ds)) (ρ.set i (.d (dictOf ks ds)))
  | some (.ownK ks ds) => k (.d (.dict ((ks.map keyD).zip ds))) (ρ.set i (.d (.dict ((ks.map keyD).zip ds))))
  | _ => False
@[simp] theorem varGo_d : varGo (some (.d x)) ρ i k = k (.d x) ρ := rfl
@[simp] theorem varGo_own : varGo (some (.own false xs)) ρ i k = k (.d (.list xs)) (ρ.set i (.d (.list xs))) := rfl
@[simp] theorem varGo_K {ks : List Key} : varGo (some (.ownK ks ds)) ρ i k = k (.d (.dict ((ks.map keyD).zip ds))) (ρ.set i (.d (.dict ((ks.map keyD).zip ds)))) := rfl
@[simp] theorem varGo_T {ks : List (List Key)} : varGo (some (.ownT ks ds)) ρ i k = k (.d (dictOf ks ds)) (ρ.set i (.d (dictOf ks ds))) := rfl
@[simp] theorem x_var : eVar i ρ k = varGo ρ[i]? ρ i k := by
  unfold eVar varGo dictOf
  rfl
def peekGo (o : Option Sl) : Option D := match o with
  | some (.d x) => some x
  | some (.own _ xs) => some (.list xs)
  | _ => none
@[simp] theorem peekGo_d : peekGo (some (.d x)) = some x := rfl
@[simp] theorem peekGo_own {p : Bool} : peekGo (some (.own p xs)) = some (.list xs) := rfl
@[simp] theorem x_peek : peek ρ i = peekGo ρ[i]? := rfl
@[simp] theorem x_c : eC x ρ k = k (.d x) ρ := rfl
@[simp] theorem x_nil : aNil ρ ka = ka [] ρ := rfl
@[simp] theorem x_cons : aCons T A ρ ka = T ρ (asD fun x ρ1 => A ρ1 fun xs ρ2 => ka (x :: xs) ρ2) := rfl
@[simp] theorem x_kl : eKL xs ρ k = k (.own false xs) ρ := rfl
@[simp] theorem x_tup : eTup A ρ k = A ρ fun xs ρ1 => xs.length ≤ sizeLine ∧ k (.d (.tuple xs)) ρ1 := rfl
@[simp] theorem x_lst : eLst A ρ k = A ρ fun xs ρ1 => xs.length ≤ sizeLine ∧ k (.own false xs) ρ1 := rfl
@[simp] theorem x_bin {g : D → D → Option Sl} : eBin g Ta Tb ρ k = Ta ρ (asD fun x ρ1 => Tb ρ1 (asD fun y ρ2 => opt (g x y) fun s => k s ρ2)) := rfl
@[simp] theorem x_bbin {g : D → D → Option Sl} : bBin g Ta Tb ρ kb = Ta ρ (asD fun x ρ1 => Tb ρ1 (asD fun y ρ2 => boolGo (g x y) fun b => kb b ρ2)) := rfl
def isNoneD : D → Bool
  | .none => true
  | _ => false
@[simp] theorem isNone_none : isNoneD .none = true := rfl
@[simp] theorem isNone_tup : isNoneD (.tuple xs) = false := rfl
@[simp] theorem isNone_lst : isNoneD (.list xs) = false := rfl
@[simp] theorem isNone_int {j : Int} : isNoneD (.int j) = false := rfl
@[simp] theorem isNone_str {j : Str} : isNoneD (.str j) = false := rfl
theorem isNone_eq (b : Bool) (x : D) : (match x with | .none => !b | _ => b) = (b ^^ isNoneD x) := by cases x <;> cases b <;> rfl
theorem goD {T : ET} {ρ : Rho} {f g : D → Rho → Prop} (h : ∀ x ρ1, f x ρ1 = g x ρ1) : T ρ (asD f) = T ρ (asD g) := by
  have e : f = g := funext fun x => funext fun ρ1 => h x ρ1
  rw [e]
@[simp] theorem x_isN {b : Bool} : eIsN b Ta ρ k = Ta ρ (asD fun x ρ1 => k (.d (.bool (b ^^ isNoneD x))) ρ1) := goD fun x ρ1 => by cases x <;> cases b <;> rfl
@[simp] theorem x_bisN {b : Bool} : bIsN b Ta ρ kb = Ta ρ (asD fun x ρ1 => kb (b ^^ isNoneD x) ρ1) := goD fun x ρ1 => by cases x <;> cases b <;> rfl
@[simp] theorem x_tru : bTru T ρ kb = T ρ (asD fun x ρ1 => opt (truD x) fun b => kb b ρ1) := rfl
@[simp] theorem x_truV : bTruV i ρ kb = opt (peekGo ρ[i]?) fun x => opt (truD x) fun b => kb b ρ := by simp [bTruV, opt]
@[simp] theorem x_band : bAnd Ba Bb ρ kb = Ba ρ fun c ρ1 => if c = true then Bb ρ1 kb else kb false ρ1 := rfl
@[simp] theorem x_bor : bOr Ba Bb ρ kb = Ba ρ fun c ρ1 => if c = true then kb true ρ1 else Bb ρ1 kb := rfl
@[simp] theorem x_bnot : bNot Ba ρ kb = Ba ρ fun c ρ1 => kb (!c) ρ1 := rfl
@[simp] theorem x_eand : eAnd Ta Tb ρ k = Ta ρ (asB fun c ρ1 => if c = true then Tb ρ1 k else k (.d (.bool false)) ρ1) := rfl
@[simp] theorem x_eor : eOr Ta Tb ρ k = Ta ρ (asB fun c ρ1 => if c = true then k (.d (.bool true)) ρ1 else Tb ρ1 k) := rfl
@[simp] theorem x_enot : eNot Ta ρ k = Ta ρ (asB fun c ρ1 => k (.d (.bool (!c))) ρ1) := rfl
@[simp] theorem x_bval : bVal T ρ kb = T ρ (asB kb) := rfl
@[simp] theorem x_eif : eIf B Ta Tb ρ k = B ρ fun c ρ1 => if c = true then Ta ρ1 k else Tb ρ1 k := rfl
@[simp] theorem r_int {c : Int → Int → Bool} {f : Int → Int → Int} {a b : Int} : intOp c f (.int a) (.int b) = if c a b = true then some (.d (.int (f a b))) else none := rfl
@[simp] theorem r_cmp {f : Int → Int → Bool} {a b : Int} : cmpOp f (.int a) (.int b) = some (.d (.bool (f a b))) := rfl
@[simp] theorem r_add {a b : Int} : addD (.int a) (.int b) = some (.d (.int (a + b))) := rfl
@[simp] theorem r_sub {a b : Int} : subD (.int a) (.int b) = some (.d (.int (a - b))) := rfl
@[simp] theorem r_lt {a b : Int} : ltD (.int a) (.int b) = some (.d (.bool (decide (a < b)))) := rfl
@[simp] theorem r_le {a b : Int} : leD (.int a) (.int b) = some (.d (.bool (decide (a ≤ b)))) := rfl
@[simp] theorem r_gt {a b : Int} : gtD (.int a) (.int b) = some (.d (.bool (decide (b < a)))) := rfl
@[simp] theorem r_ge {a b : Int} : geD (.int a) (.int b) = some (.d (.bool (decide (b ≤ a)))) := rfl
theorem r_mul {a b : Int} (h : cMulB a b = true) : mulD (.int a) (.int b) = some (.d (.int (a * b))) := by
  unfold mulD intOp
  simp [h]
theorem r_fdiv {a b : Int} (h : 0 < b) (h2 : b < 1073741824) : fdivD (.int a) (.int b) = some (.d (.int (a / b))) := by
  unfold fdivD intOp
  simp [h, h2]
theorem r_mod {a b : Int} (h : 0 < b) : modD (.int a) (.int b) = some (.d (.int (a % b))) := by
  unfold modD intOp
  simp [h]
@[simp] theorem r_cat_t {ys : List D} : addD (.tuple xs) (.tuple ys) = if xs.length + ys.length ≤ sizeLine then some (.d (.tuple (xs ++ ys))) else none := rfl
@[simp] theorem r_cat_l {ys : List D} : addD (.list xs) (.list ys) = if xs.length + ys.length ≤ sizeLine then some (.own false (xs ++ ys)) else none := rfl
@[simp] theorem r_cat_s {u v : Str} : addD (.str u) (.str v) = if u.length + v.length ≤ sizeLine then some (.d (.str (u ++ v))) else none := rfl
@[simp] theorem r_eq_i {a b : Int} : eqD (.int a) (.int b) = some (.d (.bool (decide (a = b)))) := rfl
@[simp] theorem r_eq_s {a b : Str} : eqD (.str a) (.str b) = some (.d (.bool (decide (a = b)))) := rfl
@[simp] theorem r_ne_i {a b : Int} : neD (.int a) (.int b) = some (.d (.bool (!decide (a = b)))) := rfl
@[simp] theorem r_ne_s {a b : Str} : neD (.str a) (.str b) = some (.d (.bool (!decide (a = b)))) := rfl
@[simp] theorem x_ixs {x y : D} : idxS x y = (idxD x y).map .d := rfl
@[simp] theorem idx_t {j : Int} : idxD (.tuple xs) (.int j) = atI xs j := rfl
@[simp] theorem idx_l {j : Int} : idxD (.list xs) (.int j) = atI xs j := rfl
theorem at_nat (xs : List D) (n : Nat) : atI xs (n : Int) = xs[n]? := by
  unfold atI
  by_cases h : n < xs.length
  · have : ixN xs.length (n : Int) = some n := by
      unfold ixN
      rw [if_pos (by omega), if_pos (by omega)]
      rfl
    rw [this]
    rfl
  · have : ixN xs.length (n : Int) = none := by
      unfold ixN
      rw [if_pos (by omega), if_neg (by omega)]
    rw [this, List.getElem?_eq_none (by omega)]
    rfl
theorem at_int (xs : List D) (j : Int) (h : 0 ≤ j) : atI xs j = xs[j.toNat]? := by
  obtain ⟨n, rfl⟩ := Int.eq_ofNat_of_zero_le h
  rw [at_nat]
  rfl
@[simp] theorem x_ixV : eIdxV i Tb ρ k = (peekGo ρ[i]? ≠ none ∧ Tb ρ (asD fun y ρ1 => opt (peekGo ρ1[i]?) fun x => opt (idxD x y) fun z => k (.d z) ρ1)) := by
  simp [eIdxV, opt]
@[simp] theorem x_onone : oNone ρ ko = ko none ρ := rfl
@[simp] theorem x_osome : oSome T ρ ko = T ρ (asD fun x ρ1 => intGo x fun i => ko (some i) ρ1) := goD fun _ _ => intGo_eq
@[simp] theorem x_sl : eSl Ta Tl Th ρ k = Ta ρ (asD fun x ρ1 => Tl ρ1 fun l ρ2 => Th ρ2 fun h ρ3 => opt (slD l h x) fun s => k s ρ3) := rfl
@[simp] theorem x_cb {g : List D → Option Sl} : eCB g A ρ k = A ρ fun ds ρ1 => opt (g ds) fun s => k s ρ1 := rfl
@[simp] theorem x_lenV : eLenV i ρ k = opt (peekGo ρ[i]?) fun x => opt (lenN x) fun n => k (.d (.int (n : Int))) ρ := by simp [eLenV, opt]
@[simp] theorem len_t : lenN (.tuple xs) = some xs.length := rfl
@[simp] theorem len_l : lenN (.list xs) = some xs.length := rfl
@[simp] theorem lenD_t : lenD [.tuple xs] = some (.d (.int (xs.length : Nat))) := rfl
@[simp] theorem lenD_l : lenD [.list xs] = some (.d (.int (xs.length : Nat))) := rfl
@[simp] theorem tupD_l : tupD [.list xs] = some (.d (.tuple xs)) := rfl
@[simp] theorem tupD_t : tupD [.tuple xs] = some (.d (.tuple xs)) := rfl
@[simp] theorem x_tuprg : eTupRg T ρ k = T ρ (asD fun x ρ1 => intGo x fun n => rgB n = true ∧ k (.d (.tuple (rgD 0 n))) ρ1) := goD fun _ _ => intGo_eq
@[simp] theorem x_lstrg : eLstRg T ρ k = T ρ (asD fun x ρ1 => intGo x fun n => rgB n = true ∧ k (.own false (rgD 0 n)) ρ1) := goD fun _ _ => intGo_eq
@[simp] theorem x_neg : eNeg T ρ k = T ρ (asD fun x ρ1 => intGo x fun n => k (.d (.int (-n))) ρ1) := goD fun _ _ => intGo_eq
@[simp] theorem x_next : sNext E ρ = E.nx ρ := rfl
@[simp] theorem x_seq : sSeq W1 W2 E ρ = W1 { E with nx := W2 E } ρ := rfl
@[simp] theorem x_brk : sBreak E ρ = E.bk ρ := rfl
@[simp] theorem x_cont : sCont E ρ = E.ct ρ := rfl
@[simp] theorem x_expr : sExpr T E ρ = T ρ fun _ ρ1 => E.nx ρ1 := rfl
@[simp] theorem x_ret : sRet T E ρ = T ρ fun s ρ1 => E.rt s ρ1 := rfl
@[simp] theorem x_retN : sRetN E ρ = E.rt (.d .none) ρ := rfl
@[simp] theorem x_if : sIf B W1 W2 E ρ = B ρ fun c ρ1 => if c = true then W1 E ρ1 else W2 E ρ1 := rfl
@[simp] theorem x_set : sSet i T E ρ = T ρ fun s ρ1 => E.nx (ρ1.set i s) := rfl
@[simp] theorem x_asgT : sAsgT T G E ρ = T ρ (asD fun x ρ1 => G x ρ1 E.nx) := rfl
@[simp] theorem x_gN : gN i x ρ kg = kg (ρ.set i (.d x)) := rfl
@[simp] theorem x_gsN : gsN xs ρ kg = (xs = [] ∧ kg ρ) := rfl
@[simp] theorem x_gsC : gsC G Gs (x :: xs) ρ kg = G x ρ fun ρ1 => Gs xs ρ1 kg := rfl
@[simp] theorem x_gT : gT n Gs (.tuple xs) ρ kg = (xs.length = n ∧ Gs xs ρ kg) := rfl
@[simp] theorem x_yes : bYes ρ kb = kb true ρ := rfl
@[simp] theorem x_iseq : iSeq T ρ ka = T ρ (asD (seqD ka)) := rfl
@[simp] theorem x_irg1 : iRg1 T ρ ka = T ρ (asD fun x ρ1 => intGo x fun n => rgB n = true ∧ ka (rgD 0 n) ρ1) := goD fun _ _ => intGo_eq
@[simp] theorem x_irg2 : iRg2 Ta Tb ρ ka = Ta ρ (asD fun x ρ1 => Tb ρ1 (asD fun y ρ2 => intGo x fun m => intGo y fun n => (-(2 ^ 61) ≤ m ∧ m < 2 ^ 61 ∧ -(2 ^ 61) ≤ n ∧ n < 2 ^ 61 ∧ n - m ≤ 16777216) ∧ ka (rgD m n) ρ2)) := goD fun x ρ1 => goD fun y ρ2 => by
  cases x <;> cases y <;> simp [intGo]
@[simp] theorem x_irgN : iRgN Ta Tb ρ ka = Ta ρ (asD fun x ρ1 => Tb ρ1 (asD fun y ρ2 => intGo x fun m => intGo y fun n => (-1000000 ≤ m ∧ m < 1000000 ∧ -1000000 ≤ n ∧ n < 1000000) ∧ ka (rgDown m n) ρ2)) := goD fun x ρ1 => goD fun y ρ2 => by
  cases x <;> cases y <;> simp [intGo]
def scrGo (o : Option Sl) (q : List Int → Prop) : Prop := match o with
  | some (.scr ns) => q ns
  | _ => False
@[simp] theorem scrGo_s {ns : List Int} {q : List Int → Prop} : scrGo (some (.scr ns)) q = q ns := rfl
@[simp] theorem x_iscr : iScr i ρ ka = scrGo ρ[i]? fun ns => ns.length ≤ sizeLine ∧ ka (ns.map .int) ρ := by
  unfold iScr scrGo
  rfl
@[simp] theorem x_for {I : IT} : sFor I G W E ρ = I ρ fun ds ρ1 => loopW G W E ds ρ1 := rfl
/-- the own list at a slot -/
def ownGo (o : Option Sl) (q : Bool → List D → Prop) : Prop := match o with
  | some (.own p xs) => q p xs
  | _ => False
@[simp] theorem ownGo_o {p : Bool} {q : Bool → List D → Prop} : ownGo (some (.own p xs)) q = q p xs := rfl
@[simp] theorem x_app : eApp i T ρ k = ownGo ρ[i]? fun _ _ => T ρ (asD fun y ρ1 => ownGo ρ1[i]? fun p xs => xs.length < sizeLine ∧ k (.d .none) (ρ1.set i (.own p (xs ++ [y])))) := by
  unfold eApp ownGo
  rfl
def lstGo (y : D) (q : List D → Prop) : Prop := match y with
  | .list ys => q ys
  | _ => False
@[simp] theorem lstGo_l {q : List D → Prop} : lstGo (.list xs) q = q xs := rfl
theorem go2 {α : Type} (o : Option Sl) (y : D) (q : List D → Bool → List D → Prop) : (match y, o with
    | .list ys, some (.own p xs) => q ys p xs
    | _, _ => False) = lstGo y fun ys => ownGo o fun p xs => q ys p xs := by
  cases y <;> first | rfl | (cases o with | none => rfl | some s => cases s <;> rfl)
theorem go3 (o : Option Sl) (y : D) (q : Int → Bool → List D → Prop) : (match y, o with
    | .int ys, some (.own p xs) => q ys p xs
    | _, _ => False) = intGo y fun ys => ownGo o fun p xs => q ys p xs := by
  cases y <;> first | rfl | (cases o with | none => rfl | some s => cases s <;> rfl)
@[simp] theorem x_ext : eExt i T ρ k = ownGo ρ[i]? fun _ _ => T ρ (asD fun y ρ1 => lstGo y fun ys => ownGo ρ1[i]? fun p xs => xs.length + ys.length ≤ sizeLine ∧ k (.d .none) (ρ1.set i (.own p (xs ++ ys)))) := by
  unfold eExt
  cases h : ρ[i]? with
  | none => rfl
  | some s =>
    cases s <;> first | rfl | skip
    refine goD fun y ρ1 => ?_
    exact go2 (α := Nat) ρ1[i]? y fun ys p xs => xs.length + ys.length ≤ sizeLine ∧ k (.d .none) (ρ1.set i (.own p (xs ++ ys)))
@[simp] theorem x_pop : ePop i ρ k = ownGo ρ[i]? fun p xs => opt xs[xs.length - 1]? fun y => k (.d y) (ρ.set i (.own p xs.dropLast)) := by
  unfold ePop
  cases h : ρ[i]? with
  | none => rfl
  | some s =>
    cases s <;> first | rfl | skip
    rename_i p xs
    show _ = opt xs[xs.length - 1]? fun y => k (.d y) (ρ.set i (.own p xs.dropLast))
    cases h : xs[xs.length - 1]? <;> simp [h]
@[simp] theorem x_popAt : ePopAt i T ρ k = ownGo ρ[i]? fun _ _ => T ρ (asD fun y ρ1 => intGo y fun j => ownGo ρ1[i]? fun p xs => ∃ (n : Nat) (z : D), j = (n : Int) ∧ xs[n]? = some z ∧ k (.d z) (ρ1.set i (.own p (xs.eraseIdx n)))) := by
  unfold ePopAt
  cases h : ρ[i]? with
  | none => rfl
  | some s =>
    cases s <;> first | rfl | skip
    refine goD fun y ρ1 => ?_
    exact go3 ρ1[i]? y fun j p xs => ∃ (n : Nat) (z : D), j = (n : Int) ∧ xs[n]? = some z ∧ k (.d z) (ρ1.set i (.own p (xs.eraseIdx n)))
@[simp] theorem x_putL : sPutL i Ti Tv E ρ = Tv ρ (asD fun v ρ1 => ownGo ρ1[i]? fun _ _ => Ti ρ1 (asD fun y ρ2 => intGo y fun j => ownGo ρ2[i]? fun p xs => opt (ixN xs.length j) fun n => E.nx (ρ2.set i (.own p (xs.set n v))))) := by
  refine goD fun v ρ1 => ?_
  cases h : ρ1[i]? with
  | none => rfl
  | some s =>
    cases s <;> first | rfl | skip
    refine goD fun y ρ1 => ?_
    exact go3 ρ1[i]? y fun j p xs => opt (ixN xs.length j) fun n => E.nx (ρ1.set i (.own p (xs.set n v)))
def dGo (o : Option Sl) (q : D → Prop) : Prop := match o with
  | some (.d x) => q x
  | _ => False
@[simp] theorem dGo_d {q : D → Prop} : dGo (some (.d x)) q = q x := rfl
@[simp] theorem x_aug {g : D → D → Option Sl} : sAug i g T E ρ = dGo ρ[i]? fun x => T ρ (asD fun y ρ1 => opt (g x y) fun s => E.nx (ρ1.set i s)) := by
  unfold sAug dGo
  rfl
theorem ix_nat {n m : Nat} (h : n < m) : ixN m (n : Int) = some n := by
  unfold ixN
  rw [if_pos (by omega), if_pos (by omega)]
  rfl
@[simp] theorem x_augL {b : Int} {n : Nat} : sAugL i (eC (.int (n : Nat))) (eC (.int b)) E ρ = ownGo ρ[i]? fun p xs => ∃ m, xs[n]? = some (.int m) ∧ E.nx (ρ.set i (.own p (xs.set n (.int (m + b))))) := by
  unfold sAugL
  cases h : ρ[i]? with
  | none => rfl
  | some s =>
    cases s <;> first | rfl | skip
    rename_i p xs
    simp only [x_c, x_asD_d, h, ownGo_o]
    refine propext ⟨fun ⟨n', m, e1, e2, _, e3⟩ => ?_, fun ⟨m, e2, e3⟩ => ⟨n, m, ix_nat (List.getElem?_eq_some_iff.mp e2).1, e2, trivial, e3⟩⟩
    have hn : n' = n := by
      have h0 := (ixN_seq e1).2
      have h1 : n < xs.length := by omega
      rw [ix_nat h1] at e1
      exact (Option.some.inj e1).symm
    subst hn
    exact ⟨m, e2, e3⟩
@[simp] theorem x_call {F : FT} {as : List Ar} : eCall F as ρ k = runAr as ρ fun l ρ1 => (refsOf l).Nodup ∧ F (l.map (slOf ρ1)) fun r ss => k r (backAr ρ1 l ss) := rfl
@[simp] theorem x_ar_nil {q : List AV → Rho → Prop} : runAr [] ρ q = q [] ρ := rfl
@[simp] theorem x_ar_e {as : List Ar} {q : List AV → Rho → Prop} : runAr (.e T :: as) ρ q = T ρ (asD fun x ρ1 => runAr as ρ1 fun l ρ2 => q (.d x :: l) ρ2) := rfl
@[simp] theorem x_ar_r {as : List Ar} {q : List AV → Rho → Prop} : runAr (.r i :: as) ρ q = (lendAt ρ i = true ∧ runAr as ρ fun l ρ2 => q (.r i :: l) ρ2) := rfl
@[simp] theorem x_newT : eNewT ρ k = k (.ownT [] []) ρ := rfl
@[simp] theorem refs_d {l : List AV} : refsOf (.d x :: l) = refsOf l := rfl
@[simp] theorem refs_r {l : List AV} : refsOf (.r i :: l) = i :: refsOf l := rfl
@[simp] theorem refs_nil : refsOf [] = [] := rfl
@[simp] theorem slOf_d : slOf ρ (.d x) = .d x := rfl
def refGo (o : Option Sl) : Sl := match o with
    | some (.own _ xs) => .own true xs
    | some (.drw _) => .drw true
    | some (.scr ns) => .scr ns
    | _ => .non
@[simp] theorem refGo_o {p : Bool} : refGo (some (.own p xs)) = .own true xs := rfl
@[simp] theorem refGo_d {p : Bool} : refGo (some (.drw p)) = .drw true := rfl
@[simp] theorem refGo_s {ns : List Int} : refGo (some (.scr ns)) = .scr ns := rfl
@[simp] theorem slOf_r : slOf ρ (.r i) = refGo ρ[i]? := rfl
@[simp] theorem back_r {as : List AV} {t : Sl} {ts : List Sl} : backAr ρ (.r i :: as) (t :: ts) = (backAr ρ as ts).set i (backOne (slotOr ρ i) t) := rfl
@[simp] theorem back_d {as : List AV} {t : Sl} {ts : List Sl} : backAr ρ (.d x :: as) (t :: ts) = backAr ρ as ts := rfl
@[simp] theorem back_nil {ts : List Sl} : backAr ρ [] ts = ρ := by cases ts <;> rfl
@[simp] theorem backOne_own' {p : Bool} {xs ys : List D} : backOne (.own p xs) (.own true ys) = .own p ys := rfl
@[simp] theorem backOne_drw {p : Bool} : backOne (.drw p) (.drw true) = .drw p := rfl
@[simp] theorem backOne_scr {ns : List Int} {t : Sl} : backOne (.scr ns) t = .scr ns := by cases t <;> rfl
def lendGo (o : Option Sl) : Bool := match o with
  | some s => lendB s
  | none => false
@[simp] theorem lendGo_s {s : Sl} : lendGo (some s) = lendB s := rfl
@[simp] theorem lend_def : lendAt ρ i = lendGo ρ[i]? := rfl
@[simp] theorem lendB_own {p : Bool} : lendB (.own p xs) = true := rfl
@[simp] theorem lendB_drw {p : Bool} : lendB (.drw p) = true := rfl
@[simp] theorem lendB_scr {ns : List Int} : lendB (.scr ns) = true := rfl
@[simp] theorem slotOr_def : slotOr ρ i = (ρ[i]?).getD .non := by
  unfold slotOr
  cases ρ[i]? <;> rfl
def plainGo (o : Option Sl) : Bool := match o with
  | some s => plainB s
  | none => true
@[simp] theorem plainGo_s {s : Sl} : plainGo (some s) = plainB s := rfl
@[simp] theorem plainAt_def : plainAt ρ i = plainGo ρ[i]? := rfl
@[simp] theorem plainAll_nil : plainAll ρ [] = true := rfl
@[simp] theorem plainAll_cons {vs : List Nat} : plainAll ρ (i :: vs) = (plainGo ρ[i]? && plainAll ρ vs) := rfl
@[simp] theorem wipe_nil : wipeR ρ [] = ρ := rfl
@[simp] theorem wipe_cons {vs : List Nat} : wipeR ρ (i :: vs) = (wipeR ρ vs).set i .non := rfl
@[simp] theorem backR_nil {ρ3 : Rho} : backR ρ ρ3 [] = ρ3 := rfl
@[simp] theorem backR_cons {ρ3 : Rho} {vs : List Nat} : backR ρ ρ3 (i :: vs) = (backR ρ ρ3 vs).set i ((ρ[i]?).getD .non) := by
  rw [← slotOr_def]
  rfl
@[simp] theorem x_lc {I : IT} {vs : List Nat} : eLC I G B T vs ρ k = I ρ fun ds ρ1 => plainAll ρ1 vs = true ∧ lcW false G B T vs ds [] ρ1 fun acc ρ2 => k (.own false acc) ρ2 := rfl
@[simp] theorem x_lc2 {I I1 : IT} {G1 : GT} {B1 : BT} {vs vs1 : List Nat} : eLC2 I G B I1 G1 B1 T vs vs1 ρ k = I ρ fun ds ρ1 => plainAll ρ1 vs = true ∧ lcW2 G B I1 G1 B1 T vs vs1 ds [] ρ1 fun acc ρ2 => k (.own false acc) ρ2 := rfl
@[simp] theorem plainB_d : plainB (.d x) = true := rfl
@[simp] theorem plainB_non : plainB .non = true := rfl
@[simp] theorem x_fin0 {ρ : Rho} : fin [] ρ = [] := by cases ρ <;> rfl
@[simp] theorem x_fin1 {s t : Sl} {ss : List Sl} : fin (s :: ss) (t :: ρ) = finOne s t :: fin ss ρ := rfl
@[simp] theorem fin_d {t : Sl} : finOne (.d x) t = .d x := rfl
@[simp] theorem fin_scr {t : Sl} {ns : List Int} : finOne (.scr ns) t = .scr ns := rfl
@[simp] theorem fin_drw : finOne (.drw true) (.drw true) = .drw true := rfl
@[simp] theorem fin_own {ys : List D} : finOne (.own true xs) (.own true ys) = .own true ys := rfl
end

/-! ### loops by an invariant -/
theorem loop_by {G : GT} {W : ST} {E : EndD} (P : List D → Rho → Prop) (h0 : ∀ ρ, P [] ρ → E.nx ρ)
    (hs : ∀ d ds ρ (N : Rho → Prop), (∀ ρ', P ds ρ' → N ρ') → P (d :: ds) ρ → G d ρ fun ρ1 => W { nx := N, rt := E.rt, bk := E.nx, ct := N } ρ1) : ∀ ds ρ, P ds ρ → loopW G W E ds ρ
  | [], ρ, h => h0 ρ h
  | d :: ds, ρ, h => hs d ds ρ _ (fun ρ' h' => loop_by P h0 hs ds ρ' h') h
/-- a comprehension by an invariant -/
theorem lc_by {ck : Bool} {G : GT} {B : BT} {T : ET} {vs : List Nat} {k : List D → Rho → Prop} (P : List D → List D → Rho → Prop) (h0 : ∀ acc ρ, P [] acc ρ → k acc ρ)
    (hs : ∀ d ds acc ρ (N : List D → Rho → Prop), (∀ acc' ρ', P ds acc' ρ' → N acc' ρ') → P (d :: ds) acc ρ → G d (wipeR ρ vs) fun ρ1 => B ρ1 fun b ρ2 => if b = true then T ρ2 (asD fun y ρ3 => (ck = true → acc.length < sizeLine) ∧ N (acc ++ [y]) (backR ρ ρ3 vs)) else N acc (backR ρ ρ2 vs)) :
    ∀ ds acc ρ, P ds acc ρ → lcW ck G B T vs ds acc ρ k
  | [], acc, ρ, h => h0 acc ρ h
  | d :: ds, acc, ρ, h => hs d ds acc ρ (fun acc' ρ' => lcW ck G B T vs ds acc' ρ' k) (fun acc' ρ' h' => lc_by P h0 hs ds acc' ρ' h') h
/-- one that keeps its slots: no filter, mapped by a plain function -/
theorem lc_map {ck : Bool} {G : GT} {B : BT} {T : ET} {vs : List Nat} {k : List D → Rho → Prop} {ρ : Rho} (f : D → D) (ds : List D) (acc : List D) (hl : ck = true → acc.length + ds.length ≤ sizeLine)
    (hs : ∀ d ∈ ds, ∀ (N : D → Rho → Prop) (M : Rho → Prop), N (f d) ρ → G d (wipeR ρ vs) fun ρ1 => B ρ1 fun b ρ2 => if b = true then T ρ2 (asD fun y ρ3 => N y (backR ρ ρ3 vs)) else M (backR ρ ρ2 vs))
    (hk : k (acc ++ ds.map f) ρ) : lcW ck G B T vs ds acc ρ k := by
  induction ds generalizing acc with
  | nil => simpa [lcW] using hk
  | cons d ds ih =>
    unfold lcW
    refine hs d List.mem_cons_self (fun y ρ' => (ck = true → acc.length < sizeLine) ∧ lcW ck G B T vs ds (acc ++ [y]) ρ' k) (fun ρ' => lcW ck G B T vs ds acc ρ' k) ⟨fun z => by
      have := hl z
      simp at this
      omega, ?_⟩
    refine ih (acc ++ [f d]) (fun z => ?_) (fun d' hd' => hs d' (List.mem_cons_of_mem _ hd')) (by simpa using hk)
    have := hl z
    simp at this ⊢
    omega
/-- with a filter -/
theorem lc_fmap {ck : Bool} {G : GT} {B : BT} {T : ET} {vs : List Nat} {k : List D → Rho → Prop} {ρ : Rho} (f : D → Option D) (ds : List D) (acc : List D) (hl : ck = true → acc.length + ds.length ≤ sizeLine)
    (hs : ∀ d ∈ ds, ∀ (N : D → Rho → Prop) (M : Rho → Prop), (∀ y, f d = some y → N y ρ) → (f d = none → M ρ) → G d (wipeR ρ vs) fun ρ1 => B ρ1 fun b ρ2 => if b = true then T ρ2 (asD fun y ρ3 => N y (backR ρ ρ3 vs)) else M (backR ρ ρ2 vs))
    (hk : k (acc ++ ds.filterMap f) ρ) : lcW ck G B T vs ds acc ρ k := by
  induction ds generalizing acc with
  | nil => simpa [lcW] using hk
  | cons d ds ih =>
    unfold lcW
    refine hs d List.mem_cons_self (fun y ρ' => (ck = true → acc.length < sizeLine) ∧ lcW ck G B T vs ds (acc ++ [y]) ρ' k) (fun ρ' => lcW ck G B T vs ds acc ρ' k) (fun y hy => ⟨fun z => by
      have := hl z
      simp at this
      omega, ?_⟩) fun hn => ?_
    · refine ih (acc ++ [y]) (fun z => ?_) (fun d' hd' => hs d' (List.mem_cons_of_mem _ hd')) (by simpa [List.filterMap_cons, hy] using hk)
      have := hl z
      simp at this ⊢
      omega
    · refine ih acc (fun z => ?_) (fun d' hd' => hs d' (List.mem_cons_of_mem _ hd')) (by simpa [List.filterMap_cons, hn] using hk)
      have := hl z
      simp at this
      omega
/-- the same over a list of things that stand for the data -/
theorem lc_mapA {α : Type} {ck : Bool} {G : GT} {B : BT} {T : ET} {vs : List Nat} {k : List D → Rho → Prop} {ρ : Rho} {f : α → D} (g : α → D) {l : List α} {acc : List D} (hl : ck = true → acc.length + l.length ≤ sizeLine)
    (hs : ∀ x ∈ l, ∀ (N : D → Rho → Prop) (M : Rho → Prop), N (g x) ρ → G (f x) (wipeR ρ vs) fun ρ1 => B ρ1 fun b ρ2 => if b = true then T ρ2 (asD fun y ρ3 => N y (backR ρ ρ3 vs)) else M (backR ρ ρ2 vs))
    (hk : k (acc ++ l.map g) ρ) : lcW ck G B T vs (l.map f) acc ρ k := by
  induction l generalizing acc with
  | nil => simpa [lcW] using hk
  | cons d ds ih =>
    rw [List.map_cons]
    unfold lcW
    refine hs d List.mem_cons_self (fun y ρ' => (ck = true → acc.length < sizeLine) ∧ lcW ck G B T vs (ds.map f) (acc ++ [y]) ρ' k) (fun ρ' => lcW ck G B T vs (ds.map f) acc ρ' k) ⟨fun z => by
      have := hl z
      simp at this
      omega, ?_⟩
    refine ih (acc := acc ++ [g d]) (fun z => ?_) (fun d' hd' => hs d' (List.mem_cons_of_mem _ hd')) (by simpa using hk)
    have := hl z
    simp at this ⊢
    omega
/-- the state goes on: an invariant I of it, things made that obey P -/
theorem lc_st {α : Type} {ck : Bool} {G : GT} {B : BT} {T : ET} {vs : List Nat} {k : List D → Rho → Prop} {f : α → D} {l : List α} (Q : List α → List D → Rho → Prop)
    {acc : List D} {ρ : Rho} (hl : ck = true → acc.length + l.length ≤ sizeLine) (h : Q [] acc ρ)
    (hs : ∀ pre x post acc ρ, l = pre ++ x :: post → Q pre acc ρ → ∀ (N : D → Rho → Prop) (M : Rho → Prop), (∀ y ρ', Q (pre ++ [x]) (acc ++ [y]) ρ' → N y ρ') → (∀ ρ', Q (pre ++ [x]) acc ρ' → M ρ') →
      G (f x) (wipeR ρ vs) fun ρ1 => B ρ1 fun b ρ2 => if b = true then T ρ2 (asD fun y ρ3 => N y (backR ρ ρ3 vs)) else M (backR ρ ρ2 vs))
    (hk : ∀ acc ρ, Q l acc ρ → k acc ρ) : lcW ck G B T vs (l.map f) acc ρ k := by
  have key : ∀ post pre acc ρ, l = pre ++ post → (ck = true → acc.length + post.length ≤ sizeLine) → Q pre acc ρ → lcW ck G B T vs (post.map f) acc ρ k := by
    intro post
    induction post with
    | nil =>
      intro pre acc ρ e _ q
      rw [List.append_nil] at e
      subst e
      exact hk acc ρ q
    | cons d ds ih =>
      intro pre acc ρ e hl q
      rw [List.map_cons]
      unfold lcW
      refine hs pre d ds acc ρ e q (fun y ρ' => (ck = true → acc.length < sizeLine) ∧ lcW ck G B T vs (ds.map f) (acc ++ [y]) ρ' k) (fun ρ' => lcW ck G B T vs (ds.map f) acc ρ' k) (fun y ρ' q' => ⟨fun z => by
        have := hl z
        simp at this
        omega, ih (pre ++ [d]) (acc ++ [y]) ρ' (by simpa using e) (fun z => by
        have := hl z
        simp at this ⊢
        omega) q'⟩) fun ρ' q' => ih (pre ++ [d]) acc ρ' (by simpa using e) (fun z => by
        have := hl z
        simp at this
        omega) q'
  exact key l [] acc ρ rfl hl h
/-- with a filter, the slots kept -/
theorem lc_filA {α : Type} {ck : Bool} {G : GT} {B : BT} {T : ET} {vs : List Nat} {k : List D → Rho → Prop} {ρ : Rho} {f : α → D} (c : α → Bool) (g : α → D) {l : List α} {acc : List D} (hl : ck = true → acc.length + l.length ≤ sizeLine)
    (hs : ∀ x ∈ l, ∀ (N : D → Rho → Prop) (M : Rho → Prop), (c x = true → N (g x) ρ) → (c x = false → M ρ) → G (f x) (wipeR ρ vs) fun ρ1 => B ρ1 fun b ρ2 => if b = true then T ρ2 (asD fun y ρ3 => N y (backR ρ ρ3 vs)) else M (backR ρ ρ2 vs))
    (hk : k (acc ++ (l.filter c).map g) ρ) : lcW ck G B T vs (l.map f) acc ρ k := by
  refine lc_st (fun pre a ρ' => a = acc ++ (pre.filter c).map g ∧ ρ' = ρ) hl (by simp) (fun pre x post a ρ' e q N M hN hM => ?_) fun a ρ' q => ?_
  · obtain ⟨rfl, rfl⟩ := q
    refine hs x (by rw [e]; simp) N M (fun h => hN _ _ ⟨by simp [List.filter_append, h], rfl⟩) fun h => hM _ ⟨by simp [List.filter_append, h], rfl⟩
  · obtain ⟨rfl, rfl⟩ := q
    exact hk
end Dl

set_option Elab.async false
set_option linter.all false
set_option maxRecDepth 100000
set_option autoImplicit false
set_option maxHeartbeats 1000000
namespace Dl
open PySem PySem.Spec PyProof.Rows L2

/-! ### a chain of two comparisons -/
section
variable {X : Cx} {C : Ctx} {e a b c : Expr} {es : List Expr} {T Ta Tb Tc : ET} {pos : Pos} {x : Str} {g1 g2 : D → D → Option Sl}
def bChain (g1 g2 : D → D → Option Sl) (Ta Tb Tc : ET) : BT := fun ρ k => Ta ρ (asD fun x ρ1 => Tb ρ1 (asD fun y ρ2 => ∃ d, g1 x y = some (.d (.bool d)) ∧
  if d = true then Tc ρ2 (asD fun z ρ3 => ∃ b, g2 y z = some (.d (.bool b)) ∧ k b ρ3) else k false ρ2))
def eChain (g1 g2 : D → D → Option Sl) (Ta Tb Tc : ET) : ET := fun ρ k => bChain g1 g2 Ta Tb Tc ρ fun b ρ1 => k (.d (.bool b)) ρ1
theorem mono_bChain (ha : MonoE Ta) (hb : MonoE Tb) (hc : MonoE Tc) : MonoB (bChain g1 g2 Ta Tb Tc) := fun ρ k k' hk q =>
  ha ρ _ _ (fun s ρ1 q1 => asD.imp (fun x ρ1 q2 => hb ρ1 _ _ (fun s ρ2 q3 => asD.imp (fun y ρ2 ⟨d, e, q4⟩ => ⟨d, e, by
    cases d with
    | true => exact hc ρ2 _ _ (fun s ρ3 q5 => asD.imp (fun z ρ3 ⟨b, e, q6⟩ => ⟨b, e, hk _ _ q6⟩) q5) q4
    | false => exact hk _ _ q4⟩) q3) q2) q1) q
theorem chain_go {f1 f2 : Value → Value → Sem Value} (o1 : OpD X f1 g1) (o2 : OpD X f2 g2) (ha : DE X C a Ta) (hb : DE X C b Tb) (hc : DE X C c Tc) {σ : Sg} {H : Hp} {Q : VK}
    (w : ∃ Z ρ, RB X.K C Z σ H ρ ∧ bChain g1 g2 Ta Tb Tc ρ fun d ρ' => ∀ Z' H', Same Z Z' → RB X.K C Z' σ H' ρ' → Q (.bl d) H') :
    tChain (fun x y H Q => ∃ Z dx dy s, Rp X.K Z x dx ∧ Rp X.K Z y dy ∧ Same Z H ∧ g1 dx dy = some s ∧ Res X.K Z H Q s) (fun x y H Q => ∃ Z dx dy s, Rp X.K Z x dx ∧ Rp X.K Z y dy ∧ Same Z H ∧ g2 dx dy = some s ∧ Res X.K Z H Q s)
      (rdE X.K C Ta) (rdE X.K C Tb) (rdE X.K C Tc) σ H Q := by
  obtain ⟨Z, ρ, R, w⟩ := w
  refine rdE.go ha.mono R w fun s1 ρ1 v Z1 H1 q1 m1 R1 w1 => ?_
  obtain ⟨dx, Z2, q2, m2, R2, rx⟩ := w1.give R1 q1
  refine rdE.go hb.mono R2 q2 fun s3 ρ3 u Z3 H3 q3 m3 R3 w3 => ?_
  obtain ⟨dy, Z4, ⟨d, e, q4⟩, m4, R4, ry⟩ := w3.give R3 q3
  refine ⟨Z4, dx, dy, _, (rx.mono m3).mono m4, ry, R4.b.le, e, Res.of R4 fun v' Z' H' m R' w' => ?_⟩
  obtain ⟨_, ⟨v2, ev, r⟩, _⟩ := w'
  cases ev
  cases r
  refine ⟨d, rfl, ?_⟩
  have mm := m1.trans (m2.trans (m3.trans (m4.trans m)))
  cases d with
  | false => exact q4 Z' H' mm R'
  | true =>
    refine rdE.go hc.mono R' q4 fun s5 ρ5 v5 Z5 H5 q5 m5 R5 w5 => ?_
    obtain ⟨dz, Z6, ⟨b2, e2, q6⟩, m6, R6, rz⟩ := w5.give R5 q5
    refine ⟨Z6, dy, dz, _, ((ry.mono m).mono m5).mono m6, rz, R6.b.le, e2, Res.of R6 fun v' Z' H' m R' w' => ?_⟩
    obtain ⟨_, ⟨v2, ev, r⟩, _⟩ := w'
    cases ev
    cases r
    exact q6 Z' H' (mm.trans (m5.trans (m6.trans m))) R'
theorem de_chain {op op' : CmpOp} (o1 : OpD X (compareOp op) g1) (o2 : OpD X (compareOp op') g2) (ha : DE X C a Ta) (hb : DE X C b Tb) (hc : DE X C c Tc)
    (hm : lastMarks [op, op'] [b, c] = false := by with_unfolding_all rfl) : DE X C (.Compare a [op, op'] [b, c] pos) (eChain g1 g2 Ta Tb Tc) := by
  refine ⟨fun ρ k k' hk q => mono_bChain ha.mono hb.mono hc.mono ρ _ _ (fun b ρ1 q1 => hk _ _ q1) q, PE.imp (pe_chain o1 o2 ha.run hb.run hc.run hm) fun σ H Q w => ?_⟩
  obtain ⟨Z, ρ, R, w⟩ := w
  exact chain_go o1 o2 ha hb hc ⟨Z, ρ, R, mono_bChain ha.mono hb.mono hc.mono ρ _ _ (fun b ρ1 q1 Z' H' m R' => q1 _ Z' H' m R' (.ofD (.bl b))) w⟩
theorem dt_chain {op op' : CmpOp} (o1 : OpD X (compareOp op) g1) (o2 : OpD X (compareOp op') g2) (ha : DE X C a Ta) (hb : DE X C b Tb) (hc : DE X C c Tc)
    (hm : lastMarks [op, op'] [b, c] = false := by with_unfolding_all rfl) : DT X C (.Compare a [op, op'] [b, c] pos) (bChain g1 g2 Ta Tb Tc) := by
  refine ⟨mono_bChain ha.mono hb.mono hc.mono, PT.imp (pt_chain o1 o2 ha.run hb.run hc.run hm) fun σ H Q w => ?_⟩
  obtain ⟨Z, ρ, R, w⟩ := w
  exact chain_go o1 o2 ha hb hc ⟨Z, ρ, R, mono_bChain ha.mono hb.mono hc.mono ρ _ _ (fun b ρ1 q1 Z' H' m R' => ⟨b, rfl, q1 Z' H' m R'⟩) w⟩
/-! ### is True, is False (of a bool) -/
def bIsB (n v : Bool) (T : ET) : BT := fun ρ k => T ρ (asB fun b ρ1 => k (n ^^ (b == v)) ρ1)
def eIsB (n v : Bool) (T : ET) : ET := fun ρ k => T ρ (asB fun b ρ1 => k (.d (.bool (n ^^ (b == v)))) ρ1)
theorem mono_eIsB {n v : Bool} (h : MonoE T) : MonoE (eIsB n v T) := fun ρ k k' hk q => h ρ _ _ (fun s ρ1 q1 => asB.imp (fun b ρ1 q2 => hk _ _ q2) q1) q
theorem mono_bIsB {n v : Bool} (h : MonoE T) : MonoB (bIsB n v T) := fun ρ k k' hk q => h ρ _ _ (fun s ρ1 q1 => asB.imp (fun b ρ1 q2 => hk _ _ q2) q1) q
theorem dec_beq (a b : Bool) : decide (a = b) = (a == b) := by cases a <;> cases b <;> rfl
theorem de_isB {v : Bool} {j : Nat} {p' : Pos} (ha : DE X C a Ta) (hm : behindInMarks .Is (.Constant (.bool v) j p') = false := by first | exact nomark _ | with_unfolding_all rfl) : DE X C (.Compare a [.Is] [.Constant (.bool v) j p'] pos) (eIsB false v Ta) := by
  refine ⟨mono_eIsB ha.mono, PE.imp (pe_cmpR op_is_bl ha.run pe_bl hm) fun σ H Q w => ?_⟩
  obtain ⟨Z, ρ, R, w⟩ := w
  refine rdE.go ha.mono R w fun s1 ρ1 u Z1 H1 q1 m1 R1 w1 => ?_
  obtain ⟨c, rfl, q2⟩ := asB.give w1 q1
  refine ⟨c, v, rfl, rfl, ?_⟩
  rw [dec_beq]
  simpa using q2 _ Z1 H1 m1 R1 (.ofD (.bl _))
theorem de_isnotB {v : Bool} {j : Nat} {p' : Pos} (ha : DE X C a Ta) (hm : behindInMarks .IsNot (.Constant (.bool v) j p') = false := by first | exact nomark _ | with_unfolding_all rfl) : DE X C (.Compare a [.IsNot] [.Constant (.bool v) j p'] pos) (eIsB true v Ta) := by
  refine ⟨mono_eIsB ha.mono, PE.imp (pe_cmpR op_isnot_bl ha.run pe_bl hm) fun σ H Q w => ?_⟩
  obtain ⟨Z, ρ, R, w⟩ := w
  refine rdE.go ha.mono R w fun s1 ρ1 u Z1 H1 q1 m1 R1 w1 => ?_
  obtain ⟨c, rfl, q2⟩ := asB.give w1 q1
  refine ⟨c, v, rfl, rfl, ?_⟩
  rw [dec_beq]
  simpa using q2 _ Z1 H1 m1 R1 (.ofD (.bl _))
theorem dt_isB {v : Bool} {j : Nat} {p' : Pos} (ha : DE X C a Ta) (hm : behindInMarks .Is (.Constant (.bool v) j p') = false := by first | exact nomark _ | with_unfolding_all rfl) : DT X C (.Compare a [.Is] [.Constant (.bool v) j p'] pos) (bIsB false v Ta) := by
  refine ⟨mono_bIsB ha.mono, PT.imp (pt_cmpR op_is_bl ha.run pe_bl hm) fun σ H Q w => ?_⟩
  obtain ⟨Z, ρ, R, w⟩ := w
  refine rdE.go ha.mono R w fun s1 ρ1 u Z1 H1 q1 m1 R1 w1 => ?_
  obtain ⟨c, rfl, q2⟩ := asB.give w1 q1
  refine ⟨c, v, rfl, rfl, _, rfl, ?_⟩
  rw [dec_beq]
  simpa using q2 Z1 H1 m1 R1
theorem dt_isnotB {v : Bool} {j : Nat} {p' : Pos} (ha : DE X C a Ta) (hm : behindInMarks .IsNot (.Constant (.bool v) j p') = false := by first | exact nomark _ | with_unfolding_all rfl) : DT X C (.Compare a [.IsNot] [.Constant (.bool v) j p'] pos) (bIsB true v Ta) := by
  refine ⟨mono_bIsB ha.mono, PT.imp (pt_cmpR op_isnot_bl ha.run pe_bl hm) fun σ H Q w => ?_⟩
  obtain ⟨Z, ρ, R, w⟩ := w
  refine rdE.go ha.mono R w fun s1 ρ1 u Z1 H1 q1 m1 R1 w1 => ?_
  obtain ⟨c, rfl, q2⟩ := asB.give w1 q1
  refine ⟨c, v, rfl, rfl, _, rfl, ?_⟩
  rw [dec_beq]
  simpa using q2 Z1 H1 m1 R1
/-! ### isinstance -/
def tyD : D → String
  | .none => "NoneType"
  | .bool _ => "bool"
  | .int _ => "int"
  | .str _ => "str"
  | .list _ => "list"
  | .tuple _ => "tuple"
  | .dict _ => "dict"
def isiT (t c : String) : Bool := t == c || (c == "int" && t == "bool")
def isiD (c : String) (x : D) : Bool := isiT (tyD x) c
def tyNames : List String := ["NoneType", "bool", "int", "str", "list", "tuple", "dict"]
theorem tyD_mem (x : D) : tyD x ∈ tyNames := by cases x <;> simp [tyD, tyNames]
theorem rp_ty {K : PySem.W.Frag} {Z H : Hp} {v : V} {x : D} (r : Rp K Z v x) (m : Same Z H) : TyX K H v (.type (tyD x)) := by
  cases r with
  | non => exact .base .non
  | bl b => exact .base (.bl b)
  | int i => exact .base (.int i)
  | str i => exact .base (.str i)
  | lst q _ _ => exact .base (.lst (m _ _ q))
  | tup q _ _ => exact .base (.tup (m _ _ q))
  | dct q _ _ => exact .base (.dT (m _ _ q))
  | dck q _ _ => exact .base (.dK (m _ _ q))
def eIsi (c : String) (T : ET) : ET := fun ρ k => T ρ (asD fun x ρ1 => k (.d (.bool (isiD c x))) ρ1)
theorem mono_isi {c : String} (h : MonoE T) : MonoE (eIsi c T) := fun ρ k k' hk q => h ρ _ _ (fun s ρ1 q1 => asD.imp (fun b ρ1 q2 => hk _ _ q2) q1) q
theorem de_isi {cls : Str} {id : String} {p p2 : Pos} (hm : X.mg "isinstance" = none) (hm2 : X.mg cls = none) (h : DE X C e T)
    (hk : ∀ t ∈ tyNames, kitB t id = some (isiT t id) := by decide +kernel) (hb : bootBuiltins cls = some (.type id) := by decide +kernel) (hb0 : bootBuiltins "isinstance" = some (.builtin "isinstance") := by decide +kernel)
    (hg : Gl X "isinstance" := by rfl) (hg2 : Gl X cls := by rfl) (hn : cls ≠ "__name__" := by decide) (hd : (cls == ("__debug__" : Str)) = false := by decide)
    (he : starEach [e, .Name cls p2] X.env = (false, eval e X.env) :: starEach [.Name cls p2] X.env := by rfl) (he2 : starEach [.Name cls p2] X.env = (false, eval (.Name cls p2) X.env) :: starEach [] X.env := by rfl)
    (hpl : (backTo pos (starEach [.Name cls p2] X.env)).any (·.1) = false := by rfl) : DE X C (.Call (.Name "isinstance" p) [e, .Name cls p2] [] pos) (eIsi id T) := by
  refine ⟨mono_isi h.mono, PE.imp (pe_callB call_isi hg hm hb0 (pa_cons h.run (pa_cons (pe_bltn hg2 hm2 hb (v := .ty id) rfl hn hd) pa_nil he2) he) (by decide) (by decide) he hpl) fun σ H Q w => ?_⟩
  obtain ⟨Z, ρ, R, w⟩ := w
  refine rdE.go h.mono R w fun s1 ρ1 u Z1 H1 q1 m1 R1 w1 => ?_
  obtain ⟨x, Z2, q2, m2, R2, rx⟩ := w1.give R1 q1
  exact ⟨u, .ty id, _, _, isiD id x, rfl, .ty id, rp_ty rx R2.b.le, kit_ty (hk _ (tyD_mem x)), q2 _ Z2 H1 (m1.trans m2) R2 (.ofD (.bl _))⟩
/-! ### all of a list of bools -/
def boolsOf : List D → Option (List Bool)
  | [] => some []
  | .bool b :: r => (boolsOf r).map (b :: ·)
  | _ => none
theorem boolsOf_of : ∀ {ds : List D} {bs : List Bool}, boolsOf ds = some bs → ds = bs.map PyData.bool
  | [], bs, h => by cases h; rfl
  | d :: r, bs, h => by
    cases d <;> simp only [boolsOf] at h <;> try cases h
    obtain ⟨bs', e, rfl⟩ := map_some h
    rw [boolsOf_of e]
    rfl
@[simp] theorem boolsOf_map : ∀ bs : List Bool, boolsOf (bs.map PyData.bool) = some bs
  | [] => rfl
  | b :: bs => by
    show (boolsOf (bs.map PyData.bool)).map _ = _
    rw [boolsOf_map bs]
    rfl
@[simp] theorem boolsOf_mapf {α : Type} (f : α → Bool) (l : List α) : boolsOf (l.map fun x => PyData.bool (f x)) = some (l.map f) := by
  have := boolsOf_map (l.map f)
  rwa [List.map_map] at this
theorem RpA.of_bools {K : PySem.W.Frag} {Z : Hp} : ∀ {bs : List Bool} {vs : List V}, RpA K Z vs (bs.map PyData.bool) → vs = bs.map V.bl
  | [], _, .nil => rfl
  | b :: bs, _, .cons r t => by
    cases r
    rw [RpA.of_bools t]
    rfl
def allD : List D → Option Sl
  | [.list xs] => (boolsOf xs).map fun bs => .d (.bool (bs.all id))
  | _ => none
theorem callD_all (hc : X.calm = true) : CallD X (.builtin "all") allD := by
  refine CallR.imp (cr_all hc) fun vs H Q ⟨Z, ds, s, rs, m, e, w⟩ => ?_
  unfold allD at e
  split at e
  · obtain ⟨v, rfl, r⟩ := rs.one_inv
    obtain ⟨ns, e1, rfl⟩ := map_some e
    rw [boolsOf_of e1] at r
    cases r with
    | lst g rs l =>
      rw [RpA.of_bools rs] at g
      exact ⟨_, ns, rfl, Or.inl (Or.inl (m _ _ g)), w.d0 _ _ rfl (.bl _)⟩
  · cases e
/-! ### bits -/
def bandD : D → D → Option Sl
  | .int i, .int j => some (.d (.int (Builtin.bitAnd i j)))
  | _, _ => none
theorem opD_band : OpD X (binaryOp .BitAnd) bandD := by
  refine OpR.imp op_and fun x y H Q ⟨Z, dx, dy, s, rx, ry, m, e, w⟩ => ?_
  cases rx with
  | int i =>
    cases ry with
    | int j =>
      cases e
      exact ⟨_, _, rfl, rfl, w.d0 _ _ rfl (.int _)⟩
    | _ => cases e
  | _ => cases e
/-! ### data compared -/
def ordOk (x y : D) : Bool := PySem.W.alike x y && x.canLay0 && y.canLay0 && !isNoneD x && decide (min x.depth y.depth ≤ 100)
def ordT (f : D → D → Bool) (x y : D) : Option Sl := if ordOk x y = true then some (.d (.bool (f x y))) else none
def ltT : D → D → Option Sl := ordT fun x y => PySem.W.dataLt x y
def gtT : D → D → Option Sl := ordT fun x y => PySem.W.dataLt y x
def leT : D → D → Option Sl := ordT fun x y => !PySem.W.dataLt y x
def geT : D → D → Option Sl := ordT fun x y => !PySem.W.dataLt x y
theorem isNone_ne {x : D} (h : isNoneD x = false) : x ≠ .none := fun z => by subst z; cases h
theorem opD_ltT (hu : X.A.units + 110 < cLine) : OpD X (compareOp .Lt) ltT := by
  intro pins s σ H x y v u Q I rx ry ⟨Z, dx, dy, sl, r1, r2, m, e, w⟩
  obtain ⟨h, rfl⟩ := ite_some e
  simp only [ordOk, Bool.and_eq_true, decide_eq_true_eq, Bool.not_eq_true'] at h
  obtain ⟨as, d1⟩ := Dp.reads I dx x v (r1.dp m h.1.1.1.2) rx
  obtain ⟨bs, d2⟩ := Dp.reads I dy y u (r2.dp m h.1.1.2) ry
  exact PySem.W.lt_data d1 d2 h.1.1.1.1 (isNone_ne h.1.2) (by omega) ⟨.bl _, H, I, rfl, w.d0 _ _ rfl (.bl _)⟩
theorem opD_gtT (hu : X.A.units + 110 < cLine) : OpD X (compareOp .Gt) gtT := by
  intro pins s σ H x y v u Q I rx ry ⟨Z, dx, dy, sl, r1, r2, m, e, w⟩
  obtain ⟨h, rfl⟩ := ite_some e
  simp only [ordOk, Bool.and_eq_true, decide_eq_true_eq, Bool.not_eq_true'] at h
  obtain ⟨as, d1⟩ := Dp.reads I dx x v (r1.dp m h.1.1.1.2) rx
  obtain ⟨bs, d2⟩ := Dp.reads I dy y u (r2.dp m h.1.1.2) ry
  exact PySem.W.gt_data d1 d2 h.1.1.1.1 (isNone_ne h.1.2) (by omega) ⟨.bl _, H, I, rfl, w.d0 _ _ rfl (.bl _)⟩
theorem opD_leT (hu : X.A.units + 110 < cLine) : OpD X (compareOp .LtE) leT := by
  intro pins s σ H x y v u Q I rx ry ⟨Z, dx, dy, sl, r1, r2, m, e, w⟩
  obtain ⟨h, rfl⟩ := ite_some e
  simp only [ordOk, Bool.and_eq_true, decide_eq_true_eq, Bool.not_eq_true'] at h
  obtain ⟨as, d1⟩ := Dp.reads I dx x v (r1.dp m h.1.1.1.2) rx
  obtain ⟨bs, d2⟩ := Dp.reads I dy y u (r2.dp m h.1.1.2) ry
  exact PySem.W.le_data d1 d2 h.1.1.1.1 (isNone_ne h.1.2) (by omega) ⟨.bl _, H, I, rfl, w.d0 _ _ rfl (.bl _)⟩
theorem opD_geT (hu : X.A.units + 110 < cLine) : OpD X (compareOp .GtE) geT := by
  intro pins s σ H x y v u Q I rx ry ⟨Z, dx, dy, sl, r1, r2, m, e, w⟩
  obtain ⟨h, rfl⟩ := ite_some e
  simp only [ordOk, Bool.and_eq_true, decide_eq_true_eq, Bool.not_eq_true'] at h
  obtain ⟨as, d1⟩ := Dp.reads I dx x v (r1.dp m h.1.1.1.2) rx
  obtain ⟨bs, d2⟩ := Dp.reads I dy y u (r2.dp m h.1.1.2) ry
  exact PySem.W.ge_data d1 d2 h.1.1.1.1 (isNone_ne h.1.2) (by omega) ⟨.bl _, H, I, rfl, w.d0 _ _ rfl (.bl _)⟩
/-! ### sorted -/
def srtOk (xs : List D) : Bool := (xs.all fun x => xs.all fun y => PySem.W.alike x y) && xs.all (fun x => x.canLay0 && decide (x.depth ≤ 100)) &&
  (xs.all (fun x => match x with | .tuple (_ :: _) => true | _ => false) || xs.all (fun x => match x with | .tuple _ => false | .none => false | _ => true))
def sortD (xs : List D) : List D := xs.mergeSort (PySem.W.dataLe false id)
def srtD : List D → Option Sl
  | [.list xs] => if srtOk xs = true then some (.own false (sortD xs)) else none
  | _ => none
def RvD (K : PySem.W.Frag) (Z : Hp) (u : Value) (d : D) : Prop := ∃ v, RelV v u ∧ Rp K Z v d
theorem each_of {K : PySem.W.Frag} {Z : Hp} : ∀ {vs : List V} {us : List Value} {ds : List D}, Vals vs us → RpA K Z vs ds → PySem.W.EachIs (RvD K Z) us ds
  | _, _, _, .nil, .nil => .nil
  | _, _, _, .cons r t, .cons q p => .cons ⟨_, r, q⟩ (each_of t p)
theorem of_each {K : PySem.W.Frag} {Z : Hp} : ∀ {us : List Value} {ds : List D}, PySem.W.EachIs (RvD K Z) us ds → ∃ vs, Vals vs us ∧ RpA K Z vs ds
  | _, _, .nil => ⟨[], .nil, .nil⟩
  | _, _, .cons ⟨v, r, q⟩ t => by
    obtain ⟨vs, h1, h2⟩ := of_each t
    exact ⟨v :: vs, .cons r h1, .cons q h2⟩
theorem callD_sorted (hu : X.A.units + 110 < cLine) : CallD X (.builtin "sorted") srtD := by
  intro pins s σ H vs us Q I rv ⟨Z, ds, sl, rs, m, e, w⟩
  unfold srtD at e
  split at e
  · rename_i xs
    obtain ⟨h, rfl⟩ := ite_some e
    simp only [srtOk, Bool.and_eq_true, Bool.or_eq_true, List.all_eq_true, decide_eq_true_eq] at h
    obtain ⟨⟨h1, h2⟩, h3⟩ := h
    obtain ⟨v, rfl, r⟩ := rs.one_inv
    cases r with
    | @lst a ws _ q rs l =>
      obtain ⟨its, rw_, hl, hz⟩ := I.list (Or.inl (Or.inl (m _ _ q)))
      rw [Vals.ref1 rv]
      have e1 := each_of rw_ rs
      have e2 : PySem.W.EachIs (fun v b => ∃ as, Reads s.heap v (id b) as) its xs := by
        have key : ∀ {vs : List V} {us : List Value} {ds : List D}, (∀ d ∈ ds, d.canLay0 = true) → Vals vs us → RpA X.K Z vs ds → PySem.W.EachIs (fun v b => ∃ as, Reads s.heap v (id b) as) us ds := by
          intro vs us ds hd r p
          induction r generalizing ds with
          | nil => cases p; exact .nil
          | cons r t ih =>
            cases p with
            | cons q p =>
              exact .cons (Dp.reads I _ _ _ (q.dp m (hd _ List.mem_cons_self)) r) (ih (fun d hd' => hd d (List.mem_cons_of_mem _ hd')) p)
        exact key (fun d hd => (h2 d hd).1) rw_ rs
      refine PySem.W.sorted_data (enc := id) hl.isList e1 e2 (fun d hd d' hd' => ?_) ?_ (by rw [← rs.len] at *; exact l) (fun b hb => ?_) fun out ho hE => ?_
      · rw [List.map_id] at hd hd'
        exact h1 d hd d' hd'
      · rw [List.map_id]
        rcases h3 with h3 | h3
        · refine Or.inl fun d hd => ?_
          have := h3 d hd
          split at this
          · exact ⟨_, _, rfl⟩
          · cases this
        · refine Or.inr fun d hd => ?_
          have := h3 d hd
          cases d <;> simp at this ⊢
      · have := (h2 b hb).2
        show X.A.units + 2 + b.depth < cLine
        omega
      · obtain ⟨vs', k1, k2⟩ := of_each hE
        obtain ⟨ep, he'⟩ := PyProof.Rows.sortedAll_at s.heap its out.toArray
        have hlen : (sortD xs).length ≤ sizeLine := by
          unfold sortD
          rw [List.length_mergeSort]
          exact l
        have hv : vs'.length ≤ sizeLine := by
          rw [k2.len]
          exact hlen
        exact ⟨.ref _, upd H (s.heap.objs.size + 1) (.lst vs'), I.laid (t' := s.toks) (fun _ _ => PyProof.Rows.sortedAll_old) (Nat.le_succ _) ⟨hv, out, ep, k1, he'⟩, rfl,
          w.oN _ _ _ rfl (I.hok.fresh (Nat.le_succ _)) k2 hlen⟩
  · cases e
end

/-! ### run -/
section
variable {ρ : Rho} {k : Sl → Rho → Prop} {kb : Bool → Rho → Prop} {T Ta Tb Tc : ET} {x y : D} {b : Bool}
@[simp] theorem x_bchain {g1 g2 : D → D → Option Sl} : bChain g1 g2 Ta Tb Tc ρ kb = Ta ρ (asD fun x ρ1 => Tb ρ1 (asD fun y ρ2 => boolGo (g1 x y) fun d => if d = true then Tc ρ2 (asD fun z ρ3 => boolGo (g2 y z) fun b => kb b ρ3) else kb false ρ2)) := rfl
@[simp] theorem x_echain {g1 g2 : D → D → Option Sl} : eChain g1 g2 Ta Tb Tc ρ k = bChain g1 g2 Ta Tb Tc ρ fun b ρ1 => k (.d (.bool b)) ρ1 := rfl
@[simp] theorem x_eisB {n v : Bool} : eIsB n v T ρ k = T ρ (asB fun b ρ1 => k (.d (.bool (n ^^ (b == v)))) ρ1) := rfl
@[simp] theorem x_bisB {n v : Bool} : bIsB n v T ρ kb = T ρ (asB fun b ρ1 => kb (n ^^ (b == v)) ρ1) := rfl
@[simp] theorem x_isi {c : String} : eIsi c T ρ k = T ρ (asD fun x ρ1 => k (.d (.bool (isiD c x))) ρ1) := rfl
@[simp] theorem isi_int_int {i : Int} : isiD "int" (.int i) = true := rfl
@[simp] theorem isi_int_bool {i : Bool} : isiD "int" (.bool i) = true := rfl
@[simp] theorem isi_bool_int {i : Int} : isiD "bool" (.int i) = false := rfl
@[simp] theorem isi_bool_bool {i : Bool} : isiD "bool" (.bool i) = true := rfl
@[simp] theorem isi_int_str {i : Str} : isiD "int" (.str i) = false := rfl
@[simp] theorem isi_int_tup {i : List D} : isiD "int" (.tuple i) = false := rfl
@[simp] theorem isi_int_none : isiD "int" .none = false := rfl
@[simp] theorem isi_tup_tup {i : List D} : isiD "tuple" (.tuple i) = true := rfl
@[simp] theorem isi_tup_int {i : Int} : isiD "tuple" (.int i) = false := rfl
@[simp] theorem isi_tup_str {i : Str} : isiD "tuple" (.str i) = false := rfl
@[simp] theorem isi_tup_none : isiD "tuple" .none = false := rfl
@[simp] theorem isi_tup_bool {i : Bool} : isiD "tuple" (.bool i) = false := rfl
@[simp] theorem isi_str_str {i : Str} : isiD "str" (.str i) = true := rfl
@[simp] theorem isi_str_int {i : Int} : isiD "str" (.int i) = false := rfl
@[simp] theorem isi_str_tup {i : List D} : isiD "str" (.tuple i) = false := rfl
@[simp] theorem isi_str_none : isiD "str" .none = false := rfl
@[simp] theorem isi_str_bool {i : Bool} : isiD "str" (.bool i) = false := rfl
@[simp] theorem x_all {xs : List D} : allD [.list xs] = (boolsOf xs).map fun bs => .d (.bool (bs.all id)) := rfl
@[simp] theorem x_bitand {i j : Int} : bandD (.int i) (.int j) = some (.d (.int (Builtin.bitAnd i j))) := rfl
@[simp] theorem x_srt {xs : List D} : srtD [.list xs] = if srtOk xs = true then some (.own false (sortD xs)) else none := rfl
end
end Dl

set_option Elab.async false
set_option linter.all false
set_option maxRecDepth 100000
set_option autoImplicit false
set_option maxHeartbeats 1000000
namespace Dl
open PySem PySem.Spec PyProof.Rows L2

/-! ### slots that are let go at the end of each turn of a loop -/
section
variable {K : PySem.W.Frag} {C : Ctx} {Z H : Hp} {σ : Sg} {ρ : Rho}
theorem RB.forget (R : RB K C Z σ H ρ) : ∀ js, RB K C Z σ H (wipeR ρ js)
  | [] => R
  | j :: js => by
    have R' := R.forget js
    show RB K C Z σ H ((wipeR ρ js).set j .non)
    cases h : σ[j]? with
    | none =>
      have hl : (wipeR ρ js).length ≤ j := by
        rw [← R'.s.len]
        exact List.getElem?_eq_none_iff.mp h
      rw [List.set_eq_of_length_le hl]
      exact R'
    | some x => exact ⟨R'.b, R'.s.slotPut h trivial fun a e => by cases x <;> cases e⟩
end
def wipeE (js : List Nat) (E : EndD) : EndD := { nx := fun ρ' => E.nx (wipeR ρ' js), rt := E.rt, bk := fun ρ' => E.bk (wipeR ρ' js), ct := fun ρ' => E.ct (wipeR ρ' js) }
def sForget (js : List Nat) (W : ST) : ST := fun E ρ => W (wipeE js E) ρ
def iWipe (js : List Nat) (I : IT) : IT := fun ρ k => I ρ fun ds ρ1 => k ds (wipeR ρ1 js)
def sForW (js : List Nat) (I : IT) (G : GT) (W : ST) : ST := sFor (iWipe js I) G (sForget js W)
def sWhileW (js : List Nat) (B : BT) (W : ST) : ST := fun E ρ => sWhile B (sForget js W) E (wipeR ρ js)
section
variable {X : Cx} {C : Ctx} {st : List Stmt} {W : ST} {tg iter : Expr} {I : IT} {G : GT} {is : List Nat} {pos : Pos} {c : Expr} {body : List Stmt} {B : BT}
theorem wipeE_le {js : List Nat} {E E' : EndD} (l : E.Le E') : (wipeE js E).Le (wipeE js E') := ⟨fun _ q => l.nx _ q, l.rt, fun _ q => l.bk _ q, fun _ q => l.ct _ q⟩
theorem dss_forget {js : List Nat} (h : DSs X C st W) : DSs X C st (sForget js W) := by
  refine ⟨fun E E' ρ l q => h.mono _ _ ρ (wipeE_le l) q, PSs.imp h.run fun E σ H w => ?_⟩
  obtain ⟨Z, ρ, R, w⟩ := w
  exact ⟨Z, ρ, R, h.mono (wipeE js (liftE X.K C Z E)) (liftE X.K C Z E) ρ ⟨fun ρ' q Z' σ' H' m R' => q Z' σ' H' m (R'.forget js), fun _ _ q => q, fun ρ' q Z' σ' H' m R' => q Z' σ' H' m (R'.forget js), fun ρ' q Z' σ' H' m R' => q Z' σ' H' m (R'.forget js)⟩ w⟩
theorem di_wipe {js : List Nat} (h : DI X C tg iter I) : DI X C tg iter (iWipe js I) := by
  refine ⟨fun ρ k k' hk q => h.mono ρ _ _ (fun ds ρ1 q1 => hk _ _ q1) q, PI.imp h.run fun σ H Q w => ?_⟩
  obtain ⟨Z, ρ, R, w⟩ := w
  exact ⟨Z, ρ, R, h.mono ρ _ _ (fun ds ρ1 q J Z' H' m R' wk => q J Z' H' m (R'.forget js) wk) w⟩
theorem ds_forW {js : List Nat} (hp : PassesOwn (model X.prog X.w) X.A X.env X.xe) (hc : X.calm = true) (hi : DI X C tg iter I) (hg : DG X C tg is G) (hb : DSs X C body W)
    (hs : ∀ x, foldedSetIterable iter X.env x = pure x := by intro _; rfl) : DS X C (.For tg iter body [] pos) (sForW js I G W) := ds_for hp hc (di_wipe hi) hg (dss_forget hb) hs
theorem ds_whileW {js : List Nat} (hp : PassesOwn (model X.prog X.w) X.A X.env X.xe) (hc : DT X C c B) (hb : DSs X C body W) : DS X C (.While c body [] pos) (sWhileW js B W) := by
  have h := ds_while (pos := pos) hp hc (dss_forget (js := js) hb)
  refine ⟨fun E E' ρ l q => h.mono E E' _ l q, PS.imp h.run fun E σ H w => ?_⟩
  obtain ⟨Z, ρ, R, w⟩ := w
  exact ⟨Z, _, R.forget js, w⟩
end
section
variable {ρ : Rho} {E : EndD} {W : ST} {js : List Nat} {I : IT} {G : GT} {B : BT} {k : List D → Rho → Prop}
@[simp] theorem x_forget : sForget js W E ρ = W (wipeE js E) ρ := rfl
@[simp] theorem x_wipeE_nx : (wipeE js E).nx ρ = E.nx (wipeR ρ js) := rfl
@[simp] theorem x_wipeE_bk : (wipeE js E).bk ρ = E.bk (wipeR ρ js) := rfl
@[simp] theorem x_wipeE_ct : (wipeE js E).ct ρ = E.ct (wipeR ρ js) := rfl
@[simp] theorem x_wipeE_rt {s : Sl} : (wipeE js E).rt s ρ = E.rt s ρ := rfl
@[simp] theorem x_forW : sForW js I G W E ρ = I ρ fun ds ρ1 => loopW G (sForget js W) E ds (wipeR ρ1 js) := rfl
end
/-! ### loops whose turns leave the slots as they were -/
section
variable {α β : Type} {G : GT} {W : ST} {E : EndD} {f : α → D} {l : List α}
/-- a state that is folded -/
theorem lw_fold (St : β → Rho) (step : β → α → β) {s0 : β} {ρ : Rho} (h : ρ = St s0) (h0 : E.nx (St (l.foldl step s0)))
    (hs : ∀ pre x post, l = pre ++ x :: post → ∀ (N : Rho → Prop), N (St (step (pre.foldl step s0) x)) → G (f x) (St (pre.foldl step s0)) fun ρ1 => W { nx := N, rt := E.rt, bk := E.nx, ct := N } ρ1) : loopW G W E (l.map f) ρ := by
  subst h
  have key : ∀ post pre, l = pre ++ post → loopW G W E (post.map f) (St (pre.foldl step s0)) := by
    intro post
    induction post with
    | nil =>
      intro pre e
      rw [List.append_nil] at e
      subst e
      exact h0
    | cons x post ih =>
      intro pre e
      rw [List.map_cons]
      show G (f x) _ _
      have h1 := ih (pre ++ [x]) (by rw [e]; simp)
      rw [List.foldl_append] at h1
      exact hs pre x post e _ h1
  exact key l [] rfl
/-- no state: the first thing that is found leaves the def -/
theorem lw_find {c : α → Option β} {ρ : Rho} (h0 : l.findSome? c = none → E.nx ρ)
    (hs : ∀ x ∈ l, ∀ (N : Rho → Prop), (c x = none → N ρ) → (∀ r, c x = some r → l.findSome? c = some r) → G (f x) ρ fun ρ1 => W { nx := N, rt := E.rt, bk := E.nx, ct := N } ρ1) : loopW G W E (l.map f) ρ := by
  have key : ∀ post pre, l = pre ++ post → pre.findSome? c = none → loopW G W E (post.map f) ρ := by
    intro post
    induction post with
    | nil =>
      intro pre e hn
      rw [List.append_nil] at e
      subst e
      exact h0 hn
    | cons x post ih =>
      intro pre e hn
      rw [List.map_cons]
      show G (f x) _ _
      refine hs x (by rw [e]; simp) _ (fun hx => ih (pre ++ [x]) (by rw [e]; simp) ?_) fun r hr => ?_
      · rw [List.findSome?_append, hn]
        simp [hx]
      · rw [e, List.findSome?_append, hn]
        simp [hr]
  exact key l [] rfl rfl
theorem lw_all {c : α → Bool} {ρ : Rho} (h0 : l.all c = true → E.nx ρ)
    (hs : ∀ x ∈ l, ∀ (N : Rho → Prop), (c x = true → N ρ) → (c x = false → l.all c = false) → G (f x) ρ fun ρ1 => W { nx := N, rt := E.rt, bk := E.nx, ct := N } ρ1) : loopW G W E (l.map f) ρ := by
  have key : ∀ post pre, l = pre ++ post → pre.all c = true → loopW G W E (post.map f) ρ := by
    intro post
    induction post with
    | nil =>
      intro pre e hn
      rw [List.append_nil] at e
      subst e
      exact h0 hn
    | cons x post ih =>
      intro pre e hn
      rw [List.map_cons]
      show G (f x) _ _
      refine hs x (by rw [e]; simp) _ (fun hx => ih (pre ++ [x]) (by rw [e]; simp) ?_) fun hr => ?_
      · rw [List.all_append, hn]
        simp [hx]
      · rw [e, List.all_append]
        simp [hr]
  exact key l [] rfl rfl
/-- no state, nothing found -/
theorem lw_id {ρ : Rho} (h0 : E.nx ρ) (hs : ∀ x ∈ l, ∀ (N : Rho → Prop), N ρ → G (f x) ρ fun ρ1 => W { nx := N, rt := E.rt, bk := E.nx, ct := N } ρ1) : loopW G W E (l.map f) ρ := by
  induction l with
  | nil => exact h0
  | cons x l ih =>
    rw [List.map_cons]
    show G (f x) _ _
    exact hs x List.mem_cons_self _ (ih fun y hy => hs y (List.mem_cons_of_mem _ hy))
/-- a list that grows: each turn adds g x -/
theorem lw_acc {γ : Type} (enc : γ → D) (g : α → List γ) (St : List D → Rho) (A0 : List γ) {ρ : Rho} (h : ρ = St (A0.map enc)) (h0 : E.nx (St ((A0 ++ l.flatMap g).map enc)))
    (hs : ∀ x ∈ l, ∀ (A : List γ) (N : Rho → Prop), A.length + (g x).length ≤ A0.length + (l.flatMap g).length → N (St ((A ++ g x).map enc)) → G (f x) (St (A.map enc)) fun ρ1 => W { nx := N, rt := E.rt, bk := E.nx, ct := N } ρ1) : loopW G W E (l.map f) ρ := by
  have hf : ∀ (m : List α), m.foldl (fun A x => A ++ g x) A0 = A0 ++ m.flatMap g := by
    intro m
    have key : ∀ (m : List α) A, m.foldl (fun A x => A ++ g x) A = A ++ m.flatMap g := by
      intro m
      induction m with
      | nil => intro A; simp
      | cons x m ih => intro A; rw [List.foldl_cons, ih, List.flatMap_cons, List.append_assoc]
    exact key m A0
  refine lw_fold (fun A : List γ => St (A.map enc)) (fun A x => A ++ g x) (s0 := A0) h (by rw [hf]; exact h0) fun pre x post e N hN => ?_
  rw [hf] at hN ⊢
  refine hs x (by rw [e]; simp) _ N ?_ hN
  rw [e]
  simp only [List.length_append, List.flatMap_append, List.flatMap_cons]
  omega
end
end Dl

set_option Elab.async false
set_option linter.all false
set_option maxRecDepth 100000
set_option autoImplicit false
set_option maxHeartbeats 1000000
namespace Dl
open PySem PySem.Spec PyProof.Rows L2

/-! ### own dicts with keys that are ints or texts -/
section
variable {α : Type}
def hasK (ks : List Key) (q : Key) : Bool := ks.any fun k => decide (k = q)
def putKK (ks : List Key) (q : Key) : List Key := if hasK ks q = true then ks else ks ++ [q]
def putKV (ks : List Key) (vs : List α) (q : Key) (v : α) : List α := if hasK ks q = true then (ks.zip vs).map (fun kv => if kv.1 = q then v else kv.2) else vs ++ [v]
def atK (ks : List Key) (vs : List α) (q : Key) : Option α := ((ks.zip vs).find? fun kv => decide (kv.1 = q)).map (·.2)
theorem atK_pos {k q : Key} {ks : List Key} {v : α} {vs : List α} (e : k = q) : atK (k :: ks) (v :: vs) q = some v := by simp [atK, List.find?_cons, e]
theorem atK_neg {k q : Key} {ks : List Key} {v : α} {vs : List α} (e : ¬ k = q) : atK (k :: ks) (v :: vs) q = atK ks vs q := by simp [atK, List.find?_cons, e]
theorem zip_anyK {ks : List Key} {q : Key} : ∀ {vs : List V}, vs.length = ks.length → ((ks.zip vs).any fun kv => decide (kv.1 = q)) = hasK ks q := by
  induction ks with
  | nil => intro vs _; rfl
  | cons k ks ih =>
    intro vs hl
    cases vs with
    | nil => simp at hl
    | cons v vs =>
      rw [List.zip_cons_cons, List.any_cons, ih (by simpa using hl)]
      rfl
theorem putK_zipK {ks : List Key} {vs : List V} {q : Key} {v : V} (hl : vs.length = ks.length) : putK (ks.zip vs) q v = (putKK ks q).zip (putKV ks vs q v) := by
  unfold putK putKK putKV
  rw [zip_anyK hl]
  by_cases h : hasK ks q = true
  · rw [if_pos h, if_pos h, if_pos h]
    clear h
    induction ks generalizing vs with
    | nil => simp
    | cons k ks ih =>
      cases vs with
      | nil => simp at hl
      | cons u vs =>
        rw [List.zip_cons_cons, List.map_cons, List.map_cons, List.zip_cons_cons, ih (by simpa using hl)]
        by_cases hk : k = q <;> simp [hk]
  · rw [if_neg h, if_neg h, if_neg h, List.zip_append hl.symm]
    rfl
theorem putKV_len {ks : List Key} {vs : List α} {q : Key} {v : α} (hl : vs.length = ks.length) : (putKV ks vs q v).length = (putKK ks q).length := by
  unfold putKV putKK
  by_cases h : hasK ks q = true
  · rw [if_pos h, if_pos h]
    simp [hl]
  · rw [if_neg h, if_neg h]
    simp [hl]
variable {K : PySem.W.Frag} {Z : Hp}
theorem RpA.putKd {v : V} {d : D} (r : Rp K Z v d) {q : Key} : ∀ {ks : List Key} {vs : List V} {ds : List D}, RpA K Z vs ds → RpA K Z (putKV ks vs q v) (putKV ks ds q d) := by
  intro ks vs ds rs
  unfold putKV
  by_cases h : hasK ks q = true
  · rw [if_pos h, if_pos h]
    clear h
    induction ks generalizing vs ds with
    | nil => simpa using RpA.nil
    | cons k ks ih =>
      cases rs with
      | nil => simpa using RpA.nil
      | cons r1 t =>
        rw [List.zip_cons_cons, List.zip_cons_cons, List.map_cons, List.map_cons]
        refine .cons ?_ (ih t)
        by_cases hk : k = q
        · simpa [hk] using r
        · simpa [hk] using r1
  · rw [if_neg h, if_neg h]
    exact rs.app (.one r)
theorem RpA.valK {q : Key} {d : D} : ∀ {ks : List Key} {vs : List V} {ds : List D}, RpA K Z vs ds → atK ks ds q = some d → ∃ v, atK ks vs q = some v ∧ Rp K Z v d := by
  intro ks
  induction ks with
  | nil => intro vs ds _ h; simp [atK] at h
  | cons k ks ih =>
    intro vs ds rs h
    cases rs with
    | nil => simp [atK] at h
    | cons r1 t =>
      by_cases hk : k = q
      · rw [atK_pos hk] at h ⊢
        cases h
        exact ⟨_, rfl, r1⟩
      · rw [atK_neg hk] at h ⊢
        exact ih t h
end
theorem keyD1_inj {a b : Key} (h : keyD a = keyD b) : a = b := by
  cases a <;> cases b <;> simp_all [keyD]
def dictK (ks : List Key) (ds : List D) : D := .dict ((ks.map keyD).zip ds)
theorem dictK_inj : ∀ {ks ks' : List Key} {ds ds' : List D}, ks.length = ds.length → ks'.length = ds'.length → (ks.map keyD).zip ds = (ks'.map keyD).zip ds' → ks = ks' ∧ ds = ds'
  | [], [], [], [], _, _, _ => ⟨rfl, rfl⟩
  | [], k' :: ks', [], d' :: ds', _, _, h => by simp at h
  | k :: ks, [], d :: ds, [], _, _, h => by simp at h
  | k :: ks, k' :: ks', d :: ds, d' :: ds', h1, h2, h => by
    rw [List.map_cons, List.map_cons, List.zip_cons_cons, List.zip_cons_cons] at h
    have e := List.cons.inj h
    obtain ⟨a, b⟩ := dictK_inj (by simpa using h1) (by simpa using h2) e.2
    have e1 := (Prod.mk.inj e.1)
    rw [a, b, keyD1_inj e1.1, e1.2]
    exact ⟨rfl, rfl⟩
  | [], [], _ :: _, _, h, _, _ => by simp at h
  | [], _ :: _, _ :: _, _, h, _, _ => by simp at h
  | _ :: _, _, [], _, h, _, _ => by simp at h
theorem rp_key {K : PySem.W.Frag} {Z : Hp} {v : V} {q : Key} (r : Rp K Z v (keyD q)) : v = kV q := by
  cases q <;> cases r <;> rfl
theorem val_atK : ∀ {ks : List Key} {vs : List V} {q : Key}, valV (ks.zip vs) q = atK ks vs q := fun {ks vs q} => rfl
theorem isSome_atK {α : Type} {q : Key} : ∀ {ks : List Key} {vs : List α}, vs.length = ks.length → (atK ks vs q).isSome = hasK ks q
  | [], [], _ => rfl
  | k :: ks, v :: vs, h => by
    by_cases hk : k = q
    · rw [atK_pos hk]
      simp [hasK, hk]
    · rw [atK_neg hk, isSome_atK (by simpa using h)]
      simp [hasK, hk]
  | [], _ :: _, h => by simp at h
  | _ :: _, [], h => by simp at h
theorem isSome_atT {α : Type} {q : List Key} : ∀ {ks : List (List Key)} {vs : List α}, vs.length = ks.length → (atT ks vs q).isSome = hasT ks q
  | [], [], _ => rfl
  | k :: ks, v :: vs, h => by
    by_cases hk : k = q
    · rw [atT_pos hk]
      simp [hasT, hk]
    · rw [atT_neg hk, isSome_atT (by simpa using h)]
      simp [hasT, hk]
  | [], _ :: _, h => by simp at h
  | _ :: _, [], h => by simp at h
/-- slot i shows a dict with tuple keys / with plain keys -/
def showT (ρ : Rho) (i : Nat) (ks : List (List Key)) (ds : List D) : Prop := ks.length = ds.length ∧ (ρ[i]? = some (.ownT ks ds) ∨ (ks ≠ [] ∧ ρ[i]? = some (.d (dictOf ks ds))))
def showK (ρ : Rho) (i : Nat) (ks : List Key) (ds : List D) : Prop := ks.length = ds.length ∧ (ρ[i]? = some (.ownK ks ds) ∨ (ks ≠ [] ∧ ρ[i]? = some (.d (dictK ks ds))))
section
variable {K : PySem.W.Frag} {C : Ctx} {Z H : Hp} {σ : Sg} {ρ : Rho} {i : Nat}
theorem showT_get {ks : List (List Key)} {ds : List D} (R : RB K C Z σ H ρ) (h : showT ρ i ks ds) : ∃ a vs, σ[i]? = some (some (.ref a)) ∧ H a = some (.dT (ks.zip vs)) ∧ RpA K Z vs ds := by
  obtain ⟨hl, h | ⟨hne, h⟩⟩ := h
  · obtain ⟨v, hv, b, vs, e, hb, r, l, ow⟩ := R.s.slotAt h
    subst e
    exact ⟨b, vs, hv, hb, r⟩
  · exact dictAt_get R ⟨hl, Or.inr h⟩ hne
theorem showK_get {ks : List Key} {ds : List D} (R : RB K C Z σ H ρ) (h : showK ρ i ks ds) : ∃ a vs, σ[i]? = some (some (.ref a)) ∧ H a = some (.dK (ks.zip vs)) ∧ RpA K Z vs ds := by
  obtain ⟨hl, h | ⟨hne, h⟩⟩ := h
  · obtain ⟨v, hv, b, vs, e, hb, r, l, ow⟩ := R.s.slotAt h
    subst e
    exact ⟨b, vs, hv, hb, r⟩
  · obtain ⟨v, hv, u, e, r⟩ := R.s.slotAt h
    subst e
    unfold dictK at r
    generalize hg : (ks.map keyD).zip ds = g at r
    cases r with
    | dck q rs l =>
      obtain ⟨rfl, rfl⟩ := dictK_inj hl l hg
      exact ⟨_, _, hv, R.b.le _ _ q, rs⟩
    | @dct _ ks' _ ds' q rs l =>
      cases ks with
      | nil => exact absurd rfl hne
      | cons k0 kr =>
        cases ds with
        | nil => simp at hl
        | cons d0 dr =>
          cases ks' with
          | nil => simp at hg
          | cons k1 kr1 =>
            cases ds' with
            | nil => simp at l
            | cons d1 dr1 =>
              simp only [List.map_cons, List.zip_cons_cons, List.cons.injEq, Prod.mk.injEq] at hg
              have := hg.1.1
              cases k0 <;> cases this
end
section
variable {X : Cx} {C : Ctx} {a b e o v : Expr} {T Ta Ti Tv : ET} {pos tp np : Pos} {x : Str} {i : Nat}
def eNewK : ET := fun ρ k => k (.ownK [] []) ρ
theorem de_newK : DE X C (.Dict [] [] pos) eNewK := by
  refine ⟨fun ρ k k' hk q => hk _ _ q, PE.imp pe_dnewK fun σ H Q w p hp => ?_⟩
  obtain ⟨Z, ρ, R, w⟩ := w
  obtain ⟨R1, hz, h0, ap⟩ := R.fresh (o := .dK []) hp
  refine w _ Z _ (Same.refl Z) R1 ⟨rfl, ⟨p, [], rfl, upd_same, .nil, rfl, hz, Or.inl h0⟩, fun a e => ?_⟩
  have e' : some p = some a := e
  cases e'
  exact ap
def someAt (ρ : Rho) (i : Nat) : Prop := ∃ s, ρ[i]? = some s ∧ s ≠ .non
theorem someAt_val {K : PySem.W.Frag} {Z H : Hp} {σ : Sg} {ρ : Rho} (R : RB K C Z σ H ρ) (h : someAt ρ i) : ∃ u, σ[i]? = some (some u) := by
  obtain ⟨s0, hs0, hn0⟩ := h
  obtain ⟨v0, hv0, sl0⟩ := R.s.slotAt hs0
  obtain ⟨u0, rfl⟩ : ∃ u0, v0 = some u0 := by
    cases s0 with
    | non => exact absurd rfl hn0
    | d x => obtain ⟨u, e, _⟩ := sl0; exact ⟨u, e⟩
    | own p xs => obtain ⟨a, _, e, _⟩ := sl0; exact ⟨_, e⟩
    | drw p => obtain ⟨a, _, _, e, _⟩ := sl0; exact ⟨_, e⟩
    | ownT p xs => obtain ⟨a, _, e, _⟩ := sl0; exact ⟨_, e⟩
    | ownK p xs => obtain ⟨a, _, e, _⟩ := sl0; exact ⟨_, e⟩
    | scr ns => obtain ⟨a, e, _⟩ := sl0; exact ⟨_, e⟩
    | pin b => exact ⟨_, sl0⟩
  exact ⟨u0, hv0⟩
def eGetK (i : Nat) (T : ET) : ET := fun ρ k => someAt ρ i ∧ T ρ (asD fun y ρ1 => ∃ ks ds q z, showK ρ1 i ks ds ∧ y = keyD q ∧ atK ks ds q = some z ∧ k (.d z) ρ1)
theorem de_getK (hu : X.A.units + 1 < cLine) (he : DE X C e T) (hN : X.N[i]? = some x := by rfl) (hvs : Vis X.env.scope x := by first | exact Or.inl rfl | exact Or.inr (Or.inl rfl) | exact Or.inr (Or.inr rfl)) (hd : (x == ("__debug__" : Str)) = false := by decide) (hcd : (x == ("__classdict__" : Str)) = false := by decide)
    (hs : NoSl e := by intro _ _; rfl) :
    DE X C (.Subscript (.Name x np) e pos) (eGetK i T) := by
  refine ⟨fun ρ k k' hk ⟨n, q⟩ => ⟨n, he.mono ρ _ _ (fun s ρ1 q1 => asD.imp (fun y ρ1 ⟨ks, ds, q, z, h1, h2, h3, h4⟩ => ⟨ks, ds, q, z, h1, h2, h3, hk _ _ h4⟩) q1) q⟩, PE.imp (pe_dget hu (pe_var hN hvs hd hcd) he.run hs) fun σ H Q w => ?_⟩
  obtain ⟨Z, ρ, R, hs0, w⟩ := w
  obtain ⟨u0, hv0⟩ := someAt_val R hs0
  refine ⟨u0, hv0, rdE.go he.mono R w fun s1 ρ1 v Z1 H1 q1 m1 R1 w1 => ?_⟩
  obtain ⟨y, Z2, ⟨ks, ds, q, z, h1, rfl, h3, h4⟩, m2, R2, ry⟩ := w1.give R1 q1
  obtain ⟨c, vs, g1, g2, g3⟩ := showK_get R2 h1
  rw [hv0] at g1
  cases g1
  obtain ⟨u, h5, ru⟩ := g3.valK h3
  rw [rp_key ry]
  refine ⟨c, u, rfl, ?_, h4 u Z2 H1 (m1.trans m2) R2 (.ofD ru)⟩
  rw [← h5]
  exact DGet.k g2
/-- key in d -/
def bInK (n : Bool) (T : ET) (i : Nat) : BT := fun ρ k => T ρ (asD fun y ρ1 => ∃ ks ds q, showK ρ1 i ks ds ∧ y = keyD q ∧ k (n ^^ hasK ks q) ρ1)
def bInT (n : Bool) (T : ET) (i : Nat) : BT := fun ρ k => T ρ (asD fun y ρ1 => ∃ ks ds q, showT ρ1 i ks ds ∧ y = .tuple (q.map keyD) ∧ k (n ^^ hasT ks q) ρ1)
theorem mono_bInK {n : Bool} (h : MonoE T) : MonoB (bInK n T i) := fun ρ k k' hk q => h ρ _ _ (fun s ρ1 q1 => asD.imp (fun y ρ1 ⟨ks, ds, q, h1, h2, h3⟩ => ⟨ks, ds, q, h1, h2, hk _ _ h3⟩) q1) q
theorem mono_bInT {n : Bool} (h : MonoE T) : MonoB (bInT n T i) := fun ρ k k' hk q => h ρ _ _ (fun s ρ1 q1 => asD.imp (fun y ρ1 ⟨ks, ds, q, h1, h2, h3⟩ => ⟨ks, ds, q, h1, h2, hk _ _ h3⟩) q1) q
theorem inK_go {σ : Sg} {H : Hp} {Q : VK} {n : Bool} (he : DE X C e T) (w : ∃ Z ρ, RB X.K C Z σ H ρ ∧ bInK n T i ρ fun b ρ' => ∀ Z' H', Same Z Z' → RB X.K C Z' σ H' ρ' → Q (.bl b) H') :
    rdE X.K C T σ H fun y H1 => ∃ v, σ[i]? = some (some v) ∧ ∃ a o, v = .ref a ∧ DGet H1 a y o ∧ Q (.bl (n ^^ o.isSome)) H1 := by
  obtain ⟨Z, ρ, R, w⟩ := w
  refine rdE.go he.mono R w fun s1 ρ1 v Z1 H1 q1 m1 R1 w1 => ?_
  obtain ⟨y, Z2, ⟨ks, ds, q, h1, rfl, h3⟩, m2, R2, ry⟩ := w1.give R1 q1
  obtain ⟨c, vs, g1, g2, g3⟩ := showK_get R2 h1
  refine ⟨_, g1, c, _, rfl, by rw [rp_key ry]; exact DGet.k g2, ?_⟩
  rw [val_atK, isSome_atK (by rw [g3.len, h1.1])]
  exact h3 Z2 H1 (m1.trans m2) R2
theorem inT_go {σ : Sg} {H : Hp} {Q : VK} {n : Bool} (he : DE X C e T) (w : ∃ Z ρ, RB X.K C Z σ H ρ ∧ bInT n T i ρ fun b ρ' => ∀ Z' H', Same Z Z' → RB X.K C Z' σ H' ρ' → Q (.bl b) H') :
    rdE X.K C T σ H fun y H1 => ∃ v, σ[i]? = some (some v) ∧ ∃ a o, v = .ref a ∧ DGet H1 a y o ∧ Q (.bl (n ^^ o.isSome)) H1 := by
  obtain ⟨Z, ρ, R, w⟩ := w
  refine rdE.go he.mono R w fun s1 ρ1 v Z1 H1 q1 m1 R1 w1 => ?_
  obtain ⟨y, Z2, ⟨ks, ds, q, h1, rfl, h3⟩, m2, R2, ry⟩ := w1.give R1 q1
  obtain ⟨c, vs, g1, g2, g3⟩ := showT_get R2 h1
  cases ry with
  | tup g rs l =>
    rw [RpA.keys rs] at g
    refine ⟨_, g1, c, _, rfl, DGet.t g2 (R2.b.le _ _ g), ?_⟩
    have e : valV (ks.zip vs) q = atT ks vs q := rfl
    rw [e, isSome_atT (by rw [g3.len, h1.1])]
    exact h3 Z2 H1 (m1.trans m2) R2
theorem dt_inK (hu : X.A.units + 1 < cLine) (he : DE X C e T) (hN : X.N[i]? = some x := by rfl) (hvs : Vis X.env.scope x := by first | exact Or.inl rfl | exact Or.inr (Or.inl rfl) | exact Or.inr (Or.inr rfl)) (hd : (x == ("__debug__" : Str)) = false := by decide) (hcd : (x == ("__classdict__" : Str)) = false := by decide)
    (hm : behindInMarks .In (.Name x np) = false := by first | exact nobehind _ (by decide) (by decide) | rfl) : DT X C (.Compare e [.In] [.Name x np] pos) (bInK false T i) := by
  refine ⟨mono_bInK he.mono, PT.imp (pt_cmp (pc_din hu he.run (pe_var hN hvs hd hcd)) hm) fun σ H Q w => ?_⟩
  obtain ⟨Z, ρ, R, w⟩ := w
  obtain ⟨Z2, ρ2, R2, w2⟩ := inK_go (n := false) (Q := fun x H1 => ∃ c, x = .bl c ∧ Q c H1) he ⟨Z, ρ, R, mono_bInK he.mono ρ _ _ (fun b ρ1 q1 Z' H' m R' => ⟨b, rfl, q1 Z' H' m R'⟩) w⟩
  exact ⟨Z2, ρ2, R2, he.mono _ _ _ (fun s ρ1 q1 v Z' H' m R' w' => by
    obtain ⟨u, hu, a, o, e1, e2, e3⟩ := q1 v Z' H' m R' w'
    refine ⟨u, hu, a, o, e1, e2, ?_⟩
    simpa using e3) w2⟩
theorem de_inK (hu : X.A.units + 1 < cLine) (he : DE X C e T) (hN : X.N[i]? = some x := by rfl) (hvs : Vis X.env.scope x := by first | exact Or.inl rfl | exact Or.inr (Or.inl rfl) | exact Or.inr (Or.inr rfl)) (hd : (x == ("__debug__" : Str)) = false := by decide) (hcd : (x == ("__classdict__" : Str)) = false := by decide)
    (hm : behindInMarks .In (.Name x np) = false := by first | exact nobehind _ (by decide) (by decide) | rfl) : DE X C (.Compare e [.In] [.Name x np] pos) (fun ρ k => bInK false T i ρ fun b ρ1 => k (.d (.bool b)) ρ1) := by
  refine ⟨fun ρ k k' hk q => mono_bInK he.mono ρ _ _ (fun b ρ1 q1 => hk _ _ q1) q, PE.imp (pe_cmp (pc_din hu he.run (pe_var hN hvs hd hcd)) hm) fun σ H Q w => ?_⟩
  obtain ⟨Z, ρ, R, w⟩ := w
  obtain ⟨Z2, ρ2, R2, w2⟩ := inK_go (n := false) (Q := Q) he ⟨Z, ρ, R, mono_bInK he.mono ρ _ _ (fun b ρ1 q1 Z' H' m R' => q1 _ Z' H' m R' (.ofD (.bl b))) w⟩
  exact ⟨Z2, ρ2, R2, he.mono _ _ _ (fun s ρ1 q1 v Z' H' m R' w' => by
    obtain ⟨u, hu, a, o, e1, e2, e3⟩ := q1 v Z' H' m R' w'
    refine ⟨u, hu, a, o, e1, e2, ?_⟩
    simpa using e3) w2⟩
theorem dt_ninK (hu : X.A.units + 1 < cLine) (he : DE X C e T) (hN : X.N[i]? = some x := by rfl) (hvs : Vis X.env.scope x := by first | exact Or.inl rfl | exact Or.inr (Or.inl rfl) | exact Or.inr (Or.inr rfl)) (hd : (x == ("__debug__" : Str)) = false := by decide) (hcd : (x == ("__classdict__" : Str)) = false := by decide)
    (hm : behindInMarks .NotIn (.Name x np) = false := by first | exact nobehind _ (by decide) (by decide) | rfl) : DT X C (.Compare e [.NotIn] [.Name x np] pos) (bInK true T i) := by
  refine ⟨mono_bInK he.mono, PT.imp (pt_cmp (pc_dnotin hu he.run (pe_var hN hvs hd hcd)) hm) fun σ H Q w => ?_⟩
  obtain ⟨Z, ρ, R, w⟩ := w
  obtain ⟨Z2, ρ2, R2, w2⟩ := inK_go (n := true) (Q := fun x H1 => ∃ c, x = .bl c ∧ Q c H1) he ⟨Z, ρ, R, mono_bInK he.mono ρ _ _ (fun b ρ1 q1 Z' H' m R' => ⟨b, rfl, q1 Z' H' m R'⟩) w⟩
  exact ⟨Z2, ρ2, R2, he.mono _ _ _ (fun s ρ1 q1 v Z' H' m R' w' => by
    obtain ⟨u, hu, a, o, e1, e2, e3⟩ := q1 v Z' H' m R' w'
    refine ⟨u, hu, a, o, e1, e2, ?_⟩
    simpa using e3) w2⟩
theorem de_ninK (hu : X.A.units + 1 < cLine) (he : DE X C e T) (hN : X.N[i]? = some x := by rfl) (hvs : Vis X.env.scope x := by first | exact Or.inl rfl | exact Or.inr (Or.inl rfl) | exact Or.inr (Or.inr rfl)) (hd : (x == ("__debug__" : Str)) = false := by decide) (hcd : (x == ("__classdict__" : Str)) = false := by decide)
    (hm : behindInMarks .NotIn (.Name x np) = false := by first | exact nobehind _ (by decide) (by decide) | rfl) : DE X C (.Compare e [.NotIn] [.Name x np] pos) (fun ρ k => bInK true T i ρ fun b ρ1 => k (.d (.bool b)) ρ1) := by
  refine ⟨fun ρ k k' hk q => mono_bInK he.mono ρ _ _ (fun b ρ1 q1 => hk _ _ q1) q, PE.imp (pe_cmp (pc_dnotin hu he.run (pe_var hN hvs hd hcd)) hm) fun σ H Q w => ?_⟩
  obtain ⟨Z, ρ, R, w⟩ := w
  obtain ⟨Z2, ρ2, R2, w2⟩ := inK_go (n := true) (Q := Q) he ⟨Z, ρ, R, mono_bInK he.mono ρ _ _ (fun b ρ1 q1 Z' H' m R' => q1 _ Z' H' m R' (.ofD (.bl b))) w⟩
  exact ⟨Z2, ρ2, R2, he.mono _ _ _ (fun s ρ1 q1 v Z' H' m R' w' => by
    obtain ⟨u, hu, a, o, e1, e2, e3⟩ := q1 v Z' H' m R' w'
    refine ⟨u, hu, a, o, e1, e2, ?_⟩
    simpa using e3) w2⟩
theorem dt_inT (hu : X.A.units + 1 < cLine) (he : DE X C e T) (hN : X.N[i]? = some x := by rfl) (hvs : Vis X.env.scope x := by first | exact Or.inl rfl | exact Or.inr (Or.inl rfl) | exact Or.inr (Or.inr rfl)) (hd : (x == ("__debug__" : Str)) = false := by decide) (hcd : (x == ("__classdict__" : Str)) = false := by decide)
    (hm : behindInMarks .In (.Name x np) = false := by first | exact nobehind _ (by decide) (by decide) | rfl) : DT X C (.Compare e [.In] [.Name x np] pos) (bInT false T i) := by
  refine ⟨mono_bInT he.mono, PT.imp (pt_cmp (pc_din hu he.run (pe_var hN hvs hd hcd)) hm) fun σ H Q w => ?_⟩
  obtain ⟨Z, ρ, R, w⟩ := w
  obtain ⟨Z2, ρ2, R2, w2⟩ := inT_go (n := false) (Q := fun x H1 => ∃ c, x = .bl c ∧ Q c H1) he ⟨Z, ρ, R, mono_bInT he.mono ρ _ _ (fun b ρ1 q1 Z' H' m R' => ⟨b, rfl, q1 Z' H' m R'⟩) w⟩
  exact ⟨Z2, ρ2, R2, he.mono _ _ _ (fun s ρ1 q1 v Z' H' m R' w' => by
    obtain ⟨u, hu, a, o, e1, e2, e3⟩ := q1 v Z' H' m R' w'
    refine ⟨u, hu, a, o, e1, e2, ?_⟩
    simpa using e3) w2⟩
theorem de_inT (hu : X.A.units + 1 < cLine) (he : DE X C e T) (hN : X.N[i]? = some x := by rfl) (hvs : Vis X.env.scope x := by first | exact Or.inl rfl | exact Or.inr (Or.inl rfl) | exact Or.inr (Or.inr rfl)) (hd : (x == ("__debug__" : Str)) = false := by decide) (hcd : (x == ("__classdict__" : Str)) = false := by decide)
    (hm : behindInMarks .In (.Name x np) = false := by first | exact nobehind _ (by decide) (by decide) | rfl) : DE X C (.Compare e [.In] [.Name x np] pos) (fun ρ k => bInT false T i ρ fun b ρ1 => k (.d (.bool b)) ρ1) := by
  refine ⟨fun ρ k k' hk q => mono_bInT he.mono ρ _ _ (fun b ρ1 q1 => hk _ _ q1) q, PE.imp (pe_cmp (pc_din hu he.run (pe_var hN hvs hd hcd)) hm) fun σ H Q w => ?_⟩
  obtain ⟨Z, ρ, R, w⟩ := w
  obtain ⟨Z2, ρ2, R2, w2⟩ := inT_go (n := false) (Q := Q) he ⟨Z, ρ, R, mono_bInT he.mono ρ _ _ (fun b ρ1 q1 Z' H' m R' => q1 _ Z' H' m R' (.ofD (.bl b))) w⟩
  exact ⟨Z2, ρ2, R2, he.mono _ _ _ (fun s ρ1 q1 v Z' H' m R' w' => by
    obtain ⟨u, hu, a, o, e1, e2, e3⟩ := q1 v Z' H' m R' w'
    refine ⟨u, hu, a, o, e1, e2, ?_⟩
    simpa using e3) w2⟩
theorem dt_ninT (hu : X.A.units + 1 < cLine) (he : DE X C e T) (hN : X.N[i]? = some x := by rfl) (hvs : Vis X.env.scope x := by first | exact Or.inl rfl | exact Or.inr (Or.inl rfl) | exact Or.inr (Or.inr rfl)) (hd : (x == ("__debug__" : Str)) = false := by decide) (hcd : (x == ("__classdict__" : Str)) = false := by decide)
    (hm : behindInMarks .NotIn (.Name x np) = false := by first | exact nobehind _ (by decide) (by decide) | rfl) : DT X C (.Compare e [.NotIn] [.Name x np] pos) (bInT true T i) := by
  refine ⟨mono_bInT he.mono, PT.imp (pt_cmp (pc_dnotin hu he.run (pe_var hN hvs hd hcd)) hm) fun σ H Q w => ?_⟩
  obtain ⟨Z, ρ, R, w⟩ := w
  obtain ⟨Z2, ρ2, R2, w2⟩ := inT_go (n := true) (Q := fun x H1 => ∃ c, x = .bl c ∧ Q c H1) he ⟨Z, ρ, R, mono_bInT he.mono ρ _ _ (fun b ρ1 q1 Z' H' m R' => ⟨b, rfl, q1 Z' H' m R'⟩) w⟩
  exact ⟨Z2, ρ2, R2, he.mono _ _ _ (fun s ρ1 q1 v Z' H' m R' w' => by
    obtain ⟨u, hu, a, o, e1, e2, e3⟩ := q1 v Z' H' m R' w'
    refine ⟨u, hu, a, o, e1, e2, ?_⟩
    simpa using e3) w2⟩
theorem de_ninT (hu : X.A.units + 1 < cLine) (he : DE X C e T) (hN : X.N[i]? = some x := by rfl) (hvs : Vis X.env.scope x := by first | exact Or.inl rfl | exact Or.inr (Or.inl rfl) | exact Or.inr (Or.inr rfl)) (hd : (x == ("__debug__" : Str)) = false := by decide) (hcd : (x == ("__classdict__" : Str)) = false := by decide)
    (hm : behindInMarks .NotIn (.Name x np) = false := by first | exact nobehind _ (by decide) (by decide) | rfl) : DE X C (.Compare e [.NotIn] [.Name x np] pos) (fun ρ k => bInT true T i ρ fun b ρ1 => k (.d (.bool b)) ρ1) := by
  refine ⟨fun ρ k k' hk q => mono_bInT he.mono ρ _ _ (fun b ρ1 q1 => hk _ _ q1) q, PE.imp (pe_cmp (pc_dnotin hu he.run (pe_var hN hvs hd hcd)) hm) fun σ H Q w => ?_⟩
  obtain ⟨Z, ρ, R, w⟩ := w
  obtain ⟨Z2, ρ2, R2, w2⟩ := inT_go (n := true) (Q := Q) he ⟨Z, ρ, R, mono_bInT he.mono ρ _ _ (fun b ρ1 q1 Z' H' m R' => q1 _ Z' H' m R' (.ofD (.bl b))) w⟩
  exact ⟨Z2, ρ2, R2, he.mono _ _ _ (fun s ρ1 q1 v Z' H' m R' w' => by
    obtain ⟨u, hu, a, o, e1, e2, e3⟩ := q1 v Z' H' m R' w'
    refine ⟨u, hu, a, o, e1, e2, ?_⟩
    simpa using e3) w2⟩
def sPutK (i : Nat) (Ti Tv : ET) : ST := fun E ρ => Tv ρ (asD fun v ρ1 => match ρ1[i]? with
  | some (.ownK _ _) => Ti ρ1 (asD fun y ρ2 => match ρ2[i]? with
    | some (.ownK ks ds) => ∃ q : Key, y = keyD q ∧ ks.length < sizeLine ∧ E.nx (ρ2.set i (.ownK (putKK ks q) (putKV ks ds q v)))
    | _ => False)
  | _ => False)
theorem ds_putK (hu : X.A.units + 1 < cLine) (hi : DE X C a Ti) (hv : DE X C v Tv) (hN : X.N[i]? = some x := by rfl) (hvs : Vis X.env.scope x := by first | exact Or.inl rfl | exact Or.inr (Or.inl rfl) | exact Or.inr (Or.inr rfl)) (hd : (x == ("__debug__" : Str)) = false := by decide) (hcd : (x == ("__classdict__" : Str)) = false := by decide)
    (hs : swapsWith v (some (.Subscript (.Name x np) a tp)) pos.line X.env = pure false := by rfl) : DS X C (.Assign [.Subscript (.Name x np) a tp] v pos) (sPutK i Ti Tv) := by
  refine ⟨fun E E' ρ l q => hv.mono ρ _ _ (fun s ρ1 q1 => asD.imp (fun u ρ1 q2 => ?_) q1) q, PS.imp (ps_dput hu (pe_var hN hvs hd hcd) hi.run hv.run hs) fun E σ H w => ?_⟩
  · split at q2
    · refine hi.mono ρ1 _ _ (fun s ρ2 q3 => asD.imp (fun y ρ2 q4 => ?_) q3) q2
      split at q4
      · obtain ⟨n, e, e2, q5⟩ := q4
        exact ⟨n, e, e2, l.nx _ q5⟩
      · exact q4
    · exact q2
  · obtain ⟨Z, ρ, R, w⟩ := w
    refine rdE.go hv.mono R w fun s1 ρ1 u Z1 H1 q1 m1 R1 w1 => ?_
    obtain ⟨d, Z2, q2, m2, R2, rd⟩ := w1.give R1 q1
    split at q2
    · rename_i ks0 ds0 hx0
      obtain ⟨v0, hv0, c, vs0, e0, hb0, r0, l0, ow0⟩ := R2.s.slotAt hx0
      subst e0
      refine ⟨_, hv0, rdE.go hi.mono R2 q2 fun s3 ρ3 w3 Z3 H3 q3 m3 R3 v3 => ?_⟩
      obtain ⟨y, Z4, q4, m4, R4, ry⟩ := v3.give R3 q3
      split at q4
      · rename_i ks ds hx
        obtain ⟨q, rfl, hl, q5⟩ := q4
        obtain ⟨v1, hv1, c', vs, e1, hb, r, l, ow⟩ := R4.s.slotAt hx
        rw [hv0] at hv1
        cases hv1
        cases e1
        rw [rp_key ry]
        have hlen : vs.length = ks.length := by rw [r.len, l]
        refine ⟨c, _, rfl, DPut.k hb (by rw [List.length_zip, hlen]; omega), ?_⟩
        rw [putK_zipK hlen]
        refine q5 Z4 σ _ (m1.trans (m2.trans (m3.trans m4))) (R4.rewrite hx hv0 rfl rfl ⟨c, _, rfl, upd_same, ?_, ?_, ow⟩)
        · exact r.putKd ((rd.mono m3).mono m4)
        · exact (putKV_len l.symm).symm
      · exact q4.elim
    · exact q2.elim
end
/-! ### run -/
section
variable {ρ : Rho} {k : Sl → Rho → Prop} {kb : Bool → Rho → Prop} {T Ti Tv : ET} {i : Nat} {E : EndD}
@[simp] theorem x_newK : eNewK ρ k = k (.ownK [] []) ρ := rfl
def getKGo (ρ : Rho) (i : Nat) (y : D) (q : D → Prop) : Prop := ∃ ks ds key z, showK ρ i ks ds ∧ y = keyD key ∧ atK ks ds key = some z ∧ q z
def inKGo (ρ : Rho) (i : Nat) (y : D) (q : Bool → Prop) : Prop := ∃ ks ds key, showK ρ i ks ds ∧ y = keyD key ∧ q (hasK ks key)
def inTGo (ρ : Rho) (i : Nat) (y : D) (q : Bool → Prop) : Prop := ∃ ks ds key, showT ρ i ks ds ∧ y = .tuple (key.map keyD) ∧ q (hasT ks key)
def someGo : Option Sl → Prop
  | none => False
  | some .non => False
  | some _ => True
@[simp] theorem someGo_d {x : D} : someGo (some (.d x)) = True := rfl
@[simp] theorem someGo_own {p : Bool} {x : List D} : someGo (some (.own p x)) = True := rfl
@[simp] theorem someGo_K {ks : List Key} {x : List D} : someGo (some (.ownK ks x)) = True := rfl
@[simp] theorem someGo_T {ks : List (List Key)} {x : List D} : someGo (some (.ownT ks x)) = True := rfl
@[simp] theorem someAt_def : someAt ρ i = someGo ρ[i]? := by
  unfold someAt
  cases h : ρ[i]? with
  | none => simp [someGo]
  | some s => cases s <;> simp [someGo]
@[simp] theorem x_getK : eGetK i T ρ k = (someAt ρ i ∧ T ρ (asD fun y ρ1 => getKGo ρ1 i y fun z => k (.d z) ρ1)) := rfl
@[simp] theorem x_inK {n : Bool} : bInK n T i ρ kb = T ρ (asD fun y ρ1 => inKGo ρ1 i y fun b => kb (n ^^ b) ρ1) := rfl
@[simp] theorem x_inT {n : Bool} : bInT n T i ρ kb = T ρ (asD fun y ρ1 => inTGo ρ1 i y fun b => kb (n ^^ b) ρ1) := rfl
def kGo (o : Option Sl) (q : List Key → List D → Prop) : Prop := match o with
  | some (.ownK ks ds) => q ks ds
  | _ => False
@[simp] theorem kGo_k {ks : List Key} {ds : List D} {q : List Key → List D → Prop} : kGo (some (.ownK ks ds)) q = q ks ds := rfl
@[simp] theorem x_putK : sPutK i Ti Tv E ρ = Tv ρ (asD fun v ρ1 => kGo ρ1[i]? fun _ _ => Ti ρ1 (asD fun y ρ2 => kGo ρ2[i]? fun ks ds => ∃ q : Key, y = keyD q ∧ ks.length < sizeLine ∧ E.nx (ρ2.set i (.ownK (putKK ks q) (putKV ks ds q v))))) := by
  refine goD fun v ρ1 => ?_
  cases h : ρ1[i]? with
  | none => rfl
  | some s =>
    cases s <;> first | rfl | skip
end
end Dl

set_option Elab.async false
set_option linter.all false
set_option maxRecDepth 100000
set_option autoImplicit false
set_option maxHeartbeats 2000000
namespace Dl
open PySem PySem.Spec PyProof.Rows L2

/-! ### an own list of own lists beside the slots; the name that holds it is pinned -/
def FreeA (C : Ctx) (Z H : Hp) (σ : Sg) (ρ : Rho) (a : Addr) : Prop := Z a = none ∧ H a ≠ none ∧ C.H0 a = none ∧ ∀ j, ¬ OA σ ρ j a
structure Nest (K : PySem.W.Frag) (C : Ctx) (Z H : Hp) (σ : Sg) (ρ : Rho) (p : Addr) (as : List Addr) (xss : List (List D)) : Prop where
  lst : H p = some (.lst (as.map V.ref))
  len : as.length = xss.length
  line : xss.length ≤ sizeLine
  nd : (p :: as).Nodup
  free : ∀ a ∈ p :: as, FreeA C Z H σ ρ a
  each : ∀ (j : Nat) (a : Addr) (xs : List D), as[j]? = some a → xss[j]? = some xs → ∃ vs, H a = some (.lst vs) ∧ RpA K Z vs xs ∧ xs.length ≤ sizeLine
section
variable {K : PySem.W.Frag} {C C' : Ctx} {Z Z' H H' : Hp} {σ σ' : Sg} {ρ ρ' : Rho} {i j : Nat} {p a : Addr} {as : List Addr} {xss : List (List D)} {o : HO}
theorem Nest.keepG (N : Nest K C Z H σ ρ p as xss) (m : Same Z Z') (h1 : ∀ a ∈ p :: as, H' a = H a ∧ Z' a = none ∧ ∀ j, ¬ OA σ' ρ' j a) : Nest K C Z' H' σ' ρ' p as xss := by
  refine ⟨?_, N.len, N.line, N.nd, fun a ha => ?_, fun j a xs e1 e2 => ?_⟩
  · rw [(h1 p List.mem_cons_self).1]
    exact N.lst
  · obtain ⟨f1, f2, f3, f4⟩ := N.free a ha
    obtain ⟨g1, g2, g3⟩ := h1 a ha
    exact ⟨g2, by rw [g1]; exact f2, f3, g3⟩
  · obtain ⟨vs, g1, g2, g3⟩ := N.each j a xs e1 e2
    refine ⟨vs, ?_, g2.mono m, g3⟩
    rw [(h1 a (List.mem_cons_of_mem _ (List.mem_of_getElem? e1))).1]
    exact g1
theorem Nest.io (N : Nest K C Z H σ ρ p as xss) (R : RB K C Z σ H ρ) {a : Addr} (ha : a ∈ p :: as) (q : Nat) : C.io q ≠ some a := fun z => R.b.ioT q a z (N.free a ha).2.2.1
/-- through a run whose context is the frame of slots as they stand -/
theorem Nest.keep (N : Nest K C Z H σ ρ p as xss) (R : RB K C Z σ H ρ) (m : Same Z Z') (R' : RB K (C.sub Z H σ ρ) Z' σ' H' ρ') : Nest K C Z' H' σ' ρ' p as xss := by
  refine N.keepG m fun a ha => ?_
  obtain ⟨f1, f2, f3, f4⟩ := N.free a ha
  have nio := N.io R ha
  have nfz : ¬ (C.sub Z H σ ρ).fz a := fun ⟨i, s, v, e1, e2, e3, _⟩ => f4 i ⟨s, v, e1, e2, e3⟩
  refine ⟨?_, ?_, fun j oa => ?_⟩
  · cases h : H a with
    | none => exact absurd h f2
    | some u => exact R'.b.frame a u nio nfz h
  · refine none_of_ne fun z => ?_
    rcases R'.b.new a z with y | y | y
    · exact y f1
    · exact f2 y
    · exact nfz y
  · rcases (R'.oaSt oa).2.2 with ⟨q, z⟩ | z | z
    · exact nio q z
    · exact f2 z
    · exact nfz z
/-- a value of such a run, told by the outer context -/
theorem VR.unsub {v : V} {s : Sl} (R : RB K C Z σ H ρ) (w : VR K (C.sub Z H σ ρ) Z' H' σ' ρ' v s) : VR K C Z' H' σ' ρ' v s := by
  refine ⟨w.val, w.at_.keep2 fun a ea ow => ⟨ow.1, ?_⟩, w.apart⟩
  have h2 := ow.2
  have hv := w.val
  have hp : parB s = false := by
    cases s with
    | own p xs => cases p <;> first | rfl | cases hv
    | drw p => cases p <;> first | rfl | cases hv
    | _ => rfl
  rw [hp] at h2 ⊢
  rcases h2 with z | ⟨i, t, u, e1, e2, e3, e4⟩
  · exact Or.inl (R.b.none0 z)
  · have ow := ((R.s.slot i t u e1 e2).own2 e3).1.2
    rw [e4] at ow
    exact ow
/-- an inner list is written -/
theorem Nest.write (N : Nest K C Z H σ ρ p as xss) (R : RB K C Z σ H ρ) {n : Nat} {xs : List D} {vs : List V} (ha : as[n]? = some a) (r : RpA K Z vs xs) (l : xs.length ≤ sizeLine) :
    RB K C Z σ (upd H a (.lst vs)) ρ ∧ Nest K C Z (upd H a (.lst vs)) σ ρ p as (xss.set n xs) := by
  have ham : a ∈ p :: as := List.mem_cons_of_mem _ (List.mem_of_getElem? ha)
  have hap : p ≠ a := fun z => (List.nodup_cons.mp N.nd).1 (z ▸ List.mem_of_getElem? ha)
  obtain ⟨f1, f2, f3, f4⟩ := N.free a ham
  refine ⟨⟨R.b.write f1 (Or.inr (Or.inl f3)), R.s.keep (Same.refl Z) fun i b q => ⟨?_, (R.oaSt q).1⟩⟩, ⟨?_, by rw [List.length_set]; exact N.len, by rw [List.length_set]; exact N.line, N.nd, fun b hb => ?_, fun j b ys e1 e2 => ?_⟩⟩
  · rw [upd_ne (fun z => by subst z; exact f4 i q)]
  · rw [upd_ne hap]
    exact N.lst
  · obtain ⟨g1, g2, g3, g4⟩ := N.free b hb
    exact ⟨g1, upd_not g2, g3, g4⟩
  · by_cases hjn : j = n
    · subst hjn
      rw [ha] at e1
      cases e1
      have hlt : j < xss.length := by rw [← N.len]; exact (List.getElem?_eq_some_iff.mp ha).1
      rw [List.getElem?_set_self hlt] at e2
      cases e2
      exact ⟨vs, upd_same, r, l⟩
    · rw [List.getElem?_set_ne (Ne.symm hjn)] at e2
      obtain ⟨ws, g1, g2, g3⟩ := N.each j b ys e1 e2
      refine ⟨ws, ?_, g2, g3⟩
      rw [upd_ne]
      · exact g1
      · intro z
        subst z
        have h1 := (List.getElem?_eq_some_iff.mp ha)
        have h2 := (List.getElem?_eq_some_iff.mp e1)
        exact hjn ((List.nodup_cons.mp N.nd).2 |> fun nd => (List.getElem_inj nd).mp (h2.2.trans h1.2.symm))
/-- a new list goes in at the end -/
theorem Nest.push (N : Nest K C Z H σ ρ p as xss) (R : RB K C Z σ H ρ) {xs : List D} {vs : List V} (hf : H a = none) (r : RpA K Z vs xs) (l : xs.length ≤ sizeLine) (hl : xss.length < sizeLine) :
    RB K C Z σ (upd (upd H a (.lst vs)) p (.lst (as.map V.ref ++ [.ref a]))) ρ ∧ Nest K C Z (upd (upd H a (.lst vs)) p (.lst (as.map V.ref ++ [.ref a]))) σ ρ p (as ++ [a]) (xss ++ [xs]) := by
  obtain ⟨R1, z1, z2, z3⟩ := R.fresh (o := .lst vs) hf
  have notin : ∀ b ∈ p :: as, b ≠ a := fun b hb z => by
    subst z
    exact (N.free b hb).2.1 hf
  have hpa := notin p List.mem_cons_self
  obtain ⟨f1, f2, f3, f4⟩ := N.free p List.mem_cons_self
  refine ⟨⟨R1.b.write f1 (Or.inr (Or.inl f3)), R1.s.keep (Same.refl Z) fun i b q => ⟨?_, (R1.oaSt q).1⟩⟩, ⟨?_, by simp [N.len], by rw [List.length_append, List.length_singleton]; omega, ?_, fun b hb => ?_, fun j b ys e1 e2 => ?_⟩⟩
  · rw [upd_ne (fun z => by subst z; exact f4 i q)]
  · rw [upd_same]
    simp
  · have hnd := List.nodup_cons.mp N.nd
    rw [← List.cons_append, List.nodup_append]
    exact ⟨N.nd, by simp, fun b hb c hc z => by
      have : c = a := by simpa using hc
      subst this
      exact notin b hb z⟩
  · rw [← List.cons_append] at hb
    rcases List.mem_append.mp hb with hb | hb
    · obtain ⟨g1, g2, g3, g4⟩ := N.free b hb
      exact ⟨g1, upd_not (upd_not g2), g3, g4⟩
    · have : b = a := by simpa using hb
      subst this
      exact ⟨z1, upd_not (by rw [upd_same]; simp), z2, z3⟩
  · by_cases hj : j < as.length
    · rw [List.getElem?_append_left hj] at e1
      rw [List.getElem?_append_left (by rw [← N.len]; exact hj)] at e2
      obtain ⟨ws, g1, g2, g3⟩ := N.each j b ys e1 e2
      have hb := List.mem_of_getElem? e1
      refine ⟨ws, ?_, g2, g3⟩
      rw [upd_ne (fun z => by subst z; exact (List.nodup_cons.mp N.nd).1 hb), upd_ne (notin b (List.mem_cons_of_mem _ hb))]
      exact g1
    · have hj' : j = as.length := by
        have := (List.getElem?_eq_some_iff.mp e1).1
        simp at this
        omega
      subst hj'
      rw [List.getElem?_append_right (Nat.le_refl _), Nat.sub_self] at e1
      rw [N.len, List.getElem?_append_right (Nat.le_refl _), Nat.sub_self] at e2
      cases e1
      cases e2
      refine ⟨vs, ?_, r, l⟩
      rw [upd_ne (Ne.symm hpa), upd_same]
theorem RpA.of_get : ∀ {vs : List V} {ds : List D}, vs.length = ds.length → (∀ (j : Nat) (v : V) (d : D), vs[j]? = some v → ds[j]? = some d → Rp K Z v d) → RpA K Z vs ds
  | [], [], _, _ => .nil
  | v :: vs, d :: ds, hl, h => .cons (h 0 v d rfl rfl) (RpA.of_get (by simpa using hl) fun j v d e1 e2 => h (j + 1) v d (by simpa using e1) (by simpa using e2))
  | [], _ :: _, hl, _ => by simp at hl
  | _ :: _, [], hl, _ => by simp at hl
/-- the nest is handed over as a datum -/
theorem Nest.close (N : Nest K C Z H σ ρ p as xss) (R : RB K C Z σ H ρ) (hi : ρ[i]? = some (.pin p)) : ∃ Z', Same Z Z' ∧ RB K C Z' σ H (ρ.set i (.d (.list (xss.map .list)))) := by
  let Z' : Hp := fun b => if b ∈ p :: as then H b else Z b
  have zin : ∀ b, b ∈ p :: as → Z' b = H b := fun b hb => if_pos hb
  have zout : ∀ b, b ∉ p :: as → Z' b = Z b := fun b hb => if_neg hb
  have m : Same Z Z' := fun b u e => by
    by_cases hb : b ∈ p :: as
    · rw [(N.free b hb).1] at e
      cases e
    · rw [zout b hb]
      exact e
  have B : Base C Z' H := by
    refine ⟨fun b u e => ?_, R.b.z0.trans m, R.b.frame, R.b.trk, fun b e => ?_, R.b.ioT, R.b.fzT⟩
    · by_cases hb : b ∈ p :: as
      · rw [zin b hb] at e
        exact e
      · rw [zout b hb] at e
        exact R.b.le b u e
    · by_cases hb : b ∈ p :: as
      · exact Or.inr (Or.inl (N.free b hb).2.2.1)
      · rw [zout b hb] at e
        exact R.b.new b e
  have S : Sls K C Z' H σ ρ := R.s.keep m fun q b oa => ⟨rfl, by
    rw [zout b (fun hb => (N.free b hb).2.2.2 q oa)]
    exact (R.oaSt oa).1⟩
  have rp : Rp K Z' (.ref p) (.list (xss.map .list)) := by
    refine .lst ((zin p List.mem_cons_self).trans N.lst) (RpA.of_get (by simp [N.len]) fun j v d e1 e2 => ?_) (by rw [List.length_map]; exact N.line)
    rw [List.getElem?_map] at e1 e2
    obtain ⟨b, hb, rfl⟩ := map_some e1
    obtain ⟨xs, hx, rfl⟩ := map_some e2
    obtain ⟨vs, g1, g2, g3⟩ := N.each j b xs hb hx
    exact .lst ((zin b (List.mem_cons_of_mem _ (List.mem_of_getElem? hb))).trans g1) (g2.mono m) g3
  obtain ⟨v, hv, e⟩ := R.s.slotAt hi
  have e' : v = some (.ref p) := e
  subst e'
  exact ⟨Z', m, B, S.slotPut hv ⟨_, rfl, rp⟩ fun a e => by cases e⟩
end

/-! ### statements beside a nest -/
structure EndN where
  nx : Rho → List (List D) → Prop
  rt : Sl → Rho → Prop
  bk : Rho → List (List D) → Prop
  ct : Rho → List (List D) → Prop
abbrev STN := EndN → Addr → Rho → List (List D) → Prop
structure EndN.Le (E E' : EndN) : Prop where
  nx : ∀ ρ x, E.nx ρ x → E'.nx ρ x
  rt : ∀ s ρ, E.rt s ρ → E'.rt s ρ
  bk : ∀ ρ x, E.bk ρ x → E'.bk ρ x
  ct : ∀ ρ x, E.ct ρ x → E'.ct ρ x
def MonoN (W : STN) : Prop := ∀ (E E' : EndN) p ρ x, E.Le E' → W E p ρ x → W E' p ρ x
def liftN (K : PySem.W.Frag) (C : Ctx) (Z : Hp) (p : Addr) (E : Ends) : EndN where
  nx := fun ρ' x => ∀ Z' σ' H' as, Same Z Z' → RB K C Z' σ' H' ρ' → Nest K C Z' H' σ' ρ' p as x → E.nx σ' H'
  rt := fun s ρ' => ∀ v Z' σ' H', Same Z Z' → RB K C Z' σ' H' ρ' → VR K C Z' H' σ' ρ' v s → E.rt v H'
  bk := fun ρ' x => ∀ Z' σ' H' as, Same Z Z' → RB K C Z' σ' H' ρ' → Nest K C Z' H' σ' ρ' p as x → E.bk σ' H'
  ct := fun ρ' x => ∀ Z' σ' H' as, Same Z Z' → RB K C Z' σ' H' ρ' → Nest K C Z' H' σ' ρ' p as x → E.ct σ' H'
theorem liftN.le {K : PySem.W.Frag} {C : Ctx} {Z Z' : Hp} {p : Addr} {E : Ends} (m : Same Z Z') : (liftN K C Z p E).Le (liftN K C Z' p E) :=
  ⟨fun _ _ q Z2 σ' H' as m2 => q Z2 σ' H' as (m.trans m2), fun _ _ q v Z2 σ' H' m2 => q v Z2 σ' H' (m.trans m2), fun _ _ q Z2 σ' H' as m2 => q Z2 σ' H' as (m.trans m2), fun _ _ q Z2 σ' H' as m2 => q Z2 σ' H' as (m.trans m2)⟩
def rdSN (K : PySem.W.Frag) (C : Ctx) (W : STN) : TS := fun E σ H => ∃ Z ρ p as xss, RB K C Z σ H ρ ∧ Nest K C Z H σ ρ p as xss ∧ W (liftN K C Z p E) p ρ xss
structure DSN (X : Cx) (C : Ctx) (st : Stmt) (W : STN) : Prop where
  mono : MonoN W
  run : PS X st (rdSN X.K C W)
structure DSNs (X : Cx) (C : Ctx) (st : List Stmt) (W : STN) : Prop where
  mono : MonoN W
  run : PSs X st (rdSN X.K C W)
section
variable {X : Cx} {C : Ctx} {st : Stmt} {rest : List Stmt} {W1 W2 W : STN} {pos : Pos}
def nNext : STN := fun E p ρ x => E.nx ρ x
def nSeq (W1 W2 : STN) : STN := fun E p ρ x => W1 { E with nx := W2 E p } p ρ x
theorem dnn_nil : DSNs X C [] nNext := ⟨fun E E' p ρ x l h => l.nx ρ x h, PSs.imp pss_nil fun E σ H w => by
  obtain ⟨Z, ρ, p, as, xss, R, N, w⟩ := w
  exact w Z σ H as (Same.refl Z) R N⟩
theorem dnn_cons (h1 : DSN X C st W1) (h2 : DSNs X C rest W2) : DSNs X C (st :: rest) (nSeq W1 W2) := by
  refine ⟨fun E E' p ρ x l h => h1.mono { E with nx := W2 E p } { E' with nx := W2 E' p } p ρ x ⟨fun ρ' x' q => h2.mono E E' p ρ' x' l q, l.rt, l.bk, l.ct⟩ h, PSs.imp (pss_cons h1.run h2.run) fun E σ H w => ?_⟩
  obtain ⟨Z, ρ, p, as, xss, R, N, w⟩ := w
  refine ⟨Z, ρ, p, as, xss, R, N, h1.mono { liftN X.K C Z p E with nx := W2 (liftN X.K C Z p E) p } _ p ρ xss ⟨fun ρ' x' q Z' σ' H' as' m R' N' => ?_, fun _ _ z => z, fun _ _ z => z, fun _ _ z => z⟩ w⟩
  exact ⟨Z', ρ', p, as', x', R', N', h2.mono (liftN X.K C Z p E) _ p ρ' x' (liftN.le m) q⟩
theorem dnn_one (h1 : DSN X C st W1) : DSNs X C [st] W1 := ⟨h1.mono, pss_one h1.run⟩
/-- an ordinary statement -/
def nLift (W : ST) : STN := fun E p ρ x => W { nx := fun ρ' => E.nx ρ' x, rt := E.rt, bk := fun ρ' => E.bk ρ' x, ct := fun ρ' => E.ct ρ' x } ρ
theorem dsn_lift {W : ST} (h : ∀ C', DS X C' st W) : DSN X C st (nLift W) := by
  have run : PS X st (fun E σ H => ∃ C', rdS X.K C' W E σ H) := ⟨fun pins s σ H E I ⟨C', w⟩ => (h C').run.run pins s σ H E I w⟩
  refine ⟨fun E E' p ρ x l q => (h C).mono _ _ ρ ⟨fun ρ' z => l.nx _ _ z, l.rt, fun ρ' z => l.bk _ _ z, fun ρ' z => l.ct _ _ z⟩ q, PS.imp run fun E σ H w => ?_⟩
  obtain ⟨Z, ρ, p, as, xss, R, N, w⟩ := w
  refine ⟨C.sub Z H σ ρ, Z, ρ, R.sub, (h C).mono { nx := fun ρ' => (liftN X.K C Z p E).nx ρ' xss, rt := (liftN X.K C Z p E).rt, bk := fun ρ' => (liftN X.K C Z p E).bk ρ' xss, ct := fun ρ' => (liftN X.K C Z p E).ct ρ' xss } _ ρ ⟨fun ρ' q Z' σ' H' m R' => q Z' σ' H' as m (R.unsub R') (N.keep R m R'), fun s ρ' q v Z' σ' H' m R' w' => q v Z' σ' H' m (R.unsub R') (VR.unsub R w'), fun ρ' q Z' σ' H' m R' => q Z' σ' H' as m (R.unsub R') (N.keep R m R'), fun ρ' q Z' σ' H' m R' => q Z' σ' H' as m (R.unsub R') (N.keep R m R')⟩ w⟩
/-- from here on the nest is a datum -/
def nClose (i : Nat) (W : ST) : STN := fun E p ρ x => ρ[i]? = some (.pin p) ∧ W { nx := fun _ => False, rt := E.rt, bk := fun _ => False, ct := fun _ => False } (ρ.set i (.d (.list (x.map .list))))
end
section
variable {X : Cx} {C : Ctx} {e a v iter tg : Expr} {es : List Expr} {body : List Stmt} {T Ti Tv : ET} {A : AT} {B : BT} {I : IT} {G : GT} {is : List Nat} {W W1 W2 : STN} {W0 : ST} {rest : List Stmt} {pos np sp ap cp lp : Pos} {x : Str} {i : Nat}
theorem pe_any (h : ∀ C', DE X C' e T) : PE X e (rdEx X.K T) := ⟨fun pins s σ H Q J ⟨C', w⟩ => (h C').run.run pins s σ H Q J w⟩
theorem pi_any (h : ∀ C', DI X C' tg iter I) : PI X tg iter (rdIx X.K I) := ⟨fun pins s σ H Q J ⟨C', w⟩ => (h C').run.run pins s σ H Q J w⟩
/-- an expression's datum, got beside a nest -/
theorem rdEx.give {K : PySem.W.Frag} {Z H : Hp} {σ : Sg} {ρ : Rho} {p : Addr} {as : List Addr} {xss : List (List D)} (mT : MonoE T) (R : RB K C Z σ H ρ) (N : Nest K C Z H σ ρ p as xss) {k : D → Rho → Prop} (hT : T ρ (asD k)) {Q : VK}
    (h : ∀ y ρ1 u Z1 H1, k y ρ1 → Same Z Z1 → RB K C Z1 σ H1 ρ1 → Nest K C Z1 H1 σ ρ1 p as xss → Rp K Z1 u y → Q u H1) : rdEx K T σ H Q := by
  refine ⟨C.sub Z H σ ρ, rdE.go mT R.sub hT fun s1 ρ1 v Z1 H1 q1 m1 R1 w1 => ?_⟩
  obtain ⟨y, Z2, q2, m2, R2, r⟩ := w1.give R1 q1
  exact h y ρ1 v Z2 H1 q2 (m1.trans m2) (R.unsub R2) (N.keep R (m1.trans m2) R2) r
/-- x[e].append(v) -/
def nAppAt (i : Nat) (Ti Tv : ET) : STN := fun E p ρ xss => ρ[i]? = some (.pin p) ∧ Ti ρ (asD fun y ρ1 => ∃ (j : Int) (n : Nat), y = .int j ∧ ixN xss.length j = some n ∧ Tv ρ1 (asD fun d ρ2 => ∃ xs : List D, xss[n]? = some xs ∧ xs.length < sizeLine ∧ E.nx ρ2 (xss.set n (xs ++ [d]))))
theorem dsn_appAt (hi : ∀ C', DE X C' a Ti) (hv : ∀ C', DE X C' v Tv) (hN : X.N[i]? = some x := by rfl) (hvs : Vis X.env.scope x := by first | exact Or.inl rfl | exact Or.inr (Or.inl rfl) | exact Or.inr (Or.inr rfl)) (hd : (x == ("__debug__" : Str)) = false := by decide) (hcd : (x == ("__classdict__" : Str)) = false := by decide) (hs : PlainIx a := by intro _ _; rfl)
    (hbase : attributeBase (.Subscript (.Name x np) a sp) "append" X.env (eval (.Subscript (.Name x np) a sp) X.env) = eval (.Subscript (.Name x np) a sp) X.env := by rfl)
    (hfew : ((backTo cp (starEach [v] X.env)).all (fun x => !x.1) && (backToKw cp (keywordEach [] X.env)).all (fun x => x.1.isSome) && decide (([v] : List Expr).length + ([] : List Keyword).length + (if ([] : List Keyword).isEmpty then 0 else 1) < 30)) = true := by rfl)
    (hline : (ap.endLine == cp.line) = true := by rfl) (hs2 : starEach [v] X.env = (false, eval v X.env) :: starEach [] X.env := by rfl) (hplain : (backTo cp (starEach ([] : List Expr) X.env)).any (·.1) = false := by rfl)
    (h4 : swapsWith (.Call (.Attribute (.Subscript (.Name x np) a sp) "append" ap) [v] [] cp) none pos.line X.env = pure false := by rfl) :
    DSN X C (.Expr (.Call (.Attribute (.Subscript (.Name x np) a sp) "append" ap) [v] [] cp) pos) (nAppAt i Ti Tv) := by
  refine ⟨fun E E' p ρ xss l ⟨h0, q⟩ => ⟨h0, (hi C).mono ρ _ _ (fun s ρ1 q1 => asD.imp (fun y ρ1 ⟨j, n, e1, e2, q2⟩ => ⟨j, n, e1, e2, (hv C).mono ρ1 _ _ (fun s ρ2 q3 => asD.imp (fun d ρ2 ⟨xs, e3, e4, q4⟩ => ⟨xs, e3, e4, l.nx _ _ q4⟩) q3) q2⟩) q1) q⟩,
    PS.imp (ps_expr (pe_bm PySem.F.plainAttrs_list PySem.F.slot_list_append PySem.F.type_list_append mt_append (pe_ix ix_seq (pe_var hN hvs hd hcd) (pe_any hi) hs) (pa_cons (pe_any hv) pa_nil hs2) hbase hfew hline hs2 hplain) h4) fun E σ H w => ?_⟩
  obtain ⟨Z, ρ, p, as, xss, R, N, h0, w⟩ := w
  obtain ⟨v0, hv0, ev0⟩ := R.s.slotAt h0
  have ev : v0 = some (.ref p) := ev0
  subst ev
  refine ⟨_, hv0, rdEx.give (hi C).mono R N w fun y ρ1 u Z1 H1 q1 m1 R1 N1 r1 => ?_⟩
  obtain ⟨j, n, rfl, hix, q1⟩ := q1
  cases r1
  have hn : n < xss.length := (ixN_seq hix).2.1
  obtain ⟨an, han⟩ : ∃ a, as[n]? = some a := ⟨_, List.getElem?_eq_getElem (by rw [N1.len]; exact hn)⟩
  obtain ⟨vs1, g1, _, _⟩ := N1.each n an _ han (List.getElem?_eq_getElem hn)
  refine Or.inl ⟨p, as.map V.ref, j, .ref an, rfl, rfl, Or.inl (Or.inl N1.lst), ?_, Or.inl ⟨rfl, vs1, Or.inl (Or.inl g1)⟩, rdEx.give (hv C).mono R1 N1 q1 fun d ρ2 u2 Z2 H2 q2 m2 R2 N2 r2 => ?_⟩
  · unfold atI
    rw [List.length_map, N1.len, hix]
    show (as.map V.ref)[n]? = _
    rw [List.getElem?_map, han]
    rfl
  · obtain ⟨xs, hxs, hlt, q2⟩ := q2
    obtain ⟨vs, k1, k2, k3⟩ := N2.each n an xs han hxs
    obtain ⟨R3, N3⟩ := N2.write R2 han (k2.app (.one r2)) (by rw [List.length_append]; exact hlt)
    exact ⟨an, vs, u2, rfl, rfl, k1, by rw [k2.len]; exact hlt, q2 Z2 σ _ as (m1.trans m2) R3 N3⟩
end
section
variable {X : Cx} {C : Ctx} {c iter tg : Expr} {body s1 s2 rest : List Stmt} {B : BT} {I : IT} {G : GT} {is : List Nat} {W W1 W2 : STN} {W0 : ST} {pos : Pos} {i : Nat}
theorem dnn_close (h : DSs X C rest W0) : DSNs X C rest (nClose i W0) := by
  refine ⟨fun E E' p ρ x l ⟨h0, q⟩ => ⟨h0, h.mono { nx := fun _ => False, rt := E.rt, bk := fun _ => False, ct := fun _ => False } { nx := fun _ => False, rt := E'.rt, bk := fun _ => False, ct := fun _ => False } _ ⟨fun _ z => z, l.rt, fun _ z => z, fun _ z => z⟩ q⟩, PSs.imp h.run fun E σ H w => ?_⟩
  obtain ⟨Z, ρ, p, as, xss, R, N, h0, w⟩ := w
  obtain ⟨Z', m, R'⟩ := N.close R h0
  exact ⟨Z', _, R', h.mono { nx := fun _ => False, rt := (liftN X.K C Z p E).rt, bk := fun _ => False, ct := fun _ => False } _ _ ⟨fun _ z => z.elim, fun s ρ' q v Z2 σ' H' m2 => q v Z2 σ' H' (m.trans m2), fun _ z => z.elim, fun _ z => z.elim⟩ w⟩
def nIf (B : BT) (W1 W2 : STN) : STN := fun E p ρ x => B ρ fun b ρ1 => if b = true then W1 E p ρ1 x else W2 E p ρ1 x
theorem dsn_if (hc : ∀ C', DT X C' c B) (h1 : DSNs X C s1 W1) (h2 : DSNs X C s2 W2) : DSN X C (.If c s1 s2 pos) (nIf B W1 W2) := by
  have pc : PT X c (rdBx X.K B) := ⟨fun pins s σ H Q J ⟨C', w⟩ => (hc C').run.run pins s σ H Q J w⟩
  refine ⟨fun E E' p ρ x l q => (hc C).mono ρ _ _ (fun b ρ1 q1 => ?_) q, PS.imp (ps_if pc h1.run h2.run) fun E σ H w => ?_⟩
  · cases b with
    | true => exact h1.mono E E' p ρ1 x l q1
    | false => exact h2.mono E E' p ρ1 x l q1
  · obtain ⟨Z, ρ, p, as, xss, R, N, w⟩ := w
    refine ⟨C.sub Z H σ ρ, rdB.go (hc C).mono R.sub w fun b ρ1 Z1 H1 q1 m1 R1 => ?_⟩
    have R2 := R.unsub R1
    have N2 := N.keep R m1 R1
    cases b with
    | true => exact ⟨Z1, ρ1, p, as, xss, R2, N2, h1.mono (liftN X.K C Z p E) _ p ρ1 xss (liftN.le m1) q1⟩
    | false => exact ⟨Z1, ρ1, p, as, xss, R2, N2, h2.mono (liftN X.K C Z p E) _ p ρ1 xss (liftN.le m1) q1⟩
def loopNW (G : GT) (W : STN) (E : EndN) (p : Addr) : List D → Rho → List (List D) → Prop
  | [], ρ, x => E.nx ρ x
  | d :: ds, ρ, x => G d ρ fun ρ1 => W { nx := loopNW G W E p ds, rt := E.rt, bk := E.nx, ct := loopNW G W E p ds } p ρ1 x
def nFor (I : IT) (G : GT) (W : STN) : STN := fun E p ρ x => I ρ fun ds ρ1 => loopNW G W E p ds ρ1 x
theorem mono_loopNW (hG : MonoG G) (hW : MonoN W) {E E' : EndN} {p : Addr} (l : E.Le E') : ∀ ds ρ x, loopNW G W E p ds ρ x → loopNW G W E' p ds ρ x
  | [], ρ, x, h => l.nx ρ x h
  | d :: ds, ρ, x, h => hG d ρ _ _ (fun ρ1 q => hW { nx := loopNW G W E p ds, rt := E.rt, bk := E.nx, ct := loopNW G W E p ds } { nx := loopNW G W E' p ds, rt := E'.rt, bk := E'.nx, ct := loopNW G W E' p ds } p ρ1 x ⟨fun ρ' x' z => mono_loopNW hG hW l ds ρ' x' z, l.rt, l.nx, fun ρ' x' z => mono_loopNW hG hW l ds ρ' x' z⟩ q) h
theorem dsn_for (hp : PassesOwn (model X.prog X.w) X.A X.env X.xe) (hc : X.calm = true) (hi : ∀ C', DI X C' tg iter I) (hg : DG X C tg is G) (hb : DSNs X C body W)
    (hs : ∀ x, foldedSetIterable iter X.env x = pure x := by intro _; rfl) : DSN X C (.For tg iter body [] pos) (nFor I G W) := by
  refine ⟨fun E E' p ρ x l q => (hi C).mono ρ _ _ (fun ds ρ1 q1 => mono_loopNW hg.mono hb.mono l ds ρ1 x q1) q, PS.imp (ps_for hp hc (pi_any hi) hg.run hb.run hs) fun E σ H w => ?_⟩
  obtain ⟨Z, ρ, p, as, xss, R, N, w⟩ := w
  refine ⟨C.sub Z H σ ρ, Z, ρ, R.sub, (hi C).mono ρ _ _ (fun ds ρ1 q1 J Z1 H1 m1 R1s wk => ?_) w⟩
  have R1 := R.unsub R1s
  have N1 := N.keep R m1 R1s
  refine ⟨fun i m σ H => m = ds.length - i ∧ i ≤ ds.length ∧ ∃ Zi ρi ai xi, Same Z1 Zi ∧ RB X.K C Zi σ H ρi ∧ Nest X.K C Zi H σ ρi p ai xi ∧ loopNW G W (liftN X.K C Z p E) p (ds.drop i) ρi xi, ⟨ds.length, by simp, Nat.zero_le _, Z1, ρ1, as, xss, Same.refl Z1, R1, N1, q1⟩, ?_⟩
  rintro i m σ2 H2 ⟨rfl, hi2, Zi, ρi, ai, xi, mi, Ri, Ni, qi⟩
  obtain ⟨hstop, hgo⟩ := wk.2 Zi H2 mi Ri.b.le
  by_cases hlt : i < ds.length
  · obtain ⟨d, hd, ed⟩ := drop_at hlt
    obtain ⟨g1, g2⟩ := hgo i d hd
    rw [ed] at qi
    refine Or.inr ⟨g1, fun σ' H' => ∃ Zj ρj aj xj, Same Z1 Zj ∧ RB X.K C Zj σ' H' ρj ∧ Nest X.K C Zj H' σ' ρj p aj xj ∧ loopNW G W (liftN X.K C Z p E) p (ds.drop (i + 1)) ρj xj, fun σ' H' ⟨Zj, ρj, aj, xj, a1, a2, a3, a4⟩ => ⟨ds.length - (i + 1), by omega, rfl, hlt, Zj, ρj, aj, xj, a1, a2, a3, a4⟩, fun x H' y => ?_⟩
    have fin : ∀ Zk, Same Zi Zk → RB X.K C Zk σ2 H' ρi → Nest X.K C Zk H' σ2 ρi p ai xi → Rp X.K Zk x d → rdG X.K C is G x σ2 H' fun σ3 H3 => rdSN X.K C W { E with nx := (fun σ' H' => ∃ Zj ρj aj xj, Same Z1 Zj ∧ RB X.K C Zj σ' H' ρj ∧ Nest X.K C Zj H' σ' ρj p aj xj ∧ loopNW G W (liftN X.K C Z p E) p (ds.drop (i + 1)) ρj xj), ct := (fun σ' H' => ∃ Zj ρj aj xj, Same Z1 Zj ∧ RB X.K C Zj σ' H' ρj ∧ Nest X.K C Zj H' σ' ρj p aj xj ∧ loopNW G W (liftN X.K C Z p E) p (ds.drop (i + 1)) ρj xj), bk := E.nx } σ3 H3 := fun Zk mk Rk Nk rk => ⟨Zk, ρi, d, Rk, rk, hg.mono d ρi _ _ (fun ρ3 q3 σ3 R3 _ low => ⟨Zk, ρ3, p, ai, xi, R3, Nk.keepG (Same.refl Zk) (fun b hb => ⟨rfl, (Nk.free b hb).1, fun j oa => (Nk.free b hb).2.2.2 j (low j b oa)⟩),
      hb.mono { nx := loopNW G W (liftN X.K C Z p E) p (ds.drop (i + 1)), rt := (liftN X.K C Z p E).rt, bk := (liftN X.K C Z p E).nx, ct := loopNW G W (liftN X.K C Z p E) p (ds.drop (i + 1)) } _ p ρ3 xi ⟨fun ρ' x' z Z' σ' H' as' m' R' N' => ⟨Z', ρ', as', x', mi.trans (mk.trans m'), R', N', z⟩, fun s ρ' z v Z' σ' H' m' R' w' => z v Z' σ' H' (m1.trans (mi.trans (mk.trans m'))) R' w', fun ρ' x' z Z' σ' H' as' m' R' N' => z Z' σ' H' as' (m1.trans (mi.trans (mk.trans m'))) R' N', fun ρ' x' z Z' σ' H' as' m' R' N' => ⟨Z', ρ', as', x', mi.trans (mk.trans m'), R', N', z⟩⟩ q3⟩) qi⟩
    rcases g2 x H' y with ⟨e, r⟩ | ⟨pn, o, n, e, r⟩
    · subst e
      exact fin Zi (Same.refl Zi) Ri Ni r
    · subst e
      have hz := Ri.b.noneZ n
      refine fin _ (Same.new hz) (Ri.newZ n) (Ni.keepG (Same.new hz) fun b hb => ?_) r
      obtain ⟨f1, f2, f3, f4⟩ := Ni.free b hb
      have hb' : b ≠ pn := fun z => by
        subst z
        exact f2 n
      exact ⟨upd_ne hb', by rw [upd_ne hb']; exact f1, f4⟩
  · have e : i = ds.length := by omega
    subst e
    rw [List.drop_length] at qi
    exact Or.inl ⟨hstop _ (Nat.le_refl _), qi Zi σ2 H2 ai (m1.trans mi) Ri Ni⟩
end
section
variable {X : Cx} {C : Ctx} {iter tg : Expr} {rest : List Stmt} {I : IT} {W : STN} {pos py pl spos tp : Pos} {i0 k : Nat} {scope : Scope} {y x : Str}
/-- y = [[] for x in iter], and what follows beside the nest -/
def sMk (I : IT) (i : Nat) (W : STN) : ST := fun E ρ => I ρ fun ds ρ1 => ∀ p, W { nx := fun _ _ => False, rt := E.rt, bk := fun _ _ => False, ct := fun _ _ => False } p (ρ1.set i (.pin p)) (List.replicate ds.length [])
theorem dss_mk (hc : X.calm = true) (hN : X.N.Nodup) (hsw : swapsWith (.ListComp (.List [] pl) [⟨.Name x tp, iter, [], 0⟩] scope pos) (some (.Name y py)) spos.line X.env = pure true) (hi : DI X C (.Name x tp) iter I) (ok : BlkOk X.N X.env.scope scope [(x, k)])
    (hg : ∀ (s : Shared) (H : Hp) (Ca : Addr) (cl : List (Str × Addr)) (fp : List Addr), PG (X.blk s H scope (compEnvC scope cl Ca X.env) fp) (.Name x tp) (gName k)) (hrest : DSNs X C rest W)
    (hy : X.N[i0]? = some y := by rfl) (hyl : X.env.scope.names.lookup y = some .local := by rfl) (hs : ∀ x, foldedSetIterable iter X.env x = pure x := by intro _; rfl) :
    DSs X C (.Assign [.Name y py] (.ListComp (.List [] pl) [⟨.Name x tp, iter, [], 0⟩] scope pos) spos :: rest) (sMk I i0 W) := by
  refine ⟨fun E E' ρ l q => hi.mono ρ _ _ (fun ds ρ1 q1 p => hrest.mono { nx := fun _ _ => False, rt := E.rt, bk := fun _ _ => False, ct := fun _ _ => False } { nx := fun _ _ => False, rt := E'.rt, bk := fun _ _ => False, ct := fun _ _ => False } _ _ _ ⟨fun _ _ z => z, l.rt, fun _ _ z => z, fun _ _ z => z⟩ (q1 p)) q,
    PSs.imp (pss_cons (ps_setLc (own := [(x, k)]) hc hN hy hyl hsw hi.run ok hg (fun s H Ca cl fp => pts_nil) (fun s H Ca cl fp => pe_lst pa_nil) hs) hrest.run) fun E σ H w => ?_⟩
  obtain ⟨Z, ρ, R, w⟩ := w
  refine ⟨Z, ρ, R, hi.mono ρ _ _ (fun ds ρ1 q1 J Z1 H1 m1 R1 wk p hp => ?_) w⟩
  obtain ⟨Rf, z1, z2, z3⟩ := R1.fresh (o := .lst []) hp
  have N0 : Nest X.K C Z1 (upd H1 p (.lst [])) σ ρ1 p [] [] := by
    refine ⟨upd_same, rfl, Nat.zero_le _, by simp, fun a ha => ?_, fun j a xs e1 _ => by simp at e1⟩
    have : a = p := by simpa using ha
    subst this
    exact ⟨z1, by rw [upd_same]; simp, z2, z3⟩
  refine ⟨fun i m H => m = ds.length - i ∧ i ≤ ds.length ∧ ∃ Zi as, Same Z1 Zi ∧ RB X.K C Zi σ H ρ1 ∧ Nest X.K C Zi H σ ρ1 p as (List.replicate i []), ⟨ds.length, by simp, Nat.zero_le _, Z1, [], Same.refl Z1, Rf, N0⟩, ?_⟩
  rintro i m H2 ⟨rfl, hi2, Zi, as, mi, Ri, Ni⟩
  obtain ⟨hstop, hgo⟩ := wk.2 Zi H2 mi Ri.b.le
  have hsz := wk.1
  by_cases hlt : i < ds.length
  · obtain ⟨d, hd, ed⟩ := drop_at hlt
    obtain ⟨g1, g2⟩ := hgo i d hd
    refine Or.inr ⟨g1, fun H' => ∃ Zi as, Same Z1 Zi ∧ RB X.K C Zi σ H' ρ1 ∧ Nest X.K C Zi H' σ ρ1 p as (List.replicate (i + 1) []), fun H' ⟨Zj, aj, a1, a2, a3⟩ => ⟨ds.length - (i + 1), by omega, rfl, hlt, Zj, aj, a1, a2, a3⟩, fun x H' y => ?_⟩
    have hw : L2.wipe ((L2.wipe σ [k]).set k (some x)) [k] = L2.wipe σ [k] := by
      refine wipe_eq (is := [k]) ⟨by simp, fun j hj => by rw [List.getElem?_set_ne]; intro z; exact hj (by simp [z])⟩ (fun j hj => hj)
    have fin : ∀ Zk, Same Zi Zk → RB X.K C Zk σ H' ρ1 → Nest X.K C Zk H' σ ρ1 p as (List.replicate i []) → ∀ a, H' a = none → (upd H' a (.lst [])) p = some (.lst (as.map V.ref)) ∧ (as.map V.ref).length < sizeLine ∧
        ∃ Zj aj, Same Z1 Zj ∧ RB X.K C Zj σ (upd (upd H' a (.lst [])) p (.lst (as.map V.ref ++ [.ref a]))) ρ1 ∧ Nest X.K C Zj (upd (upd H' a (.lst [])) p (.lst (as.map V.ref ++ [.ref a]))) σ ρ1 p aj (List.replicate (i + 1) []) := fun Zk mk Rk Nk a hf => by
      have hpa : p ≠ a := fun z => by
        subst z
        exact (Nk.free p List.mem_cons_self).2.1 hf
      have hl : (as.map V.ref).length = i := by rw [List.length_map, Nk.len, List.length_replicate]
      obtain ⟨R5, N5⟩ := Nk.push Rk (xs := []) (vs := []) hf .nil (Nat.zero_le _) (by rw [List.length_replicate]; omega)
      rw [← List.replicate_succ'] at N5
      exact ⟨by rw [upd_ne hpa]; exact Nk.lst, by omega, Zk, _, mi.trans mk, R5, N5⟩
    rcases g2 x H' y with ⟨e, r⟩ | ⟨pn, o, n, e, r⟩
    · subst e
      refine ⟨hw, ?_⟩
      refine ⟨Nat.zero_le _, fun a hf => ⟨_, fin Zi (Same.refl Zi) Ri Ni a hf⟩⟩
    · subst e
      have hz := Ri.b.noneZ n
      have Nf : Nest X.K C (upd Zi pn o) (upd H2 pn o) σ ρ1 p as (List.replicate i []) := Ni.keepG (Same.new hz) fun b hb => by
        obtain ⟨f1, f2, f3, f4⟩ := Ni.free b hb
        have hb' : b ≠ pn := fun z => by
          subst z
          exact f2 n
        exact ⟨upd_ne hb', by rw [upd_ne hb']; exact f1, f4⟩
      refine ⟨hw, ?_⟩
      refine ⟨Nat.zero_le _, fun a hf => ⟨_, fin _ (Same.new hz) (Ri.newZ n) Nf a hf⟩⟩
  · have e : i = ds.length := by omega
    subst e
    refine Or.inl ⟨hstop _ (Nat.le_refl _), ?_⟩
    have R6 : RB X.K C Zi (σ.set i0 (some (.ref p))) H2 (ρ1.set i0 (.pin p)) := ⟨Ri.b, Ri.s.put rfl fun a e => by cases e⟩
    have N6 : Nest X.K C Zi H2 (σ.set i0 (some (.ref p))) (ρ1.set i0 (.pin p)) p as (List.replicate ds.length []) := Ni.keepG (Same.refl Zi) fun b hb => ⟨rfl, (Ni.free b hb).1, fun j oa => by
      rcases oa_set oa with ⟨_, z⟩ | ⟨_, z⟩
      · exact (Ni.free b hb).2.2.2 j z
      · cases z⟩
    exact ⟨Zi, _, p, as, _, R6, N6, hrest.mono { nx := fun _ _ => False, rt := (liftE X.K C Z E).rt, bk := fun _ _ => False, ct := fun _ _ => False } _ p _ _ ⟨fun _ _ z => z.elim, fun s ρ' q v Z' σ' H' m' => q v Z' σ' H' (m1.trans (mi.trans m')), fun _ _ z => z.elim, fun _ _ z => z.elim⟩ (q1 p)⟩
end

/-! ### run -/
section
variable {ρ : Rho} {E : EndN} {Ee : EndD} {p : Addr} {x : List (List D)} {i : Nat} {W W1 W2 : STN} {W0 : ST} {B : BT} {I : IT} {G : GT} {Ti Tv : ET}
@[simp] theorem x_nNext : nNext E p ρ x = E.nx ρ x := rfl
@[simp] theorem x_nSeq : nSeq W1 W2 E p ρ x = W1 { E with nx := W2 E p } p ρ x := rfl
@[simp] theorem x_nLift : nLift W0 E p ρ x = W0 { nx := fun ρ' => E.nx ρ' x, rt := E.rt, bk := fun ρ' => E.bk ρ' x, ct := fun ρ' => E.ct ρ' x } ρ := rfl
@[simp] theorem x_nClose : nClose i W0 E p ρ x = (ρ[i]? = some (.pin p) ∧ W0 { nx := fun _ => False, rt := E.rt, bk := fun _ => False, ct := fun _ => False } (ρ.set i (.d (.list (x.map .list))))) := rfl
@[simp] theorem x_nIf : nIf B W1 W2 E p ρ x = B ρ fun b ρ1 => if b = true then W1 E p ρ1 x else W2 E p ρ1 x := rfl
@[simp] theorem x_nFor : nFor I G W E p ρ x = I ρ fun ds ρ1 => loopNW G W E p ds ρ1 x := rfl
@[simp] theorem x_sMk : sMk I i W Ee ρ = I ρ fun ds ρ1 => ∀ p, W { nx := fun _ _ => False, rt := Ee.rt, bk := fun _ _ => False, ct := fun _ _ => False } p (ρ1.set i (.pin p)) (List.replicate ds.length []) := rfl
@[simp] theorem x_nAppAt : nAppAt i Ti Tv E p ρ x = (ρ[i]? = some (.pin p) ∧ Ti ρ (asD fun y ρ1 => intGo y fun j => opt (ixN x.length j) fun n => Tv ρ1 (asD fun d ρ2 => opt x[n]? fun xs => xs.length < sizeLine ∧ E.nx ρ2 (x.set n (xs ++ [d]))))) := by
  unfold nAppAt
  congr 1
  refine goD fun y ρ1 => ?_
  cases y <;> simp [intGo, opt]
end
/-- a loop beside a nest, by place -/
theorem loopN_idx {G : GT} {W : STN} {E : EndN} {p : Addr} {ds : List D} {ρ : Rho} {x : List (List D)} (P : Nat → Rho → List (List D) → Prop) (hP : P 0 ρ x) (h0 : ∀ ρ x, P ds.length ρ x → E.nx ρ x)
    (hs : ∀ i d, ds[i]? = some d → ∀ ρ x (N : Rho → List (List D) → Prop), (∀ ρ' x', P (i + 1) ρ' x' → N ρ' x') → P i ρ x → G d ρ fun ρ1 => W { nx := N, rt := E.rt, bk := E.nx, ct := N } p ρ1 x) : loopNW G W E p ds ρ x := by
  have key : ∀ r i ρ x, r = ds.drop i → i ≤ ds.length → P i ρ x → loopNW G W E p r ρ x := by
    intro r
    induction r with
    | nil =>
      intro i ρ x e hi q
      have : i = ds.length := by
        have := congrArg List.length e
        simp at this
        omega
      subst this
      exact h0 ρ x q
    | cons d r ih =>
      intro i ρ x e hi q
      have hd : ds[i]? = some d := by
        have : (ds.drop i)[0]? = some d := by rw [← e]; rfl
        simpa using this
      have hr : r = ds.drop (i + 1) := by
        have : (ds.drop i).tail = r := by rw [← e]; rfl
        rw [← this]
        simp
      exact hs i d hd ρ x _ (fun ρ' x' q' => ih (i + 1) ρ' x' hr (List.getElem?_eq_some_iff.mp hd).1 q') q
  exact key ds 0 ρ x rfl (Nat.zero_le _) hP
end Dl

set_option Elab.async false
set_option linter.all false
set_option maxRecDepth 100000
set_option autoImplicit false
set_option maxHeartbeats 1000000
namespace Dl
open PySem PySem.Spec PyProof.Rows L2

@[simp] theorem x_line : sizeLine = 16777216 := sizeLine_eq
/-! ### houses as data -/
abbrev nI (n : Nat) : D := .int (n : Int)
structure KindL where
  name : Str
  rows : List (List Int)
structure PersonL where
  name : Str
  kinds : List KindL
  watches : List Nat
structure EndL where
  out : Nat
  pays : List Int
structure HouseL where
  told : List Str
  persons : List PersonL
  ends : List EndL
  slack : Int
def dInts (l : List Int) : D := .tuple (l.map .int)
def dNats (l : List Nat) : D := .tuple (l.map nI)
def dBox (l : List (List Nat)) : D := .tuple (l.map dNats)
def dKind (k : KindL) : D := .tuple [.str k.name, .tuple (k.rows.map dInts)]
def dPerson (p : PersonL) : D := .tuple [.str p.name, .tuple (p.kinds.map dKind), dNats p.watches]
def dEnd (e : EndL) : D := .tuple [nI e.out, dInts e.pays]
def dHouse (h : HouseL) : D := .tuple [.str "house", .tuple (h.told.map .str), .tuple (h.persons.map dPerson), .tuple (h.ends.map dEnd), .int h.slack]
section
variable {h : HouseL} {k : KindL} {p : PersonL} {e : EndL} {l : List Int} {m : List Nat} {b : List (List Nat)} {n : Nat}
@[simp] theorem ix_h1 : idxD (dHouse h) (.int 1) = some (.tuple (h.told.map .str)) := rfl
@[simp] theorem ix_h2 : idxD (dHouse h) (.int 2) = some (.tuple (h.persons.map dPerson)) := rfl
@[simp] theorem ix_h3 : idxD (dHouse h) (.int 3) = some (.tuple (h.ends.map dEnd)) := rfl
@[simp] theorem ix_h4 : idxD (dHouse h) (.int 4) = some (.int h.slack) := rfl
@[simp] theorem ix_k0 : idxD (dKind k) (.int 0) = some (.str k.name) := rfl
@[simp] theorem ix_k1 : idxD (dKind k) (.int 1) = some (.tuple (k.rows.map dInts)) := rfl
@[simp] theorem ix_p0 : idxD (dPerson p) (.int 0) = some (.str p.name) := rfl
@[simp] theorem ix_p1 : idxD (dPerson p) (.int 1) = some (.tuple (p.kinds.map dKind)) := rfl
@[simp] theorem ix_p2 : idxD (dPerson p) (.int 2) = some (dNats p.watches) := rfl
@[simp] theorem ix_e0 : idxD (dEnd e) (.int 0) = some (nI e.out) := rfl
@[simp] theorem ix_e1 : idxD (dEnd e) (.int 1) = some (dInts e.pays) := rfl
@[simp] theorem ix_ints : idxD (dInts l) (.int (n : Nat)) = (l[n]?).map .int := by simp [dInts, at_nat]
@[simp] theorem ix_nats : idxD (dNats m) (.int (n : Nat)) = (m[n]?).map nI := by simp [dNats, at_nat]
@[simp] theorem ix_box : idxD (dBox b) (.int (n : Nat)) = (b[n]?).map dNats := by simp [dBox, at_nat]
@[simp] theorem ln_ints : lenD [dInts l] = some (.d (nI l.length)) := by simp [dInts]
@[simp] theorem ln_nats : lenD [dNats m] = some (.d (nI m.length)) := by simp [dNats]
@[simp] theorem ln_box : lenD [dBox b] = some (.d (nI b.length)) := by simp [dBox]
@[simp] theorem lnN_ints : lenN (dInts l) = some l.length := by simp [dInts]
@[simp] theorem lnN_nats : lenN (dNats m) = some m.length := by simp [dNats]
@[simp] theorem lnN_box : lenN (dBox b) = some b.length := by simp [dBox]
@[simp] theorem sq_ints {q : List D → Rho → Prop} {ρ : Rho} : seqD q (dInts l) ρ = q (l.map .int) ρ := rfl
@[simp] theorem sq_nats {q : List D → Rho → Prop} {ρ : Rho} : seqD q (dNats m) ρ = q (m.map nI) ρ := rfl
@[simp] theorem sq_box {q : List D → Rho → Prop} {ρ : Rho} : seqD q (dBox b) ρ = q (b.map dNats) ρ := rfl
@[simp] theorem tp_l_nats : tupD [.list (m.map nI)] = some (.d (dNats m)) := rfl
end
theorem rgD_nat (n : Nat) : rgD 0 (n : Int) = (List.range n).map nI := by
  unfold rgD nI
  simp
theorem rgB_nat {n : Nat} (h : n ≤ 16777216) : rgB (n : Int) = true := by
  unfold rgB
  simp
  omega
theorem cut_take {α : Type} (xs : List α) (n : Nat) : cutL xs none (some (n : Int)) = xs.take n := by
  unfold cutL
  rw [HT.sIx_none, HT.sIx_nat, List.drop_zero, Nat.sub_zero]
  by_cases h : n ≤ xs.length
  · rw [Nat.min_eq_left h]
  · rw [Nat.min_eq_right (by omega), List.take_of_length_le (Nat.le_refl _), List.take_of_length_le (by omega)]
theorem cut_drop {α : Type} (xs : List α) (n : Nat) : cutL xs (some (n : Int)) none = xs.drop n := by
  unfold cutL
  rw [HT.sIx_none, HT.sIx_nat]
  by_cases h : n ≤ xs.length
  · rw [Nat.min_eq_left h, List.take_of_length_le (by simp)]
  · rw [Nat.min_eq_right (by omega), List.drop_of_length_le (Nat.le_refl _), List.drop_of_length_le (by omega)]
    simp

/-! ### loops by place -/
theorem loop_idx {G : GT} {W : ST} {E : EndD} {ds : List D} {ρ : Rho} (P : Nat → Rho → Prop) (hP : P 0 ρ) (h0 : ∀ ρ, P ds.length ρ → E.nx ρ)
    (hs : ∀ i d, ds[i]? = some d → ∀ ρ (N : Rho → Prop), (∀ ρ', P (i + 1) ρ' → N ρ') → P i ρ → G d ρ fun ρ1 => W { nx := N, rt := E.rt, bk := E.nx, ct := N } ρ1) : loopW G W E ds ρ := by
  refine loop_by (fun r ρ => ∃ i, r = ds.drop i ∧ i ≤ ds.length ∧ P i ρ) (fun ρ ⟨i, e, hi, p⟩ => ?_) (fun d r ρ N hN ⟨i, e, hi, p⟩ => ?_) ds ρ ⟨0, rfl, Nat.zero_le _, hP⟩
  · have : i = ds.length := by
      have := congrArg List.length e
      simp at this
      omega
    subst this
    exact h0 ρ p
  · have hd : ds[i]? = some d := by
      have : (ds.drop i)[0]? = some d := by rw [← e]; rfl
      simpa using this
    have hr : r = ds.drop (i + 1) := by
      have : (ds.drop i).tail = r := by rw [← e]; rfl
      rw [← this]
      simp
    refine hs i d hd ρ N (fun ρ' p' => hN ρ' ⟨i + 1, hr, ?_, p'⟩) p
    exact (List.getElem?_eq_some_iff.mp hd).1
theorem at_map {α β : Type} {f : α → β} {l : List α} {i : Nat} {d : β} (h : (l.map f)[i]? = some d) : ∃ x, l[i]? = some x ∧ d = f x := by
  rw [List.getElem?_map] at h
  cases e : l[i]? with
  | none => rw [e] at h; cases h
  | some x => rw [e] at h; cases h; exact ⟨x, rfl, rfl⟩
theorem at_rg {n i : Nat} {d : D} (h : ((List.range n).map nI)[i]? = some d) : i < n ∧ d = nI i := by
  obtain ⟨x, hx, rfl⟩ := at_map h
  rw [List.getElem?_range] at hx
  · cases hx
    have := (List.getElem?_eq_some_iff.mp h).1
    simp at this
    exact ⟨this, rfl⟩
  · have := (List.getElem?_eq_some_iff.mp h).1
    simpa using this
theorem find_at {α β : Type} {c : α → Option β} {l : List α} {i : Nat} {x : α} (h0 : (l.take i).findSome? c = none) (hx : l[i]? = some x) : (l.take (i + 1)).findSome? c = c x ∧ ∀ r, c x = some r → l.findSome? c = some r := by
  have hi := (List.getElem?_eq_some_iff.mp hx)
  have e : l.take (i + 1) = l.take i ++ [x] := by
    rw [List.take_succ, hx]
    rfl
  have h1 : (l.take (i + 1)).findSome? c = c x := by
    rw [e, List.findSome?_append, h0]
    simp
  refine ⟨h1, fun r hr => ?_⟩
  rw [← List.take_append_drop (i + 1) l, List.findSome?_append, h1, hr]
  rfl
/-- a loop that looks for the first thing: it goes on, or leaves the def -/
theorem loop_find {α β : Type} {G : GT} {W : ST} {E : EndD} {l : List α} {f : α → D} {c : α → Option β} {ρ : Rho} (I : Rho → Prop) (hI : I ρ) (h0 : l.findSome? c = none → ∀ ρ, I ρ → E.nx ρ)
    (hs : ∀ x ∈ l, ∀ ρ (N : Rho → Prop), I ρ → (c x = none → ∀ ρ', I ρ' → N ρ') → (∀ r, c x = some r → l.findSome? c = some r) → G (f x) ρ fun ρ1 => W { nx := N, rt := E.rt, bk := E.nx, ct := N } ρ1) : loopW G W E (l.map f) ρ := by
  refine loop_idx (fun i ρ => (l.take i).findSome? c = none ∧ I ρ) ⟨rfl, hI⟩ (fun ρ ⟨a, b⟩ => h0 (by simpa using a) ρ b) fun i d hd ρ N hN ⟨a, b⟩ => ?_
  obtain ⟨x, hx, rfl⟩ := at_map hd
  obtain ⟨h1, h2⟩ := find_at a hx
  exact hs x (List.mem_of_getElem? hx) ρ N b (fun e ρ' i' => hN ρ' ⟨by rw [h1, e], i'⟩) h2

/-! ### rows -/
def prodN : List Nat → Nat
  | [] => 1
  | m :: ms => m * prodN ms
def RowIn : List Nat → List Nat → Prop
  | [], [] => True
  | m :: ms, r :: row => r < m ∧ RowIn ms row
  | _, _ => False
def rowNoF : Nat → List Nat → List Nat → Nat
  | pl, m :: ms, r :: row => rowNoF (pl * m + r) ms row
  | pl, _, _ => pl
theorem RowIn.len : ∀ {ms row : List Nat}, RowIn ms row → row.length = ms.length
  | [], [], _ => rfl
  | _ :: _, _ :: _, h => congrArg Nat.succ (RowIn.len h.2)
  | [], _ :: _, h => h.elim
  | _ :: _, [], h => h.elim
theorem RowIn.at : ∀ {ms row : List Nat} {i m : Nat}, RowIn ms row → ms[i]? = some m → ∃ r, row[i]? = some r ∧ r < m
  | [], [], _, _, _, e => by simp at e
  | _ :: _, r :: _, 0, _, h, e => by
    simp at e
    subst e
    exact ⟨r, rfl, h.1⟩
  | _ :: _, _ :: _, i + 1, _, h, e => by
    obtain ⟨r, h1, h2⟩ := RowIn.at (i := i) h.2 (by simpa using e)
    exact ⟨r, by simpa using h1, h2⟩
  | [], _ :: _, _, _, h, _ => h.elim
  | _ :: _, [], _, _, h, _ => h.elim
theorem RowIn.set : ∀ {ms row : List Nat} {i m k : Nat}, RowIn ms row → ms[i]? = some m → k < m → RowIn ms (row.set i k)
  | [], [], _, _, _, _, e, _ => by simp at e
  | _ :: _, r :: _, 0, _, _, h, e, hk => by
    simp at e
    subst e
    exact ⟨hk, h.2⟩
  | _ :: _, _ :: _, i + 1, _, _, h, e, hk => ⟨h.1, RowIn.set (i := i) h.2 (by simpa using e) hk⟩
  | [], _ :: _, _, _, _, h, _, _ => h.elim
  | _ :: _, [], _, _, _, h, _, _ => h.elim
theorem rowNoF_lt : ∀ {ms row : List Nat} {pl : Nat}, RowIn ms row → rowNoF pl ms row < (pl + 1) * prodN ms
  | [], [], pl, _ => by simp [rowNoF, prodN]
  | m :: ms, r :: row, pl, h => by
    have h1 := rowNoF_lt (pl := pl * m + r) h.2
    have h2 : pl * m + r + 1 ≤ (pl + 1) * m := by
      have := h.1
      rw [Nat.succ_mul]
      omega
    have h3 := Nat.mul_le_mul_right (prodN ms) h2
    simp only [rowNoF, prodN]
    rw [← Nat.mul_assoc]
    omega
  | [], _ :: _, _, h => h.elim
  | _ :: _, [], _, h => h.elim
theorem rowNoF_snoc : ∀ {ms row : List Nat} {pl m r : Nat}, ms.length = row.length → rowNoF pl (ms ++ [m]) (row ++ [r]) = rowNoF pl ms row * m + r
  | [], [], _, _, _, _ => rfl
  | _ :: ms, _ :: row, _, _, _, h => by
    simp only [List.cons_append, rowNoF]
    exact rowNoF_snoc (by simpa using h)
  | [], _ :: _, _, _, _, h => by simp at h
  | _ :: _, [], _, _, _, h => by simp at h
/-- all rows of a box, the last part fastest -/
def comb (box : List (List Nat)) : List (List Nat) := box.foldl (fun rows part => rows.flatMap fun row => part.map fun t => row ++ [t]) [[]]
def ranges (ms : List Nat) : List (List Nat) := ms.map List.range

/-! ### a house that is one -/
def sizes (h : HouseL) : List Nat := h.persons.map (·.kinds.length)
structure EndOk (h : HouseL) (e : EndL) : Prop where
  out : e.out < h.told.length
  pays : e.pays.length = h.persons.length
structure Wf (h : HouseL) : Prop where
  np : 1 ≤ h.persons.length ∧ h.persons.length ≤ 4
  nk : ∀ p ∈ h.persons, 1 ≤ p.kinds.length ∧ p.kinds.length ≤ 8
  nr : ∀ p ∈ h.persons, ∀ k ∈ p.kinds, (1 ≤ k.rows.length ∧ k.rows.length ≤ 3) ∧ ∀ r ∈ k.rows, r.length = h.told.length
  nt : 1 ≤ h.told.length ∧ h.told.length ≤ 24
  ne : h.ends.length = prodN (sizes h) ∧ h.ends.length ≤ 256
  ee : ∀ e ∈ h.ends, EndOk h e
  nw : ∀ (i : Nat) (p : PersonL), h.persons[i]? = some p → p.watches.Sublist (List.range h.persons.length) ∧ i ∉ p.watches
def nK (h : HouseL) (p : Nat) : Nat := match h.persons[p]? with
  | some P => P.kinds.length
  | none => 0
def kindAt (h : HouseL) (p k : Nat) : Option KindL := match h.persons[p]? with
  | some P => P.kinds[k]?
  | none => none
def nW (h : HouseL) (p k : Nat) : Nat := match kindAt h p k with
  | some K => K.rows.length
  | none => 0
def numsAt (h : HouseL) (p k w : Nat) : Option (List Int) := match kindAt h p k with
  | some K => K.rows[w]?
  | none => none
def endAt (h : HouseL) (row : List Nat) : EndL := (h.ends[rowNoF 0 (sizes h) row]?).getD ⟨0, []⟩
def valOf (h : HouseL) (p k w : Nat) (e : EndL) : Int := (((numsAt h p k w).getD [])[e.out]?).getD 0 - (e.pays[p]?).getD 0
def gainB (h : HouseL) (p k w : Nat) (row other : List Nat) : Int := valOf h p k w (endAt h other) - valOf h p k w (endAt h row)
def lyingRow (h : HouseL) (p k o w : Nat) (rows : List (List Nat)) : Option (List Nat) := rows.findSome? fun row => if h.slack < gainB h p k w row (row.set p o) then some row else none
abbrev LieL := Nat × Nat × Nat × Nat × List Nat
def dLie : Option LieL → D
  | some (p, k, o, w, row) => .tuple [nI p, nI k, nI o, nI w, dNats row]
  | none => .none
def firstLieTo (h : HouseL) (p k o : Nat) (rows : List (List Nat)) : Option LieL := (List.range (nW h p k)).findSome? fun w => (lyingRow h p k o w rows).map fun row => (p, k, o, w, row)
def others (n k : Nat) : List Nat := (List.range n).filter fun o => o != k
def rowsSaying (h : HouseL) (p k : Nat) : List (List Nat) := comb ((ranges (sizes h)).set p [k])
def firstLieOf (h : HouseL) (p k : Nat) : Option LieL := (others (nK h p) k).findSome? fun o => firstLieTo h p k o (rowsSaying h p k)
def firstLie (h : HouseL) : Option LieL := (List.range h.persons.length).findSome? fun p => (List.range (nK h p)).findSome? fun k => firstLieOf h p k
theorem sizes_at {h : HouseL} {p : Nat} (hp : p < h.persons.length) : (sizes h)[p]? = some (nK h p) ∧ ∃ P, h.persons[p]? = some P ∧ nK h p = P.kinds.length := by
  have e := List.getElem?_eq_getElem hp
  simp [sizes, nK, e]
theorem Wf.endAt {h : HouseL} (wf : Wf h) {row : List Nat} (hr : RowIn (sizes h) row) : h.ends[rowNoF 0 (sizes h) row]? = some (endAt h row) ∧ EndOk h (endAt h row) := by
  have h1 := rowNoF_lt (pl := 0) hr
  rw [Nat.zero_add, Nat.one_mul, ← wf.ne.1] at h1
  have e := List.getElem?_eq_getElem h1
  have e2 : Dl.endAt h row = h.ends[rowNoF 0 (sizes h) row] := by
    unfold Dl.endAt
    rw [e]
    rfl
  rw [e2]
  exact ⟨e, wf.ee _ (List.getElem_mem h1)⟩
theorem kindAt_of {h : HouseL} {p k : Nat} (hp : p < h.persons.length) (hk : k < nK h p) : ∃ P K, h.persons[p]? = some P ∧ P.kinds[k]? = some K ∧ kindAt h p k = some K ∧ P ∈ h.persons ∧ K ∈ P.kinds := by
  obtain ⟨_, P, e, e2⟩ := sizes_at hp
  rw [e2] at hk
  refine ⟨P, P.kinds[k], e, List.getElem?_eq_getElem hk, ?_, List.mem_of_getElem? e, List.getElem_mem hk⟩
  unfold kindAt
  rw [e]
  exact List.getElem?_eq_getElem hk
theorem nW_of {h : HouseL} {p k : Nat} {K : KindL} (e : kindAt h p k = some K) : nW h p k = K.rows.length := by
  unfold nW
  rw [e]
theorem numsAt_of {h : HouseL} {p k w : Nat} (wf : Wf h) (hp : p < h.persons.length) (hk : k < nK h p) (hw : w < nW h p k) : ∃ P K r, h.persons[p]? = some P ∧ P.kinds[k]? = some K ∧ K.rows[w]? = some r ∧ numsAt h p k w = some r ∧ r.length = h.told.length := by
  obtain ⟨P, K, e1, e2, e3, m1, m2⟩ := kindAt_of hp hk
  rw [nW_of e3] at hw
  have e := List.getElem?_eq_getElem hw
  refine ⟨P, K, K.rows[w], e1, e2, e, ?_, (wf.nr P m1 K m2).2 _ (List.getElem_mem hw)⟩
  unfold numsAt
  rw [e3]
  exact e

/-! ### the program's defs: contracts and bodies -/
theorem Wf.rg {h : HouseL} (wf : Wf h) : rgB (h.persons.length : Int) = true := rgB_nat (by have := wf.np; omega)
theorem Wf.nK_le {h : HouseL} (wf : Wf h) (p : Nat) : nK h p ≤ 8 := by
  unfold nK
  cases e : h.persons[p]? with
  | none => simp
  | some P => exact (wf.nk P (List.mem_of_getElem? e)).2
theorem Wf.sz {h : HouseL} (wf : Wf h) : ∀ m ∈ sizes h, m ≤ 8 := by
  intro m hm
  obtain ⟨P, hP, rfl⟩ := List.mem_map.mp hm
  exact (wf.nk P hP).2
theorem line_ge {n : Nat} (h : n ≤ 100000) : n ≤ sizeLine := by
  rw [sizeLine_eq]
  omega
def F_count_of : FT := fun ss k => ∃ h : HouseL, ss = [.d (dHouse h)] ∧ k (.d (nI h.persons.length)) ss
def F_kinds_of : FT := fun ss k => ∃ (h : HouseL) (p : Nat) (P : PersonL), ss = [.d (dHouse h), .d (nI p)] ∧ h.persons[p]? = some P ∧ k (.d (.tuple (P.kinds.map dKind))) ss
def F_all_kinds : FT := fun ss k => ∃ h : HouseL, ss = [.d (dHouse h)] ∧ Wf h ∧ k (.d (dNats (sizes h))) ss
def F_whole : FT := fun ss k => ∃ h : HouseL, ss = [.d (dHouse h)] ∧ Wf h ∧ k (.d (dBox (ranges (sizes h)))) ss
theorem mono_F_count_of : MonoF F_count_of := fun ss k k' hk ⟨h, e, q⟩ => ⟨h, e, hk _ _ q⟩
theorem mono_F_kinds_of : MonoF F_kinds_of := fun ss k k' hk ⟨h, p, P, e, a, q⟩ => ⟨h, p, P, e, a, hk _ _ q⟩
theorem mono_F_all_kinds : MonoF F_all_kinds := fun ss k k' hk ⟨h, e, a, q⟩ => ⟨h, e, a, hk _ _ q⟩
theorem mono_F_whole : MonoF F_whole := fun ss k k' hk ⟨h, e, a, q⟩ => ⟨h, e, a, hk _ _ q⟩
/-- count_of: slots 0 house -/
def W_count_of : ST := (sRet (eCB lenD (aCons (eIdxV 0 (eC (.int 2))) aNil)))
theorem ok_count_of : BodyOk 1 W_count_of F_count_of := by
  rintro _ k ⟨h, rfl, q⟩
  simpa [W_count_of, entry] using q
/-- kinds_of: slots 0 house 1 person -/
def W_kinds_of : ST := (sRet (eBin idxS (eBin idxS (eIdxV 0 (eC (.int 2))) (eVar 1)) (eC (.int 1))))
theorem ok_kinds_of : BodyOk 2 W_kinds_of F_kinds_of := by
  rintro _ k ⟨h, p, P, rfl, hP, q⟩
  simpa [W_kinds_of, entry, at_nat, hP] using q
/-- all_kinds: slots 0 house 1 person -/
def W_all_kinds : ST := (sRet (eCB tupD (aCons (eLC (iRg1 (eCall F_count_of (.e (eVar 0) :: []))) (gN 1) bYes (eCB lenD (aCons (eCall F_kinds_of (.e (eVar 0) :: (.e (eVar 1) :: []))) aNil)) [1]) aNil)))
theorem ok_all_kinds : BodyOk 2 W_all_kinds F_all_kinds := by
  rintro _ k ⟨h, rfl, wf, q⟩
  simp [W_all_kinds, entry]
  refine ⟨h, rfl, ?_⟩
  simp [rgD_nat, wf.rg]
  refine lc_mapA (fun p => nI (nK h p)) (by simp) (fun p hp N M hN => ?_) ?_
  · have hp' : p < h.persons.length := by simpa using hp
    obtain ⟨_, P, e, e2⟩ := sizes_at hp'
    simp
    refine ⟨h, p, P, rfl, e, ?_⟩
    simpa [e2] using hN
  · have : (List.range h.persons.length).map (fun p => nI (nK h p)) = (sizes h).map nI := by
      refine List.ext_getElem? fun i => ?_
      rw [List.getElem?_map, List.getElem?_map]
      by_cases hi : i < h.persons.length
      · rw [List.getElem?_range hi, (sizes_at hi).1]
        rfl
      · rw [List.getElem?_eq_none (by simp; omega), List.getElem?_eq_none (by simp [sizes]; omega)]
        rfl
    simp [this]
    exact q
/-- whole: slots 0 house 1 many -/
def W_whole : ST := (sRet (eCB tupD (aCons (eLC (iSeq (eCall F_all_kinds (.e (eVar 0) :: []))) (gN 1) bYes (eTupRg (eVar 1)) [1]) aNil)))
theorem ok_whole : BodyOk 2 W_whole F_whole := by
  rintro _ k ⟨h, rfl, wf, q⟩
  simp [W_whole, entry]
  refine ⟨h, rfl, wf, ?_⟩
  simp
  refine lc_mapA (fun n => dNats (List.range n)) (by simp) (fun n hn N M hN => ?_) ?_
  · simp [rgD_nat, rgB_nat (show n ≤ 16777216 by have := wf.sz n hn; omega)]
    exact hN
  · simpa [dBox, ranges, Function.comp_def] using q
/-- rows behind more parts -/
theorem comb_snoc (b : List (List Nat)) (p : List Nat) : comb (b ++ [p]) = (comb b).flatMap fun row => p.map fun t => row ++ [t] := by simp [comb]
theorem flatMap_len {α β : Type} {f : α → List β} {n : Nat} : ∀ {l : List α}, (∀ x ∈ l, (f x).length = n) → (l.flatMap f).length = l.length * n
  | [], _ => by simp
  | x :: l, h => by
    rw [List.flatMap_cons, List.length_append, h x List.mem_cons_self, flatMap_len fun y hy => h y (List.mem_cons_of_mem _ hy), List.length_cons, Nat.succ_mul]
    omega
theorem comb_len (b : List (List Nat)) : ∀ b2 : List (List Nat), (comb (b ++ b2)).length = (comb b).length * prodN (b2.map (·.length)) := by
  intro b2
  induction b2 generalizing b with
  | nil => simp [prodN]
  | cons p b2 ih =>
    have e : b ++ p :: b2 = (b ++ [p]) ++ b2 := by simp
    rw [e, ih, comb_snoc, flatMap_len (n := p.length) (fun x _ => by simp), List.map_cons, prodN, Nat.mul_assoc]
theorem comb_nil : comb [] = [[]] := rfl
theorem prodN_le {c : Nat} : ∀ {l : List Nat}, (∀ m ∈ l, m ≤ c) → prodN l ≤ c ^ l.length
  | [], _ => by simp [prodN]
  | m :: l, h => by
    rw [prodN, List.length_cons, Nat.pow_succ, Nat.mul_comm]
    exact Nat.mul_le_mul (prodN_le fun x hx => h x (List.mem_cons_of_mem _ hx)) (h m List.mem_cons_self)
theorem comb_le {b : List (List Nat)} (h1 : b.length ≤ 4) (h2 : ∀ p ∈ b, p.length ≤ 8) (i : Nat) : (comb (b.take i)).length ≤ 4096 := by
  have e := comb_len [] (b.take i)
  rw [List.nil_append, comb_nil, List.length_singleton, Nat.one_mul] at e
  rw [e]
  refine Nat.le_trans (prodN_le (c := 8) fun m hm => ?_) ?_
  · obtain ⟨p, hp, rfl⟩ := List.mem_map.mp hm
    exact h2 p (List.mem_of_mem_take hp)
  · have : ((b.take i).map (·.length)).length ≤ 4 := by
      simp
      omega
    exact Nat.le_trans (Nat.pow_le_pow_right (by omega) this) (by omega)
/-- two fors, the slots kept -/
theorem lc2_mapA {α β : Type} {G : GT} {B : BT} {I1 : IT} {G1 : GT} {B1 : BT} {T : ET} {vs vs1 : List Nat} {k : List D → Rho → Prop} {ρ : Rho} {f : α → D} (g : α → List β) (f1 : α → β → D) (r : α → β → D) {l : List α} {acc : List D}
    (hl : acc.length + (l.flatMap g).length ≤ sizeLine)
    (hs : ∀ x ∈ l, ∀ (N : List D → Rho → Prop) (M : Rho → Prop), (∃ ρ3, plainAll ρ3 vs1 = true ∧ N ((g x).map (f1 x)) ρ3 ∧ (backR ρ ρ3 vs = ρ) ∧
        ∀ y ∈ g x, ∀ (N' : D → Rho → Prop) (M' : Rho → Prop), N' (r x y) ρ3 → G1 (f1 x y) (wipeR ρ3 vs1) fun ρ1 => B1 ρ1 fun b ρ2 => if b = true then T ρ2 (asD fun z ρ4 => N' z (backR ρ3 ρ4 vs1)) else M' (backR ρ3 ρ2 vs1)) → True)
    (hs2 : ∀ x ∈ l, ∃ ρ3, plainAll ρ3 vs1 = true ∧ backR ρ ρ3 vs = ρ ∧ (∀ (N : List D → Rho → Prop) (M : Rho → Prop), N ((g x).map (f1 x)) ρ3 → G (f x) (wipeR ρ vs) fun ρ1 => B ρ1 fun b ρ2 => if b = true then I1 ρ2 N else M ρ2) ∧
        ∀ y ∈ g x, ∀ (N' : D → Rho → Prop) (M' : Rho → Prop), N' (r x y) ρ3 → G1 (f1 x y) (wipeR ρ3 vs1) fun ρ1 => B1 ρ1 fun b ρ2 => if b = true then T ρ2 (asD fun z ρ4 => N' z (backR ρ3 ρ4 vs1)) else M' (backR ρ3 ρ2 vs1))
    (hk : k (acc ++ l.flatMap fun x => (g x).map (r x)) ρ) : lcW2 G B I1 G1 B1 T vs vs1 (l.map f) acc ρ k := by
  induction l generalizing acc with
  | nil => simpa [lcW2] using hk
  | cons x l ih =>
    rw [List.map_cons]
    unfold lcW2
    obtain ⟨ρ3, p3, b3, h1, h2⟩ := hs2 x List.mem_cons_self
    refine h1 (fun ds1 ρ3 => plainAll ρ3 vs1 = true ∧ lcW true G1 B1 T vs1 ds1 acc ρ3 fun acc' ρ4 => lcW2 G B I1 G1 B1 T vs vs1 (l.map f) acc' (backR ρ ρ4 vs) k) (fun ρ2 => lcW2 G B I1 G1 B1 T vs vs1 (l.map f) acc (backR ρ ρ2 vs) k) ⟨p3, ?_⟩
    rw [List.flatMap_cons, List.length_append] at hl
    refine lc_mapA (r x) (fun _ => by omega) h2 ?_
    rw [b3]
    refine ih (by simp only [List.length_append, List.length_map]; omega) (fun _ _ _ _ _ => trivial) (fun y hy => hs2 y (List.mem_cons_of_mem _ hy)) ?_
    simpa [List.flatMap_cons] using hk
theorem comb_row_len : ∀ (b2 b : List (List Nat)), (∀ row ∈ comb b, row.length = b.length) → ∀ row ∈ comb (b ++ b2), row.length = b.length + b2.length
  | [], b, h, row, hr => by simpa using h row (by simpa using hr)
  | p :: b2, b, h, row, hr => by
    have e : b ++ p :: b2 = (b ++ [p]) ++ b2 := by simp
    rw [e] at hr
    have := comb_row_len b2 (b ++ [p]) (fun row hr => by
      rw [comb_snoc] at hr
      obtain ⟨r, h1, h2⟩ := List.mem_flatMap.mp hr
      obtain ⟨t, _, rfl⟩ := List.mem_map.mp h2
      simp [h r h1]) row hr
    simp at this ⊢
    omega
theorem comb_rows {b : List (List Nat)} {row : List Nat} (h : row ∈ comb b) : row.length = b.length := by
  simpa using comb_row_len b [] (by simp [comb_nil]) row (by simpa using h)
def F_combined : FT := fun ss k => ∃ b : List (List Nat), ss = [.d (dBox b)] ∧ b.length ≤ 4 ∧ (∀ p ∈ b, p.length ≤ 8) ∧ k (.d (dBox (comb b))) ss
theorem mono_F_combined : MonoF F_combined := fun ss k k' hk ⟨b, e, a, c, q⟩ => ⟨b, e, a, c, hk _ _ q⟩
/-- combined: slots 0 parts 1 rows 2 part 3 row 4 thing -/
def W_combined : ST := (sSeq (sSet 1 (eLst (aCons (eTup aNil) aNil)))
    (sSeq (sFor (iSeq (eVar 0)) (gN 2) (sSet 1 (eLC2 (iSeq (eVar 1)) (gN 3) bYes (iSeq (eVar 2)) (gN 4) bYes (eBin addD (eVar 3) (eTup (aCons (eVar 4) aNil))) [3, 4] [4])))
    (sRet (eCB tupD (aCons (eVar 1) aNil)))))
theorem ok_combined : BodyOk 5 W_combined F_combined := by
  rintro _ k ⟨b, rfl, h1, h2, q⟩
  simp [W_combined, entry]
  refine loop_idx (fun i ρ => ∃ s2, plainB s2 = true ∧ ρ = [.d (dBox b), .own false ((comb (b.take i)).map dNats), s2, .non, .non]) ⟨.non, rfl, rfl⟩ (fun ρ ⟨s2, _, e⟩ => ?_) fun i d hd ρ N hN ⟨s2, hs2, e⟩ => ?_
  · subst e
    simp
    exact q
  · subst e
    obtain ⟨p, hp, rfl⟩ := at_map hd
    have hl := comb_le h1 h2 (i + 1)
    have ht : b.take (i + 1) = b.take i ++ [p] := by rw [List.take_succ, hp]; rfl
    rw [ht, comb_snoc] at hl
    simp
    refine lc2_mapA (fun _ => p) (fun _ t => nI t) (fun row t => dNats (row ++ [t])) (line_ge (by simp at hl ⊢; omega)) (fun _ _ _ _ _ => trivial) (fun row hrow => ?_) ?_
    · have hr : row.length ≤ 4 := by
        have := comb_rows hrow
        rw [List.length_take] at this
        omega
      refine ⟨[.d (dBox b), .d (.list ((comb (b.take i)).map dNats)), .d (dNats p), .d (dNats row), .non], rfl, rfl, fun N M hN => ?_, fun t ht N' M' hN' => ?_⟩
      · simpa using hN
      · simp [dNats, show row.length + 1 ≤ 16777216 by omega]
        simpa [dNats] using hN'
    · refine hN _ ⟨.d (dNats p), rfl, ?_⟩
      rw [ht, comb_snoc]
      simp [List.map_flatMap, Function.comp_def]
end Dl

set_option Elab.async false
set_option linter.all false
set_option maxRecDepth 100000
set_option autoImplicit false
set_option maxHeartbeats 1000000
namespace Dl
open PySem PySem.Spec PyProof.Rows L2

@[simp] theorem ex_and {α : Type} {c : Prop} {a : α} {p : α → Prop} : (∃ s, (c ∧ a = s) ∧ p s) ↔ c ∧ p a := ⟨fun ⟨_, ⟨h, rfl⟩, q⟩ => ⟨h, q⟩, fun ⟨h, q⟩ => ⟨a, ⟨h, rfl⟩, q⟩⟩
@[simp] theorem nat_eq {a b : Nat} : ((a : Int) = (b : Int)) ↔ a = b := by omega
@[simp] theorem nat_lt {a b : Nat} : ((a : Int) < (b : Int)) ↔ a < b := by omega
@[simp] theorem nat_le {a b : Nat} : ((a : Int) ≤ (b : Int)) ↔ a ≤ b := by omega
theorem mul_nat {a : Int} {b : Nat} (h : b ≤ 100000) : mulD (.int a) (.int (b : Int)) = some (.d (.int (a * (b : Int)))) := r_mul (by
  unfold cMulB
  refine decide_eq_true (Or.inr ⟨by omega, by omega⟩))
theorem cut_drop1 {α : Type} (xs : List α) (n : Nat) : cutL xs (some ((n : Int) + 1)) none = xs.drop (n + 1) := cut_drop xs (n + 1)
/-- rows of a box -/
def RowOf : List (List Nat) → List Nat → Prop
  | [], [] => True
  | p :: b, r :: row => r ∈ p ∧ RowOf b row
  | _, _ => False
theorem mem_combF : ∀ (b : List (List Nat)) (acc : List (List Nat)) (row : List Nat), row ∈ b.foldl (fun rows part => rows.flatMap fun row => part.map fun t => row ++ [t]) acc ↔ ∃ a ∈ acc, ∃ t, RowOf b t ∧ row = a ++ t
  | [], acc, row => by
    constructor
    · intro h
      exact ⟨row, h, [], trivial, by simp⟩
    · rintro ⟨a, ha, t, ht, rfl⟩
      cases t with
      | nil => simpa using ha
      | cons _ _ => exact ht.elim
  | p :: b, acc, row => by
    rw [List.foldl_cons, mem_combF b]
    constructor
    · rintro ⟨a, ha, t, ht, rfl⟩
      obtain ⟨a0, h0, h1⟩ := List.mem_flatMap.mp ha
      obtain ⟨r, hr, rfl⟩ := List.mem_map.mp h1
      exact ⟨a0, h0, r :: t, ⟨hr, ht⟩, by simp⟩
    · rintro ⟨a, ha, t, ht, rfl⟩
      cases t with
      | nil => exact ht.elim
      | cons r t => exact ⟨a ++ [r], List.mem_flatMap.mpr ⟨a, ha, List.mem_map.mpr ⟨r, ht.1, rfl⟩⟩, t, ht.2, by simp⟩
theorem mem_comb {b : List (List Nat)} {row : List Nat} : row ∈ comb b ↔ RowOf b row := by
  unfold comb
  rw [mem_combF]
  simp
theorem rowOf_ranges : ∀ {ms row : List Nat}, RowOf (ranges ms) row ↔ RowIn ms row
  | [], [] => Iff.rfl
  | m :: ms, r :: row => by
    show (r ∈ List.range m ∧ RowOf (ranges ms) row) ↔ _
    rw [List.mem_range, rowOf_ranges]
    rfl
  | [], _ :: _ => Iff.rfl
  | _ :: _, [] => Iff.rfl
theorem RowOf.sub : ∀ {b b' : List (List Nat)} {row : List Nat}, b.length = b'.length → (∀ (i : Nat) (p p' : List Nat), b[i]? = some p → b'[i]? = some p' → ∀ x ∈ p, x ∈ p') → RowOf b row → RowOf b' row
  | [], [], _, _, _, h => h
  | p :: b, p' :: b', [], _, _, h => h.elim
  | p :: b, p' :: b', r :: row, hl, hs, h => ⟨hs 0 p p' rfl rfl r h.1, RowOf.sub (by simpa using hl) (fun i q q' e e' => hs (i + 1) q q' (by simpa using e) (by simpa using e')) h.2⟩
  | [], _ :: _, _, hl, _, _ => by simp at hl
  | _ :: _, [], _, hl, _, _ => by simp at hl
theorem rowsSaying_in {h : HouseL} {p k : Nat} (hp : p < h.persons.length) (hk : k < nK h p) {row : List Nat} (hr : row ∈ rowsSaying h p k) : RowIn (sizes h) row := by
  rw [← rowOf_ranges]
  refine RowOf.sub (by simp) (fun i q q' e e' x hx => ?_) (mem_comb.mp hr)
  by_cases hi : i = p
  · subst hi
    rw [List.getElem?_set_self (by simp [ranges, sizes]; omega)] at e
    cases e
    have : x = k := by simpa using hx
    subst this
    unfold ranges at e'
    rw [List.getElem?_map, (sizes_at hp).1] at e'
    cases e'
    simpa using hk
  · rw [List.getElem?_set_ne (Ne.symm hi)] at e
    rw [e] at e'
    cases e'
    exact hx
theorem sizes_len {h : HouseL} : (sizes h).length = h.persons.length := by simp [sizes]

def F_row_number : FT := fun ss k => ∃ (h : HouseL) (row : List Nat), ss = [.d (dHouse h), .d (dNats row)] ∧ Wf h ∧ RowIn (sizes h) row ∧ k (.d (nI (rowNoF 0 (sizes h) row))) ss
theorem mono_F_row_number : MonoF F_row_number := fun ss k k' hk ⟨h, r, e, a, c, q⟩ => ⟨h, r, e, a, c, hk _ _ q⟩
/-- row_number: slots 0 house 1 row 2 place 3 person -/
def W_row_number : ST := (sSeq (sSet 2 (eC (.int 0)))
    (sSeq (sFor (iRg1 (eCall F_count_of (.e (eVar 0) :: []))) (gN 3) (sSet 2 (eBin addD (eBin mulD (eVar 2) (eCB lenD (aCons (eCall F_kinds_of (.e (eVar 0) :: (.e (eVar 3) :: []))) aNil))) (eIdxV 1 (eVar 3)))))
    (sRet (eVar 2))))
theorem ok_row_number : BodyOk 4 W_row_number F_row_number := by
  rintro _ k ⟨h, row, rfl, wf, hr, q⟩
  simp [W_row_number, entry]
  refine ⟨h, rfl, ?_⟩
  simp [rgD_nat, wf.rg]
  refine loop_idx (fun i ρ => ∃ s3, ρ = [.d (dHouse h), .d (dNats row), .d (nI (rowNoF 0 ((sizes h).take i) (row.take i))), s3]) ⟨.non, rfl⟩ (fun ρ ⟨s3, e⟩ => ?_) fun i d hd ρ N hN ⟨s3, e⟩ => ?_
  · subst e
    have e1 : (sizes h).take h.persons.length = sizes h := by rw [← sizes_len, List.take_length]
    have e2 : row.take h.persons.length = row := by rw [← sizes_len, ← hr.len, List.take_length]
    simp only [List.length_map, List.length_range, e1, e2]
    simpa using q
  · subst e
    obtain ⟨hi, rfl⟩ := at_rg hd
    obtain ⟨e1, P, e2, e3⟩ := sizes_at hi
    obtain ⟨r, e4, e5⟩ := hr.at e1
    have h8 := wf.nK_le i
    simp
    refine ⟨h, i, P, rfl, e2, ?_⟩
    simp [← e3, mul_nat (show nK h i ≤ 100000 by omega), e4]
    refine hN _ ⟨.d (nI i), ?_⟩
    have t1 : (sizes h).take (i + 1) = (sizes h).take i ++ [nK h i] := by rw [List.take_succ, e1]; rfl
    have t2 : row.take (i + 1) = row.take i ++ [r] := by rw [List.take_succ, e4]; rfl
    rw [t1, t2, rowNoF_snoc (by rw [List.length_take, List.length_take, hr.len])]
    simp
def F_end_of : FT := fun ss k => ∃ (h : HouseL) (row : List Nat), ss = [.d (dHouse h), .d (dNats row)] ∧ Wf h ∧ RowIn (sizes h) row ∧ k (.d (dEnd (endAt h row))) ss
theorem mono_F_end_of : MonoF F_end_of := fun ss k k' hk ⟨h, r, e, a, c, q⟩ => ⟨h, r, e, a, c, hk _ _ q⟩
/-- end_of: slots 0 house 1 row -/
def W_end_of : ST := (sRet (eBin idxS (eIdxV 0 (eC (.int 3))) (eCall F_row_number (.e (eVar 0) :: (.e (eVar 1) :: [])))))
theorem ok_end_of : BodyOk 2 W_end_of F_end_of := by
  rintro _ k ⟨h, row, rfl, wf, hr, q⟩
  simp [W_end_of, entry]
  refine ⟨h, row, rfl, wf, hr, ?_⟩
  simp [at_nat, (wf.endAt hr).1]
  exact q
def F_reworded : FT := fun ss k => ∃ (row : List Nat) (p kind : Nat), ss = [.d (dNats row), .d (nI p), .d (nI kind)] ∧ p < row.length ∧ row.length ≤ 1000 ∧ k (.d (dNats (row.set p kind))) ss
theorem mono_F_reworded : MonoF F_reworded := fun ss k k' hk ⟨h, r, x, e, a, c, q⟩ => ⟨h, r, x, e, a, c, hk _ _ q⟩
/-- reworded: slots 0 row 1 person 2 kind -/
def W_reworded : ST := (sRet (eBin addD (eBin addD (eSl (eVar 0) oNone (oSome (eVar 1))) (eTup (aCons (eVar 2) aNil))) (eSl (eVar 0) (oSome (eBin addD (eVar 1) (eC (.int 1)))) oNone)))
theorem ok_reworded : BodyOk 3 W_reworded F_reworded := by
  rintro _ k ⟨row, p, kind, rfl, hp, hl, q⟩
  have e : (row.map nI).take p ++ nI kind :: (row.map nI).drop (p + 1) = (row.set p kind).map nI := by
    rw [List.set_eq_take_append_cons_drop, if_pos hp]
    simp
  simp [W_reworded, entry, dNats, slD, cut_take, cut_drop1]
  refine ⟨by omega, by omega, ?_⟩
  rw [e]
  exact q
def F_other_kinds : FT := fun ss k => ∃ (h : HouseL) (p kind : Nat), ss = [.d (dHouse h), .d (nI p), .d (nI kind)] ∧ Wf h ∧ p < h.persons.length ∧ k (.d (dNats (others (nK h p) kind))) ss
theorem mono_F_other_kinds : MonoF F_other_kinds := fun ss k k' hk ⟨h, r, x, e, a, c, q⟩ => ⟨h, r, x, e, a, c, hk _ _ q⟩
/-- other_kinds: slots 0 house 1 person 2 kind 3 other -/
def W_other_kinds : ST := (sRet (eCB tupD (aCons (eLC (iRg1 (eCB lenD (aCons (eCall F_kinds_of (.e (eVar 0) :: (.e (eVar 1) :: []))) aNil))) (gN 3) (bBin neD (eVar 3) (eVar 2)) (eVar 3) [3]) aNil)))
theorem ok_other_kinds : BodyOk 4 W_other_kinds F_other_kinds := by
  rintro _ k ⟨h, p, kind, rfl, wf, hp, q⟩
  obtain ⟨e1, P, e2, e3⟩ := sizes_at hp
  have h8 := wf.nK_le p
  simp [W_other_kinds, entry]
  refine ⟨h, p, P, rfl, e2, ?_⟩
  simp [← e3, rgD_nat, rgB_nat (show nK h p ≤ 16777216 by omega)]
  refine lc_filA (fun o => o != kind) nI (by simp) (fun o ho N M h1 h2 => ?_) ?_
  · by_cases z : o = kind
    · simp [z]
      exact h2 (by simp [z])
    · simp [z]
      exact h1 (by simp [z])
  · simpa [others, dNats] using q
def F_rows_saying : FT := fun ss k => ∃ (h : HouseL) (p kind : Nat), ss = [.d (dHouse h), .d (nI p), .d (nI kind)] ∧ Wf h ∧ p < h.persons.length ∧ k (.d (dBox (rowsSaying h p kind))) ss
theorem mono_F_rows_saying : MonoF F_rows_saying := fun ss k k' hk ⟨h, r, x, e, a, c, q⟩ => ⟨h, r, x, e, a, c, hk _ _ q⟩
/-- rows_saying: slots 0 house 1 person 2 kind 3 box -/
def W_rows_saying : ST := (sSeq (sSet 3 (eCall F_whole (.e (eVar 0) :: [])))
    (sRet (eCall F_combined (.e (eBin addD (eBin addD (eSl (eVar 3) oNone (oSome (eVar 1))) (eTup (aCons (eTup (aCons (eVar 2) aNil)) aNil))) (eSl (eVar 3) (oSome (eBin addD (eVar 1) (eC (.int 1)))) oNone)) :: []))))
theorem ok_rows_saying : BodyOk 4 W_rows_saying F_rows_saying := by
  rintro _ k ⟨h, p, kind, rfl, wf, hp, q⟩
  have hl : (ranges (sizes h)).length = h.persons.length := by simp [ranges, sizes]
  have h4 := wf.np
  have e : ((ranges (sizes h)).map dNats).take p ++ dNats [kind] :: ((ranges (sizes h)).map dNats).drop (p + 1) = ((ranges (sizes h)).set p [kind]).map dNats := by
    rw [List.set_eq_take_append_cons_drop, if_pos (by omega)]
    simp
  simp [W_rows_saying, entry]
  refine ⟨h, rfl, wf, ?_⟩
  simp [dBox, slD, cut_take, cut_drop1]
  refine ⟨by omega, by omega, (ranges (sizes h)).set p [kind], ?_, by simp; omega, fun b hb => ?_, ?_⟩
  · have e' : PyData.tuple [nI kind] = dNats [kind] := rfl
    rw [e', e]
    rfl
  · rcases List.mem_or_eq_of_mem_set hb with z | z
    · obtain ⟨m, hm, rfl⟩ := List.mem_map.mp z
      simpa using wf.sz m hm
    · subst z
      simp
  · simp
    exact q
def F_worths_of : FT := fun ss k => ∃ (h : HouseL) (p kind : Nat) (P : PersonL) (K : KindL), ss = [.d (dHouse h), .d (nI p), .d (nI kind)] ∧ h.persons[p]? = some P ∧ P.kinds[kind]? = some K ∧ k (.d (.tuple (K.rows.map dInts))) ss
theorem mono_F_worths_of : MonoF F_worths_of := fun ss k k' hk ⟨h, r, x, P, K, e, a, c, q⟩ => ⟨h, r, x, P, K, e, a, c, hk _ _ q⟩
/-- worths_of: slots 0 house 1 person 2 kind -/
def W_worths_of : ST := (sRet (eBin idxS (eBin idxS (eCall F_kinds_of (.e (eVar 0) :: (.e (eVar 1) :: []))) (eVar 2)) (eC (.int 1))))
theorem ok_worths_of : BodyOk 3 W_worths_of F_worths_of := by
  rintro _ k ⟨h, p, kind, P, K, rfl, hP, hK, q⟩
  simp [W_worths_of, entry]
  refine ⟨h, p, P, rfl, hP, ?_⟩
  simp [at_nat, hK]
  exact q
def F_row_worths : FT := fun ss k => ∃ (h : HouseL) (p kind w : Nat) (P : PersonL) (K : KindL) (r : List Int), ss = [.d (dHouse h), .d (nI p), .d (nI kind), .d (nI w)] ∧ h.persons[p]? = some P ∧ P.kinds[kind]? = some K ∧ K.rows[w]? = some r ∧ k (.d (dInts r)) ss
theorem mono_F_row_worths : MonoF F_row_worths := fun ss k k' hk ⟨h, r, x, w, P, K, r', e, a, c, d, q⟩ => ⟨h, r, x, w, P, K, r', e, a, c, d, hk _ _ q⟩
/-- row_worths: slots 0 house 1 person 2 kind 3 worth -/
def W_row_worths : ST := (sRet (eBin idxS (eCall F_worths_of (.e (eVar 0) :: (.e (eVar 1) :: (.e (eVar 2) :: [])))) (eVar 3)))
theorem ok_row_worths : BodyOk 4 W_row_worths F_row_worths := by
  rintro _ k ⟨h, p, kind, w, P, K, r, rfl, hP, hK, hr, q⟩
  simp [W_row_worths, entry]
  refine ⟨h, p, kind, P, K, rfl, hP, hK, ?_⟩
  simp [at_nat, hr]
  exact q
def F_payment_of : FT := fun ss k => ∃ (p : Nat) (e : EndL) (x : Int), ss = [.d (nI p), .d (dEnd e)] ∧ e.pays[p]? = some x ∧ k (.d (.int x)) ss
theorem mono_F_payment_of : MonoF F_payment_of := fun ss k k' hk ⟨h, r, x, e, a, q⟩ => ⟨h, r, x, e, a, hk _ _ q⟩
/-- payment_of: slots 0 person 1 end -/
def W_payment_of : ST := (sRet (eBin idxS (eIdxV 1 (eC (.int 1))) (eVar 0)))
theorem ok_payment_of : BodyOk 2 W_payment_of F_payment_of := by
  rintro _ k ⟨p, e, x, rfl, hx, q⟩
  simp [W_payment_of, entry, hx]
  exact q
def F_value_by : FT := fun ss k => ∃ (r : List Int) (p : Nat) (e : EndL) (n x : Int), ss = [.d (dInts r), .d (nI p), .d (dEnd e)] ∧ r[e.out]? = some n ∧ e.pays[p]? = some x ∧ k (.d (.int (n - x))) ss
theorem mono_F_value_by : MonoF F_value_by := fun ss k k' hk ⟨h, r, x, n, y, e, a, c, q⟩ => ⟨h, r, x, n, y, e, a, c, hk _ _ q⟩
/-- value_by: slots 0 numbers 1 person 2 end -/
def W_value_by : ST := (sRet (eBin subD (eIdxV 0 (eIdxV 2 (eC (.int 0)))) (eCall F_payment_of (.e (eVar 1) :: (.e (eVar 2) :: [])))))
theorem ok_value_by : BodyOk 3 W_value_by F_value_by := by
  rintro _ k ⟨r, p, e, n, x, rfl, hn, hx, q⟩
  simp [W_value_by, entry, hn]
  refine ⟨p, e, x, rfl, hx, ?_⟩
  simp
  exact q
def F_value_of : FT := fun ss k => ∃ (h : HouseL) (p kind w : Nat) (e : EndL), ss = [.d (dHouse h), .d (nI p), .d (nI kind), .d (nI w), .d (dEnd e)] ∧ Wf h ∧ p < h.persons.length ∧ kind < nK h p ∧ w < nW h p kind ∧ EndOk h e ∧ k (.d (.int (valOf h p kind w e))) ss
theorem mono_F_value_of : MonoF F_value_of := fun ss k k' hk ⟨h, r, x, n, y, e, a, c, d, f, g, q⟩ => ⟨h, r, x, n, y, e, a, c, d, f, g, hk _ _ q⟩
/-- value_of: slots 0 house 1 person 2 kind 3 worth 4 end -/
def W_value_of : ST := (sRet (eCall F_value_by (.e (eCall F_row_worths (.e (eVar 0) :: (.e (eVar 1) :: (.e (eVar 2) :: (.e (eVar 3) :: []))))) :: (.e (eVar 1) :: (.e (eVar 4) :: [])))))
theorem ok_value_of : BodyOk 5 W_value_of F_value_of := by
  rintro _ k ⟨h, p, kind, w, e, rfl, wf, hp, hk, hw, he, q⟩
  obtain ⟨P, K, r, e1, e2, e3, e4, e5⟩ := numsAt_of wf hp hk hw
  obtain ⟨x1, h1⟩ : ∃ x, r[e.out]? = some x := ⟨_, List.getElem?_eq_getElem (by rw [e5]; exact he.out)⟩
  obtain ⟨x2, h2⟩ : ∃ x, e.pays[p]? = some x := ⟨_, List.getElem?_eq_getElem (by rw [he.pays]; exact hp)⟩
  simp [W_value_of, entry]
  refine ⟨h, p, kind, w, P, K, r, rfl, e1, e2, e3, ?_⟩
  simp
  refine ⟨r, p, e, _, _, rfl, h1, h2, ?_⟩
  have : valOf h p kind w e = x1 - x2 := by
    simp [valOf, e4, h1, h2]
  rw [this] at q
  simpa using q
def F_count_worths : FT := fun ss k => ∃ (h : HouseL) (p kind : Nat), ss = [.d (dHouse h), .d (nI p), .d (nI kind)] ∧ p < h.persons.length ∧ kind < nK h p ∧ k (.d (nI (nW h p kind))) ss
theorem mono_F_count_worths : MonoF F_count_worths := fun ss k k' hk ⟨h, r, x, e, a, c, q⟩ => ⟨h, r, x, e, a, c, hk _ _ q⟩
/-- count_worths: slots 0 house 1 person 2 kind -/
def W_count_worths : ST := (sRet (eCB lenD (aCons (eBin idxS (eBin idxS (eCall F_kinds_of (.e (eVar 0) :: (.e (eVar 1) :: []))) (eVar 2)) (eC (.int 1))) aNil)))
theorem ok_count_worths : BodyOk 3 W_count_worths F_count_worths := by
  rintro _ k ⟨h, p, kind, rfl, hp, hk, q⟩
  obtain ⟨P, K, e1, e2, e3, m1, m2⟩ := kindAt_of hp hk
  rw [nW_of e3] at q
  simp [W_count_worths, entry]
  refine ⟨h, p, P, rfl, e1, ?_⟩
  simp [at_nat, e2]
  exact q
def F_gain_between : FT := fun ss k => ∃ (h : HouseL) (p kind w : Nat) (row other : List Nat), ss = [.d (dHouse h), .d (nI p), .d (nI kind), .d (nI w), .d (dNats row), .d (dNats other)] ∧ Wf h ∧ p < h.persons.length ∧ kind < nK h p ∧ w < nW h p kind ∧
  RowIn (sizes h) row ∧ RowIn (sizes h) other ∧ k (.d (.int (gainB h p kind w row other))) ss
theorem mono_F_gain_between : MonoF F_gain_between := fun ss k k' hk ⟨h, r, x, n, y, y', e, a, c, d, f, g, g', q⟩ => ⟨h, r, x, n, y, y', e, a, c, d, f, g, g', hk _ _ q⟩
/-- gain_between: slots 0 house 1 person 2 kind 3 worth 4 row 5 other 6 there -/
def W_gain_between : ST := (sSeq (sSet 6 (eCall F_value_of (.e (eVar 0) :: (.e (eVar 1) :: (.e (eVar 2) :: (.e (eVar 3) :: (.e (eCall F_end_of (.e (eVar 0) :: (.e (eVar 5) :: []))) :: [])))))))
    (sRet (eBin subD (eVar 6) (eCall F_value_of (.e (eVar 0) :: (.e (eVar 1) :: (.e (eVar 2) :: (.e (eVar 3) :: (.e (eCall F_end_of (.e (eVar 0) :: (.e (eVar 4) :: []))) :: [])))))))))
theorem ok_gain_between : BodyOk 7 W_gain_between F_gain_between := by
  rintro _ k ⟨h, p, kind, w, row, other, rfl, wf, hp, hk, hw, hr, ho, q⟩
  simp [W_gain_between, entry]
  refine ⟨h, other, rfl, wf, ho, ?_⟩
  simp
  refine ⟨h, p, kind, w, _, rfl, wf, hp, hk, hw, (wf.endAt ho).2, ?_⟩
  simp
  refine ⟨h, row, rfl, wf, hr, ?_⟩
  simp
  refine ⟨h, p, kind, w, _, rfl, wf, hp, hk, hw, (wf.endAt hr).2, ?_⟩
  simp
  exact q
def dRowO : Option (List Nat) → D
  | some r => dNats r
  | none => .none
def F_lying_row : FT := fun ss k => ∃ (h : HouseL) (p kind o w : Nat) (rows : List (List Nat)), ss = [.d (dHouse h), .d (nI p), .d (nI kind), .d (nI o), .d (nI w), .d (dBox rows)] ∧ Wf h ∧ p < h.persons.length ∧ kind < nK h p ∧ o < nK h p ∧ w < nW h p kind ∧
  (∀ row ∈ rows, RowIn (sizes h) row) ∧ k (.d (dRowO (lyingRow h p kind o w rows))) ss
theorem mono_F_lying_row : MonoF F_lying_row := fun ss k k' hk ⟨h, r, x, n, y, y', e, a, c, d, f, g, g', q⟩ => ⟨h, r, x, n, y, y', e, a, c, d, f, g, g', hk _ _ q⟩
/-- lying_row: slots 0 house 1 person 2 kind 3 other 4 worth 5 rows 6 row 7 gain -/
def W_lying_row : ST := (sSeq (sFor (iSeq (eVar 5)) (gN 6) (sSeq (sSet 7 (eCall F_gain_between (.e (eVar 0) :: (.e (eVar 1) :: (.e (eVar 2) :: (.e (eVar 4) :: (.e (eVar 6) :: (.e (eCall F_reworded (.e (eVar 6) :: (.e (eVar 1) :: (.e (eVar 3) :: [])))) :: []))))))))
    (sIf (bBin gtD (eVar 7) (eIdxV 0 (eC (.int 4)))) (sRet (eVar 6)) sNext)))
    (sRet (eC .none)))
theorem ok_lying_row : BodyOk 8 W_lying_row F_lying_row := by
  rintro _ k ⟨h, p, kind, o, w, rows, rfl, wf, hp, hk, ho, hw, hr, q⟩
  simp [W_lying_row, entry]
  refine loop_find (c := fun row => if h.slack < gainB h p kind w row (row.set p o) then some row else none) (fun ρ => ∃ s6 s7, ρ = [.d (dHouse h), .d (nI p), .d (nI kind), .d (nI o), .d (nI w), .d (dBox rows), s6, s7]) ⟨.non, .non, rfl⟩ (fun hn ρ ⟨s6, s7, e⟩ => ?_) fun row hrow ρ N ⟨s6, s7, e⟩ hN hF => ?_
  · subst e
    unfold lyingRow at q
    rw [hn] at q
    simpa [dRowO] using q
  · subst e
    have hin := hr row hrow
    have hpl : p < row.length := by rw [hin.len, sizes_len]; exact hp
    have h4 := wf.np
    have hl : row.length ≤ 1000 := by rw [hin.len, sizes_len]; omega
    simp
    refine ⟨row, p, o, rfl, hpl, hl, ?_⟩
    simp
    refine ⟨h, p, kind, w, row, row.set p o, rfl, wf, hp, hk, hw, hin, hin.set (sizes_at hp).1 ho, ?_⟩
    simp
    by_cases z : h.slack < gainB h p kind w row (row.set p o)
    · simp [z]
      have hF' := hF row (by simp [z])
      unfold lyingRow at q
      rw [hF'] at q
      exact q
    · simp [z]
      exact hN (by simp [z]) _ ⟨_, _, rfl⟩
def F_first_lie_to : FT := fun ss k => ∃ (h : HouseL) (p kind o : Nat) (rows : List (List Nat)), ss = [.d (dHouse h), .d (nI p), .d (nI kind), .d (nI o), .d (dBox rows)] ∧ Wf h ∧ p < h.persons.length ∧ kind < nK h p ∧ o < nK h p ∧
  (∀ row ∈ rows, RowIn (sizes h) row) ∧ k (.d (dLie (firstLieTo h p kind o rows))) ss
theorem mono_F_first_lie_to : MonoF F_first_lie_to := fun ss k k' hk ⟨h, r, x, n, y, e, a, c, d, f, g, q⟩ => ⟨h, r, x, n, y, e, a, c, d, f, g, hk _ _ q⟩
theorem Wf.nW_le {h : HouseL} (wf : Wf h) {p k : Nat} (hp : p < h.persons.length) (hk : k < nK h p) : 1 ≤ nW h p k ∧ nW h p k ≤ 3 := by
  obtain ⟨P, K, e1, e2, e3, m1, m2⟩ := kindAt_of hp hk
  rw [nW_of e3]
  exact (wf.nr P m1 K m2).1
/-- first_lie_to: slots 0 house 1 person 2 kind 3 other 4 rows 5 worth 6 row -/
def W_first_lie_to : ST := (sSeq (sFor (iRg1 (eCall F_count_worths (.e (eVar 0) :: (.e (eVar 1) :: (.e (eVar 2) :: []))))) (gN 5) (sSeq (sSet 6 (eCall F_lying_row (.e (eVar 0) :: (.e (eVar 1) :: (.e (eVar 2) :: (.e (eVar 3) :: (.e (eVar 5) :: (.e (eVar 4) :: []))))))))
    (sIf (bIsN true (eVar 6)) (sRet (eTup (aCons (eVar 1) (aCons (eVar 2) (aCons (eVar 3) (aCons (eVar 5) (aCons (eVar 6) aNil))))))) sNext)))
    (sRet (eC .none)))
theorem ok_first_lie_to : BodyOk 7 W_first_lie_to F_first_lie_to := by
  rintro _ k ⟨h, p, kind, o, rows, rfl, wf, hp, hk, ho, hr, q⟩
  simp [W_first_lie_to, entry]
  refine ⟨h, p, kind, rfl, hp, hk, ?_⟩
  have h3 := (wf.nW_le hp hk).2
  simp [rgD_nat, rgB_nat (show nW h p kind ≤ 16777216 by omega)]
  refine loop_find (c := fun w => (lyingRow h p kind o w rows).map fun row => (p, kind, o, w, row)) (fun ρ => ∃ s5 s6, ρ = [.d (dHouse h), .d (nI p), .d (nI kind), .d (nI o), .d (dBox rows), s5, s6]) ⟨.non, .non, rfl⟩ (fun hn ρ ⟨s6, s7, e⟩ => ?_) fun w hw ρ N ⟨s6, s7, e⟩ hN hF => ?_
  · subst e
    unfold firstLieTo at q
    rw [hn] at q
    simpa [dLie] using q
  · subst e
    have hw' : w < nW h p kind := by simpa using hw
    simp
    refine ⟨h, p, kind, o, w, rows, rfl, wf, hp, hk, ho, hw', hr, ?_⟩
    simp
    cases z : lyingRow h p kind o w rows with
    | none =>
      simp [dRowO]
      exact hN (by simp [z]) _ ⟨_, _, rfl⟩
    | some row =>
      simp [dRowO, dNats]
      have hF' := hF (p, kind, o, w, row) (by simp [z])
      unfold firstLieTo at q
      rw [hF'] at q
      exact q
def F_first_lie_of : FT := fun ss k => ∃ (h : HouseL) (p kind : Nat), ss = [.d (dHouse h), .d (nI p), .d (nI kind)] ∧ Wf h ∧ p < h.persons.length ∧ kind < nK h p ∧ k (.d (dLie (firstLieOf h p kind))) ss
theorem mono_F_first_lie_of : MonoF F_first_lie_of := fun ss k k' hk ⟨h, r, x, e, a, c, d, q⟩ => ⟨h, r, x, e, a, c, d, hk _ _ q⟩
theorem isNone_lie (l : Option LieL) : isNoneD (dLie l) = l.isNone := by
  cases l <;> rfl
/-- first_lie_of: slots 0 house 1 person 2 kind 3 rows 4 other 5 lie -/
def W_first_lie_of : ST := (sSeq (sSet 3 (eCall F_rows_saying (.e (eVar 0) :: (.e (eVar 1) :: (.e (eVar 2) :: [])))))
    (sSeq (sFor (iSeq (eCall F_other_kinds (.e (eVar 0) :: (.e (eVar 1) :: (.e (eVar 2) :: []))))) (gN 4) (sSeq (sSet 5 (eCall F_first_lie_to (.e (eVar 0) :: (.e (eVar 1) :: (.e (eVar 2) :: (.e (eVar 4) :: (.e (eVar 3) :: [])))))))
    (sIf (bIsN true (eVar 5)) (sRet (eVar 5)) sNext)))
    (sRet (eC .none))))
theorem ok_first_lie_of : BodyOk 6 W_first_lie_of F_first_lie_of := by
  rintro _ k ⟨h, p, kind, rfl, wf, hp, hk, q⟩
  simp [W_first_lie_of, entry]
  refine ⟨h, p, kind, rfl, wf, hp, ?_⟩
  simp
  refine ⟨h, p, kind, rfl, wf, hp, ?_⟩
  simp
  refine loop_find (c := fun o => firstLieTo h p kind o (rowsSaying h p kind)) (fun ρ => ∃ s5 s6, ρ = [.d (dHouse h), .d (nI p), .d (nI kind), .d (dBox (rowsSaying h p kind)), s5, s6]) ⟨.non, .non, rfl⟩ (fun hn ρ ⟨s6, s7, e⟩ => ?_) fun o ho ρ N ⟨s6, s7, e⟩ hN hF => ?_
  · subst e
    unfold firstLieOf at q
    rw [hn] at q
    simpa [dLie] using q
  · subst e
    have ho' : o < nK h p := by
      unfold others at ho
      simp at ho
      exact ho.1
    simp
    refine ⟨h, p, kind, o, _, rfl, wf, hp, hk, ho', fun row hr => rowsSaying_in hp hk hr, ?_⟩
    simp [isNone_lie]
    cases z : firstLieTo h p kind o (rowsSaying h p kind) with
    | none =>
      simp
      exact hN z _ ⟨_, _, rfl⟩
    | some r =>
      simp
      have hF' := hF r z
      unfold firstLieOf at q
      rw [hF'] at q
      exact q
def F_first_lie : FT := fun ss k => ∃ (h : HouseL), ss = [.d (dHouse h)] ∧ Wf h ∧ k (.d (dLie (firstLie h))) ss
theorem mono_F_first_lie : MonoF F_first_lie := fun ss k k' hk ⟨h, e, a, q⟩ => ⟨h, e, a, hk _ _ q⟩
/-- first_lie: slots 0 house 1 person 2 kind 3 lie -/
def W_first_lie : ST := (sSeq (sFor (iRg1 (eCall F_count_of (.e (eVar 0) :: []))) (gN 1) (sFor (iRg1 (eCB lenD (aCons (eCall F_kinds_of (.e (eVar 0) :: (.e (eVar 1) :: []))) aNil))) (gN 2) (sSeq (sSet 3 (eCall F_first_lie_of (.e (eVar 0) :: (.e (eVar 1) :: (.e (eVar 2) :: [])))))
    (sIf (bIsN true (eVar 3)) (sRet (eVar 3)) sNext))))
    (sRet (eC .none)))
theorem ok_first_lie : BodyOk 4 W_first_lie F_first_lie := by
  rintro _ k ⟨h, rfl, wf, q⟩
  simp [W_first_lie, entry]
  refine ⟨h, rfl, ?_⟩
  simp [rgD_nat, wf.rg]
  refine loop_find (c := fun p => (List.range (nK h p)).findSome? fun k => firstLieOf h p k) (fun ρ => ∃ s1 s2 s3, ρ = [.d (dHouse h), s1, s2, s3]) ⟨.non, .non, .non, rfl⟩ (fun hn ρ ⟨s1, s2, s3, e⟩ => ?_) fun p hp ρ N ⟨s1, s2, s3, e⟩ hN hF => ?_
  · subst e
    unfold firstLie at q
    rw [hn] at q
    simpa [dLie] using q
  · subst e
    have hp' : p < h.persons.length := by simpa using hp
    obtain ⟨e1, P, e2, e3⟩ := sizes_at hp'
    have h8 := wf.nK_le p
    simp
    refine ⟨h, p, P, rfl, e2, ?_⟩
    simp [← e3, rgD_nat, rgB_nat (show nK h p ≤ 16777216 by omega)]
    refine loop_find (c := fun k => firstLieOf h p k) (fun ρ => ∃ s2 s3, ρ = [.d (dHouse h), .d (nI p), s2, s3]) ⟨_, _, rfl⟩ (fun hn ρ ⟨s2, s3, e⟩ => ?_) fun kind hk ρ N' ⟨s2, s3, e⟩ hN' hF' => ?_
    · subst e
      exact hN hn _ ⟨_, _, _, rfl⟩
    · subst e
      have hk' : kind < nK h p := by simpa using hk
      simp
      refine ⟨h, p, kind, rfl, wf, hp', hk', ?_⟩
      simp [isNone_lie]
      cases z : firstLieOf h p kind with
      | none =>
        simp
        exact hN' z _ ⟨_, _, rfl⟩
      | some r =>
        simp
        have h1 := hF r (hF' r z)
        unfold firstLie at q
        rw [h1] at q
        exact q
end Dl

set_option Elab.async false
set_option linter.all false
set_option maxRecDepth 100000
set_option autoImplicit false
set_option maxHeartbeats 2000000
namespace Dl
open PySem PySem.Spec PyProof.Rows L2

/-! ### draws -/
def F__law_begin : FT := fun ss k => ∃ ns : List Int, ss = [.scr ns] ∧ ns.length ≤ 63 ∧ k (.drw false) ss
theorem mono_F__law_begin : MonoF F__law_begin := fun ss k k' hk ⟨h, e, a, q⟩ => ⟨h, e, a, hk _ _ q⟩
@[simp] theorem int_i {j : Int} : intD [.int j] = some (.d (.int j)) := rfl
@[simp] theorem int_b {b : Bool} : intD [.bool b] = some (.d (.int (if b then 1 else 0))) := by cases b <;> rfl
@[simp] theorem x_draws {W : ST} {E : EndD} {ρ : Rho} : sDraws W E ρ = W (drawsE E) ρ := rfl
@[simp] theorem drawsE_nx {E : EndD} : (drawsE E).nx = E.nx := rfl
@[simp] theorem drawsE_rt {E : EndD} {xs : List D} {ρ : Rho} : (drawsE E).rt (.own false xs) ρ = (DrawInv xs ∧ E.rt (.drw false) ρ) := by
  refine propext ⟨fun ⟨ys, e, a, b⟩ => ?_, fun ⟨a, b⟩ => ⟨xs, rfl, a, b⟩⟩
  cases e
  exact ⟨a, b⟩
/-- _law_begin: slots 0 script 1 cell -/
def W__law_begin : ST := (sDraws (sRet (eLst (aCons (eLC (iScr 0) (gN 1) bYes (eCB intD (aCons (eVar 1) aNil)) [1]) (aCons (eC (.int 0)) (aCons (eC (.int 0)) (aCons (eC (.int 7)) aNil)))))))
theorem ok__law_begin : BodyOk 2 W__law_begin F__law_begin := by
  rintro _ k ⟨ns, rfl, hn, q⟩
  simp [W__law_begin, entry]
  refine ⟨by omega, ?_⟩
  refine lc_mapA (fun n => PyData.int n) (by simp) (fun n hn N M hN => ?_) ?_
  · simp
    exact hN
  · simp
    exact ⟨⟨ns, 0, 0, 7, rfl, by omega, by omega⟩, q⟩
def F__law_draw : FT := fun ss k => ∃ many : Nat, ss = [.drw true, .d (nI many)] ∧ 0 < many ∧ many < 1073741824 ∧ ∀ j : Nat, j < many → k (.d (nI j)) ss
theorem mono_F__law_draw : MonoF F__law_draw := fun ss k k' hk ⟨h, e, a, b, q⟩ => ⟨h, e, a, b, fun j hj => hk _ _ (q j hj)⟩
def openGo (o : Option Sl) (k : Bool → Prop) : Prop := match o with
  | some (.drw p) => k p
  | _ => False
@[simp] theorem openGo_d {p : Bool} {k : Bool → Prop} : openGo (some (.drw p)) k = k p := rfl
@[simp] theorem x_open {i : Nat} {W : ST} {E : EndD} {ρ : Rho} : sOpen i W E ρ = openGo ρ[i]? fun p => ∀ xs, DrawInv xs → W (openE i p E) (ρ.set i (.own p xs)) := by
  unfold sOpen
  cases h : ρ[i]? with
  | none => simp [openGo]
  | some s =>
    cases s <;> simp [openGo]
theorem openE_nx {i : Nat} {p : Bool} {E : EndD} {ρ : Rho} {ys : List D} (h : ρ[i]? = some (.own p ys)) (a : DrawInv ys) (b : E.nx (ρ.set i (.drw p))) : (openE i p E).nx ρ := ⟨ys, h, a, b⟩
theorem openE_rt {i : Nat} {p : Bool} {E : EndD} {ρ : Rho} {s : Sl} {ys : List D} (h : ρ[i]? = some (.own p ys)) (a : DrawInv ys) (b : E.rt s (ρ.set i (.drw p))) : (openE i p E).rt s ρ := ⟨ys, h, a, b⟩
@[simp] theorem x_augL1 {i : Nat} {b : Int} {E : EndD} {ρ : Rho} : sAugL i (eC (.int 1)) (eC (.int b)) E ρ = ownGo ρ[i]? fun p xs => ∃ m, xs[1]? = some (.int m) ∧ E.nx (ρ.set i (.own p (xs.set 1 (.int (m + b))))) := x_augL (n := 1)
theorem k_mod {k : Sl → List Sl → Prop} {ss : List Sl} {many : Nat} (h0 : 0 < many) (q : ∀ j : Nat, j < many → k (.d (nI j)) ss) (x : Int) : k (.d (.int (x % (many : Int)))) ss := by
  have h1 : 0 ≤ x % (many : Int) := Int.emod_nonneg _ (by omega)
  have h2 : x % (many : Int) < many := Int.emod_lt_of_pos _ (by omega)
  have := q (x % (many : Int)).toNat (by omega)
  unfold nI at this
  rwa [Int.toNat_of_nonneg h1] at this
theorem r_mul_r {a b : Int} (h : b.natAbs < 2 ^ 64) : mulD (.int a) (.int b) = some (.d (.int (a * b))) := r_mul (by
  unfold cMulB
  refine decide_eq_true (Or.inr ⟨by omega, by omega⟩))
theorem r_mul_l {a b : Int} (h : a.natAbs < 2 ^ 64) : mulD (.int a) (.int b) = some (.d (.int (a * b))) := r_mul (by
  unfold cMulB
  refine decide_eq_true (Or.inl ⟨by omega, by omega⟩))
theorem r_pow {a b : Int} (h : 0 ≤ b) (h1 : b ≤ 1000000) (h2 : a.natAbs < 2 ^ 64) : powD (.int a) (.int b) = some (.d (.int (a ^ b.toNat))) := by
  unfold powD intOp
  simp [h, h1, h2]
theorem r_shl {a b : Int} (h : 0 ≤ b) (h1 : b ≤ 1000000) (h2 : a.natAbs < 2 ^ 64) : shlD (.int a) (.int b) = some (.d (.int (a * 2 ^ b.toNat))) := by
  unfold shlD intOp
  simp [h, h1, h2]
theorem shl_pos : (0 : Int) < 1 * 2 ^ (6000 : Int).toNat := by
  rw [Int.one_mul]
  exact Int.pow_pos (by omega)
/-- _law_draw: slots 0 d 1 many 2 found 3 size 4 cell -/
def W__law_draw : ST := (sOpen 0 (sSeq (sIf (bBin gtD (eIdxV 0 (eC (.int 2))) (eC (.int 0))) (sSeq (sSet 2 (eIdxV 0 (eC (.int 2))))
    (sSeq (sPutL 0 (eC (.int 2)) (eBin fdivD (eVar 2) (eVar 1)))
    (sRet (eBin modD (eCB intD (aCons (eVar 2) aNil)) (eVar 1))))) sNext)
    (sSeq (sSet 3 (eC (.int 0)))
    (sSeq (sIf (bBin ltD (eIdxV 0 (eC (.int 1))) (eCB lenD (aCons (eIdxV 0 (eC (.int 0))) aNil))) (sSeq (sSet 4 (eBin idxS (eIdxV 0 (eC (.int 0))) (eIdxV 0 (eC (.int 1)))))
    (sSet 3 (eBin addD (eBin mulD (eC (.int 2)) (eCB absD (aCons (eVar 4) aNil))) (eCB intD (aCons (eBin ltD (eVar 4) (eC (.int 0))) aNil))))) sNext)
    (sSeq (sAugL 0 (eC (.int 1)) (eC (.int 1)))
    (sSeq (sIf (bBin geD (eVar 3) (eBin mulD (eC (.int 2)) (eBin powD (eC (.int 10)) (eC (.int 18))))) (sSeq (sSet 2 (eBin modD (eCB intD (aCons (eBin fdivD (eVar 3) (eC (.int 2))) aNil)) (eBin shlD (eC (.int 1)) (eC (.int 6000)))))
    (sSeq (sPutL 0 (eC (.int 2)) (eBin fdivD (eVar 2) (eVar 1)))
    (sRet (eBin modD (eCB intD (aCons (eVar 2) aNil)) (eVar 1))))) sNext)
    (sSeq (sPutL 0 (eC (.int 3)) (eBin modD (eCB intD (aCons (eBin addD (eBin addD (eBin addD (eBin mulD (eIdxV 0 (eC (.int 3))) (eC (.int 48271))) (eBin mulD (eBin modD (eCB intD (aCons (eVar 3) aNil)) (eC (.int 2147483629))) (eC (.int 16807)))) (eBin mulD (eIdxV 0 (eC (.int 1))) (eC (.int 69621)))) (eC (.int 11))) aNil)) (eC (.int 2147483647))))
    (sRet (eBin modD (eCB intD (aCons (eBin fdivD (eIdxV 0 (eC (.int 3))) (eC (.int 16))) aNil)) (eVar 1))))))))))
theorem ok__law_draw : BodyOk 5 W__law_draw F__law_draw := by
  rintro _ k ⟨many, rfl, h0, h1, q⟩
  have hm : (0 : Int) < (many : Int) := by omega
  have hm1 : (many : Int) < 1073741824 := by omega
  have kk := k_mod h0 q
  simp [W__law_draw, entry]
  rintro xs ⟨cs, i, b, s, rfl, hi, hc⟩
  simp [atI, ixN, r_fdiv hm hm1, r_mod hm]
  split
  · refine openE_rt rfl ⟨cs, i, b / many, s, rfl, hi, hc⟩ ?_
    simp
    exact kk _
  · have c18 : (10 : Int) ^ (18 : Int).toNat = 1000000000000000000 := by decide
    have pw : powD (.int 10) (.int 18) = some (.d (.int 1000000000000000000)) := by
      rw [r_pow (by omega) (by omega) (by decide), c18]
    by_cases hlt : i < cs.length
    · obtain ⟨c, hc'⟩ : ∃ c, cs[i.toNat]? = some c := ⟨_, List.getElem?_eq_getElem (by omega)⟩
      simp [hlt, hc', absD, r_mul_l (show (2 : Int).natAbs < 2 ^ 64 by decide), pw]
      generalize (2 * if c < 0 then -c else c) + (if c < 0 then 1 else 0) = size
      split
      · simp [r_fdiv (show (0 : Int) < 2 by omega) (show (2 : Int) < 1073741824 by omega), r_shl (show (0 : Int) ≤ 6000 by omega) (show (6000 : Int) ≤ 1000000 by omega) (show (1 : Int).natAbs < 2 ^ 64 by decide), r_mod shl_pos, ixN, r_fdiv hm hm1, r_mod hm, -Int.reducePow, -Int.reduceToNat, -Int.one_mul]
        refine openE_rt rfl ⟨cs, i + 1, _, s, rfl, by omega, hc⟩ ?_
        simp
        exact kk _
      · simp [ixN, atI, r_mod (show (0 : Int) < 2147483629 by omega), r_mod (show (0 : Int) < 2147483647 by omega), r_mul_r (show (48271 : Int).natAbs < 2 ^ 64 by decide), r_mul_r (show (16807 : Int).natAbs < 2 ^ 64 by decide), r_mul_r (show (69621 : Int).natAbs < 2 ^ 64 by decide), r_fdiv (show (0 : Int) < 16 by omega) (show (16 : Int) < 1073741824 by omega), r_mod hm]
        refine openE_rt rfl ⟨cs, i + 1, b, _, rfl, by omega, hc⟩ ?_
        simp
        exact kk _
    · simp [hlt, r_mul_l (show (2 : Int).natAbs < 2 ^ 64 by decide), pw]
      simp [ixN, atI, r_mod (show (0 : Int) < 2147483629 by omega), r_mod (show (0 : Int) < 2147483647 by omega), r_mul_r (show (48271 : Int).natAbs < 2 ^ 64 by decide), r_mul_r (show (16807 : Int).natAbs < 2 ^ 64 by decide), r_mul_r (show (69621 : Int).natAbs < 2 ^ 64 by decide), r_fdiv (show (0 : Int) < 16 by omega) (show (16 : Int) < 1073741824 by omega), r_mod hm]
      refine openE_rt rfl ⟨cs, i + 1, b, _, rfl, by omega, hc⟩ ?_
      simp
      exact kk _
def SeqOf (x : D) (xs : List D) : Prop := x = .list xs ∨ x = .tuple xs
def F__law_pick : FT := fun ss k => ∃ (x : D) (xs : List D), SeqOf x xs ∧ ss = [.drw true, .d x] ∧ 0 < xs.length ∧ xs.length < 1073741824 ∧ ∀ y ∈ xs, k (.d y) ss
theorem mono_F__law_pick : MonoF F__law_pick := fun ss k k' hk ⟨x, xs, a, b, c, d, q⟩ => ⟨x, xs, a, b, c, d, fun y hy => hk _ _ (q y hy)⟩
theorem len__law_pick (ss : List Sl) (k : Sl → List Sl → Prop) (h : F__law_pick ss k) : ss.length = 2 := by
  obtain ⟨_, _, _, rfl, _⟩ := h
  rfl
/-- _law_pick: slots 0 d 1 row -/
def W__law_pick : ST := (sRet (eIdxV 1 (eCall F__law_draw (.r 0 :: (.e (eLenV 1) :: [])))))
theorem ok__law_pick : BodyOk 2 W__law_pick F__law_pick := by
  rintro _ k ⟨x, xs, hx, rfl, h0, h1, q⟩
  have hl : lenN x = some xs.length := by rcases hx with rfl | rfl <;> rfl
  simp [W__law_pick, entry, hl]
  refine ⟨xs.length, rfl, h0, h1, fun j hj => ?_⟩
  have hi : idxD x (nI j) = some xs[j] := by
    rcases hx with rfl | rfl <;> simp [at_nat, hj]
  simp [hi]
  exact q _ (List.getElem_mem hj)
def F__law_pop : FT := fun ss k => ∃ xs : List D, ss = [.drw true, .own true xs] ∧ 0 < xs.length ∧ xs.length < 1073741824 ∧ ∀ (j : Nat) (y : D), xs[j]? = some y → k (.d y) [.drw true, .own true (xs.eraseIdx j)]
theorem mono_F__law_pop : MonoF F__law_pop := fun ss k k' hk ⟨xs, b, c, d, q⟩ => ⟨xs, b, c, d, fun j y hy => hk _ _ (q j y hy)⟩
/-- _law_pop: slots 0 d 1 row -/
def W__law_pop : ST := (sRet (ePopAt 1 (eCall F__law_draw (.r 0 :: (.e (eLenV 1) :: [])))))
theorem ok__law_pop : BodyOk 2 W__law_pop F__law_pop := by
  rintro _ k ⟨xs, rfl, h0, h1, q⟩
  simp [W__law_pop, entry]
  refine ⟨xs.length, rfl, h0, h1, fun j hj => ?_⟩
  have e := List.getElem?_eq_getElem hj
  simp
  exact ⟨_, e, q _ _ e⟩
def F__law_rare : FT := fun ss k => ∃ many : Nat, ss = [.drw true, .d (nI many)] ∧ 0 < many ∧ many < 1073741824 ∧ ∀ b : Bool, k (.d (.bool b)) ss
theorem mono_F__law_rare : MonoF F__law_rare := fun ss k k' hk ⟨xs, b, c, d, q⟩ => ⟨xs, b, c, d, fun y => hk _ _ (q y)⟩
/-- _law_rare: slots 0 d 1 many -/
def W__law_rare : ST := (sRet (eBin eqD (eCall F__law_draw (.r 0 :: (.e (eVar 1) :: []))) (eBin fdivD (eVar 1) (eC (.int 2)))))
theorem ok__law_rare : BodyOk 2 W__law_rare F__law_rare := by
  rintro _ k ⟨many, rfl, h0, h1, q⟩
  simp [W__law_rare, entry]
  refine ⟨many, rfl, h0, h1, fun j hj => ?_⟩
  simp [r_fdiv (show (0 : Int) < 2 by omega) (show (2 : Int) < 1073741824 by omega)]
  exact q _
def poolText : Str := (("a b2 give low z9z slack n m8 aa kind worth p t4 even2 ab1 head u v2 w lowest high mid claim person " : Str) ++ ("s t e f g h i j k x y q7 deep turn watch l5 hold outcome o c0 d two zz1 near far9 last any2 " : Str)) ++ ("abcdefghijkl b c1 top2 a99999999999 row col7 v k0 k1 p0 yes no o1" : Str)
def pool : List Str := Txt.split poolText " "
theorem pool_len : pool.length = 65 := by
  have h := split_len poolText 32
  have e : (⟨#[32]⟩ : Str) = (" " : Str) := by decide +kernel
  have c : cnt 32 poolText.cps.toList = 64 := by decide +kernel
  rw [e, c] at h
  unfold pool
  omega
def F__law_pool : FT := fun ss k => ss = [] ∧ k (.own false (pool.map .str)) ss
theorem mono_F__law_pool : MonoF F__law_pool := fun ss k k' hk ⟨xs, q⟩ => ⟨xs, hk _ _ q⟩
theorem len__law_pool (ss : List Sl) (k : Sl → List Sl → Prop) (h : F__law_pool ss k) : ss.length = 0 := by
  obtain ⟨rfl, _⟩ := h
  rfl
/-- _law_pool: slots 0 text -/
def W__law_pool : ST := (sSeq (sSet 0 (eC (.str "a b2 give low z9z slack n m8 aa kind worth p t4 even2 ab1 head u v2 w lowest high mid claim person ")))
    (sSeq (sSet 0 (eBin addD (eVar 0) (eC (.str "s t e f g h i j k x y q7 deep turn watch l5 hold outcome o c0 d two zz1 near far9 last any2 "))))
    (sRet (eSplit (eBin addD (eVar 0) (eC (.str "abcdefghijkl b c1 top2 a99999999999 row col7 v k0 k1 p0 yes no o1"))) (eC (.str " "))))))
theorem x_split {Ta Tb : ET} {ρ : Rho} {k : Sl → Rho → Prop} : eSplit Ta Tb ρ k = Ta ρ (asD fun x ρ1 => ∃ y : Str, x = .str y ∧ Tb ρ1 (asD fun z ρ2 => ∃ b : Str, z = .str b ∧ (b.length == 0) = false ∧ y.length + 2 ≤ sizeLine ∧ (Txt.split y b).length ≤ sizeLine ∧ k (.own false ((Txt.split y b).map .str)) ρ2)) := rfl
theorem pool_lens : (("a b2 give low z9z slack n m8 aa kind worth p t4 even2 ab1 head u v2 w lowest high mid claim person " : Str).length = 99) ∧ (("s t e f g h i j k x y q7 deep turn watch l5 hold outcome o c0 d two zz1 near far9 last any2 " : Str).length = 92) ∧
  (("abcdefghijkl b c1 top2 a99999999999 row col7 v k0 k1 p0 yes no o1" : Str).length = 65) ∧ poolText.length = 256 ∧ (" " : Str).length = 1 ∧ ((("a b2 give low z9z slack n m8 aa kind worth p t4 even2 ab1 head u v2 w lowest high mid claim person " : Str) ++ ("s t e f g h i j k x y q7 deep turn watch l5 hold outcome o c0 d two zz1 near far9 last any2 " : Str)).length = 191) := by decide +kernel
theorem ok__law_pool : BodyOk 1 W__law_pool F__law_pool := by
  rintro _ k ⟨rfl, q⟩
  obtain ⟨l1, l2, l3, l4, l5, l6⟩ := pool_lens
  have hp := pool_len
  unfold pool at hp q
  unfold poolText at l4 hp q
  simp [W__law_pool, entry, x_split, l1, l2, l3, l4, l5, l6, hp]
  exact q
end Dl

set_option Elab.async false
set_option linter.all false
set_option maxRecDepth 100000
set_option autoImplicit false
set_option maxHeartbeats 2000000
namespace Dl
open PySem PySem.Spec PyProof.Rows L2

/-! ### numbers, sizes, rows -/
def F__law_number : FT := fun ss k => ss = [.drw true] ∧ ∀ x : Int, k (.d (.int x)) ss
theorem mono_F__law_number : MonoF F__law_number := fun ss k k' hk ⟨a, q⟩ => ⟨a, fun x => hk _ _ (q x)⟩
/-- _law_number: slots 0 d -/
def W__law_number : ST := (sSeq (sIf (bBin eqD (eCall F__law_draw (.r 0 :: (.e (eC (.int 40)) :: []))) (eC (.int 17))) (sRet (eBin mulD (eBin subD (eCall F__law_draw (.r 0 :: (.e (eC (.int 2000001)) :: []))) (eC (.int 1000000))) (eC (.int 1000000)))) sNext)
    (sRet (eBin subD (eCall F__law_draw (.r 0 :: (.e (eC (.int 7)) :: []))) (eC (.int 3)))))
theorem ok__law_number : BodyOk 1 W__law_number F__law_number := by
  rintro _ k ⟨rfl, q⟩
  simp [W__law_number, entry]
  refine ⟨40, rfl, by omega, by omega, fun j hj => ?_⟩
  simp
  split
  · refine ⟨2000001, rfl, by omega, by omega, fun j hj => ?_⟩
    simp [r_mul_r (show (1000000 : Int).natAbs < 2 ^ 64 by decide)]
    exact q _
  · refine ⟨7, rfl, by omega, by omega, fun j hj => ?_⟩
    simp
    exact q _
def F__law_far : FT := fun ss k => ss = [.drw true] ∧ ∀ x : Int, k (.d (.int x)) ss
theorem mono_F__law_far : MonoF F__law_far := fun ss k k' hk ⟨a, q⟩ => ⟨a, fun x => hk _ _ (q x)⟩
/-- _law_far: slots 0 d -/
def W__law_far : ST := (sSeq (sIf (bBin eqD (eCall F__law_draw (.r 0 :: (.e (eC (.int 4)) :: []))) (eC (.int 1))) (sRet (eCall F__law_pick (.r 0 :: (.e (eLst (aCons (eBin powD (eC (.int 10)) (eC (.int 12))) (aCons (eBin subD (eC (.int 0)) (eBin powD (eC (.int 10)) (eC (.int 12)))) (aCons (eBin subD (eBin powD (eC (.int 10)) (eC (.int 12))) (eC (.int 1))) aNil)))) :: [])))) sNext)
    (sRet (eBin addD (eBin mulD (eBin subD (eCall F__law_draw (.r 0 :: (.e (eC (.int 1999999)) :: []))) (eC (.int 999999))) (eC (.int 1000000))) (eCall F__law_draw (.r 0 :: (.e (eC (.int 1000000)) :: []))))))
theorem ok__law_far : BodyOk 1 W__law_far F__law_far := by
  rintro _ k ⟨rfl, q⟩
  have pw : powD (.int 10) (.int 12) = some (.d (.int 1000000000000)) := by
    rw [r_pow (by omega) (by omega) (by decide)]
    rfl
  simp [W__law_far, entry]
  refine ⟨4, rfl, by omega, by omega, fun j hj => ?_⟩
  simp [pw]
  split
  · refine ⟨_, _, Or.inl rfl, rfl, by simp, by simp, fun y hy => ?_⟩
    simp at hy
    rcases hy with rfl | rfl | rfl <;> exact q _
  · refine ⟨1999999, rfl, by omega, by omega, fun j hj => ?_⟩
    simp [r_mul_r (show (1000000 : Int).natAbs < 2 ^ 64 by decide)]
    refine ⟨1000000, rfl, by omega, by omega, fun j hj => ?_⟩
    simp
    exact q _
structure SizesOk (ms : List Nat) : Prop where
  len : 1 ≤ ms.length ∧ ms.length ≤ 4
  each : ∀ m ∈ ms, 1 ≤ m ∧ m ≤ 8
def F__law_sizes : FT := fun ss k => ∃ limit : Nat, ss = [.drw true, .d (nI limit)] ∧ 1 ≤ limit ∧ ∀ ms, SizesOk ms → prodN ms ≤ limit → k (.d (dNats ms)) ss
theorem mono_F__law_sizes : MonoF F__law_sizes := fun ss k k' hk ⟨a, b, c, q⟩ => ⟨a, b, c, fun x h1 h2 => hk _ _ (q x h1 h2)⟩
def menu : List (List Nat) := [[2, 2], [3, 2], [2, 2, 2], [2, 3], [3, 3], [1, 3], [2, 1, 2], [4, 2], [3], [2, 3, 2], [1], [2, 5], [3, 4], [2, 2, 3], [1, 1], [2, 2, 2, 2], [6, 2], [3, 2, 3], [4, 4], [8, 2], [1, 2, 1, 3], [3, 3, 2], [3, 3, 3], [2, 8], [4, 2, 3], [5, 5], [2, 2, 2, 4], [8, 3], [4, 3, 3], [8, 8], [4, 4, 4]]
theorem menu_ok : ∀ ms ∈ menu, SizesOk ms := by
  have h : (menu.all fun ms => decide ((1 ≤ ms.length ∧ ms.length ≤ 4) ∧ ∀ m ∈ ms, 1 ≤ m ∧ m ≤ 8)) = true := by decide +kernel
  intro ms hm
  have := of_decide_eq_true (List.all_eq_true.mp h ms hm)
  exact ⟨this.1, this.2⟩
theorem prodN_snoc (l : List Nat) (m : Nat) : prodN (l ++ [m]) = prodN l * m := by
  induction l with
  | nil => simp [prodN]
  | cons a l ih => simp [prodN, ih, Nat.mul_assoc]
/-- the product loop -/
theorem prod_loop {E : EndD} {ms : List Nat} {x0 x1 x2 x3 x4 s6 : Sl} (hm : ∀ m ∈ ms, m ≤ 100000) (hn : ∀ s6, E.nx [x0, x1, x2, x3, x4, .d (nI (prodN ms)), s6]) :
    loopW (gN 6) (sSet 5 (eBin mulD (eVar 5) (eVar 6))) E (ms.map nI) [x0, x1, x2, x3, x4, .d (.int 1), s6] := by
  refine loop_idx (fun i ρ => ∃ s6, ρ = [x0, x1, x2, x3, x4, .d (nI (prodN (ms.take i))), s6]) ⟨s6, rfl⟩ (fun ρ ⟨s6, e⟩ => ?_) fun i d hd ρ N hN ⟨s6, e⟩ => ?_
  · subst e
    have := hn s6
    simpa using this
  · subst e
    obtain ⟨m, hm', rfl⟩ := at_map hd
    have h := hm m (List.mem_of_getElem? hm')
    simp [mul_nat h]
    refine hN _ ⟨.d (nI m), ?_⟩
    rw [show ms.take (i + 1) = ms.take i ++ [m] by rw [List.take_succ, hm']; rfl, prodN_snoc]
    simp
/-- _law_sizes: slots 0 d 1 limit 2 menu 3 found 4 sizes 5 rows 6 many -/
def W__law_sizes : ST := (sSeq (sSet 2 (eKL [.tuple [.int 2, .int 2], .tuple [.int 3, .int 2], .tuple [.int 2, .int 2, .int 2], .tuple [.int 2, .int 3], .tuple [.int 3, .int 3], .tuple [.int 1, .int 3], .tuple [.int 2, .int 1, .int 2], .tuple [.int 4, .int 2], .tuple [.int 3], .tuple [.int 2, .int 3, .int 2], .tuple [.int 1], .tuple [.int 2, .int 5]]))
    (sSeq (sSet 2 (eBin addD (eVar 2) (eKL [.tuple [.int 3, .int 4], .tuple [.int 2, .int 2, .int 3], .tuple [.int 1, .int 1], .tuple [.int 2, .int 2, .int 2, .int 2], .tuple [.int 6, .int 2], .tuple [.int 3, .int 2, .int 3], .tuple [.int 4, .int 4], .tuple [.int 8, .int 2], .tuple [.int 1, .int 2, .int 1, .int 3]])))
    (sSeq (sSet 2 (eBin addD (eVar 2) (eKL [.tuple [.int 3, .int 3, .int 2], .tuple [.int 3, .int 3, .int 3], .tuple [.int 2, .int 8], .tuple [.int 4, .int 2, .int 3], .tuple [.int 5, .int 5], .tuple [.int 2, .int 2, .int 2, .int 4], .tuple [.int 8, .int 3], .tuple [.int 4, .int 3, .int 3], .tuple [.int 8, .int 8], .tuple [.int 4, .int 4, .int 4]])))
    (sSeq (sSet 3 (eLst aNil))
    (sSeq (sFor (iSeq (eVar 2)) (gN 4) (sSeq (sSet 5 (eC (.int 1)))
    (sSeq (sFor (iSeq (eVar 4)) (gN 6) (sSet 5 (eBin mulD (eVar 5) (eVar 6))))
    (sIf (bBin leD (eVar 5) (eVar 1)) (sExpr (eApp 3 (eVar 4))) sNext))))
    (sRet (eCall F__law_pick (.r 0 :: (.e (eVar 3) :: [])))))))))
theorem ok__law_sizes : BodyOk 7 W__law_sizes F__law_sizes := by
  rintro _ k ⟨limit, rfl, h1, q⟩
  simp [W__law_sizes, entry]
  have eM : ([.tuple [.int 2, .int 2], .tuple [.int 3, .int 2], .tuple [.int 2, .int 2, .int 2], .tuple [.int 2, .int 3], .tuple [.int 3, .int 3], .tuple [.int 1, .int 3], .tuple [.int 2, .int 1, .int 2], .tuple [.int 4, .int 2], .tuple [.int 3], .tuple [.int 2, .int 3, .int 2], .tuple [.int 1], .tuple [.int 2, .int 5], .tuple [.int 3, .int 4], .tuple [.int 2, .int 2, .int 3], .tuple [.int 1, .int 1], .tuple [.int 2, .int 2, .int 2, .int 2], .tuple [.int 6, .int 2], .tuple [.int 3, .int 2, .int 3], .tuple [.int 4, .int 4], .tuple [.int 8, .int 2], .tuple [.int 1, .int 2, .int 1, .int 3], .tuple [.int 3, .int 3, .int 2], .tuple [.int 3, .int 3, .int 3], .tuple [.int 2, .int 8], .tuple [.int 4, .int 2, .int 3], .tuple [.int 5, .int 5], .tuple [.int 2, .int 2, .int 2, .int 4], .tuple [.int 8, .int 3], .tuple [.int 4, .int 3, .int 3], .tuple [.int 8, .int 8], .tuple [.int 4, .int 4, .int 4]] : List D) = menu.map dNats := rfl
  rw [eM]
  refine loop_idx (fun i ρ => ∃ s4 s5 s6 fs, ρ = [.drw true, .d (nI limit), .d (.list (menu.map dNats)), .own false (fs.map dNats), s4, s5, s6] ∧ fs.length ≤ i ∧ (∀ ms ∈ fs, SizesOk ms ∧ prodN ms ≤ limit) ∧ (11 ≤ i → 0 < fs.length)) ⟨.non, .non, .non, [], rfl, by simp, by simp, by omega⟩ (fun ρ ⟨s4, s5, s6, fs, e, a, b, c⟩ => ?_) fun i d hd ρ N hN ⟨s4, s5, s6, fs, e, a, b, c⟩ => ?_
  · subst e
    have hl : (menu.map dNats).length = 31 := rfl
    rw [hl] at a c
    simp
    refine ⟨_, _, Or.inl rfl, rfl, by simp; exact c (by omega), by simp; omega, fun y hy => ?_⟩
    obtain ⟨ms, hm, rfl⟩ := List.mem_map.mp hy
    exact q ms (b ms hm).1 (b ms hm).2
  · subst e
    have hi : i < 31 := (List.getElem?_eq_some_iff.mp hd).1
    obtain ⟨ms, hm, rfl⟩ := at_map hd
    have hmo := menu_ok ms (List.mem_of_getElem? hm)
    simp
    refine prod_loop (fun m h => by have := (hmo.each m h).2; omega) fun s6 => ?_
    simp
    split
    · rename_i hle
      refine ⟨by omega, hN _ ⟨.d (dNats ms), .d (nI (prodN ms)), s6, fs ++ [ms], by simp, by simp; omega, fun z hz => ?_, fun _ => by simp⟩⟩
      rcases List.mem_append.mp hz with hz | hz
      · exact b z hz
      · have : z = ms := by simpa using hz
        subst this
        exact ⟨hmo, hle⟩
    · rename_i hle
      refine hN _ ⟨_, _, _, fs, rfl, by omega, b, fun h11 => ?_⟩
      by_cases h10 : i = 10
      · subst h10
        have : ms = [1] := by
          have e : menu[10]? = some [1] := rfl
          rw [e] at hm
          exact (Option.some.inj hm).symm
        subst this
        exact absurd h1 (by simpa [prodN] using hle)
      · exact c (by omega)
def BoxOf (x : D) (b : List (List Nat)) : Prop := x = dBox b ∨ x = .list (b.map fun p => .list (p.map nI))
def F__law_rows : FT := fun ss k => ∃ (x : D) (b : List (List Nat)), BoxOf x b ∧ ss = [.d x] ∧ b.length ≤ 4 ∧ (∀ p ∈ b, p.length ≤ 8) ∧ k (.d (.list ((comb b).map dNats))) ss
theorem mono_F__law_rows : MonoF F__law_rows := fun ss k k' hk ⟨x, b, a, c, d, e, q⟩ => ⟨x, b, a, c, d, e, hk _ _ q⟩
theorem len__law_rows (ss : List Sl) (k : Sl → List Sl → Prop) (h : F__law_rows ss k) : ss.length = 1 := by
  obtain ⟨_, _, _, rfl, _⟩ := h
  rfl
/-- _law_rows: slots 0 box 1 rows 2 share 3 longer 4 row 5 kind -/
def W__law_rows : ST := (sSeq (sSet 1 (eLst (aCons (eTup aNil) aNil)))
    (sSeq (sFor (iSeq (eVar 0)) (gN 2) (sSeq (sSet 3 (eLst aNil))
    (sSeq (sFor (iSeq (eVar 1)) (gN 4) (sExpr (eExt 3 (eLC (iSeq (eVar 2)) (gN 5) bYes (eBin addD (eVar 4) (eTup (aCons (eVar 5) aNil))) [5]))))
    (sSet 1 (eVar 3)))))
    (sRet (eVar 1))))
theorem ok__law_rows : BodyOk 6 W__law_rows F__law_rows := by
  rintro _ k ⟨x, b, hx, rfl, h1, h2, q⟩
  obtain ⟨f, ef, hf⟩ : ∃ f : List Nat → D, (∀ (k : List D → Rho → Prop) ρ, seqD k x ρ = k (b.map f) ρ) ∧ (∀ p (k : List D → Rho → Prop) ρ, seqD k (f p) ρ = k (p.map nI) ρ) := by
    rcases hx with rfl | rfl
    · exact ⟨dNats, fun _ _ => rfl, fun _ _ _ => rfl⟩
    · exact ⟨fun p => .list (p.map nI), fun _ _ => rfl, fun _ _ _ => rfl⟩
  simp [W__law_rows, entry, ef]
  refine loop_idx (fun i ρ => ∃ s1 s2 s3 s4, (s1 = .own false ((comb (b.take i)).map dNats) ∨ s1 = .d (.list ((comb (b.take i)).map dNats))) ∧ ρ = [.d x, s1, s2, s3, s4, .non]) ⟨_, .non, .non, .non, Or.inl rfl, rfl⟩ (fun ρ ⟨s1, s2, s3, s4, hs, e⟩ => ?_) fun i d hd ρ N hN ⟨s1, s2, s3, s4, hs, e⟩ => ?_
  · subst e
    simp at hs
    rcases hs with rfl | rfl <;> simp <;> exact q
  · subst e
    obtain ⟨p, hp, rfl⟩ := at_map hd
    have hl := comb_le h1 h2 (i + 1)
    have ht : b.take (i + 1) = b.take i ++ [p] := by rw [List.take_succ, hp]; rfl
    rw [ht, comb_snoc] at hl
    have hr : ∀ row ∈ comb (b.take i), row.length ≤ 4 := fun row hrow => by
      have := comb_rows hrow
      rw [List.length_take] at this
      omega
    rcases hs with rfl | rfl <;> simp
    all_goals
      refine loop_idx (fun j ρ => ∃ s4, ρ = [.d x, .d (.list ((comb (b.take i)).map dNats)), .d (f p), .own false ((((comb (b.take i)).take j).flatMap fun row => p.map fun t => row ++ [t]).map dNats), s4, .non]) ⟨_, rfl⟩ (fun ρ ⟨s4, e⟩ => ?_) fun j d hd ρ N' hN' ⟨s4, e⟩ => ?_
      · subst e
        have e3 : ((comb (b.take i)).take ((comb (b.take i)).map dNats).length) = comb (b.take i) := by simp
        rw [e3]
        simp
        refine hN _ ⟨.d (.list ((comb (b.take (i + 1))).map dNats)), .d (f p), .d (.list ((comb (b.take (i + 1))).map dNats)), s4, Or.inr rfl, ?_⟩
        rw [ht, comb_snoc]
      · subst e
        obtain ⟨row, hrow, rfl⟩ := at_map hd
        have hrl := hr row (List.mem_of_getElem? hrow)
        simp [hf]
        refine lc_mapA (fun t => dNats (row ++ [t])) (by simp) (fun t ht N M hN => ?_) ?_
        · simp [dNats, show row.length + 1 ≤ 16777216 by omega]
          simpa [dNats] using hN
        · have hj : (comb (b.take i)).take (j + 1) = (comb (b.take i)).take j ++ [row] := by rw [List.take_succ, hrow]; rfl
          have hlen : ((((comb (b.take i)).take j).flatMap fun row => p.map fun t => row ++ [t]).map dNats).length + (p.map fun t => dNats (row ++ [t])).length ≤ 16777216 := by
            have e1 := flatMap_len (f := fun row : List Nat => p.map fun t => row ++ [t]) (n := p.length) (l := (comb (b.take i)).take j) (fun _ _ => by simp)
            have e2 := flatMap_len (f := fun row : List Nat => p.map fun t => row ++ [t]) (n := p.length) (l := comb (b.take i)) (fun _ _ => by simp)
            rw [List.length_map, List.length_map, e1]
            rw [e2] at hl
            have h8 := h2 p (List.mem_of_getElem? hp)
            have hjl : ((comb (b.take i)).take j).length ≤ (comb (b.take i)).length := by rw [List.length_take]; omega
            have := Nat.mul_le_mul_right p.length hjl
            omega
          simp only [List.nil_append, x_asD_own, lstGo_l, List.getElem?_cons_succ, List.getElem?_cons_zero, ownGo_o, x_line]
          refine ⟨hlen, ?_⟩
          simp
          refine hN' _ ⟨.d (dNats row), ?_⟩
          rw [hj]
          simp [List.flatMap_append]
end Dl

set_option Elab.async false
set_option linter.all false
set_option maxRecDepth 100000
set_option autoImplicit false
set_option maxHeartbeats 2000000
namespace Dl
open PySem PySem.Spec PyProof.Rows L2

def F__law_watching : FT := fun ss k => ∃ person many : Nat, ss = [.drw true, .d (nI person), .d (nI many)] ∧ many ≤ 1000 ∧ ∀ ws : List Nat, ws.Sublist (List.range many) → person ∉ ws → k (.d (dNats ws)) ss
theorem mono_F__law_watching : MonoF F__law_watching := fun ss k k' hk ⟨a, b, c, d, q⟩ => ⟨a, b, c, d, fun x h1 h2 => hk _ _ (q x h1 h2)⟩
/-- _law_watching: slots 0 d 1 person 2 many 3 other -/
def W__law_watching : ST := (sSeq (sIf (bBin neD (eCall F__law_draw (.r 0 :: (.e (eC (.int 3)) :: []))) (eC (.int 1))) (sRet (eTup aNil)) sNext)
    (sRet (eCB tupD (aCons (eLC (iRg1 (eVar 2)) (gN 3) ((bAnd (bBin neD (eVar 3) (eVar 1)) (bBin eqD (eCall F__law_draw (.r 0 :: (.e (eC (.int 2)) :: []))) (eC (.int 1))))) (eVar 3) [3]) aNil))))
theorem ok__law_watching : BodyOk 4 W__law_watching F__law_watching := by
  rintro _ k ⟨person, many, rfl, hm, q⟩
  simp [W__law_watching, entry]
  refine ⟨3, rfl, by omega, by omega, fun j hj => ?_⟩
  simp
  split
  · simp [rgD_nat, rgB_nat (show many ≤ 16777216 by omega)]
    refine lc_st (fun pre acc ρ => ρ = [.drw true, .d (nI person), .d (nI many), .non] ∧ ∃ ws : List Nat, acc = ws.map nI ∧ ws.Sublist pre ∧ person ∉ ws) (by simp) ⟨rfl, [], rfl, by simp, by simp⟩ (fun pre o post acc ρ e h N M hN hM => ?_) fun acc ρ h => ?_
    · obtain ⟨rfl, ws, rfl, hs, hp⟩ := h
      simp
      split
      · exact hM _ ⟨rfl, ws, rfl, hs.trans (by simp), hp⟩
      · rename_i hne
        refine ⟨2, rfl, by omega, by omega, fun j hj => ?_⟩
        simp
        split
        · exact hN _ _ ⟨rfl, ws ++ [o], by simp, hs.append (List.Sublist.refl _), by simp [hp]; exact fun z => hne z.symm⟩
        · exact hM _ ⟨rfl, ws, rfl, hs.trans (by simp), hp⟩
    · obtain ⟨rfl, ws, rfl, hs, hp⟩ := h
      simp
      exact q ws hs hp
  · exact q [] (by simp) (by simp)
def F__law_narrowed : FT := fun ss k => ∃ (b : List (List Nat)) (p : Nat) (ks : List Nat), ss = [.d (dBox b), .d (nI p), .d (dNats ks)] ∧ p < b.length ∧ b.length ≤ 1000 ∧ k (.d (dBox (b.set p ks))) ss
theorem mono_F__law_narrowed : MonoF F__law_narrowed := fun ss k k' hk ⟨a, b, c, d, e, f, q⟩ => ⟨a, b, c, d, e, f, hk _ _ q⟩
/-- _law_narrowed: slots 0 box 1 person 2 kinds -/
def W__law_narrowed : ST := (sRet (eBin addD (eBin addD (eCB tupD (aCons (eSl (eVar 0) oNone (oSome (eVar 1))) aNil)) (eTup (aCons (eCB tupD (aCons (eVar 2) aNil)) aNil))) (eCB tupD (aCons (eSl (eVar 0) (oSome (eBin addD (eVar 1) (eC (.int 1)))) oNone) aNil))))
theorem ok__law_narrowed : BodyOk 3 W__law_narrowed F__law_narrowed := by
  rintro _ k ⟨b, p, ks, rfl, hp, hl, q⟩
  have e : (b.map dNats).take p ++ dNats ks :: (b.map dNats).drop (p + 1) = (b.set p ks).map dNats := by
    rw [List.set_eq_take_append_cons_drop, if_pos hp]
    simp
  have e0 : tupD [dNats ks] = some (.d (dNats ks)) := rfl
  simp [W__law_narrowed, entry, dBox, slD, cut_take, cut_drop1, e0]
  refine ⟨by omega, by omega, ?_⟩
  rw [e]
  exact q
/-! ### houses made -/
theorem erase_map {α β : Type} (f : α → β) : ∀ (l : List α) (j : Nat), (l.map f).eraseIdx j = (l.eraseIdx j).map f
  | [], _ => rfl
  | _ :: _, 0 => rfl
  | a :: l, j + 1 => congrArg (f a :: ·) (erase_map f l j)
theorem pop_strs {l : List Str} {j : Nat} {y : D} (h : (l.map PyData.str)[j]? = some y) : ∃ x, y = .str x ∧ j < l.length ∧ (l.map PyData.str).eraseIdx j = (l.eraseIdx j).map PyData.str := by
  obtain ⟨x, hx, rfl⟩ := at_map h
  exact ⟨x, rfl, (List.getElem?_eq_some_iff.mp hx).1, erase_map _ _ _⟩
structure PersonOk (told np i : Nat) (m : Nat) (p : PersonL) : Prop where
  nk : p.kinds.length = m
  nr : ∀ k ∈ p.kinds, (1 ≤ k.rows.length ∧ k.rows.length ≤ 3) ∧ ∀ r ∈ k.rows, r.length = told
  nw : p.watches.Sublist (List.range np) ∧ i ∉ p.watches
structure PersonsOk (told np : Nat) (ms : List Nat) (ps : List PersonL) : Prop where
  len : ps.length = ms.length
  each : ∀ (i : Nat) (p : PersonL) (m : Nat), ps[i]? = some p → ms[i]? = some m → PersonOk told np i m p
theorem PersonsOk.snoc {told np : Nat} {ms : List Nat} {ps : List PersonL} {m : Nat} {p : PersonL} (h : PersonsOk told np ms ps) (q : PersonOk told np ms.length m p) : PersonsOk told np (ms ++ [m]) (ps ++ [p]) := by
  refine ⟨by simp [h.len], fun i p' m' e1 e2 => ?_⟩
  by_cases hi : i < ms.length
  · rw [List.getElem?_append_left (by rw [h.len]; exact hi)] at e1
    rw [List.getElem?_append_left hi] at e2
    exact h.each i p' m' e1 e2
  · have hi' : i < (ms ++ [m]).length := (List.getElem?_eq_some_iff.mp e2).1
    have : i = ms.length := by simp at hi'; omega
    subst this
    rw [List.getElem?_append_right (Nat.le_refl _), Nat.sub_self] at e2
    rw [← h.len, List.getElem?_append_right (Nat.le_refl _), Nat.sub_self] at e1
    cases e1
    cases e2
    exact q
theorem wf_of {told : List Str} {ms : List Nat} {ps : List PersonL} {es : List EndL} {slack : Int} (hm : SizesOk ms) (ht : 1 ≤ told.length ∧ told.length ≤ 24) (hp : PersonsOk told.length ms.length ms ps) (he : es.length = prodN ms) (hl : prodN ms ≤ 256)
    (hee : ∀ e ∈ es, e.out < told.length ∧ e.pays.length = ms.length) : Wf ⟨told, ps, es, slack⟩ ∧ sizes ⟨told, ps, es, slack⟩ = ms := by
  have hs : sizes ⟨told, ps, es, slack⟩ = ms := by
    refine List.ext_getElem? fun i => ?_
    unfold sizes
    rw [List.getElem?_map]
    by_cases hi : i < ms.length
    · have e1 : ps[i]? = some (ps[i]'(by rw [hp.len]; exact hi)) := List.getElem?_eq_getElem _
      have e2 : ms[i]? = some ms[i] := List.getElem?_eq_getElem hi
      show (ps[i]?).map _ = _
      rw [e1, e2]
      exact congrArg some (hp.each i _ _ e1 e2).nk
    · show (ps[i]?).map _ = _
      rw [List.getElem?_eq_none (by rw [hp.len]; omega), List.getElem?_eq_none (by omega)]
      rfl
  have at_ : ∀ p ∈ ps, ∃ i m, ms[i]? = some m ∧ PersonOk told.length ms.length i m p := fun p hpm => by
    obtain ⟨i, hi, rfl⟩ := List.getElem_of_mem hpm
    have hi' : i < ms.length := by rw [← hp.len]; exact hi
    exact ⟨i, ms[i], List.getElem?_eq_getElem hi', hp.each i _ _ (List.getElem?_eq_getElem hi) (List.getElem?_eq_getElem hi')⟩
  refine ⟨⟨?_, fun p hpm => ?_, fun p hpm k hk => ?_, ht, ⟨?_, ?_⟩, fun e hem => ?_, fun i p hi => ?_⟩, hs⟩
  · show 1 ≤ ps.length ∧ ps.length ≤ 4
    rw [hp.len]
    exact hm.len
  · obtain ⟨i, m, e, ok⟩ := at_ p hpm
    rw [ok.nk]
    exact hm.each m (List.mem_of_getElem? e)
  · obtain ⟨i, m, e, ok⟩ := at_ p hpm
    exact ok.nr k hk
  · rw [hs]
    exact he
  · show es.length ≤ 256
    omega
  · obtain ⟨a, b⟩ := hee e hem
    exact ⟨a, b.trans hp.len.symm⟩
  · have hi' : i < ms.length := by rw [← hp.len]; exact (List.getElem?_eq_some_iff.mp hi).1
    have ok := hp.each i p ms[i] hi (List.getElem?_eq_getElem hi')
    have := ok.nw
    show p.watches.Sublist (List.range ps.length) ∧ i ∉ p.watches
    rw [hp.len]
    exact this
end Dl

set_option Elab.async false
set_option linter.all false
set_option maxRecDepth 100000
set_option autoImplicit false
set_option maxHeartbeats 2000000
namespace Dl
open PySem PySem.Spec PyProof.Rows L2

theorem map_app1 {α : Type} (f : α → D) (l : List α) (x : α) : l.map f ++ [f x] = (l ++ [x]).map f := by simp
structure RowsOk (told : Nat) (rs : List (List Int)) : Prop where
  all : ∀ r ∈ rs, r.length = told
def F__law_house : FT := fun ss k => ∃ (ms : List Nat) (oc wo pay : Nat), ss = [.drw true, .d (dNats ms), .d (nI oc), .d (nI wo), .d (nI pay)] ∧ SizesOk ms ∧ prodN ms ≤ 256 ∧ (1 ≤ oc ∧ oc ≤ 24) ∧ (1 ≤ wo ∧ wo ≤ 3) ∧ pay ≤ 1000000 ∧
  ∀ h : HouseL, Wf h → sizes h = ms → k (.d (dHouse h)) ss
theorem mono_F__law_house : MonoF F__law_house := fun ss k k' hk ⟨a, b, c, d, e, f, g, g', g'', g3, q⟩ => ⟨a, b, c, d, e, f, g, g', g'', g3, fun h x y => hk _ _ (q h x y)⟩
theorem erase_len {α : Type} {l : List α} {j n : Nat} (hj : j < l.length) (h : l.length = n + 1) : (l.eraseIdx j).length = n := by
  rw [List.length_eraseIdx_of_lt hj]
  omega
/-- _law_house: slots 0 d 1 sizes 2 outcomes 3 worths 4 pay 5 names 6 told 7 persons 8 person 9 words 10 kinds 11 k 12 rows 13 j 14 ends 15 last 16 row 17 slack 18 o 19 many -/
def W__law_house : ST := (sSeq (sSet 5 (eCall F__law_pool []))
    (sSeq (sSet 6 (eCB tupD (aCons (eLC (iRg1 (eVar 2)) (gN 11) bYes (eCall F__law_pop (.r 0 :: (.r 5 :: []))) [11]) aNil)))
    (sSeq (sSet 7 (eLst aNil))
    (sSeq (sFor (iRg1 (eLenV 1)) (gN 8) (sSeq (sSet 9 (eCall F__law_pool []))
    (sSeq (sSet 10 (eLst aNil))
    (sSeq (sFor (iRg1 (eIdxV 1 (eVar 8))) (gN 11) (sSeq (sSet 12 (eLst aNil))
    (sSeq (sFor (iRg1 (eBin addD (eC (.int 1)) (eCall F__law_draw (.r 0 :: (.e (eVar 3) :: []))))) (gN 13) (sExpr (eApp 12 (eCB tupD (aCons (eLC (iRg1 (eVar 2)) (gN 18) bYes (eCall F__law_number (.r 0 :: [])) [18]) aNil)))))
    (sExpr (eApp 10 (eTup (aCons (eCall F__law_pop (.r 0 :: (.r 9 :: []))) (aCons (eCB tupD (aCons (eVar 12) aNil)) aNil))))))))
    (sExpr (eApp 7 (eTup (aCons (eCall F__law_pop (.r 0 :: (.r 5 :: []))) (aCons (eCB tupD (aCons (eVar 10) aNil)) (aCons (eCall F__law_watching (.r 0 :: (.e (eVar 8) :: (.e (eLenV 1) :: [])))) aNil))))))))))
    (sSeq (sSet 14 (eLst aNil))
    (sSeq (sSet 15 (eC .none))
    (sSeq (sFor (iSeq (eCall F__law_rows (.e (eLC (iSeq (eVar 1)) (gN 19) bYes (eLstRg (eVar 19)) [19]) :: []))) (gN 16) (sSeq (sIf ((bOr (bIsN false (eVar 15)) (bBin neD (eCall F__law_draw (.r 0 :: (.e (eC (.int 3)) :: []))) (eC (.int 1))))) (sSet 15 (eTup (aCons (eCall F__law_draw (.r 0 :: (.e (eVar 2) :: []))) (aCons (eCB tupD (aCons (eLC (iSeq (eVar 1)) (gN 11) bYes (eBin subD (eCall F__law_draw (.r 0 :: (.e (eBin addD (eBin mulD (eC (.int 2)) (eVar 4)) (eC (.int 1))) :: []))) (eVar 4)) [11]) aNil)) aNil)))) sNext)
    (sExpr (eApp 14 (eVar 15)))))
    (sSeq (sSet 17 (eC (.int 0)))
    (sSeq (sIf (bBin eqD (eCall F__law_draw (.r 0 :: (.e (eC (.int 4)) :: []))) (eC (.int 1))) (sSet 17 (eBin addD (eC (.int 1)) (eCall F__law_draw (.r 0 :: (.e (eC (.int 4)) :: []))))) sNext)
    (sRet (eTup (aCons (eC (.str "house")) (aCons (eVar 6) (aCons (eCB tupD (aCons (eVar 7) aNil)) (aCons (eCB tupD (aCons (eVar 14) aNil)) (aCons (eVar 17) aNil))))))))))))))))
theorem ok__law_house : BodyOk 20 W__law_house F__law_house := by
  rintro _ k ⟨ms, oc, wo, pay, rfl, hm, hp, ho, hw, hpay, q⟩
  have hml := hm.len
  simp [W__law_house, entry]
  refine ⟨rfl, ?_⟩
  simp [rgD_nat, rgB_nat (show oc ≤ 16777216 by omega), rgB_nat (show ms.length ≤ 16777216 by omega)]
  -- the outcomes' names
  refine lc_st (fun pre acc ρ => ∃ (t l : List Str), t.length = pre.length ∧ l.length + t.length = 65 ∧ acc = t.map .str ∧
      ρ = [.drw true, .d (dNats ms), .d (nI oc), .d (nI wo), .d (nI pay), .own false (l.map .str), .non, .non, .non, .non, .non, .non, .non, .non, .non, .non, .non, .non, .non, .non]) (by simp) ⟨[], pool, rfl, by rw [pool_len]; rfl, rfl, rfl⟩ (fun pre o post acc ρ e h N M hN hM => ?_) fun acc ρ h => ?_
  · obtain ⟨t, l, ht, hl, rfl, rfl⟩ := h
    have hpre : pre.length < 24 := by
      have := congrArg List.length e
      simp at this
      omega
    simp
    refine ⟨_, rfl, by simp; omega, by simp; omega, fun j y hy => ?_⟩
    obtain ⟨x, rfl, hj, he⟩ := pop_strs hy
    rw [he]
    simp
    refine hN _ _ ⟨t ++ [x], l.eraseIdx j, by simp [ht], ?_, by simp, rfl⟩
    rw [List.length_eraseIdx_of_lt hj]
    simp
    omega
  obtain ⟨told, names, ht, hl, rfl, rfl⟩ := h
  simp at ht
  simp [rgB_nat (show ms.length ≤ 16777216 by omega)]
  -- the persons
  refine loop_idx (fun i ρ => ∃ (ps : List PersonL) (l : List Str) (s8 s9 s10 s12 s13 : Sl) (b11 b18 : Sl), plainB b11 = true ∧ plainB b18 = true ∧ l.length + oc + i = 65 ∧ PersonsOk oc ms.length (ms.take i) ps ∧
      ρ = [.drw true, .d (dNats ms), .d (nI oc), .d (nI wo), .d (nI pay), .own false (l.map .str), .d (.tuple (told.map .str)), .own false (ps.map dPerson), s8, s9, s10, b11, s12, s13, .non, .non, .non, .non, b18, .non])
    ⟨[], names, .non, .non, .non, .non, .non, .non, .non, rfl, rfl, by omega, ⟨rfl, fun i p m e => by simp at e⟩, rfl⟩ (fun ρ h => ?_) fun i d hd ρ N hN h => ?_
  · obtain ⟨ps, l, s8, s9, s10, s12, s13, b11, b18, p11, p18, hl, hps, rfl⟩ := h
    simp at hl hps
    have hpl := hps.len
    try simp
    refine lc_mapA (fun m => .list ((List.range m).map nI)) (by simp) (fun m hm' N M hN => ?_) ?_
    · have := hm.each m hm'
      simp [rgD_nat, rgB_nat (show m ≤ 16777216 by omega)]
      exact hN
    simp
    refine ⟨_, ranges ms, Or.inr rfl, by simp [ranges, Function.comp_def], by simp [ranges]; omega, fun p hp' => ?_, ?_⟩
    · obtain ⟨m, hm', rfl⟩ := List.mem_map.mp hp'
      simpa using (hm.each m hm').2
    try simp
    have hcl : (comb (ranges ms)).length = prodN ms := by
      have := comb_len [] (ranges ms)
      rw [comb_nil] at this
      simpa [ranges, Function.comp_def] using this
    refine loop_idx (fun i ρ => ∃ (es : List EndL) (s15 : D) (s16 b11 : Sl), plainB b11 = true ∧ es.length = i ∧ (∀ e ∈ es, e.out < oc ∧ e.pays.length = ms.length) ∧ (s15 = .none ∨ ∃ e : EndL, s15 = dEnd e ∧ e.out < oc ∧ e.pays.length = ms.length) ∧
      ρ = [.drw true, .d (dNats ms), .d (nI oc), .d (nI wo), .d (nI pay), .own false (l.map .str), .d (.tuple (told.map .str)), .own false (ps.map dPerson), s8, s9, s10, b11, s12, s13, .own false (es.map dEnd), .d s15, s16, .non, b18, .non]) ⟨[], .none, .non, b11, p11, rfl, by simp, Or.inl rfl, rfl⟩ (fun ρ h => ?_) fun i d hd ρ N hN h => ?_
    · obtain ⟨es, s15, s16, b11, p11, hes, hee, hlast, rfl⟩ := h
      simp [hcl] at hes
      simp
      refine ⟨4, rfl, by omega, by omega, fun j hj => ?_⟩
      simp
      have fin : ∀ slack : Int, k (.d (dHouse ⟨told, ps, es, slack⟩)) [.drw true, .d (dNats ms), .d (nI oc), .d (nI wo), .d (nI pay)] := fun slack => by
        have hw' := wf_of (told := told) (es := es) (slack := slack) hm (by omega) (by rw [ht]; exact hps) hes hp (by rw [ht]; exact hee)
        exact q _ hw'.1 hw'.2
      split
      · refine ⟨4, rfl, by omega, by omega, fun j hj => ?_⟩
        simp
        exact fin _
      · try simp
        exact fin _
    · obtain ⟨es, s15, s16, b11, p11, hes, hee, hlast, rfl⟩ := h
      have hi : i < 256 := by
        have := (List.getElem?_eq_some_iff.mp hd).1
        simp [hcl] at this
        omega
      obtain ⟨row, hrow, rfl⟩ := at_map hd
      rcases hlast with rfl | ⟨e0, rfl, oke⟩
      · simp
        refine ⟨oc, rfl, by omega, by omega, fun out hout => ?_⟩
        simp [p11]
        refine lc_st (fun pre acc ρ => ∃ xs : List Int, xs.length = pre.length ∧ acc = xs.map .int ∧ ρ = [.drw true, .d (dNats ms), .d (nI oc), .d (nI wo), .d (nI pay), .own false (l.map .str), .d (.tuple (told.map .str)), .own false (ps.map dPerson), s8, s9, s10, b11, s12, s13, .own false (es.map dEnd), .d .none, .d (dNats row), .non, b18, .non]) (by simp) ⟨[], rfl, rfl, rfl⟩ (fun pre o post acc ρ e h N1 M1 hN1 hM1 => ?_) fun acc ρ h => ?_
        · obtain ⟨xs, hx, rfl, rfl⟩ := h
          simp [r_mul_l (show (2 : Int).natAbs < 2 ^ 64 by decide)]
          refine ⟨2 * pay + 1, by simp, by omega, by omega, fun j hj => ?_⟩
          simp
          exact hN1 _ _ ⟨xs ++ [(j : Int) - pay], by simp [hx], by simp, rfl⟩
        · obtain ⟨xs, hx, rfl, rfl⟩ := h
          try simp at hx
          simp
          refine ⟨by omega, hN _ ⟨es ++ [⟨out, xs⟩], dEnd ⟨out, xs⟩, .d (dNats row), b11, p11, by simp [hes], fun y hy => ?_, Or.inr ⟨_, rfl, hout, hx⟩, ?_⟩⟩
          · rcases List.mem_append.mp hy with hy | hy
            · exact hee y hy
            · have : y = ⟨out, xs⟩ := by simpa using hy
              subst this
              exact ⟨hout, hx⟩
          · simp [dEnd, dInts]

      · have nd : isNoneD (dEnd e0) = false := rfl
        simp [nd]
        refine ⟨3, rfl, by omega, by omega, fun j hj => ?_⟩
        simp
        split
        · refine ⟨by omega, hN _ ⟨es ++ [e0], dEnd e0, .d (dNats row), b11, p11, by simp [hes], fun y hy => ?_, Or.inr ⟨e0, rfl, oke⟩, by simp⟩⟩
          rcases List.mem_append.mp hy with hy | hy
          · exact hee y hy
          · have : y = e0 := by simpa using hy
            subst this
            exact oke
        · refine ⟨oc, rfl, by omega, by omega, fun out hout => ?_⟩
          simp [p11]
          refine lc_st (fun pre acc ρ => ∃ xs : List Int, xs.length = pre.length ∧ acc = xs.map .int ∧ ρ = [.drw true, .d (dNats ms), .d (nI oc), .d (nI wo), .d (nI pay), .own false (l.map .str), .d (.tuple (told.map .str)), .own false (ps.map dPerson), s8, s9, s10, b11, s12, s13, .own false (es.map dEnd), .d (dEnd e0), .d (dNats row), .non, b18, .non]) (by simp) ⟨[], rfl, rfl, rfl⟩ (fun pre o post acc ρ e h N1 M1 hN1 hM1 => ?_) fun acc ρ h => ?_
          · obtain ⟨xs, hx, rfl, rfl⟩ := h
            simp [r_mul_l (show (2 : Int).natAbs < 2 ^ 64 by decide)]
            refine ⟨2 * pay + 1, by simp, by omega, by omega, fun j hj => ?_⟩
            simp
            exact hN1 _ _ ⟨xs ++ [(j : Int) - pay], by simp [hx], by simp, rfl⟩
          · obtain ⟨xs, hx, rfl, rfl⟩ := h
            try simp at hx
            simp
            refine ⟨by omega, hN _ ⟨es ++ [⟨out, xs⟩], dEnd ⟨out, xs⟩, .d (dNats row), b11, p11, by simp [hes], fun y hy => ?_, Or.inr ⟨_, rfl, hout, hx⟩, ?_⟩⟩
            · rcases List.mem_append.mp hy with hy | hy
              · exact hee y hy
              · have : y = ⟨out, xs⟩ := by simpa using hy
                subst this
                exact ⟨hout, hx⟩
            · simp [dEnd, dInts]

  · obtain ⟨ps, l, s8, s9, s10, s12, s13, b11, b18, p11, p18, hl, hps, rfl⟩ := h
    obtain ⟨hi, rfl⟩ := at_rg hd
    have hmi : ms[i]? = some ms[i] := List.getElem?_eq_getElem hi
    have hmo := hm.each _ (List.getElem_mem hi)
    generalize ms[i] = m at hmi hmo
    simp
    refine ⟨rfl, ?_⟩
    simp [hmi, rgD_nat, rgB_nat (show m ≤ 16777216 by omega)]
    -- the kinds
    refine loop_idx (fun j ρ => ∃ (ks : List KindL) (w : List Str) (s12 s13 : Sl) (b11 b18 : Sl), plainB b11 = true ∧ plainB b18 = true ∧ w.length + j = 65 ∧ ks.length = j ∧ (∀ k ∈ ks, (1 ≤ k.rows.length ∧ k.rows.length ≤ 3) ∧ ∀ r ∈ k.rows, r.length = oc) ∧
      ρ = [.drw true, .d (dNats ms), .d (nI oc), .d (nI wo), .d (nI pay), .own false (l.map .str), .d (.tuple (told.map .str)), .own false (ps.map dPerson), .d (nI i), .own false (w.map .str), .own false (ks.map dKind), b11, s12, s13, .non, .non, .non, .non, b18, .non])
      ⟨[], pool, s12, s13, b11, b18, p11, p18, by rw [pool_len], rfl, by simp, rfl⟩ (fun ρ h => ?_) fun j d hd ρ N' hN' h => ?_
    · obtain ⟨ks, w, s12, s13, b11, b18, p11, p18, hw', hks, hkk, rfl⟩ := h
      simp at hks
      simp
      refine ⟨_, rfl, by simp; omega, by simp; omega, fun j y hy => ?_⟩
      obtain ⟨x, rfl, hj, he⟩ := pop_strs hy
      rw [he]
      simp
      refine ⟨i, ms.length, rfl, by omega, fun ws h1 h2 => ?_⟩
      have := hps.len
      simp
      refine ⟨by rw [this]; simp; omega, ?_⟩
      refine hN _ ⟨ps ++ [⟨x, ks, ws⟩], l.eraseIdx j, .d (nI i), .own false (w.map .str), .d (.list (ks.map dKind)), s12, s13, b11, b18, p11, p18, ?_, ?_, ?_⟩
      · rw [List.length_eraseIdx_of_lt hj]
        omega
      · rw [show ms.take (i + 1) = ms.take i ++ [m] by rw [List.take_succ, hmi]; rfl]
        refine hps.snoc ?_
        have e : (ms.take i).length = i := by rw [List.length_take]; omega
        rw [e]
        exact ⟨hks, hkk, h1, h2⟩
      · simp [dPerson]
    · obtain ⟨ks, w, s12, s13, b11, b18, p11, p18, hw', hks, hkk, rfl⟩ := h
      obtain ⟨hj, rfl⟩ := at_rg hd
      simp
      refine ⟨wo, rfl, by omega, by omega, fun g hg => ?_⟩
      have eg : (1 : Int) + (g : Int) = ((g + 1 : Nat) : Int) := by omega
      simp only [x_asD_d, r_add, opt_some, intGo_i, eg]
      simp only [rgD_nat, rgB_nat (show g + 1 ≤ 16777216 by omega), true_and]
      refine loop_idx (fun r ρ => ∃ (rs : List (List Int)) (s13 : Sl) (b18 : Sl), plainB b18 = true ∧ rs.length = r ∧ (∀ x ∈ rs, x.length = oc) ∧
        ρ = [.drw true, .d (dNats ms), .d (nI oc), .d (nI wo), .d (nI pay), .own false (l.map .str), .d (.tuple (told.map .str)), .own false (ps.map dPerson), .d (nI i), .own false (w.map .str), .own false (ks.map dKind), .d (nI j), .own false (rs.map dInts), s13, .non, .non, .non, .non, b18, .non])
        ⟨[], s13, b18, p18, rfl, by simp, rfl⟩ (fun ρ h => ?_) fun r d hd ρ N3 hN3 h => ?_
      · obtain ⟨rs, s13, b18, p18, hrs, hrr, rfl⟩ := h
        simp at hrs
        simp
        refine ⟨_, rfl, by simp; omega, by simp; omega, fun z y hy => ?_⟩
        obtain ⟨x, rfl, hz, he⟩ := pop_strs hy
        rw [he]
        simp
        refine ⟨by omega, ?_⟩
        refine hN' _ ⟨ks ++ [⟨x, rs⟩], w.eraseIdx z, .d (.list (rs.map dInts)), s13, .d (nI j), b18, rfl, p18, ?_, by simp [hks], fun k hk => ?_, ?_⟩
        · rw [List.length_eraseIdx_of_lt hz]
          omega
        · rcases List.mem_append.mp hk with hk | hk
          · exact hkk k hk
          · have : k = ⟨x, rs⟩ := by simpa using hk
            subst this
            exact ⟨⟨by simp; omega, by simp; omega⟩, hrr⟩
        · simp [dKind]
      · obtain ⟨rs, s13, b18, p18, hrs, hrr, rfl⟩ := h
        obtain ⟨hr, rfl⟩ := at_rg hd
        simp [rgD_nat, rgB_nat (show oc ≤ 16777216 by omega), p18]
        refine lc_st (fun pre acc ρ => ∃ xs : List Int, xs.length = pre.length ∧ acc = xs.map .int ∧
          ρ = [.drw true, .d (dNats ms), .d (nI oc), .d (nI wo), .d (nI pay), .own false (l.map .str), .d (.tuple (told.map .str)), .own false (ps.map dPerson), .d (nI i), .own false (w.map .str), .own false (ks.map dKind), .d (nI j), .own false (rs.map dInts), .d (nI r), .non, .non, .non, .non, b18, .non]) (by simp) ⟨[], rfl, rfl, rfl⟩ (fun pre o post acc ρ e h N M hN hM => ?_) fun acc ρ h => ?_
        · obtain ⟨xs, hx, rfl, rfl⟩ := h
          simp
          refine ⟨rfl, fun x => ?_⟩
          simp
          exact hN _ _ ⟨xs ++ [x], by simp [hx], by simp, rfl⟩
        · obtain ⟨xs, hx, rfl, rfl⟩ := h
          simp at hx
          simp
          refine ⟨by omega, hN3 _ ⟨rs ++ [xs], .d (nI r), b18, p18, by simp [hrs], fun y hy => ?_, ?_⟩⟩
          · rcases List.mem_append.mp hy with hy | hy
            · exact hrr y hy
            · have : y = xs := by simpa using hy
              subst this
              exact hx
          · simp [dInts]
end Dl

set_option Elab.async false
set_option linter.all false
set_option maxRecDepth 100000
set_option autoImplicit false
set_option maxHeartbeats 2000000
namespace Dl
open PySem PySem.Spec PyProof.Rows L2

def F__law_great_house : FT := fun ss k => ss = [.drw true] ∧ ∀ h : HouseL, Wf h → k (.d (dHouse h)) ss
theorem mono_F__law_great_house : MonoF F__law_great_house := fun ss k k' hk ⟨a, q⟩ => ⟨a, fun h x => hk _ _ (q h x)⟩
def greats : List (List Nat) := [[4, 4, 4, 4], [8, 8, 4], [8, 2, 8, 2], [2, 8, 8], [8, 8, 1, 3]]
theorem greats_ok : ∀ ms ∈ greats, SizesOk ms ∧ prodN ms ≤ 256 := by
  have h : (greats.all fun ms => decide (((1 ≤ ms.length ∧ ms.length ≤ 4) ∧ ∀ m ∈ ms, 1 ≤ m ∧ m ≤ 8) ∧ prodN ms ≤ 256)) = true := by decide +kernel
  intro ms hm
  have := of_decide_eq_true (List.all_eq_true.mp h ms hm)
  exact ⟨⟨this.1.1, this.1.2⟩, this.2⟩
/-- _law_great_house: slots 0 d 1 sizes 2 names 3 told 4 persons 5 person 6 words 7 kinds 8 kind 9 rows 10 worth 11 ends 12 row 13 k 14 many -/
def W__law_great_house : ST := (sSeq (sSet 1 (eCall F__law_pick (.r 0 :: (.e (eKL [.tuple [.int 4, .int 4, .int 4, .int 4], .tuple [.int 8, .int 8, .int 4], .tuple [.int 8, .int 2, .int 8, .int 2], .tuple [.int 2, .int 8, .int 8], .tuple [.int 8, .int 8, .int 1, .int 3]]) :: []))))
    (sSeq (sSet 2 (eCall F__law_pool []))
    (sSeq (sSet 3 (eCB tupD (aCons (eLC (iRg1 (eC (.int 24))) (gN 13) bYes (eCall F__law_pop (.r 0 :: (.r 2 :: []))) [13]) aNil)))
    (sSeq (sSet 4 (eLst aNil))
    (sSeq (sFor (iRg1 (eLenV 1)) (gN 5) (sSeq (sSet 6 (eCall F__law_pool []))
    (sSeq (sSet 7 (eLst aNil))
    (sSeq (sFor (iRg1 (eIdxV 1 (eVar 5))) (gN 8) (sSeq (sSet 9 (eLst aNil))
    (sSeq (sFor (iRg1 (eBin addD (eC (.int 1)) (eCall F__law_draw (.r 0 :: (.e (eC (.int 3)) :: []))))) (gN 10) (sExpr (eApp 9 (eCB tupD (aCons (eLC (iRg1 (eC (.int 24))) (gN 13) bYes (eCall F__law_far (.r 0 :: [])) [13]) aNil)))))
    (sExpr (eApp 7 (eTup (aCons (eCall F__law_pop (.r 0 :: (.r 6 :: []))) (aCons (eCB tupD (aCons (eVar 9) aNil)) aNil))))))))
    (sExpr (eApp 4 (eTup (aCons (eCall F__law_pop (.r 0 :: (.r 2 :: []))) (aCons (eCB tupD (aCons (eVar 7) aNil)) (aCons (eCall F__law_watching (.r 0 :: (.e (eVar 5) :: (.e (eLenV 1) :: [])))) aNil))))))))))
    (sSeq (sSet 11 (eLst aNil))
    (sSeq (sFor (iSeq (eCall F__law_rows (.e (eLC (iSeq (eVar 1)) (gN 14) bYes (eLstRg (eVar 14)) [14]) :: []))) (gN 12) (sExpr (eApp 11 (eTup (aCons (eCall F__law_draw (.r 0 :: (.e (eC (.int 24)) :: []))) (aCons (eCB tupD (aCons (eLC (iSeq (eVar 1)) (gN 13) bYes (eCall F__law_far (.r 0 :: [])) [13]) aNil)) aNil))))))
    (sRet (eTup (aCons (eC (.str "house")) (aCons (eVar 3) (aCons (eCB tupD (aCons (eVar 4) aNil)) (aCons (eCB tupD (aCons (eVar 11) aNil)) (aCons (eBin mulD (eCall F__law_draw (.r 0 :: (.e (eC (.int 3)) :: []))) (eBin powD (eC (.int 10)) (eC (.int 12)))) aNil))))))))))))))
theorem ok__law_great_house : BodyOk 15 W__law_great_house F__law_great_house := by
  rintro _ k ⟨rfl, q⟩
  simp [W__law_great_house, entry]
  have eM : ([.tuple [.int 4, .int 4, .int 4, .int 4], .tuple [.int 8, .int 8, .int 4], .tuple [.int 8, .int 2, .int 8, .int 2], .tuple [.int 2, .int 8, .int 8], .tuple [.int 8, .int 8, .int 1, .int 3]] : List D) = greats.map dNats := rfl
  rw [eM]
  refine ⟨_, _, Or.inl rfl, rfl, by simp [greats], by simp [greats], fun y hy => ?_⟩
  obtain ⟨ms, hms, rfl⟩ := List.mem_map.mp hy
  obtain ⟨hm, hp⟩ := greats_ok ms hms
  clear eM hy
  have hml := hm.len
  simp
  refine ⟨rfl, ?_⟩
  simp [show rgD 0 24 = (List.range 24).map nI from rgD_nat 24, show rgB 24 = true from rfl]
  refine lc_st (fun pre acc ρ => ∃ (t l : List Str), t.length = pre.length ∧ l.length + t.length = 65 ∧ acc = t.map .str ∧
      ρ = [.drw true, .d (dNats ms), .own false (l.map .str), .non, .non, .non, .non, .non, .non, .non, .non, .non, .non, .non, .non]) (by simp) ⟨[], pool, rfl, by rw [pool_len]; rfl, rfl, rfl⟩ (fun pre o post acc ρ e h N M hN hM => ?_) fun acc ρ h => ?_
  · obtain ⟨t, l, ht, hl, rfl, rfl⟩ := h
    have hpre : pre.length < 24 := by
      have := congrArg List.length e
      simp at this
      omega
    simp
    refine ⟨_, rfl, by simp; omega, by simp; omega, fun j y hy => ?_⟩
    obtain ⟨x, rfl, hj, he⟩ := pop_strs hy
    rw [he]
    simp
    refine hN _ _ ⟨t ++ [x], l.eraseIdx j, by simp [ht], ?_, by simp, rfl⟩
    rw [List.length_eraseIdx_of_lt hj]
    simp
    omega
  obtain ⟨told, names, ht, hl, rfl, rfl⟩ := h
  simp at ht
  simp [rgD_nat, rgB_nat (show ms.length ≤ 16777216 by omega)]
  -- the persons
  refine loop_idx (fun i ρ => ∃ (ps : List PersonL) (l : List Str) (s5 s6 s7 s8 s9 s10 : Sl), l.length + 24 + i = 65 ∧ PersonsOk 24 ms.length (ms.take i) ps ∧
      ρ = [.drw true, .d (dNats ms), .own false (l.map .str), .d (.tuple (told.map .str)), .own false (ps.map dPerson), s5, s6, s7, s8, s9, s10, .non, .non, .non, .non])
    ⟨[], names, .non, .non, .non, .non, .non, .non, by omega, ⟨rfl, fun i p m e => by simp at e⟩, rfl⟩ (fun ρ h => ?_) fun i d hd ρ N hN h => ?_
  · obtain ⟨ps, l, s5, s6, s7, s8, s9, s10, hl, hps, rfl⟩ := h
    simp at hl hps
    have hpl := hps.len
    try simp
    refine lc_mapA (fun m => .list ((List.range m).map nI)) (by simp) (fun m hm' N M hN => ?_) ?_
    · have := hm.each m hm'
      simp [rgD_nat, rgB_nat (show m ≤ 16777216 by omega)]
      exact hN
    simp
    refine ⟨_, ranges ms, Or.inr rfl, by simp [ranges, Function.comp_def], by simp [ranges]; omega, fun p hp' => ?_, ?_⟩
    · obtain ⟨m, hm', rfl⟩ := List.mem_map.mp hp'
      simpa using (hm.each m hm').2
    try simp
    have hcl : (comb (ranges ms)).length = prodN ms := by
      have := comb_len [] (ranges ms)
      rw [comb_nil] at this
      simpa [ranges, Function.comp_def] using this
    refine loop_idx (fun i ρ => ∃ (es : List EndL) (s12 : Sl), es.length = i ∧ (∀ e ∈ es, e.out < 24 ∧ e.pays.length = ms.length) ∧
      ρ = [.drw true, .d (dNats ms), .own false (l.map .str), .d (.tuple (told.map .str)), .own false (ps.map dPerson), s5, s6, s7, s8, s9, s10, .own false (es.map dEnd), s12, .non, .non]) ⟨[], .non, rfl, by simp, rfl⟩ (fun ρ h => ?_) fun i d hd ρ N hN h => ?_
    · obtain ⟨es, s12, hes, hee, rfl⟩ := h
      simp [hcl] at hes
      have pw : powD (.int 10) (.int 12) = some (.d (.int 1000000000000)) := by
        rw [r_pow (by omega) (by omega) (by decide)]
        rfl
      simp [pw]
      refine ⟨3, rfl, by omega, by omega, fun j hj => ?_⟩
      have fin : ∀ slack : Int, k (.d (dHouse ⟨told, ps, es, slack⟩)) [.drw true] := fun slack => by
        have hw' := wf_of (told := told) (es := es) (slack := slack) hm (by omega) (by rw [ht]; exact hps) hes hp (by rw [ht]; exact hee)
        exact q _ hw'.1
      simp [r_mul_r (show (1000000000000 : Int).natAbs < 2 ^ 64 by decide)]
      exact fin _
    · obtain ⟨es, s12, hes, hee, rfl⟩ := h
      have hi : i < 256 := by
        have := (List.getElem?_eq_some_iff.mp hd).1
        simp [hcl] at this
        omega
      obtain ⟨row, hrow, rfl⟩ := at_map hd
      simp
      refine ⟨24, rfl, by omega, by omega, fun out hout => ?_⟩
      simp
      refine lc_st (fun pre acc ρ => ∃ xs : List Int, xs.length = pre.length ∧ acc = xs.map .int ∧ ρ = [.drw true, .d (dNats ms), .own false (l.map .str), .d (.tuple (told.map .str)), .own false (ps.map dPerson), s5, s6, s7, s8, s9, s10, .own false (es.map dEnd), .d (dNats row), .non, .non]) (by simp) ⟨[], rfl, rfl, rfl⟩ (fun pre o post acc ρ e h N1 M1 hN1 hM1 => ?_) fun acc ρ h => ?_
      · obtain ⟨xs, hx, rfl, rfl⟩ := h
        simp
        refine ⟨rfl, fun x => ?_⟩
        simp
        exact hN1 _ _ ⟨xs ++ [x], by simp [hx], by simp, rfl⟩
      · obtain ⟨xs, hx, rfl, rfl⟩ := h
        try simp at hx
        simp
        refine ⟨by omega, hN _ ⟨es ++ [⟨out, xs⟩], .d (dNats row), by simp [hes], fun y hy => ?_, ?_⟩⟩
        · rcases List.mem_append.mp hy with hy | hy
          · exact hee y hy
          · have : y = ⟨out, xs⟩ := by simpa using hy
            subst this
            exact ⟨hout, hx⟩
        · simp [dEnd, dInts]
  · obtain ⟨ps, l, s5, s6, s7, s8, s9, s10, hl, hps, rfl⟩ := h
    obtain ⟨hi, rfl⟩ := at_rg hd
    have hmi : ms[i]? = some ms[i] := List.getElem?_eq_getElem hi
    have hmo := hm.each _ (List.getElem_mem hi)
    generalize ms[i] = m at hmi hmo
    simp
    refine ⟨rfl, ?_⟩
    simp [hmi, rgD_nat, rgB_nat (show m ≤ 16777216 by omega)]
    -- the kinds
    refine loop_idx (fun j ρ => ∃ (ks : List KindL) (w : List Str) (s8 s9 s10 : Sl), w.length + j = 65 ∧ ks.length = j ∧ (∀ k ∈ ks, (1 ≤ k.rows.length ∧ k.rows.length ≤ 3) ∧ ∀ r ∈ k.rows, r.length = 24) ∧
      ρ = [.drw true, .d (dNats ms), .own false (l.map .str), .d (.tuple (told.map .str)), .own false (ps.map dPerson), .d (nI i), .own false (w.map .str), .own false (ks.map dKind), s8, s9, s10, .non, .non, .non, .non])
      ⟨[], pool, s8, s9, s10, by rw [pool_len], rfl, by simp, rfl⟩ (fun ρ h => ?_) fun j d hd ρ N' hN' h => ?_
    · obtain ⟨ks, w, s8, s9, s10, hw', hks, hkk, rfl⟩ := h
      simp at hks
      simp
      refine ⟨_, rfl, by simp; omega, by simp; omega, fun j y hy => ?_⟩
      obtain ⟨x, rfl, hj, he⟩ := pop_strs hy
      rw [he]
      simp
      refine ⟨i, ms.length, rfl, by omega, fun ws h1 h2 => ?_⟩
      have := hps.len
      simp
      refine ⟨by rw [this]; simp; omega, ?_⟩
      refine hN _ ⟨ps ++ [⟨x, ks, ws⟩], l.eraseIdx j, .d (nI i), .own false (w.map .str), .d (.list (ks.map dKind)), s8, s9, s10, ?_, ?_, ?_⟩
      · rw [List.length_eraseIdx_of_lt hj]
        omega
      · rw [show ms.take (i + 1) = ms.take i ++ [m] by rw [List.take_succ, hmi]; rfl]
        refine hps.snoc ?_
        have e : (ms.take i).length = i := by rw [List.length_take]; omega
        rw [e]
        exact ⟨hks, hkk, h1, h2⟩
      · simp [dPerson]
    · obtain ⟨ks, w, s8, s9, s10, hw', hks, hkk, rfl⟩ := h
      obtain ⟨hj, rfl⟩ := at_rg hd
      simp
      refine ⟨3, rfl, by omega, by omega, fun g hg => ?_⟩
      have eg : (1 : Int) + (g : Int) = ((g + 1 : Nat) : Int) := by omega
      simp only [x_asD_d, r_add, opt_some, intGo_i, eg]
      simp only [rgD_nat, rgB_nat (show g + 1 ≤ 16777216 by omega), true_and]
      refine loop_idx (fun r ρ => ∃ (rs : List (List Int)) (s10 : Sl), rs.length = r ∧ (∀ x ∈ rs, x.length = 24) ∧
        ρ = [.drw true, .d (dNats ms), .own false (l.map .str), .d (.tuple (told.map .str)), .own false (ps.map dPerson), .d (nI i), .own false (w.map .str), .own false (ks.map dKind), .d (nI j), .own false (rs.map dInts), s10, .non, .non, .non, .non])
        ⟨[], s10, rfl, by simp, rfl⟩ (fun ρ h => ?_) fun r d hd ρ N3 hN3 h => ?_
      · obtain ⟨rs, s10, hrs, hrr, rfl⟩ := h
        simp at hrs
        simp
        refine ⟨_, rfl, by simp; omega, by simp; omega, fun z y hy => ?_⟩
        obtain ⟨x, rfl, hz, he⟩ := pop_strs hy
        rw [he]
        simp
        refine ⟨by omega, ?_⟩
        refine hN' _ ⟨ks ++ [⟨x, rs⟩], w.eraseIdx z, .d (nI j), .d (.list (rs.map dInts)), s10, ?_, by simp [hks], fun k hk => ?_, ?_⟩
        · rw [List.length_eraseIdx_of_lt hz]
          omega
        · rcases List.mem_append.mp hk with hk | hk
          · exact hkk k hk
          · have : k = ⟨x, rs⟩ := by simpa using hk
            subst this
            exact ⟨⟨by simp; omega, by simp; omega⟩, hrr⟩
        · simp [dKind]
      · obtain ⟨rs, s10, hrs, hrr, rfl⟩ := h
        obtain ⟨hr, rfl⟩ := at_rg hd
        simp [show rgD 0 24 = (List.range 24).map nI from rgD_nat 24, show rgB 24 = true from rfl]
        refine lc_st (fun pre acc ρ => ∃ xs : List Int, xs.length = pre.length ∧ acc = xs.map .int ∧
          ρ = [.drw true, .d (dNats ms), .own false (l.map .str), .d (.tuple (told.map .str)), .own false (ps.map dPerson), .d (nI i), .own false (w.map .str), .own false (ks.map dKind), .d (nI j), .own false (rs.map dInts), .d (nI r), .non, .non, .non, .non]) (by simp) ⟨[], rfl, rfl, rfl⟩ (fun pre o post acc ρ e h N M hN hM => ?_) fun acc ρ h => ?_
        · obtain ⟨xs, hx, rfl, rfl⟩ := h
          simp
          refine ⟨rfl, fun x => ?_⟩
          simp
          exact hN _ _ ⟨xs ++ [x], by simp [hx], by simp, rfl⟩
        · obtain ⟨xs, hx, rfl, rfl⟩ := h
          try simp at hx
          simp
          refine ⟨by omega, hN3 _ ⟨rs ++ [xs], .d (nI r), by simp [hrs], fun y hy => ?_, ?_⟩⟩
          · rcases List.mem_append.mp hy with hy | hy
            · exact hrr y hy
            · have : y = xs := by simpa using hy
              subst this
              simpa using hx
          · simp [dInts]
end Dl

set_option Elab.async false
set_option linter.all false
set_option maxRecDepth 100000
set_option autoImplicit false
set_option maxHeartbeats 2000000
namespace Dl
open PySem PySem.Spec PyProof.Rows L2

/-! ### hearings -/
abbrev NodeL := List Nat × List (List Nat) × D
def dEndH : D := .tuple [.str "end"]
def dAsk (p : Nat) (rows : List (List Nat × D × List NodeL)) : D := .tuple [.str "ask", nI p, .tuple (rows.map fun r => .tuple [dNats r.1, r.2.1])]
def preN (path : List Nat) (ns : List NodeL) : List NodeL := ns.map fun n => (path ++ n.1, n.2)
def kidsN (rows : List (List Nat × D × List NodeL)) : List NodeL := rows.zipIdx.flatMap fun r => preN [r.2] r.1.2.2
structure PartsOf (part : List Nat) (shares : List (List Nat)) : Prop where
  two : 2 ≤ shares.length
  ne : ∀ s ∈ shares, s ≠ []
  perm : shares.flatten.Perm part
/-- a hearing of a box, with its nodes -/
inductive IsHear : List (List Nat) → D → List NodeL → Prop
  | leaf (b : List (List Nat)) : IsHear b dEndH [([], b, dEndH)]
  | ask (b : List (List Nat)) (p : Nat) (part : List Nat) (rows : List (List Nat × D × List NodeL)) : b[p]? = some part → PartsOf part (rows.map (·.1)) → (∀ r ∈ rows, IsHear (b.set p r.1) r.2.1 r.2.2) →
      IsHear b (dAsk p rows) (([], b, dAsk p rows) :: kidsN rows)
def isEndN (n : NodeL) : Bool := match n.2.2 with
  | .tuple [_] => true
  | _ => false
def leavesN (ns : List NodeL) : List NodeL := ns.filter isEndN
structure BoxOk (b : List (List Nat)) : Prop where
  len : b.length ≤ 4
  each : ∀ p ∈ b, (1 ≤ p.length ∧ p.length ≤ 8) ∧ p.Nodup
theorem PartsOf.sub {part : List Nat} {shares : List (List Nat)} (h : PartsOf part shares) {s : List Nat} (hs : s ∈ shares) : (s.length ≤ part.length ∧ (part.Nodup → s.Nodup)) ∧ ∀ x ∈ s, x ∈ part := by
  have h1 : s.Sublist shares.flatten := List.sublist_flatten_of_mem hs
  refine ⟨⟨?_, fun nd => ?_⟩, fun x hx => h.perm.subset (h1.subset hx)⟩
  · rw [← h.perm.length_eq]
    exact h1.length_le
  · exact h1.nodup (h.perm.nodup_iff.mpr nd)
theorem BoxOk.set {b : List (List Nat)} (h : BoxOk b) {p : Nat} {part s : List Nat} (hp : b[p]? = some part) (hs : 1 ≤ s.length) (hl : s.length ≤ part.length) (nd : part.Nodup → s.Nodup) : BoxOk (b.set p s) := by
  have hm := h.each part (List.mem_of_getElem? hp)
  refine ⟨by simpa using h.len, fun q hq => ?_⟩
  rcases List.mem_or_eq_of_mem_set hq with z | rfl
  · exact h.each q z
  · exact ⟨⟨hs, by omega⟩, nd hm.2⟩
def F__law_parts : FT := fun ss k => ∃ ks : List Nat, ss = [.drw true, .d (dNats ks)] ∧ 2 ≤ ks.length ∧ ks.length ≤ 1000 ∧ ∀ shares, PartsOf ks shares → k (.d (dBox shares)) ss
theorem mono_F__law_parts : MonoF F__law_parts := fun ss k k' hk ⟨a, b, c, d, q⟩ => ⟨a, b, c, d, fun x h => hk _ _ (q x h)⟩
def F__law_hearing (n : Nat) : FT := fun ss k => ∃ (b : List (List Nat)) (many : Nat), ss = [.drw true, .d (dBox b), .d (nI many)] ∧ BoxOk b ∧ 1 ≤ many ∧ many < 2 ^ n ∧ n ≤ 20 ∧ ∀ t ns, IsHear b t ns → (leavesN ns).length ≤ many → k (.d t) ss
theorem mono_F__law_hearing (n : Nat) : MonoF (F__law_hearing n) := fun ss k k' hk ⟨a, b, c, d, e, f, g, q⟩ => ⟨a, b, c, d, e, f, g, fun x y h h' => hk _ _ (q x y h h')⟩
theorem no__law_hearing (ss : List Sl) (k : Sl → List Sl → Prop) : ¬ F__law_hearing 0 ss k := fun ⟨a, b, c, d, e, f, g, q⟩ => by
  simp at f
  omega
theorem flat_nats (l : List Nat) : (l.map nI).all flatD = true := List.all_eq_true.mpr fun y hy => by
  obtain ⟨x, _, rfl⟩ := List.mem_map.mp hy
  rfl
theorem inB_nats {x : Nat} {l : List Nat} : inB (nI x) (dNats l) = some (l.contains x) := by
  have h1 : (l.map nI).all flatD = true := flat_nats l
  have h2 : ((l.map nI).any fun z => PyData.eqv z (nI x)) = l.contains x := by
    induction l with
    | nil => rfl
    | cons a l ih =>
      have e : PyData.eqv (nI a) (nI x) = (x == a) := by
        rw [Bool.eq_iff_iff]
        simp only [PyData.eqv, beq_iff_eq]
        omega
      rw [List.map_cons, List.any_cons, ih (flat_nats l), List.contains_cons, e]
  show (if (flatD (nI x) && (l.map nI).all flatD) = true then some ((l.map nI).any fun z => PyData.eqv z (nI x)) else none) = _
  rw [h1, h2]
  rfl
@[simp] theorem in_nats {x : Nat} {l : List Nat} : inD false (nI x) (dNats l) = some (.d (.bool (l.contains x))) := by
  unfold inD
  rw [inB_nats]
  rfl
@[simp] theorem notIn_nats {x : Nat} {l : List Nat} : inD true (nI x) (dNats l) = some (.d (.bool (!l.contains x))) := by
  unfold inD
  rw [inB_nats]
  rfl
theorem split_perm {part s0 : List Nat} {shares : List (List Nat)} (nd : part.Nodup) (h : PartsOf part (s0 :: shares)) : PartsOf part [s0, part.filter fun x => !s0.contains x] := by
  have hp := h.perm
  simp at hp
  have nd' : (s0 ++ shares.flatten).Nodup := hp.nodup_iff.mpr nd
  have hdis := (List.nodup_append.mp nd').2.2
  have e : (s0 ++ shares.flatten).filter (fun x => !s0.contains x) = shares.flatten := by
    rw [List.filter_append]
    have h1 : s0.filter (fun x => !s0.contains x) = [] := by
      rw [List.filter_eq_nil_iff]
      intro x hx
      simp [hx]
    have h2 : shares.flatten.filter (fun x => !s0.contains x) = shares.flatten := by
      rw [List.filter_eq_self]
      intro x hx
      have : x ∉ s0 := fun z => hdis x z x hx rfl
      simp [this]
    rw [h1, h2, List.nil_append]
  have hpf := hp.filter (fun x => !s0.contains x)
  rw [e] at hpf
  have h2 := h.two
  simp at h2
  refine ⟨by simp, fun s hs => ?_, ?_⟩
  · simp at hs
    rcases hs with rfl | rfl
    · exact h.ne _ List.mem_cons_self
    · intro z
      have hl := hpf.length_eq
      have z' : (part.filter fun x => !s0.contains x) = [] := by simpa using z
      rw [z'] at hl
      obtain ⟨s1, r, rfl⟩ : ∃ s1 r, shares = s1 :: r := by
        cases shares with
        | nil => simp at h2
        | cons s1 r => exact ⟨s1, r, rfl⟩
      have hne := h.ne s1 (by simp)
      cases s1 with
      | nil => exact hne rfl
      | cons _ _ => simp at hl
  · have : [s0, part.filter fun x => !s0.contains x].flatten = s0 ++ part.filter fun x => !s0.contains x := by simp
    rw [this]
    exact (List.Perm.append_left s0 hpf.symm).trans hp
theorem kids_len (rows : List (List Nat × D × List NodeL)) (m : Nat) (h : ∀ r ∈ rows, (leavesN r.2.2).length ≤ m) : (leavesN (kidsN rows)).length ≤ rows.length * m := by
  have pre_len : ∀ (path : List Nat) (ns : List NodeL), (leavesN (preN path ns)).length = (leavesN ns).length := by
    intro path ns
    unfold leavesN preN
    rw [List.filter_map, List.length_map]
    rfl
  have key : ∀ (rows : List (List Nat × D × List NodeL)) (i : Nat), (∀ r ∈ rows, (leavesN r.2.2).length ≤ m) → (leavesN ((rows.zipIdx i).flatMap fun r => preN [r.2] r.1.2.2)).length ≤ rows.length * m := by
    intro rows
    induction rows with
    | nil => intro i _; simp [leavesN]
    | cons r rows ih =>
      intro i h
      have h1 := ih (i + 1) fun x hx => h x (List.mem_cons_of_mem _ hx)
      have h2 := h r List.mem_cons_self
      have h3 := pre_len [i] r.2.2
      simp only [List.zipIdx_cons, List.flatMap_cons, List.length_cons, Nat.succ_mul]
      unfold leavesN at h1 h2 h3 ⊢
      rw [List.filter_append, List.length_append]
      omega
  exact key rows 0 h
theorem ask_leaves (p : Nat) (b : List (List Nat)) (rows : List (List Nat × D × List NodeL)) : leavesN (([], b, dAsk p rows) :: kidsN rows) = leavesN (kidsN rows) := rfl
@[simp] theorem ix_box0 {b : List (List Nat)} : idxD (dBox b) (.int 0) = (b[0]?).map dNats := ix_box (n := 0)
def dRowH (r : List Nat × D × List NodeL) : D := .tuple [dNats r.1, r.2.1]
theorem hear_tail {n many p : Nat} {b : List (List Nat)} {part : List Nat} {shares : List (List Nat)} {E : EndD} {s3 s7 s8 : Sl} (hb : BoxOk b) (hp : b[p]? = some part) (hs : PartsOf part shares) (hl : shares.length ≤ many) (h2 : many < 2 ^ (n + 1)) (hn : n + 1 ≤ 20)
    (hE : ∀ (rows : List (List Nat × D × List NodeL)) s7, rows.map (·.1) = shares → (∀ r ∈ rows, IsHear (b.set p r.1) r.2.1 r.2.2 ∧ (leavesN r.2.2).length ≤ many / shares.length) → E.nx [.drw true, .d (dBox b), .d (nI many), s3, .d (nI p), .d (dBox shares), .own false (rows.map dRowH), s7, s8]) :
    loopW (gN 7) (sExpr (eApp 6 (eTup (aCons (eVar 7) (aCons (eCall (F__law_hearing n) (.r 0 :: (.e (eCall F__law_narrowed (.e (eVar 1) :: (.e (eVar 4) :: (.e (eVar 7) :: [])))) :: (.e (eBin fdivD (eVar 2) (eLenV 5)) :: [])))) aNil))))) E (shares.map dNats) [.drw true, .d (dBox b), .d (nI many), s3, .d (nI p), .d (dBox shares), .own false [], s7, s8] := by
  have hbl := hb.len
  have two := hs.two
  have hpl : p < b.length := (List.getElem?_eq_some_iff.mp hp).1
  have hpart := hb.each part (List.mem_of_getElem? hp)
  have hsl : shares.length ≤ 8 := by
    have h1 : ∀ l : List (List Nat), (∀ s ∈ l, s ≠ []) → l.length ≤ l.flatten.length := by
      intro l
      induction l with
      | nil => simp
      | cons s l ih =>
        intro h
        have h1 := ih fun x hx => h x (List.mem_cons_of_mem _ hx)
        have h2 := h s List.mem_cons_self
        have h3 := List.length_pos_iff.mpr h2
        simp only [List.flatten_cons, List.length_append, List.length_cons]
        omega
    have h2 := h1 shares hs.ne
    rw [hs.perm.length_eq] at h2
    omega
  have hdiv1 : 1 ≤ many / shares.length := (Nat.one_le_div_iff (by omega)).mpr hl
  have hdiv2 : many / shares.length < 2 ^ n := by
    rw [Nat.pow_succ] at h2
    refine Nat.div_lt_of_lt_mul (Nat.lt_of_lt_of_le h2 ?_)
    rw [Nat.mul_comm]
    exact Nat.mul_le_mul_right _ two
  refine loop_idx (fun i ρ => ∃ (rows : List (List Nat × D × List NodeL)) (s7 : Sl), rows.map (·.1) = shares.take i ∧ (∀ r ∈ rows, IsHear (b.set p r.1) r.2.1 r.2.2 ∧ (leavesN r.2.2).length ≤ many / shares.length) ∧
    ρ = [.drw true, .d (dBox b), .d (nI many), s3, .d (nI p), .d (dBox shares), .own false (rows.map dRowH), s7, s8]) ⟨[], s7, by simp, by simp, rfl⟩ (fun ρ h => ?_) fun i d hd ρ N hN h => ?_
  · obtain ⟨rows, s7, e1, e2, rfl⟩ := h
    exact hE rows s7 (by simpa using e1) e2
  · obtain ⟨rows, s7, e1, e2, rfl⟩ := h
    obtain ⟨sh, hsh, rfl⟩ := at_map hd
    have hmem := List.mem_of_getElem? hsh
    have hi := (List.getElem?_eq_some_iff.mp hsh).1
    have sub := hs.sub hmem
    have hne := List.length_pos_iff.mpr (hs.ne sh hmem)
    have hrl : rows.length = i := by
      have := congrArg List.length e1
      simp at this
      omega
    simp [r_fdiv (show (0 : Int) < (shares.length : Nat) by omega) (show ((shares.length : Nat) : Int) < 1073741824 by omega)]
    refine ⟨b, p, sh, rfl, hpl, by omega, ?_⟩
    simp [r_fdiv (show (0 : Int) < (shares.length : Nat) by omega) (show ((shares.length : Nat) : Int) < 1073741824 by omega)]
    refine ⟨b.set p sh, many / shares.length, by simp, hb.set hp hne sub.1.1 sub.1.2, hdiv1, hdiv2, by omega, fun t ns ht hns => ?_⟩
    simp
    refine ⟨by omega, hN _ ⟨rows ++ [(sh, t, ns)], .d (dNats sh), ?_, fun r hr => ?_, ?_⟩⟩
    · rw [List.map_append, e1, List.take_succ, hsh]
      rfl
    · rcases List.mem_append.mp hr with hr | hr
      · exact e2 r hr
      · have : r = (sh, t, ns) := by simpa using hr
        subst this
        exact ⟨ht, hns⟩
    · simp [dRowH]
/-- _law_hearing: slots 0 d 1 box 2 many 3 able 4 person 5 parts 6 rows 7 share 8 kind -/
def W__law_hearing (n : Nat) : ST := (sSeq (sSet 3 (eLC (iRg1 (eLenV 1)) (gN 4) (bBin gtD (eCB lenD (aCons (eIdxV 1 (eVar 4)) aNil)) (eC (.int 1))) (eVar 4) [4]))
    (sSeq (sIf ((bOr (bNot (bTruV 3)) (bOr (bBin ltD (eVar 2) (eC (.int 2))) (bBin eqD (eCall F__law_draw (.r 0 :: (.e (eC (.int 8)) :: []))) (eC (.int 3)))))) (sRet (eTup (aCons (eC (.str "end")) aNil))) sNext)
    (sSeq (sSet 4 (eCall F__law_pick (.r 0 :: (.e (eVar 3) :: []))))
    (sSeq (sSet 5 (eCall F__law_parts (.r 0 :: (.e (eIdxV 1 (eVar 4)) :: []))))
    (sSeq (sIf (bBin gtD (eLenV 5) (eVar 2)) (sSet 5 (eTup (aCons (eIdxV 5 (eC (.int 0))) (aCons (eCB tupD (aCons (eLC (iSeq (eIdxV 1 (eVar 4))) (gN 8) (bBin (inD true) (eVar 8) (eIdxV 5 (eC (.int 0)))) (eVar 8) [8]) aNil)) aNil)))) sNext)
    (sSeq (sSet 6 (eLst aNil))
    (sSeq (sFor (iSeq (eVar 5)) (gN 7) (sExpr (eApp 6 (eTup (aCons (eVar 7) (aCons (eCall (F__law_hearing n) (.r 0 :: (.e (eCall F__law_narrowed (.e (eVar 1) :: (.e (eVar 4) :: (.e (eVar 7) :: [])))) :: (.e (eBin fdivD (eVar 2) (eLenV 5)) :: [])))) aNil))))))
    (sRet (eTup (aCons (eC (.str "ask")) (aCons (eVar 4) (aCons (eCB tupD (aCons (eVar 6) aNil)) aNil))))))))))))
theorem ok__law_hearing (n : Nat) : BodyOk 9 (W__law_hearing n) (F__law_hearing (n + 1)) := by
  rintro _ k ⟨b, many, rfl, hb, h1, h2, hn, q⟩
  have hbl := hb.len
  have hmany : many < 2 ^ 21 := Nat.lt_of_lt_of_le h2 (Nat.pow_le_pow_right (by omega) (by omega))
  simp [W__law_hearing, entry, rgD_nat, rgB_nat (show b.length ≤ 16777216 by omega)]
  refine lc_filA (fun p => decide (1 < (b[p]?.getD []).length)) nI (by simp) (fun p hp N M hN hM => ?_) ?_
  · have hp' : p < b.length := by simpa using hp
    have e : b[p]? = some b[p] := List.getElem?_eq_getElem hp'
    simp [e]
    by_cases z : 1 < b[p].length
    · simp [show (1 : Int) < (b[p].length : Nat) by omega]
      exact hN (by simp [e, z])
    · simp [show ¬ (1 : Int) < (b[p].length : Nat) by omega]
      exact hM (by simp [e, z])
  · generalize hA : (List.range b.length).filter (fun p => decide (1 < (b[p]?.getD []).length)) = A
    have fin0 : k (.d (.tuple [.str "end"])) [.drw true, .d (dBox b), .d (nI many)] := q _ _ (.leaf b) (show (leavesN [([], b, dEndH)]).length ≤ many from h1)
    cases A with
    | nil =>
      simp [truD]
      exact fin0
    | cons a as =>
      simp [truD]
      split
      · exact fin0
      · rename_i hm2
        have hm2' : 2 ≤ many := by omega
        refine ⟨8, rfl, by omega, by omega, fun j hj => ?_⟩
        simp
        split
        · exact fin0
        · refine ⟨_, _, Or.inl rfl, rfl, by simp, ?_, fun y hy => ?_⟩
          · have := congrArg List.length hA
            have h3 := List.length_filter_le (fun p => decide (1 < (b[p]?.getD []).length)) (List.range b.length)
            simp at this h3 ⊢
            omega
          · have hy' : y ∈ (a :: as).map nI := by simpa using hy
            obtain ⟨p, hpA, rfl⟩ := List.mem_map.mp hy'
            rw [← hA] at hpA
            have hpA' := List.mem_filter.mp hpA
            have hp : p < b.length := by simpa using hpA'.1
            have e : b[p]? = some b[p] := List.getElem?_eq_getElem hp
            have hp1 : 1 < b[p].length := by simpa [e] using hpA'.2
            generalize b[p] = part at e hp1
            have hpart := hb.each part (List.mem_of_getElem? e)
            simp [e]
            refine ⟨part, rfl, by omega, by omega, fun shares hs => ?_⟩
            simp
            have fin1 : ∀ (shares : List (List Nat)) (rows : List (List Nat × D × List NodeL)), PartsOf part shares → shares.length ≤ many → rows.map (·.1) = shares → (∀ r ∈ rows, IsHear (b.set p r.1) r.2.1 r.2.2 ∧ (leavesN r.2.2).length ≤ many / shares.length) →
                k (.d (dAsk p rows)) [.drw true, .d (dBox b), .d (nI many)] := fun shares rows hs hl e1 e2 => by
              refine q _ _ (.ask b p part rows e (by rw [e1]; exact hs) fun r hr => (e2 r hr).1) ?_
              rw [ask_leaves]
              refine Nat.le_trans (kids_len rows _ fun r hr => (e2 r hr).2) ?_
              have : rows.length = shares.length := by
                have := congrArg List.length e1
                simpa using this
              rw [this]
              exact Nat.mul_div_le _ _
            have two := hs.two
            split
            · rename_i hgt
              obtain ⟨s0, rest, rfl⟩ : ∃ s0 rest, shares = s0 :: rest := by
                cases shares with
                | nil => simp at two
                | cons s r => exact ⟨s, r, rfl⟩
              have hs' := split_perm hpart.2 hs
              simp [e]
              refine lc_filA (fun x => !s0.contains x) nI (by simp) (fun x hx N M hN hM => ?_) ?_
              · simp
                by_cases z : x ∈ s0
                · simp [z]
                  exact hM (by simp [z])
                · simp [z]
                  exact hN (by simp [z])
              · have hs'' : PartsOf part [s0, part.filter fun x => !decide (x ∈ s0)] := by simpa using hs'
                simp
                generalize (part.filter fun x => !decide (x ∈ s0)) = rst at hs''
                refine hear_tail (shares := [s0, rst]) hb e hs'' (by simp; omega) h2 hn fun rows s7 e1 e2 => ?_
                simp
                exact fin1 _ rows hs'' (by simp; omega) e1 e2
            · rename_i hgt
              refine hear_tail hb e hs (by omega) h2 hn fun rows s7 e1 e2 => ?_
              simp
              exact fin1 _ rows hs (by omega) e1 e2
end Dl

set_option Elab.async false
set_option linter.all false
set_option maxRecDepth 100000
set_option autoImplicit false
set_option maxHeartbeats 2000000
namespace Dl
open PySem PySem.Spec PyProof.Rows L2

theorem preN_preN (p q : List Nat) (ns : List NodeL) : preN p (preN q ns) = preN (p ++ q) ns := by
  unfold preN
  rw [List.map_map]
  refine List.map_congr_left fun n _ => ?_
  simp
theorem preN_len (p : List Nat) (ns : List NodeL) : (preN p ns).length = ns.length := by simp [preN]
theorem preN_nil (ns : List NodeL) : preN [] ns = ns := by simp [preN]
theorem hear_pos {b : List (List Nat)} {t : D} {ns : List NodeL} (h : IsHear b t ns) : 1 ≤ ns.length := by
  cases h <;> simp
theorem kids_lens (rows : List (List Nat × D × List NodeL)) (h : ∀ r ∈ rows, r.2.2.length + 1 ≤ 2 * (leavesN r.2.2).length) : (kidsN rows).length + rows.length ≤ 2 * (leavesN (kidsN rows)).length := by
  have pre_len : ∀ (path : List Nat) (ns : List NodeL), (leavesN (preN path ns)).length = (leavesN ns).length := by
    intro path ns
    unfold leavesN preN
    rw [List.filter_map, List.length_map]
    rfl
  have key : ∀ (rows : List (List Nat × D × List NodeL)) (i : Nat), (∀ r ∈ rows, r.2.2.length + 1 ≤ 2 * (leavesN r.2.2).length) → ((rows.zipIdx i).flatMap fun r => preN [r.2] r.1.2.2).length + rows.length ≤ 2 * (leavesN ((rows.zipIdx i).flatMap fun r => preN [r.2] r.1.2.2)).length := by
    intro rows
    induction rows with
    | nil => intro i _; simp [leavesN]
    | cons r rows ih =>
      intro i h
      have h1 := ih (i + 1) fun x hx => h x (List.mem_cons_of_mem _ hx)
      have h2 := h r List.mem_cons_self
      have h3 := pre_len [i] r.2.2
      simp only [List.zipIdx_cons, List.flatMap_cons, List.length_cons, List.length_append, preN_len]
      unfold leavesN at h1 h2 h3 ⊢
      rw [List.filter_append, List.length_append]
      omega
  exact key rows 0 h
theorem hear_len {b : List (List Nat)} {t : D} {ns : List NodeL} (h : IsHear b t ns) : ns.length + 1 ≤ 2 * (leavesN ns).length := by
  induction h with
  | leaf b => exact Nat.le_refl 2
  | ask b p part rows hp hs hr ih =>
    rw [ask_leaves]
    have h1 := kids_lens rows ih
    have h2 := hs.two
    simp at h2
    simp only [List.length_cons]
    omega
theorem kids_mem {rows : List (List Nat × D × List NodeL)} {n : NodeL} : n ∈ kidsN rows ↔ ∃ (a : Nat) (r : List Nat × D × List NodeL) (m : NodeL), rows[a]? = some r ∧ m ∈ r.2.2 ∧ n = (a :: m.1, m.2) := by
  unfold kidsN
  rw [List.mem_flatMap]
  constructor
  · rintro ⟨⟨r, a⟩, hr, hn⟩
    unfold preN at hn
    obtain ⟨m, hm, rfl⟩ := List.mem_map.mp hn
    exact ⟨a, r, m, List.mem_zipIdx_iff_getElem?.mp hr, hm, rfl⟩
  · rintro ⟨a, r, m, hr, hm, rfl⟩
    exact ⟨(r, a), List.mem_zipIdx_iff_getElem?.mpr hr, List.mem_map.mpr ⟨m, hm, rfl⟩⟩
theorem hear_node {b : List (List Nat)} {t : D} {ns : List NodeL} (h : IsHear b t ns) : ∀ n ∈ ns, n.2.2 = dEndH ∨ ∃ p rows, n.2.2 = dAsk p rows := by
  induction h with
  | leaf b =>
    intro n hn
    have : n = ([], b, dEndH) := by simpa using hn
    subst this
    exact Or.inl rfl
  | ask b p part rows hp hs hr ih =>
    intro n hn
    rcases List.mem_cons.mp hn with rfl | hn
    · exact Or.inr ⟨p, rows, rfl⟩
    · obtain ⟨a, r, m, h1, h2, rfl⟩ := kids_mem.mp hn
      exact ih r (List.mem_of_getElem? h1) m h2
def dNode (n : NodeL) : D := .tuple [dNats n.1, dBox n.2.1, n.2.2]
def dLeaf (n : NodeL) : D := .tuple [dNats n.1, dBox n.2.1]
/-- what waits -/
structure WaitL where
  path : List Nat
  box : List (List Nat)
  node : D
  ns : List NodeL
def dWait (x : WaitL) : D := .tuple [dNats x.path, dBox x.box, x.node]
def WaitOk (n : Nat) (x : WaitL) : Prop := IsHear x.box x.node x.ns ∧ BoxOk x.box ∧ x.path.length + x.ns.length ≤ n
def waitSum : List WaitL → Nat
  | [] => 0
  | x :: l => x.ns.length + waitSum l
theorem waitSum_app : ∀ a b : List WaitL, waitSum (a ++ b) = waitSum a + waitSum b
  | [], b => by simp [waitSum]
  | x :: a, b => by
    have := waitSum_app a b
    simp only [List.cons_append, waitSum]
    omega
theorem waitSum_ge {n : Nat} : ∀ {l : List WaitL}, (∀ x ∈ l, WaitOk n x) → l.length ≤ waitSum l
  | [], _ => Nat.le_refl 0
  | x :: l, h => by
    have h1 := hear_pos (h x List.mem_cons_self).1
    have h2 := waitSum_ge (l := l) fun y hy => h y (List.mem_cons_of_mem _ hy)
    simp only [List.length_cons, waitSum]
    omega
theorem waitSum_rev : ∀ l : List WaitL, waitSum l.reverse = waitSum l
  | [] => rfl
  | x :: l => by
    rw [List.reverse_cons, waitSum_app, waitSum_rev l]
    simp only [waitSum]
    omega
def itemsW (path : List Nat) (b : List (List Nat)) (p : Nat) (rows : List (List Nat × D × List NodeL)) : List WaitL := rows.zipIdx.map fun r => ⟨path ++ [r.2], b.set p r.1.1, r.1.2.1, r.1.2.2⟩
theorem items_pre (path : List Nat) (b : List (List Nat)) (p : Nat) (rows : List (List Nat × D × List NodeL)) : (itemsW path b p rows).flatMap (fun x => preN x.path x.ns) = preN path (kidsN rows) := by
  unfold itemsW kidsN
  rw [List.flatMap_map]
  have : ∀ l : List ((List Nat × D × List NodeL) × Nat), l.flatMap (fun r => preN (path ++ [r.2]) r.1.2.2) = preN path (l.flatMap fun r => preN [r.2] r.1.2.2) := by
    intro l
    induction l with
    | nil => rfl
    | cons r l ih =>
      rw [List.flatMap_cons, List.flatMap_cons, ih]
      unfold preN
      rw [List.map_append, List.map_map]
      congr 1
      refine List.map_congr_left fun n _ => ?_
      simp
  exact this _
theorem waitSum_flat : ∀ l : List WaitL, waitSum l = (l.flatMap fun x => preN x.path x.ns).length
  | [] => rfl
  | x :: l => by rw [List.flatMap_cons, List.length_append, preN_len, ← waitSum_flat l]; rfl
theorem str_end : ¬ (("end" : Str) = ("ask" : Str)) := by decide +kernel
theorem str_ask : ¬ (("ask" : Str) = ("end" : Str)) := by decide +kernel
@[simp] theorem ix_end0 : idxD dEndH (.int 0) = some (.str "end") := rfl
@[simp] theorem ix_ask0 {p : Nat} {rows : List (List Nat × D × List NodeL)} : idxD (dAsk p rows) (.int 0) = some (.str "ask") := rfl
@[simp] theorem ix_ask1 {p : Nat} {rows : List (List Nat × D × List NodeL)} : idxD (dAsk p rows) (.int 1) = some (nI p) := rfl
@[simp] theorem ix_ask2 {p : Nat} {rows : List (List Nat × D × List NodeL)} : idxD (dAsk p rows) (.int 2) = some (.tuple (rows.map dRowH)) := rfl
@[simp] theorem ix_row0 {r : List Nat × D × List NodeL} : idxD (dRowH r) (.int 0) = some (dNats r.1) := rfl
@[simp] theorem ix_row1 {r : List Nat × D × List NodeL} : idxD (dRowH r) (.int 1) = some r.2.1 := rfl
theorem rgDown_nat (n : Nat) : rgDown ((n : Int) - 1) (-1) = (List.range n).reverse.map nI := by
  unfold rgDown
  have e : ((n : Int) - 1 - -1).toNat = n := by omega
  rw [e]
  refine List.ext_getElem? fun i => ?_
  rw [List.getElem?_map, List.getElem?_map]
  by_cases hi : i < n
  · rw [List.getElem?_range hi, List.getElem?_reverse (by simpa using hi), List.length_range, List.getElem?_range (by omega)]
    simp only [Option.map_some]
    congr 2
    omega
  · rw [List.getElem?_eq_none (by simp; omega), List.getElem?_eq_none (by simp; omega)]
    rfl
def F__law_nodes : FT := fun ss k => ∃ (b : List (List Nat)) (t : D) (ns : List NodeL), ss = [.d (dBox b), .d t] ∧ IsHear b t ns ∧ BoxOk b ∧ ns.length ≤ 100000 ∧ k (.d (.list (ns.map dNode))) ss
theorem mono_F__law_nodes : MonoF F__law_nodes := fun ss k k' hk ⟨a, b, c, d, e, f, g, q⟩ => ⟨a, b, c, d, e, f, g, hk _ _ q⟩
theorem last_map (st : List WaitL) (x : WaitL) : (st.map dWait ++ [dWait x])[st.length]? = some (dWait x) := by
  rw [List.getElem?_append_right (by simp)]
  simp
/-- _law_nodes: slots 0 box 1 hearing 2 found 3 waiting 4 path 5 here 6 node 7 k 8 kinds 9 below -/
def W__law_nodes : ST := (sSeq (sSet 2 (eLst aNil))
    (sSeq (sSet 3 (eLst (aCons (eTup (aCons (eTup aNil) (aCons (eCB tupD (aCons (eVar 0) aNil)) (aCons (eVar 1) aNil)))) aNil)))
    (sSeq (sWhile (bTruV 3) (sSeq (sAsgT (ePop 3) (gT 3 (gsC (gN 4) (gsC (gN 5) (gsC (gN 6) gsN)))))
    (sSeq (sExpr (eApp 2 (eTup (aCons (eVar 4) (aCons (eVar 5) (aCons (eVar 6) aNil))))))
    (sIf (bBin eqD (eIdxV 6 (eC (.int 0))) (eC (.str "ask"))) (sFor (iRgN (eBin subD (eCB lenD (aCons (eIdxV 6 (eC (.int 2))) aNil)) (eC (.int 1))) (eNeg (eC (.int 1)))) (gN 7) (sSeq (sAsgT (eBin idxS (eIdxV 6 (eC (.int 2))) (eVar 7)) (gT 2 (gsC (gN 8) (gsC (gN 9) gsN))))
    (sExpr (eApp 3 (eTup (aCons (eBin addD (eVar 4) (eTup (aCons (eVar 7) aNil))) (aCons (eCall F__law_narrowed (.e (eVar 5) :: (.e (eIdxV 6 (eC (.int 1))) :: (.e (eVar 8) :: [])))) (aCons (eVar 9) aNil)))))))) sNext))))
    (sRet (eVar 2)))))
theorem ok__law_nodes : BodyOk 10 W__law_nodes F__law_nodes := by
  rintro _ k ⟨b, t, ns, rfl, ht, hb, hn, q⟩
  have e0 : tupD [dBox b] = some (.d (dBox b)) := rfl
  simp [W__law_nodes, entry, e0]
  refine ⟨fun m ρ => ∃ (found : List NodeL) (st : List WaitL) (s4 s5 s6 s7 s8 s9 : Sl), (∀ x ∈ st, WaitOk ns.length x) ∧ m = waitSum st ∧ found ++ st.reverse.flatMap (fun x => preN x.path x.ns) = ns ∧
    ρ = [.d (dBox b), .d t, .own false (found.map dNode), .own false (st.map dWait), s4, s5, s6, s7, s8, s9], ⟨_, [], [⟨[], b, t, ns⟩], .non, .non, .non, .non, .non, .non, ?_, rfl, ?_, rfl⟩, ?_⟩
  · intro x hx
    have : x = ⟨[], b, t, ns⟩ := by simpa using hx
    subst this
    exact ⟨ht, hb, by simp⟩
  · simp [preN_nil]
  · rintro m ρ ⟨found, st, s4, s5, s6, s7, s8, s9, hst, rfl, hf, rfl⟩
    rcases List.eq_nil_or_concat st with rfl | ⟨st, x, rfl⟩
    · simp [truD]
      simp at hf
      subst hf
      exact q
    · simp only [List.concat_eq_append] at hst hf ⊢
      obtain ⟨hx, hbx, hpx⟩ := hst x (by simp)
      have hsum : waitSum (st ++ [x]) = waitSum st + x.ns.length := by
        rw [waitSum_app]
        rfl
      have htot : found.length + waitSum (st ++ [x]) = ns.length := by
        rw [← hf, List.length_append, ← waitSum_rev, waitSum_flat]
      have hge := waitSum_ge (l := st) fun y hy => hst y (by simp [hy])
      have hpos := hear_pos hx
      simp [truD]
      simp [last_map, dWait]
      refine ⟨by omega, ?_⟩
      obtain ⟨path, bx, tx, nx⟩ := x
      simp at hx hbx hpx hpos hsum htot hf
      cases hx with
      | leaf =>
        simp [str_end]
        refine ⟨waitSum st, by rw [hsum]; simp, found ++ [(path, bx, dEndH)], st, fun y hy => hst y (by simp [hy]), rfl, ?_, ?_⟩
        · rw [← hf]
          simp [preN]
        · simp [dNode]
      | ask _ p part rows hp hs hr =>
        have hkl : waitSum (itemsW path bx p rows) = (kidsN rows).length := by rw [waitSum_flat, items_pre, preN_len]
        have hil : (itemsW path bx p rows).length = rows.length := by simp [itemsW]
        have hpl : p < bx.length := (List.getElem?_eq_some_iff.mp hp).1
        have hiok : ∀ y ∈ itemsW path bx p rows, WaitOk ns.length y := by
          intro y hy
          unfold itemsW at hy
          obtain ⟨⟨r, a⟩, hra, rfl⟩ := List.mem_map.mp hy
          have hrm := List.mem_of_getElem? (List.mem_zipIdx_iff_getElem?.mp hra)
          have sub := hs.sub (List.mem_map_of_mem (f := (·.1)) hrm)
          refine ⟨hr r hrm, hbx.set hp (List.length_pos_iff.mpr (hs.ne _ (List.mem_map_of_mem (f := (·.1)) hrm))) sub.1.1 sub.1.2, ?_⟩
          have h1 : r.2.2.length ≤ (kidsN rows).length := by
            have hsub := List.sublist_flatten_of_mem (List.mem_map_of_mem (f := fun r : (List Nat × D × List NodeL) × Nat => preN [r.2] r.1.2.2) hra)
            have := hsub.length_le
            rw [preN_len] at this
            exact this
          simp at hpx ⊢
          omega
        have hige := waitSum_ge hiok
        have hbl := hbx.len
        simp at hpx hpos hsum
        simp [rgDown_nat]
        rw [← List.map_reverse]
        refine ⟨by omega, ?_⟩
        refine loop_idx (fun i ρ => ∃ s7 s8 s9, ρ = [.d (dBox b), .d t, .own false ((found ++ [(path, bx, dAsk p rows)]).map dNode), .own false ((st ++ ((itemsW path bx p rows).reverse.take i)).map dWait), .d (dNats path), .d (dBox bx), .d (dAsk p rows), s7, s8, s9]) ⟨s7, s8, s9, by simp [dNode]⟩ (fun ρ h => ?_) fun i d hd ρ N hN h => ?_
        · obtain ⟨s7, s8, s9, rfl⟩ := h
          have hti : (itemsW path bx p rows).reverse.take ((List.range rows.length).reverse.map nI).length = (itemsW path bx p rows).reverse := List.take_of_length_le (by simp [hil])
          rw [hti]
          refine ⟨waitSum (st ++ (itemsW path bx p rows).reverse), ?_, found ++ [(path, bx, dAsk p rows)], st ++ (itemsW path bx p rows).reverse, fun y hy => ?_, rfl, ?_, .d (dNats path), .d (dBox bx), .d (dAsk p rows), s7, s8, s9, rfl⟩
          · rw [hsum, waitSum_app, waitSum_rev, hkl]
            omega
          · rcases List.mem_append.mp hy with hy | hy
            · exact hst y (by simp [hy])
            · exact hiok y (List.mem_reverse.mp hy)
          · rw [← hf, List.reverse_append, List.reverse_reverse, List.flatMap_append, items_pre]
            simp [preN]
        · obtain ⟨s7, s8, s9, rfl⟩ := h
          obtain ⟨a, ha, rfl⟩ := at_map hd
          have hi : i < rows.length := by
            have := (List.getElem?_eq_some_iff.mp hd).1
            simpa using this
          have ha' : a = rows.length - 1 - i := by
            rw [List.getElem?_reverse (by simpa using hi), List.length_range, List.getElem?_range (by omega)] at ha
            exact (Option.some.inj ha).symm
          subst ha'
          obtain ⟨r, hra⟩ : ∃ r, rows[rows.length - 1 - i]? = some r := ⟨_, List.getElem?_eq_getElem (by omega)⟩
          have hpll : path.length ≤ 100000 := by omega
          simp [at_nat, hra]
          have hit : (itemsW path bx p rows).reverse[i]? = some ⟨path ++ [rows.length - 1 - i], bx.set p r.1, r.2.1, r.2.2⟩ := by
            rw [List.getElem?_reverse (by rw [hil]; exact hi), hil]
            unfold itemsW
            rw [List.getElem?_map, List.getElem?_zipIdx, hra]
            simp
          have htk : (itemsW path bx p rows).reverse.take (i + 1) = (itemsW path bx p rows).reverse.take i ++ [⟨path ++ [rows.length - 1 - i], bx.set p r.1, r.2.1, r.2.2⟩] := by
            rw [List.take_succ, hit]
            rfl
          simp [dRowH, dNats]
          refine ⟨by omega, ?_⟩
          refine ⟨bx, p, r.1, rfl, hpl, by omega, ?_⟩
          simp
          refine ⟨by rw [hil]; omega, hN _ ⟨.d (nI (rows.length - 1 - i)), .d (dNats r.1), .d r.2.1, ?_⟩⟩
          rw [htk]
          simp [dWait, dNats, List.map_reverse]
def F__law_leaves : FT := fun ss k => ∃ (b : List (List Nat)) (t : D) (ns : List NodeL), ss = [.d (dBox b), .d t] ∧ IsHear b t ns ∧ BoxOk b ∧ ns.length ≤ 100000 ∧ k (.own false ((leavesN ns).map dLeaf)) ss
theorem mono_F__law_leaves : MonoF F__law_leaves := fun ss k k' hk ⟨a, b, c, d, e, f, g, q⟩ => ⟨a, b, c, d, e, f, g, hk _ _ q⟩
/-- _law_leaves: slots 0 box 1 hearing 2 path 3 here 4 node -/
def W__law_leaves : ST := (sRet (eLC (iSeq (eCall F__law_nodes (.e (eVar 0) :: (.e (eVar 1) :: [])))) (gT 3 (gsC (gN 2) (gsC (gN 3) (gsC (gN 4) gsN)))) (bBin eqD (eIdxV 4 (eC (.int 0))) (eC (.str "end"))) (eTup (aCons (eVar 2) (aCons (eVar 3) aNil))) [2, 3, 4]))
theorem ok__law_leaves : BodyOk 5 W__law_leaves F__law_leaves := by
  rintro _ k ⟨b, t, ns, rfl, ht, hb, hn, q⟩
  simp [W__law_leaves, entry]
  refine ⟨b, t, ns, rfl, ht, hb, hn, ?_⟩
  simp
  refine lc_filA isEndN dLeaf (by simp) (fun n hnm N M hN hM => ?_) ?_
  · obtain ⟨path, bx, tx⟩ := n
    simp [dNode]
    rcases hear_node ht _ hnm with e | ⟨p, rows, e⟩
    · simp at e
      subst e
      simp
      exact hN rfl
    · simp at e
      subst e
      simp [str_ask]
      exact hM rfl
  · simpa [leavesN] using q
theorem cat_nats {l : List Nat} {a : Nat} (h : l.length + 1 ≤ 16777216) : addD (dNats l) (.tuple [nI a]) = some (.d (dNats (l ++ [a]))) := by
  simp [dNats, h]
theorem at_zero (x : D) (l : List D) : atI (x :: l) 0 = some x := at_nat (x :: l) 0
theorem kids_ge (rows : List (List Nat × D × List NodeL)) (h : ∀ r ∈ rows, 1 ≤ r.2.2.length) : rows.length ≤ (kidsN rows).length := by
  have key : ∀ (rows : List (List Nat × D × List NodeL)) (i : Nat), (∀ r ∈ rows, 1 ≤ r.2.2.length) → rows.length ≤ ((rows.zipIdx i).flatMap fun r => preN [r.2] r.1.2.2).length := by
    intro rows
    induction rows with
    | nil => intro i _; simp
    | cons r rows ih =>
      intro i h
      have h1 := ih (i + 1) fun x hx => h x (List.mem_cons_of_mem _ hx)
      have h2 := h r List.mem_cons_self
      simp only [List.zipIdx_cons, List.flatMap_cons, List.length_cons, List.length_append, preN_len]
      omega
  exact key rows 0 h
theorem kid_len {rows : List (List Nat × D × List NodeL)} {a : Nat} {r : List Nat × D × List NodeL} (h : rows[a]? = some r) : r.2.2.length ≤ (kidsN rows).length := by
  have hra : (r, a) ∈ rows.zipIdx := List.mem_zipIdx_iff_getElem?.mpr h
  have hsub := List.sublist_flatten_of_mem (List.mem_map_of_mem (f := fun r : (List Nat × D × List NodeL) × Nat => preN [r.2] r.1.2.2) hra)
  have := hsub.length_le
  rw [preN_len] at this
  exact this
theorem RowOf.at : ∀ {b : List (List Nat)} {row : List Nat} {p : Nat} {part : List Nat}, RowOf b row → b[p]? = some part → ∃ w, row[p]? = some w ∧ w ∈ part
  | [], [], _, _, _, e => by simp at e
  | _ :: _, r :: _, 0, _, h, e => by
    simp at e
    subst e
    exact ⟨r, rfl, h.1⟩
  | _ :: _, _ :: _, i + 1, _, h, e => by
    obtain ⟨r, h1, h2⟩ := RowOf.at (p := i) h.2 (by simpa using e)
    exact ⟨r, by simpa using h1, h2⟩
  | [], _ :: _, _, _, h, _ => h.elim
  | _ :: _, [], _, _, h, _ => h.elim
theorem RowOf.set : ∀ {b : List (List Nat)} {row : List Nat} {p w : Nat} {s : List Nat}, RowOf b row → row[p]? = some w → w ∈ s → RowOf (b.set p s) row
  | [], [], _, _, _, _, e, _ => by simp at e
  | _ :: _, r :: _, 0, _, _, h, e, hw => by
    simp at e
    subst e
    exact ⟨hw, h.2⟩
  | _ :: _, _ :: _, i + 1, _, _, h, e, hw => ⟨h.1, RowOf.set (p := i) h.2 (by simpa using e) hw⟩
  | [], _ :: _, _, _, _, h, _, _ => h.elim
  | _ :: _, [], _, _, _, h, _, _ => h.elim
def F__law_run : FT := fun ss k => ∃ (b : List (List Nat)) (t : D) (ns : List NodeL) (row : List Nat), ss = [.d t, .d (dNats row)] ∧ IsHear b t ns ∧ BoxOk b ∧ ns.length ≤ 100000 ∧ RowOf b row ∧
  ∀ path bx ans, (path, bx, dEndH) ∈ ns → RowOf bx row → k (.d (.tuple [.tuple ans, dNats path])) ss
theorem mono_F__law_run : MonoF F__law_run := fun ss k k' hk ⟨a, b, c, d, e, f, g, h, i, q⟩ => ⟨a, b, c, d, e, f, g, h, i, fun x y z h1 h2 => hk _ _ (q x y z h1 h2)⟩
/-- _law_run: slots 0 hearing 1 row 2 path 3 answers 4 node 5 word 6 at 7 k -/
def W__law_run : ST := (sSeq (sSet 2 (eTup aNil))
    (sSeq (sSet 3 (eLst aNil))
    (sSeq (sSet 4 (eVar 0))
    (sSeq (sWhile (bBin eqD (eIdxV 4 (eC (.int 0))) (eC (.str "ask"))) (sSeq (sSet 5 (eIdxV 1 (eIdxV 4 (eC (.int 1)))))
    (sSeq (sSet 6 (eBin idxS (eLC (iRg1 (eCB lenD (aCons (eIdxV 4 (eC (.int 2))) aNil))) (gN 7) (bBin (inD false) (eVar 5) (eBin idxS (eBin idxS (eIdxV 4 (eC (.int 2))) (eVar 7)) (eC (.int 0)))) (eVar 7) [7]) (eC (.int 0))))
    (sSeq (sExpr (eApp 3 (eTup (aCons (eIdxV 4 (eC (.int 1))) (aCons (eBin idxS (eBin idxS (eIdxV 4 (eC (.int 2))) (eVar 6)) (eC (.int 0))) aNil)))))
    (sSeq (sSet 2 (eBin addD (eVar 2) (eTup (aCons (eVar 6) aNil))))
    (sSet 4 (eBin idxS (eBin idxS (eIdxV 4 (eC (.int 2))) (eVar 6)) (eC (.int 1)))))))))
    (sRet (eTup (aCons (eCB tupD (aCons (eVar 3) aNil)) (aCons (eVar 2) aNil))))))))
theorem ok__law_run : BodyOk 8 W__law_run F__law_run := by
  rintro _ k ⟨b, t, ns, row, rfl, ht, hb, hn, hrow, q⟩
  simp [W__law_run, entry]
  refine ⟨fun m ρ => ∃ (path : List Nat) (ans : List D) (b' : List (List Nat)) (t' : D) (ns' : List NodeL) (s5 s6 s7 : Sl), plainB s7 = true ∧ IsHear b' t' ns' ∧ BoxOk b' ∧ RowOf b' row ∧ m = ns'.length ∧ ans.length + ns'.length ≤ ns.length ∧ path.length + ns'.length ≤ ns.length ∧
    (∀ n ∈ ns', (path ++ n.1, n.2) ∈ ns) ∧ ρ = [.d t, .d (dNats row), .d (dNats path), .own false ans, .d t', s5, s6, s7], ⟨_, [], [], b, t, ns, .non, .non, .non, rfl, ht, hb, hrow, rfl, by simp, by simp, fun n h => by simpa using h, rfl⟩, ?_⟩
  rintro m ρ ⟨path, ans, b', t', ns', s5, s6, s7, p7, ht', hb', hrow', rfl, hans, hpath, hsub, rfl⟩
  cases ht' with
  | leaf =>
    simp [str_end]
    have := hsub ([], b', dEndH) (by simp)
    exact q path b' ans (by simpa using this) hrow'
  | ask _ p part rows hp hs hr =>
    obtain ⟨w, hw, hwp⟩ := hrow'.at hp
    have hkr : rows.length ≤ 100000 := by
      have h1 := kids_ge rows fun r hrm => hear_pos (hr r hrm)
      simp at hpath
      omega
    simp [hw, rgD_nat, rgB_nat (show rows.length ≤ 16777216 by omega), p7]
    refine lc_filA (fun a => ((rows[a]?.map (·.1)).getD []).contains w) nI (by simp) (fun a ha N M hN hM => ?_) ?_
    · have ha' : a < rows.length := by simpa using ha
      obtain ⟨r, hra⟩ : ∃ r, rows[a]? = some r := ⟨_, List.getElem?_eq_getElem ha'⟩
      simp [at_nat, hra]
      by_cases z : w ∈ r.1
      · simp [z]
        exact hN (by simp [hra, z])
      · simp [z]
        exact hM (by simp [hra, z])
    · generalize hA : (List.range rows.length).filter (fun a => ((rows[a]?.map (·.1)).getD []).contains w) = A
      cases A with
      | nil =>
        exfalso
        obtain ⟨s, hs1, hs2⟩ := List.mem_flatten.mp (hs.perm.mem_iff.mpr hwp)
        obtain ⟨r, hr1, rfl⟩ := List.mem_map.mp hs1
        obtain ⟨a, ha, rfl⟩ := List.getElem_of_mem hr1
        have : a ∈ ([] : List Nat) := by
          rw [← hA]
          refine List.mem_filter.mpr ⟨by simpa using ha, ?_⟩
          rw [List.getElem?_eq_getElem ha]
          simpa using hs2
        simp at this
      | cons a as =>
        have haA : a ∈ (List.range rows.length).filter (fun a => ((rows[a]?.map (·.1)).getD []).contains w) := by
          rw [hA]
          exact List.mem_cons_self
        obtain ⟨ha1, ha2⟩ := List.mem_filter.mp haA
        obtain ⟨r, hra⟩ : ∃ r, rows[a]? = some r := ⟨_, List.getElem?_eq_getElem (by simpa using ha1)⟩
        have hwr : w ∈ r.1 := by simpa [hra] using ha2
        have hrm := List.mem_of_getElem? hra
        have sub := hs.sub (List.mem_map_of_mem (f := (·.1)) hrm)
        have hkl := kid_len hra
        simp at hans hpath
        simp [at_zero]
        simp [at_nat, hra, cat_nats (show path.length + 1 ≤ 16777216 by omega)]
        refine ⟨by omega, r.2.2.length, by omega, path ++ [a], ans ++ [.tuple [nI p, dNats r.1]], b'.set p r.1, r.2.1, r.2.2, .d (nI w), .d (nI a), s7, p7, hr r hrm, hb'.set hp (List.length_pos_iff.mpr (hs.ne _ (List.mem_map_of_mem (f := (·.1)) hrm))) sub.1.1 sub.1.2, hrow'.set hw hwr, rfl, by simp; omega, by simp; omega, fun x y bx hn' => ?_, rfl, rfl, rfl, rfl, rfl, rfl⟩
        have := hsub (a :: x, y, bx) (List.mem_cons_of_mem _ (kids_mem.mpr ⟨a, r, (x, y, bx), hra, hn', rfl⟩))
        simpa using this
def F__law_whole : FT := fun ss k => ∃ h : HouseL, ss = [.d (dHouse h)] ∧ Wf h ∧ k (.d (dBox (ranges (sizes h)))) ss
theorem mono_F__law_whole : MonoF F__law_whole := fun ss k k' hk ⟨h, e, a, q⟩ => ⟨h, e, a, hk _ _ q⟩
/-- _law_whole: slots 0 house 1 person -/
def W__law_whole : ST := (sRet (eCB tupD (aCons (eLC (iSeq (eIdxV 0 (eC (.int 2)))) (gN 1) bYes (eTupRg (eCB lenD (aCons (eIdxV 1 (eC (.int 1))) aNil))) [1]) aNil)))
theorem ok__law_whole : BodyOk 2 W__law_whole F__law_whole := by
  rintro _ k ⟨h, rfl, wf, q⟩
  simp [W__law_whole, entry]
  refine lc_mapA (fun P => dNats (List.range P.kinds.length)) (by simp) (fun P hP N M hN => ?_) ?_
  · have := wf.nk P hP
    simp [rgD_nat, rgB_nat (show P.kinds.length ≤ 16777216 by omega)]
    exact hN
  · simpa [dBox, ranges, sizes, Function.comp_def] using q
def F__law_parting_person : FT := fun ss k => ∃ (b : List (List Nat)) (t : D) (ns : List NodeL) (p1 p2 : List Nat) (b1 b2 : List (List Nat)), ss = [.d t, .d (dNats p1), .d (dNats p2)] ∧ IsHear b t ns ∧ (p1, b1, dEndH) ∈ ns ∧ (p2, b2, dEndH) ∈ ns ∧ p1.length ≤ 100000 ∧ p2.length ≤ 100000 ∧ ∀ x : Int, k (.d (.int x)) ss
theorem mono_F__law_parting_person : MonoF F__law_parting_person := fun ss k k' hk ⟨a, b, c, d, e, f, g, h, i, j, l, m, n, q⟩ => ⟨a, b, c, d, e, f, g, h, i, j, l, m, n, fun x => hk _ _ (q x)⟩
theorem min_two (a b : Nat) : minD [nI a, nI b] = some (.d (nI (min a b))) := by
  show some (Sl.d (.int (if (b : Int) < (a : Int) then (b : Int) else (a : Int)))) = _
  have : (if (b : Int) < (a : Int) then (b : Int) else (a : Int)) = ((min a b : Nat) : Int) := by
    split <;> omega
  rw [this]
/-- _law_parting_person: slots 0 hearing 1 path 2 other 3 node 4 k -/
def W__law_parting_person : ST := (sSeq (sSet 3 (eVar 0))
    (sSeq (sFor (iRg1 (eCB minD (aCons (eLenV 1) (aCons (eLenV 2) aNil)))) (gN 4) (sSeq (sIf (bBin neD (eIdxV 1 (eVar 4)) (eIdxV 2 (eVar 4))) (sRet (eIdxV 3 (eC (.int 1)))) sNext)
    (sSet 3 (eBin idxS (eBin idxS (eIdxV 3 (eC (.int 2))) (eIdxV 1 (eVar 4))) (eC (.int 1))))))
    (sRet (eNeg (eC (.int 1))))))
theorem ok__law_parting_person : BodyOk 5 W__law_parting_person F__law_parting_person := by
  rintro _ k ⟨b, t, ns, p1, p2, b1, b2, rfl, ht, h1, h2, l1, l2, q⟩
  simp [W__law_parting_person, entry, min_two]
  simp only [rgD_nat, rgB_nat (show min p1.length p2.length ≤ 16777216 by omega), true_and]
  refine loop_idx (fun i ρ => ∃ (b' : List (List Nat)) (t' : D) (ns' : List NodeL) (s4 : Sl), IsHear b' t' ns' ∧ (p1.drop i, b1, dEndH) ∈ ns' ∧ (p2.drop i, b2, dEndH) ∈ ns' ∧ ρ = [.d t, .d (dNats p1), .d (dNats p2), .d t', s4]) ⟨b, t, ns, .non, ht, by simpa using h1, by simpa using h2, rfl⟩ (fun ρ h => ?_) fun i d hd ρ N hN h => ?_
  · obtain ⟨b', t', ns', s4, h1, h2, h3, rfl⟩ := h
    simp
    exact q _
  · obtain ⟨b', t', ns', s4, h1, h2, h3, rfl⟩ := h
    obtain ⟨hi, rfl⟩ := at_rg hd
    obtain ⟨a, ha⟩ : ∃ a, p1[i]? = some a := ⟨_, List.getElem?_eq_getElem (by omega)⟩
    obtain ⟨c, hc⟩ : ∃ a, p2[i]? = some a := ⟨_, List.getElem?_eq_getElem (by omega)⟩
    have e1 : p1.drop i = a :: p1.drop (i + 1) := by
      obtain ⟨hlt, e⟩ := List.getElem?_eq_some_iff.mp ha
      rw [List.drop_eq_getElem_cons hlt, e]
    have e2 : p2.drop i = c :: p2.drop (i + 1) := by
      obtain ⟨hlt, e⟩ := List.getElem?_eq_some_iff.mp hc
      rw [List.drop_eq_getElem_cons hlt, e]
    rw [e1] at h2
    rw [e2] at h3
    simp [ha, hc]
    cases h1 with
    | leaf => simp at h2
    | ask _ p part rows hp hs hr =>
      have h2' : (a :: p1.drop (i + 1), b1, dEndH) ∈ kidsN rows := by simpa using h2
      have h3' : (c :: p2.drop (i + 1), b2, dEndH) ∈ kidsN rows := by simpa using h3
      obtain ⟨a', r, m, g1, g2, g3⟩ := kids_mem.mp h2'
      obtain ⟨c', r', m', g1', g2', g3'⟩ := kids_mem.mp h3'
      have ea : a = a' ∧ p1.drop (i + 1) = m.1 ∧ (b1, dEndH) = m.2 := by simpa [and_assoc] using g3
      have ec : c = c' ∧ p2.drop (i + 1) = m'.1 ∧ (b2, dEndH) = m'.2 := by simpa [and_assoc] using g3'
      obtain ⟨rfl, ea1, ea2⟩ := ea
      obtain ⟨rfl, ec1, ec2⟩ := ec
      have em : m = (p1.drop (i + 1), b1, dEndH) := by rw [ea1, ea2]
      have em' : m' = (p2.drop (i + 1), b2, dEndH) := by rw [ec1, ec2]
      subst em
      subst em'
      by_cases z : a = c
      · subst z
        rw [g1] at g1'
        cases g1'
        simp [at_nat, g1]
        exact hN _ ⟨_, _, _, _, hr r (List.mem_of_getElem? g1), g2, g2', rfl⟩
      · simp [z]
        exact q _
end Dl

set_option Elab.async false
set_option linter.all false
set_option maxRecDepth 100000
set_option autoImplicit false
set_option maxHeartbeats 2000000
namespace Dl
open PySem PySem.Spec PyProof.Rows L2

theorem hear_box {b : List (List Nat)} {t : D} {ns : List NodeL} (h : IsHear b t ns) : ∀ n ∈ ns, n.2.1.length = b.length ∧ n.1.length ≤ ns.length := by
  induction h with
  | leaf b =>
    intro n hn
    have : n = ([], b, dEndH) := by simpa using hn
    subst this
    simp
  | ask b p part rows hp hs hr ih =>
    intro n hn
    rcases List.mem_cons.mp hn with rfl | hn
    · simp
    · obtain ⟨a, r, m, h1, h2, rfl⟩ := kids_mem.mp hn
      obtain ⟨g1, g2⟩ := ih r (List.mem_of_getElem? h1) m h2
      have := kid_len h1
      simp at g1 ⊢
      exact ⟨g1, by omega⟩
theorem leaf_of {b : List (List Nat)} {t : D} {ns : List NodeL} (h : IsHear b t ns) {n : NodeL} (hn : n ∈ leavesN ns) : n ∈ ns ∧ n.2.2 = dEndH ∧ n.2.1.length = b.length ∧ n.1.length ≤ ns.length := by
  obtain ⟨h1, h2⟩ := List.mem_filter.mp hn
  obtain ⟨g1, g2⟩ := hear_box h n h1
  refine ⟨h1, ?_, g1, g2⟩
  rcases hear_node h n h1 with e | ⟨p, rows, e⟩
  · exact e
  · unfold isEndN at h2
    rw [e] at h2
    simp [dAsk] at h2
@[simp] theorem ix_leaf0 {n : NodeL} : idxD (dLeaf n) (.int 0) = some (dNats n.1) := rfl
@[simp] theorem ix_leaf1 {n : NodeL} : idxD (dLeaf n) (.int 1) = some (dBox n.2.1) := rfl
@[simp] theorem max_two {a b : Int} : maxD [.int a, .int b] = some (.d (.int (if b > a then b else a))) := rfl
def F__law_heard_values : FT := fun ss k => ∃ (b : List (List Nat)) (t : D) (ns : List NodeL) (person kind : Nat) (ws : List Nat) (slack : Int), ss = [.drw true, .d t, .d (.list ((leavesN ns).map dLeaf)), .d (nI person), .d (nI kind), .d (dNats ws), .d (.int slack)] ∧ IsHear b t ns ∧
  ns.length ≤ 100000 ∧ person < b.length ∧ (∀ w ∈ ws, w < b.length) ∧ ∀ vs : List Int, vs.length = (leavesN ns).length → k (.d (.list (vs.map .int))) ss
theorem mono_F__law_heard_values : MonoF F__law_heard_values := fun ss k k' hk ⟨a, b, c, d, e, f, g, h, i, j, l, m, q⟩ => ⟨a, b, c, d, e, f, g, h, i, j, l, m, fun x h => hk _ _ (q x h)⟩
theorem map_set_int (vs : List Int) (i : Nat) (x : Int) : (vs.map PyData.int).set i (.int x) = (vs.set i x).map .int := (List.map_set ..).symm
@[simp] theorem sq_leaf {n : NodeL} {kg : Rho → Prop} {ρ : Rho} {i j : Nat} : gT 2 (gsC (gN i) (gsC (gN j) gsN)) (dLeaf n) ρ kg = kg ((ρ.set i (.d (dNats n.1))).set j (.d (dBox n.2.1))) := by simp [dLeaf]
/-- _law_heard_values: slots 0 d 1 hearing 2 leaves 3 person 4 kind 5 watches 6 slack 7 values 8 k 9 path 10 box 11 least 12 j 13 way 14 other 15 met 16 leaf 17 w 18 word -/
def W__law_heard_values : ST := (sSeq (sSet 7 (eLC (iSeq (eVar 2)) (gN 16) bYes (eC (.int 0)) [16]))
    (sSeq (sFor (iRg1 (eLenV 2)) (gN 8) (sIf (bBin (inD false) (eVar 4) (eBin idxS (eBin idxS (eIdxV 2 (eVar 8)) (eC (.int 1))) (eVar 3))) (sPutL 7 (eVar 8) (eBin subD (eCall F__law_draw (.r 0 :: (.e (eC (.int 6)) :: []))) (eC (.int 1)))) sNext))
    (sSeq (sFor (iRg1 (eLenV 2)) (gN 8) (sSeq (sAsgT (eIdxV 2 (eVar 8)) (gT 2 (gsC (gN 9) (gsC (gN 10) gsN))))
    (sIf (bBin (inD true) (eVar 4) (eIdxV 10 (eVar 3))) (sSeq (sSet 11 (eC .none))
    (sSeq (sFor (iRg1 (eLenV 2)) (gN 12) (sSeq (sAsgT (eIdxV 2 (eVar 12)) (gT 2 (gsC (gN 13) (gsC (gN 14) gsN))))
    (sSeq (sSet 15 (eLC (iSeq (eVar 5)) (gN 17) (bNot (bTru (eLC (iSeq (eIdxV 10 (eVar 17))) (gN 18) (bBin (inD false) (eVar 18) (eIdxV 14 (eVar 17))) (eVar 18) [18]))) (eVar 17) [17]))
    (sIf ((bAnd (bBin (inD false) (eVar 4) (eIdxV 14 (eVar 3))) (bAnd (bNot (bTruV 15)) (bBin eqD (eCall F__law_parting_person (.e (eVar 1) :: (.e (eVar 9) :: (.e (eVar 13) :: [])))) (eVar 3))))) (sIf ((bOr (bIsN false (eVar 11)) (bBin ltD (eIdxV 7 (eVar 12)) (eVar 11)))) (sSet 11 (eIdxV 7 (eVar 12))) sNext) sNext))))
    (sSeq (sIf (bIsN false (eVar 11)) (sSet 11 (eCall F__law_draw (.r 0 :: (.e (eC (.int 5)) :: [])))) sNext)
    (sPutL 7 (eVar 8) (eBin subD (eBin addD (eVar 11) (eVar 6)) (eCB maxD (aCons (eC (.int 0)) (aCons (eBin subD (eCall F__law_draw (.r 0 :: (.e (eC (.int 4)) :: []))) (eC (.int 1))) aNil)))))))) sNext)))
    (sRet (eVar 7)))))
theorem ok__law_heard_values : BodyOk 19 W__law_heard_values F__law_heard_values := by
  rintro _ k ⟨b, t, ns, person, kind, ws, slack, rfl, ht, hn, hp, hw, q⟩
  have hll : (leavesN ns).length ≤ 100000 := Nat.le_trans (List.length_filter_le _ _) hn
  have lf : ∀ i, i < (leavesN ns).length → ∃ n part, (leavesN ns)[i]? = some n ∧ (n.1, n.2.1, dEndH) ∈ ns ∧ n.2.1.length = b.length ∧ n.1.length ≤ 100000 ∧ n.2.1[person]? = some part := fun i hi => by
    have hm : (leavesN ns)[i] ∈ leavesN ns := List.getElem_mem hi
    obtain ⟨h1, h2, h3, h4⟩ := leaf_of ht hm
    refine ⟨(leavesN ns)[i], _, List.getElem?_eq_getElem hi, ?_, h3, by omega, List.getElem?_eq_getElem (by rw [h3]; exact hp)⟩
    rw [← h2]
    exact h1
  simp [W__law_heard_values, entry]
  refine lc_mapA (fun _ => .int 0) (by simp) (fun n hnm N M hN => ?_) ?_
  · simp
    exact hN
  have e0 : (leavesN ns).map (fun _ => PyData.int 0) = ((leavesN ns).map fun _ => (0 : Int)).map .int := by simp [Function.comp_def]
  rw [e0]
  have el : ((leavesN ns).map fun _ => (0 : Int)).length = (leavesN ns).length := by simp
  generalize ((leavesN ns).map fun _ => (0 : Int)) = vs0 at el
  simp [rgD_nat, rgB_nat (show (leavesN ns).length ≤ 16777216 by omega)]
  refine loop_idx (fun i ρ => ∃ (vs : List Int) (s8 : Sl), vs.length = (leavesN ns).length ∧ ρ = [.drw true, .d t, .d (.list ((leavesN ns).map dLeaf)), .d (nI person), .d (nI kind), .d (dNats ws), .d (.int slack), .own false (vs.map .int), s8, .non, .non, .non, .non, .non, .non, .non, .non, .non, .non]) ⟨vs0, .non, el, rfl⟩ (fun ρ h => ?_) fun i d hd ρ N hN h => ?_
  · obtain ⟨vs, s8, hvs, rfl⟩ := h
    simp [rgD_nat, rgB_nat (show (leavesN ns).length ≤ 16777216 by omega)]
    refine loop_idx (fun i ρ => ∃ (vs : List Int) (s8 s9 s10 s11 s12 s13 s14 s15 : Sl), vs.length = (leavesN ns).length ∧ ρ = [.drw true, .d t, .d (.list ((leavesN ns).map dLeaf)), .d (nI person), .d (nI kind), .d (dNats ws), .d (.int slack), .own false (vs.map .int), s8, s9, s10, s11, s12, s13, s14, s15, .non, .non, .non]) ⟨vs, s8, .non, .non, .non, .non, .non, .non, .non, hvs, rfl⟩ (fun ρ h => ?_) fun i d hd ρ N hN h => ?_
    · obtain ⟨vs, s8, s9, s10, s11, s12, s13, s14, s15, hvs, rfl⟩ := h
      simp
      exact q vs hvs
    · obtain ⟨vs, s8, s9, s10, s11, s12, s13, s14, s15, hvs, rfl⟩ := h
      obtain ⟨hi, rfl⟩ := at_rg hd
      obtain ⟨n, part, hn1, hn2, hn3, hn4, hn5⟩ := lf i hi
      simp [at_nat, hn1, hn5]
      split
      · exact hN _ ⟨vs, _, _, _, _, _, _, _, _, hvs, rfl⟩
      · simp [rgD_nat, rgB_nat (show (leavesN ns).length ≤ 16777216 by omega)]
        refine loop_idx (fun j ρ => ∃ (least : D) (s12 s13 s14 s15 : Sl), (least = .none ∨ ∃ x, least = .int x) ∧ ρ = [.drw true, .d t, .d (.list ((leavesN ns).map dLeaf)), .d (nI person), .d (nI kind), .d (dNats ws), .d (.int slack), .own false (vs.map .int), .d (nI i), .d (dNats n.1), .d (dBox n.2.1), .d least, s12, s13, s14, s15, .non, .non, .non]) ⟨.none, s12, s13, s14, s15, Or.inl rfl, rfl⟩ (fun ρ h => ?_) fun j d hd ρ N2 hN2 h => ?_
        · obtain ⟨least, s12, s13, s14, s15, hl, rfl⟩ := h
          have fin : ∀ (x : Int) s12 s13 s14 s15 s11, N [.drw true, .d t, .d (.list ((leavesN ns).map dLeaf)), .d (nI person), .d (nI kind), .d (dNats ws), .d (.int slack), .own false ((vs.set i x).map .int), .d (nI i), .d (dNats n.1), .d (dBox n.2.1), s11, s12, s13, s14, s15, .non, .non, .non] := fun x s12 s13 s14 s15 s11 => hN _ ⟨vs.set i x, _, _, _, _, _, _, _, _, by simp [hvs], rfl⟩
          have hix : ixN (vs.map PyData.int).length (i : Int) = some i := ix_nat (by simp [hvs, hi])
          rcases hl with rfl | ⟨x, rfl⟩
          · simp
            refine ⟨5, rfl, by omega, by omega, fun j hj => ?_⟩
            simp
            refine ⟨4, rfl, by omega, by omega, fun g hg => ?_⟩
            simp at hix
            simp [hix]
            rw [map_set_int]
            exact fin _ _ _ _ _ _
          · simp
            refine ⟨4, rfl, by omega, by omega, fun g hg => ?_⟩
            simp at hix
            simp [hix]
            rw [map_set_int]
            exact fin _ _ _ _ _ _
        · obtain ⟨least, s12, s13, s14, s15, hl, rfl⟩ := h
          obtain ⟨hj, rfl⟩ := at_rg hd
          obtain ⟨n2, part2, hm1, hm2, hm3, hm4, hm5⟩ := lf j hj
          obtain ⟨v, hv⟩ : ∃ v, vs[j]? = some v := ⟨_, List.getElem?_eq_getElem (by omega)⟩
          simp [at_nat, hm1]
          refine lc_st (fun pre acc ρ => ρ = [.drw true, .d t, .d (.list ((leavesN ns).map dLeaf)), .d (nI person), .d (nI kind), .d (dNats ws), .d (.int slack), .own false (vs.map .int), .d (nI i), .d (dNats n.1), .d (dBox n.2.1), .d least, .d (nI j), .d (dNats n2.1), .d (dBox n2.2.1), s15, .non, .non, .non]) (by simp) rfl (fun pre w post acc ρ e h N3 M3 hN3 hM3 => ?_) fun acc ρ h => ?_
          · subst h
            have hwb : w < b.length := hw w (by rw [e]; simp)
            obtain ⟨pw, hpw⟩ : ∃ pw, n.2.1[w]? = some pw := ⟨_, List.getElem?_eq_getElem (by omega)⟩
            obtain ⟨pw2, hpw2⟩ : ∃ pw, n2.2.1[w]? = some pw := ⟨_, List.getElem?_eq_getElem (by omega)⟩
            simp [hpw]
            refine lc_st (fun pre acc ρ => ρ = [.drw true, .d t, .d (.list ((leavesN ns).map dLeaf)), .d (nI person), .d (nI kind), .d (dNats ws), .d (.int slack), .own false (vs.map .int), .d (nI i), .d (dNats n.1), .d (dBox n.2.1), .d least, .d (nI j), .d (dNats n2.1), .d (dBox n2.2.1), s15, .non, .d (nI w), .non]) (by simp) rfl (fun pre x post acc ρ e h N4 M4 hN4 hM4 => ?_) fun acc ρ h => ?_
            · subst h
              simp [hpw2]
              split
              · exact hN4 _ _ rfl
              · exact hM4 _ rfl
            · subst h
              simp [truD]
              split
              · try simp
                exact hN3 _ _ rfl
              · try simp
                exact hM3 _ rfl
          · subst h
            simp [hm5, truD]
            have go : N2 [.drw true, .d t, .d (.list ((leavesN ns).map dLeaf)), .d (nI person), .d (nI kind), .d (dNats ws), .d (.int slack), .own false (vs.map .int), .d (nI i), .d (dNats n.1), .d (dBox n.2.1), .d least, .d (nI j), .d (dNats n2.1), .d (dBox n2.2.1), .own false acc, .non, .non, .non] := hN2 _ ⟨least, _, _, _, _, hl, rfl⟩
            split
            · split
              · refine ⟨b, t, ns, n.1, n2.1, n.2.1, n2.2.1, rfl, ht, hn2, hm2, hn4, hm4, fun z => ?_⟩
                simp
                split
                · rcases hl with rfl | ⟨x, rfl⟩
                  · simp [at_nat, hv]
                    exact hN2 _ ⟨.int v, _, _, _, _, Or.inr ⟨_, rfl⟩, rfl⟩
                  · simp [at_nat, hv]
                    split
                    · exact hN2 _ ⟨.int v, _, _, _, _, Or.inr ⟨_, rfl⟩, rfl⟩
                    · exact go
                · exact go
              · exact go
            · exact go
  · obtain ⟨vs, s8, hvs, rfl⟩ := h
    obtain ⟨hi, rfl⟩ := at_rg hd
    obtain ⟨n, part, hn1, hn2, hn3, hn4, hn5⟩ := lf i hi
    have hix : ixN vs.length (i : Int) = some i := ix_nat (by omega)
    simp [at_nat, hn1, hn5]
    split
    · refine ⟨6, rfl, by omega, by omega, fun j hj => ?_⟩
      simp [hix]
      rw [map_set_int]
      exact hN _ ⟨vs.set i _, _, by simp [hvs], rfl⟩
    · exact hN _ ⟨vs, _, hvs, rfl⟩
end Dl

set_option Elab.async false
set_option linter.all false
set_option maxRecDepth 100000
set_option autoImplicit false
set_option maxHeartbeats 2000000
namespace Dl
open PySem PySem.Spec PyProof.Rows L2

theorem lay_ints (l : List Int) : PyData.canLayAll0 (l.map PyData.int) = true := by
  induction l with
  | nil => rfl
  | cons a l ih => simp [PyData.canLayAll0, PyData.canLay0, ih]
theorem lay_nats (l : List Nat) : PyData.canLayAll0 (l.map nI) = true := by
  induction l with
  | nil => rfl
  | cons a l ih => simp [PyData.canLayAll0, PyData.canLay0, ih]
theorem depth_nats (l : List Nat) : (dNats l).depth = 1 := by
  unfold dNats
  simp only [PyData.depth]
  have : PyData.depthAll (l.map nI) = 0 := by
    induction l with
    | nil => rfl
    | cons a l ih => simp [PyData.depthAll, PyData.depth, ih]
  rw [this]
theorem shaped_nats (l : List Nat) : SeqAt.shaped (dNats l) = true := by
  unfold SeqAt.shaped
  rw [Bool.and_eq_true]
  refine ⟨?_, decide_eq_true ?_⟩
  · simp [dNats, PyData.canLay0, lay_nats]
  · have := depth_nats l
    omega
theorem shaped_paths (l : List (List Nat)) : SeqAt.shaped (.list (l.map dNats)) = true := by
  unfold SeqAt.shaped
  rw [Bool.and_eq_true]
  refine ⟨?_, decide_eq_true ?_⟩
  · simp only [PyData.canLay0]
    induction l with
    | nil => rfl
    | cons a l ih =>
      have h : (dNats a).canLay0 = true := shaped_lay (shaped_nats a)
      simp [PyData.canLayAll0, ih, h]
  · simp only [PyData.depth]
    have : PyData.depthAll (l.map dNats) ≤ 1 := by
      induction l with
      | nil => exact Nat.zero_le _
      | cons a l ih =>
        have h := depth_nats a
        simp only [List.map_cons, PyData.depthAll]
        omega
    omega
theorem eqv_nats (a b : List Nat) : PyData.eqv (dNats a) (dNats b) = decide (a = b) := by
  unfold dNats
  simp only [PyData.eqv]
  induction a generalizing b with
  | nil => cases b <;> simp [PyData.eqvAll]
  | cons x a ih =>
    cases b with
    | nil => simp [PyData.eqvAll]
    | cons y b =>
      simp only [List.map_cons, PyData.eqvAll, PyData.eqv, ih]
      rw [Bool.eq_iff_iff]
      simp
theorem x_index {Ta Tb : ET} {ρ : Rho} {k : Sl → Rho → Prop} : eIndex Ta Tb ρ k = Ta ρ (asD fun x ρ1 => ∃ ds : List D, x = .list ds ∧ SeqAt.shaped (.list ds) = true ∧ Tb ρ1 (asD fun y ρ2 => ∃ j : Nat, SeqAt.shaped y = true ∧ (ds.findIdx? fun z => PyData.eqv z y) = some j ∧ k (.d (.int (j : Nat))) ρ2)) := rfl
theorem find_path {l : List (List Nat)} {p : List Nat} (h : p ∈ l) : ∃ j, ((l.map dNats).findIdx? fun z => PyData.eqv z (dNats p)) = some j ∧ j < l.length := by
  cases e : (l.map dNats).findIdx? fun z => PyData.eqv z (dNats p) with
  | none =>
    rw [List.findIdx?_eq_none_iff] at e
    have := e (dNats p) (List.mem_map_of_mem h)
    rw [eqv_nats] at this
    simp at this
  | some j =>
    refine ⟨j, rfl, ?_⟩
    obtain ⟨h1, _⟩ := List.findIdx?_eq_some_iff_getElem.mp e
    simpa using h1
theorem ranges_ok {ms : List Nat} (h : SizesOk ms) : BoxOk (ranges ms) := by
  refine ⟨by simpa [ranges] using h.len.2, fun p hp => ?_⟩
  obtain ⟨m, hm, rfl⟩ := List.mem_map.mp hp
  have := h.each m hm
  exact ⟨by simpa using this, List.nodup_range⟩
def F__law_heard_house : FT := fun ss k => ∃ (ms : List Nat) (wo pay : Nat), ss = [.drw true, .d (dNats ms), .d (nI wo), .d (nI pay)] ∧ SizesOk ms ∧ prodN ms ≤ 256 ∧ (1 ≤ wo ∧ wo ≤ 3) ∧ pay ≤ 1000000 ∧
  ∀ (h : HouseL) (t : D) (ns : List NodeL), Wf h → sizes h = ms → IsHear (ranges ms) t ns → (leavesN ns).length ≤ 12 → k (.d (.tuple [dHouse h, t])) ss
theorem mono_F__law_heard_house : MonoF F__law_heard_house := fun ss k k' hk ⟨a, b, c, d, e, f, g, h, q⟩ => ⟨a, b, c, d, e, f, g, h, fun x y z h1 h2 h3 h4 => hk _ _ (q x y z h1 h2 h3 h4)⟩
/-- _law_heard_house: slots 0 d 1 sizes 2 worths 3 pay 4 names 5 whole_box 6 hearing 7 leaves 8 told 9 paid 10 slack 11 persons 12 person 13 words 14 watches 15 kinds 16 kind 17 rows 18 j 19 values 20 paths 21 ends 22 row 23 at 24 many 25 leaf 26 k -/
def W__law_heard_house : ST := (sSeq (sSet 4 (eCall F__law_pool []))
    (sSeq (sSet 5 (eCB tupD (aCons (eLC (iSeq (eVar 1)) (gN 24) bYes (eTupRg (eVar 24)) [24]) aNil)))
    (sSeq (sSet 6 (eCall (F__law_hearing 5) (.r 0 :: (.e (eVar 5) :: (.e (eC (.int 12)) :: [])))))
    (sSeq (sSet 7 (eCall F__law_leaves (.e (eVar 5) :: (.e (eVar 6) :: []))))
    (sSeq (sSet 8 (eCB tupD (aCons (eLC (iSeq (eVar 7)) (gN 25) bYes (eCall F__law_pop (.r 0 :: (.r 4 :: []))) [25]) aNil)))
    (sSeq (sSet 9 (eLC (iSeq (eVar 7)) (gN 25) bYes (eCB tupD (aCons (eLC (iSeq (eVar 1)) (gN 26) bYes (eBin subD (eCall F__law_draw (.r 0 :: (.e (eBin addD (eBin mulD (eC (.int 2)) (eVar 3)) (eC (.int 1))) :: []))) (eVar 3)) [26]) aNil)) [25]))
    (sSeq (sSet 10 (eC (.int 0)))
    (sSeq (sIf (bBin eqD (eCall F__law_draw (.r 0 :: (.e (eC (.int 4)) :: []))) (eC (.int 1))) (sSet 10 (eBin addD (eC (.int 1)) (eCall F__law_draw (.r 0 :: (.e (eC (.int 3)) :: []))))) sNext)
    (sSeq (sSet 11 (eLst aNil))
    (sSeq (sFor (iRg1 (eLenV 1)) (gN 12) (sSeq (sSet 13 (eCall F__law_pool []))
    (sSeq (sSet 14 (eCall F__law_watching (.r 0 :: (.e (eVar 12) :: (.e (eLenV 1) :: [])))))
    (sSeq (sSet 15 (eLst aNil))
    (sSeq (sFor (iRg1 (eIdxV 1 (eVar 12))) (gN 16) (sSeq (sSet 17 (eLst aNil))
    (sSeq (sFor (iRg1 (eBin addD (eC (.int 1)) (eCall F__law_draw (.r 0 :: (.e (eVar 2) :: []))))) (gN 18) (sSeq (sSet 19 (eCall F__law_heard_values (.r 0 :: (.e (eVar 6) :: (.e (eVar 7) :: (.e (eVar 12) :: (.e (eVar 16) :: (.e (eVar 14) :: (.e (eVar 10) :: [])))))))))
    (sExpr (eApp 17 (eCB tupD (aCons (eLC (iRg1 (eLenV 7)) (gN 26) bYes (eBin addD (eIdxV 19 (eVar 26)) (eBin idxS (eIdxV 9 (eVar 26)) (eVar 12))) [26]) aNil))))))
    (sExpr (eApp 15 (eTup (aCons (eCall F__law_pop (.r 0 :: (.r 13 :: []))) (aCons (eCB tupD (aCons (eVar 17) aNil)) aNil))))))))
    (sExpr (eApp 11 (eTup (aCons (eCall F__law_pop (.r 0 :: (.r 4 :: []))) (aCons (eCB tupD (aCons (eVar 15) aNil)) (aCons (eVar 14) aNil)))))))))))
    (sSeq (sSet 20 (eLC (iSeq (eVar 7)) (gN 25) bYes (eIdxV 25 (eC (.int 0))) [25]))
    (sSeq (sSet 21 (eLst aNil))
    (sSeq (sFor (iSeq (eCall F__law_rows (.e (eVar 5) :: []))) (gN 22) (sSeq (sSet 23 (eIndex (eVar 20) (eBin idxS (eCall F__law_run (.e (eVar 6) :: (.e (eVar 22) :: []))) (eC (.int 1)))))
    (sExpr (eApp 21 (eTup (aCons (eVar 23) (aCons (eIdxV 9 (eVar 23)) aNil)))))))
    (sRet (eTup (aCons (eTup (aCons (eC (.str "house")) (aCons (eVar 8) (aCons (eCB tupD (aCons (eVar 11) aNil)) (aCons (eCB tupD (aCons (eVar 21) aNil)) (aCons (eVar 10) aNil)))))) (aCons (eVar 6) aNil)))))))))))))))))
theorem ok__law_heard_house : BodyOk 27 W__law_heard_house F__law_heard_house := by
  rintro _ k ⟨ms, wo, pay, rfl, hm, hp, hw, hpay, q⟩
  have hml := hm.len
  have hbo := ranges_ok hm
  simp [W__law_heard_house, entry]
  refine ⟨rfl, ?_⟩
  simp
  refine lc_mapA (fun m => dNats (List.range m)) (by simp) (fun m hm' N M hN => ?_) ?_
  · have := hm.each m hm'
    simp [rgD_nat, rgB_nat (show m ≤ 16777216 by omega)]
    exact hN
  have eR : ms.map (fun m => dNats (List.range m)) = (ranges ms).map dNats := by simp [ranges, Function.comp_def]
  rw [eR]
  simp
  refine ⟨ranges ms, 12, rfl, hbo, by omega, by omega, by omega, fun t ns ht hns => ?_⟩
  have hlen := hear_len ht
  have hpos := hear_pos ht
  have hrl : (ranges ms).length = ms.length := by simp [ranges]
  simp
  refine ⟨ranges ms, t, ns, rfl, ht, hbo, by omega, ?_⟩
  simp
  -- the outcomes' names
  refine lc_st (fun pre acc ρ => ∃ (told l : List Str), told.length = pre.length ∧ l.length + told.length = 65 ∧ acc = told.map .str ∧
      ρ = [.drw true, .d (dNats ms), .d (nI wo), .d (nI pay), .own false (l.map .str), .d (dBox (ranges ms)), .d t, .d (.list ((leavesN ns).map dLeaf)), .non, .non, .non, .non, .non, .non, .non, .non, .non, .non, .non, .non, .non, .non, .non, .non, .non, .non, .non]) (by simp) ⟨[], pool, rfl, by rw [pool_len]; rfl, rfl, rfl⟩ (fun pre o post acc ρ e h N M hN hM => ?_) fun acc ρ h => ?_
  · obtain ⟨told, l, ht', hl, rfl, rfl⟩ := h
    have hpre : pre.length < 12 := by
      have := congrArg List.length e
      simp at this
      omega
    simp
    refine ⟨_, rfl, by simp; omega, by simp; omega, fun j y hy => ?_⟩
    obtain ⟨x, rfl, hj, he⟩ := pop_strs hy
    rw [he]
    simp
    refine hN _ _ ⟨told ++ [x], l.eraseIdx j, by simp [ht'], ?_, by simp, rfl⟩
    rw [List.length_eraseIdx_of_lt hj]
    simp
    omega
  obtain ⟨told, l, htl, hl, rfl, rfl⟩ := h
  simp
  -- the payments
  refine lc_st (fun pre acc ρ => ∃ paid : List (List Int), paid.length = pre.length ∧ (∀ x ∈ paid, x.length = ms.length) ∧ acc = paid.map dInts ∧
      ρ = [.drw true, .d (dNats ms), .d (nI wo), .d (nI pay), .own false (l.map .str), .d (dBox (ranges ms)), .d t, .d (.list ((leavesN ns).map dLeaf)), .d (.tuple (told.map .str)), .non, .non, .non, .non, .non, .non, .non, .non, .non, .non, .non, .non, .non, .non, .non, .non, .non, .non]) (by simp) ⟨[], rfl, by simp, rfl, rfl⟩ (fun pre o post acc ρ e h N M hN hM => ?_) fun acc ρ h => ?_
  · obtain ⟨paid, hpl, hpp, rfl, rfl⟩ := h
    simp
    refine lc_st (fun pre acc ρ => ∃ xs : List Int, xs.length = pre.length ∧ acc = xs.map .int ∧ ρ = [.drw true, .d (dNats ms), .d (nI wo), .d (nI pay), .own false (l.map .str), .d (dBox (ranges ms)), .d t, .d (.list ((leavesN ns).map dLeaf)), .d (.tuple (told.map .str)), .non, .non, .non, .non, .non, .non, .non, .non, .non, .non, .non, .non, .non, .non, .non, .non, .d (dLeaf o), .non]) (by simp) ⟨[], rfl, rfl, rfl⟩ (fun pre o post acc ρ e h N1 M1 hN1 hM1 => ?_) fun acc ρ h => ?_
    · obtain ⟨xs, hx, rfl, rfl⟩ := h
      simp [r_mul_l (show (2 : Int).natAbs < 2 ^ 64 by decide)]
      refine ⟨2 * pay + 1, by simp, by omega, by omega, fun j hj => ?_⟩
      simp
      exact hN1 _ _ ⟨xs ++ [(j : Int) - pay], by simp [hx], by simp, rfl⟩
    · obtain ⟨xs, hx, rfl, rfl⟩ := h
      simp
      refine hN _ _ ⟨paid ++ [xs], by simp [hpl], fun y hy => ?_, by simp [dInts], rfl⟩
      rcases List.mem_append.mp hy with hy | hy
      · exact hpp y hy
      · have : y = xs := by simpa using hy
        subst this
        exact hx
  obtain ⟨paid, hpl, hpp, rfl, rfl⟩ := h
  simp
  refine ⟨4, rfl, by omega, by omega, fun j hj => ?_⟩
  simp
  have key : ∀ slack : Int, (sSeq (sSet 11 (eLst aNil)) (sSeq (sFor (iRg1 (eLenV 1)) (gN 12) (sSeq (sSet 13 (eCall F__law_pool []))
    (sSeq (sSet 14 (eCall F__law_watching (.r 0 :: (.e (eVar 12) :: (.e (eLenV 1) :: [])))))
    (sSeq (sSet 15 (eLst aNil))
    (sSeq (sFor (iRg1 (eIdxV 1 (eVar 12))) (gN 16) (sSeq (sSet 17 (eLst aNil))
    (sSeq (sFor (iRg1 (eBin addD (eC (.int 1)) (eCall F__law_draw (.r 0 :: (.e (eVar 2) :: []))))) (gN 18) (sSeq (sSet 19 (eCall F__law_heard_values (.r 0 :: (.e (eVar 6) :: (.e (eVar 7) :: (.e (eVar 12) :: (.e (eVar 16) :: (.e (eVar 14) :: (.e (eVar 10) :: [])))))))))
    (sExpr (eApp 17 (eCB tupD (aCons (eLC (iRg1 (eLenV 7)) (gN 26) bYes (eBin addD (eIdxV 19 (eVar 26)) (eBin idxS (eIdxV 9 (eVar 26)) (eVar 12))) [26]) aNil))))))
    (sExpr (eApp 15 (eTup (aCons (eCall F__law_pop (.r 0 :: (.r 13 :: []))) (aCons (eCB tupD (aCons (eVar 17) aNil)) aNil))))))))
    (sExpr (eApp 11 (eTup (aCons (eCall F__law_pop (.r 0 :: (.r 4 :: []))) (aCons (eCB tupD (aCons (eVar 15) aNil)) (aCons (eVar 14) aNil)))))))))))
    (sSeq (sSet 20 (eLC (iSeq (eVar 7)) (gN 25) bYes (eIdxV 25 (eC (.int 0))) [25]))
    (sSeq (sSet 21 (eLst aNil))
    (sSeq (sFor (iSeq (eCall F__law_rows (.e (eVar 5) :: []))) (gN 22) (sSeq (sSet 23 (eIndex (eVar 20) (eBin idxS (eCall F__law_run (.e (eVar 6) :: (.e (eVar 22) :: []))) (eC (.int 1)))))
    (sExpr (eApp 21 (eTup (aCons (eVar 23) (aCons (eIdxV 9 (eVar 23)) aNil)))))))
    (sRet (eTup (aCons (eTup (aCons (eC (.str "house")) (aCons (eVar 8) (aCons (eCB tupD (aCons (eVar 11) aNil)) (aCons (eCB tupD (aCons (eVar 21) aNil)) (aCons (eVar 10) aNil)))))) (aCons (eVar 6) aNil))))))))) { nx := fun ρ' => k (.d .none) (fin [.drw true, .d (dNats ms), .d (nI wo), .d (nI pay)] ρ'), rt := fun r ρ' => k r (fin [.drw true, .d (dNats ms), .d (nI wo), .d (nI pay)] ρ'), bk := fun _ => False, ct := fun _ => False } [.drw true, .d (dNats ms), .d (nI wo), .d (nI pay), .own false (l.map .str), .d (dBox (ranges ms)), .d t, .d (.list ((leavesN ns).map dLeaf)), .d (.tuple (told.map .str)), .own false (paid.map dInts), .d (.int slack), .non, .non, .non, .non, .non, .non, .non, .non, .non, .non, .non, .non, .non, .non, .non, .non] := by
    intro slack
    simp [rgD_nat, rgB_nat (show ms.length ≤ 16777216 by omega)]
    refine loop_idx (fun i ρ => ∃ (ps : List PersonL) (l : List Str) (s12 s13 s14 s15 s16 s17 s18 s19 s26 : Sl), plainB s26 = true ∧ l.length + told.length + i = 65 ∧ PersonsOk told.length ms.length (ms.take i) ps ∧
        ρ = [.drw true, .d (dNats ms), .d (nI wo), .d (nI pay), .own false (l.map .str), .d (dBox (ranges ms)), .d t, .d (.list ((leavesN ns).map dLeaf)), .d (.tuple (told.map .str)), .own false (paid.map dInts), .d (.int slack), .own false (ps.map dPerson), s12, s13, s14, s15, s16, s17, s18, s19, .non, .non, .non, .non, .non, .non, s26])
      ⟨[], l, .non, .non, .non, .non, .non, .non, .non, .non, .non, rfl, by omega, ⟨rfl, fun i p m e => by simp at e⟩, rfl⟩ (fun ρ h => ?_) fun i d hd ρ N hN h => ?_
    · obtain ⟨ps, l, s12, s13, s14, s15, s16, s17, s18, s19, s26, p26, hl, hps, rfl⟩ := h
      simp at hl hps
      have hpl2 := hps.len
      simp
      refine lc_mapA (fun n => dNats n.1) (by simp) (fun n hn N M hN => ?_) ?_
      · simp
        exact hN
      have eP : (leavesN ns).map (fun n => dNats n.1) = ((leavesN ns).map (·.1)).map dNats := by simp [Function.comp_def]
      rw [eP]
      have epl : ((leavesN ns).map (·.1)).length = (leavesN ns).length := by simp
      have epm : ∀ path bx, (path, bx, dEndH) ∈ ns → path ∈ (leavesN ns).map (·.1) := fun path bx hm => List.mem_map.mpr ⟨(path, bx, dEndH), List.mem_filter.mpr ⟨hm, rfl⟩, rfl⟩
      generalize (leavesN ns).map (·.1) = paths at epl epm
      simp
      refine ⟨_, ranges ms, Or.inl rfl, rfl, by omega, fun p hp' => ((hbo.each p hp').1).2, ?_⟩
      have hcl : (comb (ranges ms)).length = prodN ms := by
        have := comb_len [] (ranges ms)
        rw [comb_nil] at this
        simpa [ranges, Function.comp_def] using this
      try simp
      refine loop_idx (fun i ρ => ∃ (es : List EndL) (s20 s22 s23 : Sl), (s20 = .own false (paths.map dNats) ∨ s20 = .d (.list (paths.map dNats))) ∧ es.length = i ∧ (∀ e ∈ es, e.out < told.length ∧ e.pays.length = ms.length) ∧
        ρ = [.drw true, .d (dNats ms), .d (nI wo), .d (nI pay), .own false (l.map .str), .d (dBox (ranges ms)), .d t, .d (.list ((leavesN ns).map dLeaf)), .d (.tuple (told.map .str)), .own false (paid.map dInts), .d (.int slack), .own false (ps.map dPerson), s12, s13, s14, s15, s16, s17, s18, s19, s20, .own false (es.map dEnd), s22, s23, .non, .non, s26]) ⟨[], _, .non, .non, Or.inl rfl, rfl, by simp, rfl⟩ (fun ρ h => ?_) fun i d hd ρ N hN h => ?_
      · obtain ⟨es, s20, s22, s23, h20, hes, hee, rfl⟩ := h
        simp [hcl] at hes
        simp
        have hw' := wf_of (told := told) (es := es) (slack := slack) hm (by omega) hps hes hp hee
        exact q _ t ns hw'.1 hw'.2 ht hns
      · obtain ⟨es, s20, s22, s23, h20, hes, hee, rfl⟩ := h
        have hi : i < 256 := by
          have := (List.getElem?_eq_some_iff.mp hd).1
          simp [hcl] at this
          omega
        obtain ⟨row, hrow, rfl⟩ := at_map hd
        have hro : RowOf (ranges ms) row := mem_comb.mp (List.mem_of_getElem? hrow)
        have s1 := shaped_paths paths
        rcases h20 with rfl | rfl <;> simp [x_index, s1]
        all_goals
          refine ⟨ranges ms, t, ns, row, rfl, ht, hbo, by omega, hro, fun path bx ans hpm hrb => ?_⟩
          obtain ⟨at_, hat, hatl⟩ := find_path (epm path bx hpm)
          obtain ⟨pd, hpd⟩ : ∃ pd, paid[at_]? = some pd := ⟨_, List.getElem?_eq_getElem (by omega)⟩
          simp [show ∀ a b : D, atI [a, b] 1 = some b from fun _ _ => rfl]
          rw [List.findIdx?_map] at hat
          refine ⟨shaped_nats _, at_, hat, ?_⟩
          simp [at_nat, hpd]
          refine ⟨by omega, hN _ ⟨es ++ [⟨at_, pd⟩], .d (.list (paths.map dNats)), .d (dNats row), .d (nI at_), Or.inr rfl, by simp [hes], fun y hy => ?_, ?_⟩⟩
          · rcases List.mem_append.mp hy with hy | hy
            · exact hee y hy
            · have : y = ⟨at_, pd⟩ := by simpa using hy
              subst this
              exact ⟨show at_ < told.length by omega, hpp pd (List.mem_of_getElem? hpd)⟩
          · simp [dEnd]
    · obtain ⟨ps, l, s12, s13, s14, s15, s16, s17, s18, s19, s26, p26, hl, hps, rfl⟩ := h
      obtain ⟨hi, rfl⟩ := at_rg hd
      have hmi : ms[i]? = some ms[i] := List.getElem?_eq_getElem hi
      have hmo := hm.each _ (List.getElem_mem hi)
      generalize ms[i] = m at hmi hmo
      simp
      refine ⟨rfl, ?_⟩
      simp
      refine ⟨i, ms.length, rfl, by omega, fun ws hws1 hws2 => ?_⟩
      simp [hmi, rgD_nat, rgB_nat (show m ≤ 16777216 by omega)]
      refine loop_idx (fun j ρ => ∃ (ks : List KindL) (w : List Str) (s16 s17 s18 s19 s26 : Sl), plainB s26 = true ∧ w.length + j = 65 ∧ ks.length = j ∧ (∀ k ∈ ks, (1 ≤ k.rows.length ∧ k.rows.length ≤ 3) ∧ ∀ r ∈ k.rows, r.length = told.length) ∧
        ρ = [.drw true, .d (dNats ms), .d (nI wo), .d (nI pay), .own false (l.map .str), .d (dBox (ranges ms)), .d t, .d (.list ((leavesN ns).map dLeaf)), .d (.tuple (told.map .str)), .own false (paid.map dInts), .d (.int slack), .own false (ps.map dPerson), .d (nI i), .own false (w.map .str), .d (dNats ws), .own false (ks.map dKind), s16, s17, s18, s19, .non, .non, .non, .non, .non, .non, s26])
        ⟨[], pool, s16, s17, s18, s19, s26, p26, by rw [pool_len], rfl, by simp, rfl⟩ (fun ρ h => ?_) fun j d hd ρ N' hN' h => ?_
      · obtain ⟨ks, w, s16, s17, s18, s19, s26, p26, hw', hks, hkk, rfl⟩ := h
        simp at hks
        simp
        refine ⟨_, rfl, by simp; omega, by simp; omega, fun j y hy => ?_⟩
        obtain ⟨x, rfl, hj, he⟩ := pop_strs hy
        rw [he]
        have := hps.len
        simp
        refine ⟨by rw [this]; simp; omega, ?_⟩
        refine hN _ ⟨ps ++ [⟨x, ks, ws⟩], l.eraseIdx j, .d (nI i), .own false (w.map .str), .d (dNats ws), .d (.list (ks.map dKind)), s16, s17, s18, s19, s26, p26, ?_, ?_, ?_⟩
        · rw [List.length_eraseIdx_of_lt hj]
          omega
        · rw [show ms.take (i + 1) = ms.take i ++ [m] by rw [List.take_succ, hmi]; rfl]
          refine hps.snoc ?_
          have e : (ms.take i).length = i := by rw [List.length_take]; omega
          rw [e]
          exact ⟨hks, hkk, hws1, hws2⟩
        · simp [dPerson]
      · obtain ⟨ks, w, s16, s17, s18, s19, s26, p26, hw', hks, hkk, rfl⟩ := h
        obtain ⟨hj, rfl⟩ := at_rg hd
        simp
        refine ⟨wo, rfl, by omega, by omega, fun g hg => ?_⟩
        have eg : (1 : Int) + (g : Int) = ((g + 1 : Nat) : Int) := by omega
        simp only [x_asD_d, r_add, opt_some, intGo_i, eg]
        simp only [rgD_nat, rgB_nat (show g + 1 ≤ 16777216 by omega), true_and]
        refine loop_idx (fun r ρ => ∃ (rs : List (List Int)) (s18 s19 s26 : Sl), plainB s26 = true ∧ rs.length = r ∧ (∀ x ∈ rs, x.length = told.length) ∧
          ρ = [.drw true, .d (dNats ms), .d (nI wo), .d (nI pay), .own false (l.map .str), .d (dBox (ranges ms)), .d t, .d (.list ((leavesN ns).map dLeaf)), .d (.tuple (told.map .str)), .own false (paid.map dInts), .d (.int slack), .own false (ps.map dPerson), .d (nI i), .own false (w.map .str), .d (dNats ws), .own false (ks.map dKind), .d (nI j), .own false (rs.map dInts), s18, s19, .non, .non, .non, .non, .non, .non, s26])
          ⟨[], s18, s19, s26, p26, rfl, by simp, rfl⟩ (fun ρ h => ?_) fun r d hd ρ N3 hN3 h => ?_
        · obtain ⟨rs, s18, s19, s26, p26, hrs, hrr, rfl⟩ := h
          simp at hrs
          simp
          refine ⟨_, rfl, by simp; omega, by simp; omega, fun z y hy => ?_⟩
          obtain ⟨x, rfl, hz, he⟩ := pop_strs hy
          rw [he]
          simp
          refine ⟨by omega, ?_⟩
          refine hN' _ ⟨ks ++ [⟨x, rs⟩], w.eraseIdx z, .d (nI j), .d (.list (rs.map dInts)), s18, s19, s26, p26, ?_, by simp [hks], fun k hk => ?_, ?_⟩
          · rw [List.length_eraseIdx_of_lt hz]
            omega
          · rcases List.mem_append.mp hk with hk | hk
            · exact hkk k hk
            · have : k = ⟨x, rs⟩ := by simpa using hk
              subst this
              exact ⟨⟨by simp; omega, by simp; omega⟩, hrr⟩
          · simp [dKind]
        · obtain ⟨rs, s18, s19, s26, p26, hrs, hrr, rfl⟩ := h
          obtain ⟨hr, rfl⟩ := at_rg hd
          simp
          refine ⟨ranges ms, t, ns, i, j, ws, slack, rfl, ht, by omega, by omega, fun w hw => ?_, fun vs hvs => ?_⟩
          · have := hws1.subset hw
            simp at this
            omega
          simp [rgD_nat, rgB_nat (show (leavesN ns).length ≤ 16777216 by omega), p26]
          refine lc_st (fun pre acc ρ => ∃ xs : List Int, xs.length = pre.length ∧ acc = xs.map .int ∧
            ρ = [.drw true, .d (dNats ms), .d (nI wo), .d (nI pay), .own false (l.map .str), .d (dBox (ranges ms)), .d t, .d (.list ((leavesN ns).map dLeaf)), .d (.tuple (told.map .str)), .own false (paid.map dInts), .d (.int slack), .own false (ps.map dPerson), .d (nI i), .own false (w.map .str), .d (dNats ws), .own false (ks.map dKind), .d (nI j), .own false (rs.map dInts), .d (nI r), .d (.list (vs.map .int)), .non, .non, .non, .non, .non, .non, s26]) (by simp) ⟨[], rfl, rfl, rfl⟩ (fun pre o post acc ρ e h N M hN hM => ?_) fun acc ρ h => ?_
          · obtain ⟨xs, hx, rfl, rfl⟩ := h
            have ho : o < (leavesN ns).length := by
              have : o ∈ List.range (leavesN ns).length := by rw [e]; simp
              simpa using this
            obtain ⟨v, hv⟩ : ∃ v, vs[o]? = some v := ⟨_, List.getElem?_eq_getElem (by omega)⟩
            obtain ⟨pd, hpd⟩ : ∃ pd, paid[o]? = some pd := ⟨_, List.getElem?_eq_getElem (by omega)⟩
            obtain ⟨z, hz⟩ : ∃ z, pd[i]? = some z := ⟨_, List.getElem?_eq_getElem (by rw [hpp pd (List.mem_of_getElem? hpd)]; exact hi)⟩
            simp [at_nat, hv, hpd, hz]
            exact hN _ _ ⟨xs ++ [v + z], by simp [hx], by simp, rfl⟩
          · obtain ⟨xs, hx, rfl, rfl⟩ := h
            try simp at hx
            simp
            refine ⟨by omega, hN3 _ ⟨rs ++ [xs], .d (nI r), .d (.list (vs.map .int)), s26, p26, by simp [hrs], fun y hy => ?_, ?_⟩⟩
            · rcases List.mem_append.mp hy with hy | hy
              · exact hrr y hy
              · have : y = xs := by simpa using hy
                subst this
                rw [htl]
                simpa using hx
            · simp [dInts]
  split
  · refine ⟨3, rfl, by omega, by omega, fun j hj => ?_⟩
    simpa using key (1 + (j : Int))
  · simpa using key 0
/-! ### the worlds of laws -/
def F__law_any_house : FT := fun ss k => ∃ limit : Nat, ss = [.drw true, .d (nI limit)] ∧ 1 ≤ limit ∧ limit ≤ 256 ∧ ∀ h : HouseL, Wf h → prodN (sizes h) ≤ limit → k (.d (dHouse h)) ss
theorem mono_F__law_any_house : MonoF F__law_any_house := fun ss k k' hk ⟨a, b, c, d, q⟩ => ⟨a, b, c, d, fun x h h' => hk _ _ (q x h h')⟩
/-- _law_any_house: slots 0 d 1 limit 2 sizes -/
def W__law_any_house : ST := (sSeq (sSet 2 (eCall F__law_sizes (.r 0 :: (.e (eVar 1) :: []))))
    (sSeq (sIf (bBin eqD (eCall F__law_draw (.r 0 :: (.e (eC (.int 2)) :: []))) (eC (.int 1))) (sRet (eBin idxS (eCall F__law_heard_house (.r 0 :: (.e (eVar 2) :: (.e (eC (.int 2)) :: (.e (eCall F__law_draw (.r 0 :: (.e (eC (.int 3)) :: []))) :: []))))) (eC (.int 0)))) sNext)
    (sRet (eCall F__law_house (.r 0 :: (.e (eVar 2) :: (.e (eBin addD (eC (.int 2)) (eCall F__law_draw (.r 0 :: (.e (eC (.int 3)) :: [])))) :: (.e (eC (.int 2)) :: (.e (eCall F__law_draw (.r 0 :: (.e (eC (.int 3)) :: []))) :: [])))))))))
theorem ok__law_any_house : BodyOk 3 W__law_any_house F__law_any_house := by
  rintro _ k ⟨limit, rfl, h1, h2, q⟩
  simp [W__law_any_house, entry]
  refine ⟨limit, rfl, h1, fun ms hm hp => ?_⟩
  simp
  refine ⟨2, rfl, by omega, by omega, fun j hj => ?_⟩
  simp
  split
  · refine ⟨3, rfl, by omega, by omega, fun j hj => ?_⟩
    simp
    refine ⟨ms, 2, j, rfl, hm, by omega, by omega, by omega, fun h t ns wf e _ _ => ?_⟩
    simp [show ∀ a b : D, atI [a, b] 0 = some a from fun _ _ => rfl]
    exact q h wf (by rw [e]; exact hp)
  · refine ⟨3, rfl, by omega, by omega, fun j hj => ?_⟩
    simp
    refine ⟨3, rfl, by omega, by omega, fun g hg => ?_⟩
    simp
    refine ⟨ms, 2 + j, 2, g, by simp, hm, by omega, by omega, by omega, by omega, fun h wf e => ?_⟩
    simp
    exact q h wf (by rw [e]; exact hp)
end Dl

set_option Elab.async false
set_option linter.all false
set_option maxRecDepth 100000
set_option autoImplicit false
set_option maxHeartbeats 2000000
namespace Dl
open PySem PySem.Spec PyProof.Rows L2

/-! ### rows and their numbers -/
theorem flatMap_at {α β : Type} {f : α → List β} {m : Nat} (hm : 0 < m) : ∀ {l : List α} {i : Nat} {y : β}, (∀ x ∈ l, (f x).length = m) → (l.flatMap f)[i]? = some y → ∃ x, l[i / m]? = some x ∧ (f x)[i % m]? = some y
  | [], i, y, _, e => by simp at e
  | x :: l, i, y, h, e => by
    have hx := h x List.mem_cons_self
    rw [List.flatMap_cons] at e
    by_cases hi : i < m
    · rw [List.getElem?_append_left (by omega)] at e
      rw [Nat.div_eq_of_lt hi, Nat.mod_eq_of_lt hi]
      exact ⟨x, rfl, e⟩
    · rw [List.getElem?_append_right (by omega), hx] at e
      obtain ⟨x', h1, h2⟩ := flatMap_at hm (fun z hz => h z (List.mem_cons_of_mem _ hz)) e
      have e1 : i / m = (i - m) / m + 1 := by
        have : i = (i - m) + m := by omega
        rw [this, Nat.add_div_right _ hm]
        simp
      have e2 : i % m = (i - m) % m := by
        have : i = (i - m) + m := by omega
        rw [this, Nat.add_mod_right]
        simp
      rw [e1, e2]
      exact ⟨x', by simpa using h1, h2⟩
theorem ranges_app (a b : List Nat) : ranges (a ++ b) = ranges a ++ ranges b := by simp [ranges]
theorem comb_at : ∀ (n : Nat) (ms : List Nat), ms.length = n → (∀ m ∈ ms, 0 < m) → ∀ {i : Nat} {row : List Nat}, (comb (ranges ms))[i]? = some row → RowIn ms row ∧ rowNoF 0 ms row = i
  | 0, ms, hn, _, i, row, e => by
    have : ms = [] := List.length_eq_zero_iff.mp hn
    subst this
    rw [show ranges [] = [] from rfl, comb_nil] at e
    cases i with
    | zero =>
      simp at e
      subst e
      exact ⟨trivial, rfl⟩
    | succ i => simp at e
  | n + 1, ms, hn, hm, i, row, e => by
    rcases List.eq_nil_or_concat ms with rfl | ⟨ms', m, rfl⟩
    · simp at hn
    · rw [List.concat_eq_append] at hn hm e ⊢
      have hm0 : 0 < m := hm m (by simp)
      rw [ranges_app] at e
      rw [show ranges [m] = [List.range m] from rfl, comb_snoc] at e
      obtain ⟨r, h1, h2⟩ := flatMap_at hm0 (fun x _ => by simp) e
      obtain ⟨g1, g2⟩ := comb_at n ms' (by simpa using hn) (fun x hx => hm x (by simp [hx])) h1
      have hlt := Nat.mod_lt i hm0
      rw [List.getElem?_map, List.getElem?_range hlt] at h2
      have h2' := Option.some.inj h2
      subst h2'
      refine ⟨?_, ?_⟩
      · refine rowOf_ranges.mp (mem_comb.mp ?_)
        rw [ranges_app, show ranges [m] = [List.range m] from rfl, comb_snoc]
        exact List.mem_flatMap.mpr ⟨r, mem_comb.mpr (rowOf_ranges.mpr g1), List.mem_map.mpr ⟨i % m, by simpa using hlt, rfl⟩⟩
      · rw [rowNoF_snoc g1.len.symm, g2]
        exact Nat.div_add_mod' i m
theorem comb_of {ms row : List Nat} (hm : ∀ m ∈ ms, 0 < m) (h : RowIn ms row) : (comb (ranges ms))[rowNoF 0 ms row]? = some row := by
  obtain ⟨i, hi, e⟩ := List.getElem_of_mem (mem_comb.mpr (rowOf_ranges.mpr h))
  have e' : (comb (ranges ms))[i]? = some row := by rw [List.getElem?_eq_getElem hi, e]
  rw [(comb_at _ ms rfl hm e').2]
  exact e'
/-! ### rows as keys -/
def rowKey (r : List Nat) : List Key := r.map fun (n : Nat) => (Sum.inl (n : Int) : Key)
theorem rowKey_d (r : List Nat) : dNats r = .tuple ((rowKey r).map keyD) := by
  unfold dNats rowKey
  rw [List.map_map]
  rfl
theorem rowKey_inj : ∀ {a b : List Nat}, rowKey a = rowKey b → a = b
  | [], [], _ => rfl
  | [], _ :: _, h => by simp [rowKey] at h
  | _ :: _, [], h => by simp [rowKey] at h
  | x :: a, y :: b, h => by
    have h1 := (List.cons.inj h).1
    have h2 := rowKey_inj (List.cons.inj h).2
    have h3 : (x : Int) = (y : Int) := Sum.inl.inj h1
    have h4 : x = y := by omega
    rw [h2, h4]
theorem atT_first {α : Type} : ∀ {ks : List (List Key)} {ds : List α} {q : List Key} {i : Nat}, ks.length = ds.length → ks[i]? = some q → (∀ j, j < i → ks[j]? ≠ some q) → atT ks ds q = ds[i]?
  | [], _, _, _, _, e, _ => by simp at e
  | k :: ks, [], _, _, h, _, _ => by simp at h
  | k :: ks, d :: ds, q, 0, h, e, hn => by
    simp at e
    rw [atT_pos e]
    rfl
  | k :: ks, d :: ds, q, i + 1, h, e, hn => by
    have h0 : ¬ k = q := fun z => hn 0 (by omega) (by simp [z])
    rw [atT_neg h0, atT_first (by simpa using h) (by simpa using e) fun j hj => by simpa using hn (j + 1) (by omega)]
    simp
theorem hasT_false {ks : List (List Key)} {q : List Key} (h : ∀ k ∈ ks, k ≠ q) : hasT ks q = false := by
  unfold hasT
  rw [List.any_eq_false]
  intro k hk
  simpa using h k hk
def allRows (h : HouseL) : List (List Nat) := comb (ranges (sizes h))
theorem Wf.pos {h : HouseL} (wf : Wf h) : ∀ m ∈ sizes h, 0 < m := by
  intro m hm
  obtain ⟨P, hP, rfl⟩ := List.mem_map.mp hm
  exact (wf.nk P hP).1
theorem rows_len {h : HouseL} (wf : Wf h) : (allRows h).length = h.ends.length := by
  have := comb_len [] (ranges (sizes h))
  rw [comb_nil] at this
  rw [wf.ne.1]
  simpa [allRows, ranges, Function.comp_def] using this
theorem rows_at {h : HouseL} (wf : Wf h) {i : Nat} {row : List Nat} (e : (allRows h)[i]? = some row) : RowIn (sizes h) row ∧ rowNoF 0 (sizes h) row = i := comb_at _ _ rfl wf.pos e
def valsOf (h : HouseL) (p : Nat) (nums : List Int) : List Int := h.ends.map fun e => (nums[e.out]?).getD 0 - (e.pays[p]?).getD 0
def tabOf (h : HouseL) (p : Nat) (nums : List Int) : D := dictOf ((allRows h).map rowKey) ((valsOf h p nums).map .int)
theorem tab_at {h : HouseL} (wf : Wf h) {p : Nat} {nums : List Int} {row : List Nat} (hr : RowIn (sizes h) row) : atT ((allRows h).map rowKey) ((valsOf h p nums).map PyData.int) (rowKey row) = some (.int ((nums[(endAt h row).out]?).getD 0 - ((endAt h row).pays[p]?).getD 0)) := by
  have e := comb_of wf.pos hr
  have hl : ((allRows h).map rowKey).length = ((valsOf h p nums).map PyData.int).length := by simp [valsOf, rows_len wf]
  rw [atT_first (i := rowNoF 0 (sizes h) row) hl (by rw [List.getElem?_map]; show Option.map rowKey ((comb (ranges (sizes h)))[_]?) = _; rw [e]; rfl) fun j hj z => ?_]
  · unfold valsOf
    rw [List.getElem?_map, List.getElem?_map, (wf.endAt hr).1]
    rfl
  · obtain ⟨r, h1, h2⟩ := at_map z
    have h3 := rowKey_inj h2
    subst h3
    have := (rows_at wf h1).2
    omega
def F__law_values : FT := fun ss k => ∃ (h : HouseL) (p : Nat) (nums : List Int), ss = [.d (dHouse h), .d (.list ((allRows h).map dNats)), .d (nI p), .d (dInts nums)] ∧ Wf h ∧ p < h.persons.length ∧ nums.length = h.told.length ∧ k (.d (tabOf h p nums)) ss
theorem mono_F__law_values : MonoF F__law_values := fun ss k k' hk ⟨a, b, c, d, e, f, g, q⟩ => ⟨a, b, c, d, e, f, g, hk _ _ q⟩
@[simp] theorem sq_end {e : EndL} {kg : Rho → Prop} {ρ : Rho} {i j : Nat} : gT 2 (gsC (gN i) (gsC (gN j) gsN)) (dEnd e) ρ kg = kg ((ρ.set i (.d (nI e.out))).set j (.d (dInts e.pays))) := by simp [dEnd]
def dicGo (o : Option Sl) (q : List (List Key) → List D → Prop) : Prop := match o with
  | some (.ownT ks ds) => q ks ds
  | _ => False
@[simp] theorem dicGo_o {ks : List (List Key)} {ds : List D} {q : List (List Key) → List D → Prop} : dicGo (some (.ownT ks ds)) q = q ks ds := rfl
@[simp] theorem x_putT {i : Nat} {Ti Tv : ET} {E : EndD} {ρ : Rho} : sPutT i Ti Tv E ρ = Tv ρ (asD fun v ρ1 => dicGo ρ1[i]? fun _ _ => Ti ρ1 (asD fun y ρ2 => dicGo ρ2[i]? fun ks ds => ∃ q : List Key, y = .tuple (q.map keyD) ∧ ks.length < sizeLine ∧ E.nx (ρ2.set i (.ownT (putTK ks q) (putTV ks ds q v))))) := by
  refine goD fun v ρ1 => ?_
  cases h : ρ1[i]? with
  | none => rfl
  | some s =>
    cases s <;> rfl
/-- _law_values: slots 0 house 1 rows 2 person 3 numbers 4 found 5 k 6 outcome 7 payments -/
def W__law_values : ST := (sSeq (sSet 4 (eNewT))
    (sSeq (sFor (iRg1 (eLenV 1)) (gN 5) (sSeq (sAsgT (eBin idxS (eIdxV 0 (eC (.int 3))) (eVar 5)) (gT 2 (gsC (gN 6) (gsC (gN 7) gsN))))
    (sPutT 4 (eIdxV 1 (eVar 5)) (eBin subD (eIdxV 3 (eVar 6)) (eIdxV 7 (eVar 2))))))
    (sRet (eVar 4))))
theorem ok__law_values : BodyOk 8 W__law_values F__law_values := by
  rintro _ k ⟨h, p, nums, rfl, wf, hp, hn, q⟩
  have hrl := rows_len wf
  have hel := wf.ne.2
  simp [W__law_values, entry, rgD_nat, rgB_nat (show (allRows h).length ≤ 16777216 by omega)]
  refine loop_idx (fun i ρ => ∃ s5 s6 s7, ρ = [.d (dHouse h), .d (.list ((allRows h).map dNats)), .d (nI p), .d (dInts nums), .ownT (((allRows h).take i).map rowKey) (((valsOf h p nums).take i).map .int), s5, s6, s7]) ⟨.non, .non, .non, by simp⟩ (fun ρ h' => ?_) fun i d hd ρ N hN h' => ?_
  · obtain ⟨s5, s6, s7, rfl⟩ := h'
    have e1 : (allRows h).take ((List.range (allRows h).length).map nI).length = allRows h := by simp
    have e2 : (valsOf h p nums).take ((List.range (allRows h).length).map nI).length = valsOf h p nums := List.take_of_length_le (by simp [valsOf, hrl])
    rw [e1, e2]
    simp
    exact q
  · obtain ⟨s5, s6, s7, rfl⟩ := h'
    obtain ⟨hi, rfl⟩ := at_rg hd
    obtain ⟨e, he⟩ : ∃ e, h.ends[i]? = some e := ⟨_, List.getElem?_eq_getElem (by omega)⟩
    obtain ⟨row, hrow⟩ : ∃ r, (allRows h)[i]? = some r := ⟨_, List.getElem?_eq_getElem hi⟩
    have hok := wf.ee e (List.mem_of_getElem? he)
    obtain ⟨x, hx⟩ : ∃ x, nums[e.out]? = some x := ⟨_, List.getElem?_eq_getElem (by rw [hn]; exact hok.out)⟩
    obtain ⟨y, hy⟩ : ∃ x, e.pays[p]? = some x := ⟨_, List.getElem?_eq_getElem (by rw [hok.pays]; exact hp)⟩
    simp [at_nat, he, hrow, hx, hy]
    refine ⟨rowKey row, rowKey_d row, by omega, hN _ ⟨.d (nI i), .d (nI e.out), .d (dInts e.pays), ?_⟩⟩
    have hf : hasT (((allRows h).take i).map rowKey) (rowKey row) = false := hasT_false fun kk hk => by
      obtain ⟨r, hr, rfl⟩ := List.mem_map.mp hk
      intro z
      have := rowKey_inj z
      subst this
      obtain ⟨j, hj, e'⟩ := List.getElem_of_mem hr
      have hj' : j < i := by simp at hj; omega
      have e2 : (allRows h)[j]? = some r := by
        have : ((allRows h).take i)[j]? = some r := by rw [List.getElem?_eq_getElem hj, e']
        rwa [List.getElem?_take_of_lt hj'] at this
      have h1 := (rows_at wf e2).2
      have h2 := (rows_at wf hrow).2
      omega
    have hv : (valsOf h p nums)[i]? = some (x - y) := by
      unfold valsOf
      rw [List.getElem?_map, he]
      simp [hx, hy]
    have hf' : hasT ((List.map rowKey (allRows h)).take i) (rowKey row) = false := by simpa using hf
    simp only [putTK, putTV, List.take_succ, hrow, hv]
    simp [hf']
end Dl

set_option Elab.async false
set_option linter.all false
set_option maxRecDepth 100000
set_option autoImplicit false
set_option maxHeartbeats 2000000
namespace Dl
open PySem PySem.Spec PyProof.Rows L2

/-! ### the law's own gaps -/
def ownRows (h : HouseL) (p kd : Nat) : List (List Nat) := (allRows h).filter fun row => decide (row[p]? = some kd)
def gapRow (h : HouseL) (p kd o w : Nat) (row : List Nat) : LieL × Int := ((p, kd, o, w, row), gainB h p kd w row (row.set p o))
def gapsW (h : HouseL) (p kd o w : Nat) : List (LieL × Int) := (ownRows h p kd).map (gapRow h p kd o w)
def gapsO (h : HouseL) (p kd o : Nat) : List (LieL × Int) := (List.range (nW h p kd)).flatMap (gapsW h p kd o)
def gapsK (h : HouseL) (p kd : Nat) : List (LieL × Int) := (others (nK h p) kd).flatMap (gapsO h p kd)
def gapsP (h : HouseL) (p : Nat) : List (LieL × Int) := (List.range (nK h p)).flatMap (gapsK h p)
def gapsOf (h : HouseL) : List (LieL × Int) := (List.range h.persons.length).flatMap (gapsP h)
def dGap (g : LieL × Int) : D := .tuple [dLie (some g.1), .int g.2]
theorem flat_one {α β : Type} (f : α → β) : ∀ l : List α, (l.flatMap fun x => [f x]) = l.map f
  | [] => rfl
  | x :: l => by rw [List.flatMap_cons, flat_one f l]; rfl
theorem sl_take {p : Nat} {row : List Nat} : slD none (some (p : Int)) (dNats row) = some (.d (dNats (row.take p))) := by
  simp [dNats, slD, cut_take]
theorem sl_drop {p : Nat} {row : List Nat} : slD (some ((p : Int) + 1)) none (dNats row) = some (.d (dNats (row.drop (p + 1)))) := by
  simp [dNats, slD, cut_drop1]
theorem cat_nn {a b : List Nat} (h : a.length + b.length ≤ 16777216) : addD (dNats a) (dNats b) = some (.d (dNats (a ++ b))) := by
  simp [dNats, h]
theorem set_cut {row : List Nat} {p o : Nat} (hp : p < row.length) : row.take p ++ [o] ++ row.drop (p + 1) = row.set p o := by
  rw [List.set_eq_take_append_cons_drop, if_pos hp]
  simp
theorem loop_acc {α β : Type} {G : GT} {W : ST} {E : EndD} {l : List α} {g : α → D} (f : α → List β) (c : Nat) (hc : ∀ x ∈ l, (f x).length ≤ c) (St : List β → Rho → Prop) {A0 : List β} {ρ : Rho} (h : St A0 ρ)
    (hs : ∀ x ∈ l, ∀ (A : List β) ρ (N : Rho → Prop), A.length + c ≤ A0.length + l.length * c → (∀ ρ', St (A ++ f x) ρ' → N ρ') → St A ρ → G (g x) ρ fun ρ1 => W { nx := N, rt := E.rt, bk := E.nx, ct := N } ρ1)
    (h0 : ∀ ρ, St (A0 ++ l.flatMap f) ρ → E.nx ρ) : loopW G W E (l.map g) ρ := by
  refine loop_idx (fun i ρ => St (A0 ++ (l.take i).flatMap f) ρ) (by simpa using h) (fun ρ q => h0 ρ (by simpa using q)) fun i d hd ρ N hN q => ?_
  obtain ⟨x, hx, rfl⟩ := at_map hd
  have ht : l.take (i + 1) = l.take i ++ [x] := by rw [List.take_succ, hx]; rfl
  refine hs x (List.mem_of_getElem? hx) _ ρ N ?_ (fun ρ' q' => hN ρ' ?_) q
  · have hi := (List.getElem?_eq_some_iff.mp hx).1
    have h1 : ((l.take i).flatMap f).length ≤ i * c := by
      have key : ∀ (t : List α), (∀ x ∈ t, (f x).length ≤ c) → (t.flatMap f).length ≤ t.length * c := by
        intro t
        induction t with
        | nil => simp
        | cons a t ih =>
          intro h
          have h1 := ih fun x hx => h x (List.mem_cons_of_mem _ hx)
          have h2 := h a List.mem_cons_self
          rw [List.flatMap_cons, List.length_append, List.length_cons, Nat.succ_mul]
          omega
      refine Nat.le_trans (key _ fun x hx => hc x (List.mem_of_mem_take hx)) (Nat.mul_le_mul_right _ ?_)
      rw [List.length_take]
      omega
    have h2 : (i + 1) * c ≤ l.length * c := Nat.mul_le_mul_right _ hi
    rw [Nat.succ_mul] at h2
    rw [List.length_append]
    omega
  · rw [ht, List.flatMap_append]
    simpa using q'
theorem own_le {h : HouseL} (wf : Wf h) (p kd : Nat) : (ownRows h p kd).length ≤ 256 := by
  have h1 := List.length_filter_le (fun row : List Nat => decide (row[p]? = some kd)) (allRows h)
  have h2 := rows_len wf
  have h3 := wf.ne.2
  unfold ownRows
  omega
theorem flatMap_le {α β : Type} {f : α → List β} {c n : Nat} {l : List α} (hl : l.length ≤ n) (h : ∀ x ∈ l, (f x).length ≤ c) : (l.flatMap f).length ≤ n * c := by
  refine Nat.le_trans ?_ (Nat.mul_le_mul_right c hl)
  clear hl
  induction l with
  | nil => simp
  | cons a t ih =>
    have h1 := ih fun x hx => h x (List.mem_cons_of_mem _ hx)
    have h2 := h a List.mem_cons_self
    rw [List.flatMap_cons, List.length_append, List.length_cons, Nat.succ_mul]
    omega
theorem others_le (n k : Nat) : (others n k).length ≤ n := by
  have := List.length_filter_le (fun o => o != k) (List.range n)
  simpa [others] using this
theorem gapsW_le {h : HouseL} (wf : Wf h) (p kd o w : Nat) : (gapsW h p kd o w).length ≤ 256 := by
  unfold gapsW
  rw [List.length_map]
  exact own_le wf p kd
theorem gapsO_le {h : HouseL} (wf : Wf h) {p kd : Nat} (hp : p < h.persons.length) (hk : kd < nK h p) (o : Nat) : (gapsO h p kd o).length ≤ 768 :=
  flatMap_le (n := 3) (by simpa using (wf.nW_le hp hk).2) fun w _ => gapsW_le wf p kd o w
theorem gapsK_le {h : HouseL} (wf : Wf h) {p kd : Nat} (hp : p < h.persons.length) (hk : kd < nK h p) : (gapsK h p kd).length ≤ 6144 :=
  flatMap_le (n := 8) (Nat.le_trans (others_le _ _) (wf.nK_le p)) fun o _ => gapsO_le wf hp hk o
theorem gapsP_le {h : HouseL} (wf : Wf h) {p : Nat} (hp : p < h.persons.length) : (gapsP h p).length ≤ 49152 :=
  flatMap_le (n := 8) (by simpa using wf.nK_le p) fun kd hk => gapsK_le wf hp (by simpa using hk)
def F__law_gaps : FT := fun ss k => ∃ h : HouseL, ss = [.d (dHouse h)] ∧ Wf h ∧ k (.d (.list ((gapsOf h).map dGap))) ss
theorem mono_F__law_gaps : MonoF F__law_gaps := fun ss k k' hk ⟨a, b, c, q⟩ => ⟨a, b, c, hk _ _ q⟩
@[simp] theorem x_getT {i : Nat} {T : ET} {ρ : Rho} {k : Sl → Rho → Prop} : eGetT i T ρ k = ((∃ s, ρ[i]? = some s ∧ s ≠ .non) ∧ T ρ (asD fun y ρ1 => ∃ ks ds q z, dictAt ρ1 i ks ds ∧ y = .tuple (q.map keyD) ∧ atT ks ds q = some z ∧ k (.d z) ρ1)) := rfl
/-- _law_gaps: slots 0 house 1 rows 2 found 3 person 4 kinds 5 kind 6 tables 7 own 8 other 9 worth 10 values 11 row 12 bent 13 numbers 14 k -/
def W__law_gaps : ST := (sSeq (sSet 1 (eCall F__law_rows (.e (eCall F__law_whole (.e (eVar 0) :: [])) :: [])))
    (sSeq (sSet 2 (eLst aNil))
    (sSeq (sFor (iRg1 (eCB lenD (aCons (eIdxV 0 (eC (.int 2))) aNil))) (gN 3) (sSeq (sSet 4 (eBin idxS (eBin idxS (eIdxV 0 (eC (.int 2))) (eVar 3)) (eC (.int 1))))
    (sFor (iRg1 (eLenV 4)) (gN 5) (sSeq (sSet 6 (eLC (iSeq (eBin idxS (eIdxV 4 (eVar 5)) (eC (.int 1)))) (gN 13) bYes (eCall F__law_values (.e (eVar 0) :: (.e (eVar 1) :: (.e (eVar 3) :: (.e (eVar 13) :: []))))) [13]))
    (sSeq (sSet 7 (eLC (iSeq (eVar 1)) (gN 11) (bBin eqD (eIdxV 11 (eVar 3)) (eVar 5)) (eVar 11) [11]))
    (sFor (iSeq (eLC (iRg1 (eLenV 4)) (gN 14) (bBin neD (eVar 14) (eVar 5)) (eVar 14) [14])) (gN 8) (sFor (iRg1 (eLenV 6)) (gN 9) (sSeq (sSet 10 (eIdxV 6 (eVar 9)))
    (sFor (iSeq (eVar 7)) (gN 11) (sSeq (sSet 12 (eBin addD (eBin addD (eSl (eVar 11) oNone (oSome (eVar 3))) (eTup (aCons (eVar 8) aNil))) (eSl (eVar 11) (oSome (eBin addD (eVar 3) (eC (.int 1)))) oNone)))
    (sExpr (eApp 2 (eTup (aCons (eTup (aCons (eVar 3) (aCons (eVar 5) (aCons (eVar 8) (aCons (eVar 9) (aCons (eVar 11) aNil)))))) (aCons (eBin subD (eGetT 10 (eVar 12)) (eGetT 10 (eVar 11))) aNil)))))))))))))))
    (sRet (eVar 2)))))
theorem ok__law_gaps : BodyOk 15 W__law_gaps F__law_gaps := by
  rintro _ k ⟨h, rfl, wf, q⟩
  have hnp := wf.np
  have hsl : (ranges (sizes h)).length = h.persons.length := by simp [ranges, sizes]
  simp [W__law_gaps, entry]
  refine ⟨h, rfl, wf, ?_⟩
  simp
  refine ⟨_, ranges (sizes h), Or.inl rfl, rfl, by omega, fun p hp => ?_, ?_⟩
  · obtain ⟨m, hm, rfl⟩ := List.mem_map.mp hp
    simpa using wf.sz m hm
  simp [rgD_nat, wf.rg]
  refine loop_acc (gapsP h) 49152 (fun p hp => gapsP_le wf (by simpa using hp)) (fun A ρ => ∃ s3 s4 s5 s6 s7 s8 s9 s10 s11 s12 s13 s14 : Sl, plainB s11 = true ∧ plainB s13 = true ∧ plainB s14 = true ∧
    ρ = [.d (dHouse h), .d (.list ((allRows h).map dNats)), .own false (A.map dGap), s3, s4, s5, s6, s7, s8, s9, s10, s11, s12, s13, s14]) (A0 := []) ⟨.non, .non, .non, .non, .non, .non, .non, .non, .non, .non, .non, .non, rfl, rfl, rfl, rfl⟩ (fun p hp A ρ N hA hN h' => ?_) fun ρ h' => ?_
  · obtain ⟨s3, s4, s5, s6, s7, s8, s9, s10, s11, s12, s13, s14, p11, p13, p14, rfl⟩ := h'
    have hp' : p < h.persons.length := by simpa using hp
    obtain ⟨e1, P, e2, e3⟩ := sizes_at hp'
    have h8 := wf.nK_le p
    simp at hA
    have hPl : P.kinds.length ≤ 16777216 := by omega
    simp [at_nat, e2, rgD_nat, rgB_nat hPl]
    rw [← e3]
    refine loop_acc (gapsK h p) 6144 (fun kd hk => gapsK_le wf hp' (by simpa using hk)) (fun A ρ => ∃ s5 s6 s7 s8 s9 s10 s11 s12 s13 s14 : Sl, plainB s11 = true ∧ plainB s13 = true ∧ plainB s14 = true ∧
      ρ = [.d (dHouse h), .d (.list ((allRows h).map dNats)), .own false (A.map dGap), .d (nI p), .d (.tuple (P.kinds.map dKind)), s5, s6, s7, s8, s9, s10, s11, s12, s13, s14]) ⟨s5, s6, s7, s8, s9, s10, s11, s12, s13, s14, p11, p13, p14, rfl⟩ (fun kd hk A2 ρ N2 hA2 hN2 h' => ?_) fun ρ h' => ?_
    · obtain ⟨s5, s6, s7, s8, s9, s10, s11, s12, s13, s14, p11, p13, p14, rfl⟩ := h'
      have hk' : kd < nK h p := by simpa using hk
      obtain ⟨P', K, g1, g2, g3, m1, m2⟩ := kindAt_of hp' hk'
      rw [e2] at g1
      cases g1
      have h3 := (wf.nW_le hp' hk').2
      have hKW := nW_of g3
      simp at hA2
      simp [at_nat, g2, p13]
      refine lc_mapA (fun nums => tabOf h p nums) (by simp) (fun nums hnm N M hN => ?_) ?_
      · simp
        exact ⟨h, p, nums, rfl, wf, hp', (wf.nr P m1 K m2).2 nums hnm, by simpa using hN⟩
      simp [p11]
      refine lc_filA (fun row => decide (row[p]? = some kd)) dNats (by simp) (fun row hrow N M hN hM => ?_) ?_
      · obtain ⟨i, hi, rfl⟩ := List.getElem_of_mem hrow
        have hin := (rows_at wf (List.getElem?_eq_getElem hi)).1
        obtain ⟨r, hr, _⟩ := hin.at e1
        simp [hr]
        by_cases z : r = kd
        · simp [z]
          exact hN (by simp [hr, z])
        · simp [z]
          exact hM (by simp [hr, z])
      have eO : (allRows h).filter (fun row => decide (row[p]? = some kd)) = ownRows h p kd := rfl
      rw [eO]
      simp [p14, rgD_nat, rgB_nat hPl]
      refine lc_filA (fun o => o != kd) nI (by simp) (fun o ho N M h1 h2 => ?_) ?_
      · by_cases z : o = kd
        · simp [z]
          exact h2 (by simp [z])
        · simp [z]
          exact h1 (by simp [z])
      have eT : (List.range P.kinds.length).filter (fun o => o != kd) = others (nK h p) kd := by rw [e3]; rfl
      rw [eT]
      simp
      refine loop_acc (gapsO h p kd) 768 (fun o ho => gapsO_le wf hp' hk' o) (fun A ρ => ∃ s7 s8 s9 s10 s11 s12 : Sl, plainB s11 = true ∧ (s7 = .own false ((ownRows h p kd).map dNats) ∨ s7 = .d (.list ((ownRows h p kd).map dNats))) ∧
        ρ = [.d (dHouse h), .d (.list ((allRows h).map dNats)), .own false (A.map dGap), .d (nI p), .d (.tuple (P.kinds.map dKind)), .d (nI kd), .own false (K.rows.map fun nums => tabOf h p nums), s7, s8, s9, s10, s11, s12, s13, s14]) ⟨_, s8, s9, s10, s11, s12, p11, Or.inl rfl, rfl⟩ (fun o ho A3 ρ N3 hA3 hN3 h' => ?_) fun ρ h' => ?_
      · obtain ⟨s7, s8, s9, s10, s11, s12, p11, h7, rfl⟩ := h'
        have ho' : o < nK h p := by
          unfold others at ho
          simp at ho
          exact ho.1
        have hol := others_le (nK h p) kd
        have hA3' : A3.length + 768 ≤ A2.length + nK h p * 768 := Nat.le_trans hA3 (Nat.add_le_add_left (Nat.mul_le_mul_right _ hol) _)
        simp [rgD_nat, rgB_nat (show K.rows.length ≤ 16777216 by omega)]
        rw [← hKW]
        refine loop_acc (gapsW h p kd o) 256 (fun w hw => gapsW_le wf p kd o w) (fun A ρ => ∃ s7 s9 s10 s11 s12 : Sl, plainB s11 = true ∧ (s7 = .own false ((ownRows h p kd).map dNats) ∨ s7 = .d (.list ((ownRows h p kd).map dNats))) ∧
          ρ = [.d (dHouse h), .d (.list ((allRows h).map dNats)), .own false (A.map dGap), .d (nI p), .d (.tuple (P.kinds.map dKind)), .d (nI kd), .own false (K.rows.map fun nums => tabOf h p nums), s7, .d (nI o), s9, s10, s11, s12, s13, s14]) ⟨s7, s9, s10, s11, s12, p11, h7, rfl⟩ (fun w hw A4 ρ N4 hA4 hN4 h' => ?_) fun ρ h' => ?_
        · obtain ⟨s7, s9, s10, s11, s12, p11, h7, rfl⟩ := h'
          have hw' : w < nW h p kd := by simpa using hw
          obtain ⟨P2, K2, nums, u1, u2, u3, u4, u5⟩ := numsAt_of wf hp' hk' hw'
          rw [e2] at u1
          cases u1
          rw [g2] at u2
          cases u2
          simp at hA4
          have hol2 := own_le wf p kd
          rcases h7 with rfl | rfl <;> simp [at_nat, u3]
          all_goals
            refine loop_acc (fun row => [gapRow h p kd o w row]) 1 (fun _ _ => by simp) (fun A ρ => ∃ s11 s12 : Sl, plainB s11 = true ∧
              ρ = [.d (dHouse h), .d (.list ((allRows h).map dNats)), .own false (A.map dGap), .d (nI p), .d (.tuple (P.kinds.map dKind)), .d (nI kd), .own false (K.rows.map fun nums => tabOf h p nums), .d (.list ((ownRows h p kd).map dNats)), .d (nI o), .d (nI w), .d (tabOf h p nums), s11, s12, s13, s14]) ⟨s11, s12, p11, rfl⟩ (fun row hrow A5 ρ N5 hA5 hN5 h' => ?_) fun ρ h' => ?_
            · obtain ⟨s11, s12, p11, rfl⟩ := h'
              have hra := (List.mem_filter.mp hrow).1
              obtain ⟨i, hi, hie⟩ := List.getElem_of_mem hra
              have hin := (rows_at wf (show (allRows h)[i]? = some row by rw [List.getElem?_eq_getElem hi, hie])).1
              have hrl := hin.len
              rw [sizes_len] at hrl
              have hin2 := hin.set e1 ho'
              have c1 := cat_nats (l := row.take p) (a := o) (by simp; omega)
              have c2 : addD (dNats (row.take p ++ [o])) (dNats (row.drop (p + 1))) = some (.d (dNats (row.set p o))) := by rw [cat_nn (by simp; omega), set_cut (by omega)]
              have hkl : ((allRows h).map rowKey).length = ((valsOf h p nums).map PyData.int).length := by simp [valsOf, rows_len wf]
              simp [sl_take, sl_drop, c1, c2]
              refine ⟨(allRows h).map rowKey, (valsOf h p nums).map .int, ⟨hkl, Or.inr rfl⟩, rowKey (row.set p o), rowKey_d _, _, tab_at wf hin2, ?_⟩
              refine ⟨(allRows h).map rowKey, (valsOf h p nums).map .int, ⟨hkl, Or.inr rfl⟩, rowKey row, rowKey_d _, _, tab_at wf hin, ?_⟩
              simp
              refine ⟨by simp at hA5; omega, hN5 _ ⟨.d (dNats row), .d (dNats (row.set p o)), rfl, ?_⟩⟩
              simp [gapRow, dGap, dLie, gainB, valOf, u4]
            · obtain ⟨s11, s12, p11, rfl⟩ := h'
              rw [flat_one]
              exact hN4 _ ⟨.d (.list ((ownRows h p kd).map dNats)), .d (nI w), .d (tabOf h p nums), s11, s12, p11, Or.inr rfl, rfl⟩
        · obtain ⟨s7, s9, s10, s11, s12, p11, h7, rfl⟩ := h'
          exact hN3 _ ⟨_, _, _, _, _, _, p11, h7, rfl⟩
      · obtain ⟨s7, s8, s9, s10, s11, s12, p11, h7, rfl⟩ := h'
        exact hN2 _ ⟨_, _, _, _, _, _, _, _, _, _, p11, p13, p14, rfl⟩
    · obtain ⟨s5, s6, s7, s8, s9, s10, s11, s12, s13, s14, p11, p13, p14, rfl⟩ := h'
      exact hN _ ⟨_, _, _, _, _, _, _, _, _, _, _, _, p11, p13, p14, rfl⟩
  · obtain ⟨s3, s4, s5, s6, s7, s8, s9, s10, s11, s12, s13, s14, p11, p13, p14, rfl⟩ := h'
    simp
    simpa [gapsOf] using q
end Dl

set_option Elab.async false
set_option linter.all false
set_option maxRecDepth 100000
set_option autoImplicit false
set_option maxHeartbeats 2000000
namespace Dl
open PySem PySem.Spec PyProof.Rows L2

/-! ### the law's first gap is the program's first lie -/
theorem fm_congr {α β : Type} {f g : α → List β} : ∀ {l : List α}, (∀ x ∈ l, f x = g x) → l.flatMap f = l.flatMap g
  | [], _ => rfl
  | x :: l, h => by rw [List.flatMap_cons, List.flatMap_cons, h x List.mem_cons_self, fm_congr fun y hy => h y (List.mem_cons_of_mem _ hy)]
theorem fm_filter {α β : Type} {f : α → List β} {c : α → Bool} : ∀ l : List α, (l.filter c).flatMap f = l.flatMap fun x => if c x = true then f x else []
  | [] => rfl
  | x :: l => by
    rw [List.filter_cons, List.flatMap_cons]
    by_cases h : c x = true
    · rw [if_pos h, if_pos h, List.flatMap_cons, fm_filter l]
    · rw [if_neg h, if_neg h, fm_filter l]
      rfl
theorem range_one {k : Nat} : ∀ {m : Nat}, k < m → (List.range m).filter (fun t => decide (t = k)) = [k]
  | m + 1, h => by
    rw [List.range_succ, List.filter_append]
    by_cases e : k = m
    · subst e
      have : (List.range k).filter (fun t => decide (t = k)) = [] := by
        rw [List.filter_eq_nil_iff]
        intro t ht
        have := List.mem_range.mp ht
        simp
        omega
      rw [this]
      simp
    · rw [range_one (by omega)]
      have e' : ¬ m = k := fun z => e z.symm
      simp [e']
theorem comb_filter : ∀ (n : Nat) (b : List (List Nat)) (p k m : Nat), b.length = n → b[p]? = some (List.range m) → k < m → (comb b).filter (fun row => decide (row[p]? = some k)) = comb (b.set p [k])
  | 0, b, p, k, m, hn, e, hk => by
    have : b = [] := List.length_eq_zero_iff.mp hn
    subst this
    simp at e
  | n + 1, b, p, k, m, hn, e, hk => by
    rcases List.eq_nil_or_concat b with rfl | ⟨b', q, rfl⟩
    · simp at hn
    · rw [List.concat_eq_append] at hn e ⊢
      have hn' : b'.length = n := by simpa using hn
      rw [comb_snoc, List.filter_flatMap]
      by_cases hp : p < b'.length
      · rw [List.getElem?_append_left hp] at e
        rw [List.set_append_left _ _ hp, comb_snoc, ← comb_filter n b' p k m hn' e hk, fm_filter]
        refine fm_congr fun row hrow => ?_
        have hl := comb_rows hrow
        rw [List.filter_map]
        have hc : ((fun row => decide (row[p]? = some k)) ∘ fun t => row ++ [t]) = fun _ => decide (row[p]? = some k) := by
          funext t
          show decide ((row ++ [t])[p]? = some k) = _
          rw [List.getElem?_append_left (by omega)]
        rw [hc]
        by_cases z : row[p]? = some k
        · simp only [z, decide_true, if_true]
          rw [List.filter_eq_self.mpr (fun _ _ => rfl)]
        · simp [z]
      · have hpe : p = b'.length := by
          have := (List.getElem?_eq_some_iff.mp e).1
          simp at this
          omega
        subst hpe
        rw [List.getElem?_append_right (Nat.le_refl _), Nat.sub_self] at e
        have hq : q = List.range m := by simpa using e
        subst hq
        rw [List.set_append_right _ _ (Nat.le_refl _), Nat.sub_self]
        show _ = comb (b' ++ [[k]])
        rw [comb_snoc]
        refine fm_congr fun row hrow => ?_
        have hl := comb_rows hrow
        rw [List.filter_map]
        have hc : ((fun r => decide (r[b'.length]? = some k)) ∘ fun t => row ++ [t]) = fun t => decide (t = k) := by
          funext t
          show decide ((row ++ [t])[b'.length]? = some k) = _
          rw [List.getElem?_append_right (by omega), hl, Nat.sub_self]
          simp
        rw [hc, range_one hk]
theorem saying_eq {h : HouseL} {p kd : Nat} (hp : p < h.persons.length) (hk : kd < nK h p) : rowsSaying h p kd = ownRows h p kd := by
  have e : (ranges (sizes h))[p]? = some (List.range (nK h p)) := by
    unfold ranges
    rw [List.getElem?_map, (sizes_at hp).1]
    rfl
  exact (comb_filter _ _ p kd _ rfl e hk).symm
theorem fs_flat {α β γ : Type} {f : α → List β} {g : β → Option γ} : ∀ l : List α, (l.flatMap f).findSome? g = l.findSome? fun x => (f x).findSome? g
  | [] => rfl
  | x :: l => by
    rw [List.flatMap_cons, List.findSome?_append, List.findSome?_cons, fs_flat l]
    cases (f x).findSome? g <;> rfl
theorem fs_congr {α γ : Type} {f g : α → Option γ} : ∀ {l : List α}, (∀ x ∈ l, f x = g x) → l.findSome? f = l.findSome? g
  | [], _ => rfl
  | x :: l, h => by rw [List.findSome?_cons, List.findSome?_cons, h x List.mem_cons_self, fs_congr fun y hy => h y (List.mem_cons_of_mem _ hy)]
def firstGap (gs : List (LieL × Int)) (s : Int) : Option LieL := gs.findSome? fun g => if s < g.2 then some g.1 else none
theorem first_eq (h : HouseL) (s : Int) : firstLie { h with slack := s } = firstGap (gapsOf h) s := by
  unfold firstLie firstGap gapsOf
  rw [fs_flat]
  refine fs_congr fun p hp => ?_
  have hp' : p < h.persons.length := by simpa using hp
  unfold gapsP
  rw [fs_flat]
  refine fs_congr fun kd hk => ?_
  have hk' : kd < nK h p := List.mem_range.mp hk
  unfold firstLieOf gapsK
  rw [fs_flat]
  refine fs_congr fun o ho => ?_
  unfold firstLieTo gapsO
  rw [fs_flat]
  refine fs_congr fun w hw => ?_
  have e : rowsSaying { h with slack := s } p kd = ownRows h p kd := saying_eq (h := { h with slack := s }) hp' hk'
  rw [e]
  unfold lyingRow gapsW
  rw [List.findSome?_map, List.map_findSome?]
  refine fs_congr fun row _ => ?_
  show Option.map _ (if s < gainB { h with slack := s } p kd w row (row.set p o) then some row else none) = if s < gainB h p kd w row (row.set p o) then some (p, kd, o, w, row) else none
  have eg : gainB { h with slack := s } p kd w row (row.set p o) = gainB h p kd w row (row.set p o) := rfl
  rw [eg]
  split <;> rfl
/-! ### the text of a lie -/
structure LieOk (l : LieL) : Prop where
  a : l.1 < 10
  b : l.2.1 < 10
  c : l.2.2.1 < 10
  d : l.2.2.2.1 < 10
  e : l.2.2.2.2.length ≤ 4
  f : ∀ x ∈ l.2.2.2.2, x < 10
theorem gaps_ok {h : HouseL} (wf : Wf h) {g : LieL × Int} (hg : g ∈ gapsOf h) : LieOk g.1 := by
  obtain ⟨p, hp, hg⟩ := List.mem_flatMap.mp hg
  obtain ⟨kd, hk, hg⟩ := List.mem_flatMap.mp hg
  obtain ⟨o, ho, hg⟩ := List.mem_flatMap.mp hg
  obtain ⟨w, hw, hg⟩ := List.mem_flatMap.mp hg
  obtain ⟨row, hr, rfl⟩ := List.mem_map.mp hg
  have hp' : p < h.persons.length := by simpa using hp
  have hk' : kd < nK h p := by simpa using hk
  have ho' : o < nK h p := by
    unfold others at ho
    simp at ho
    exact ho.1
  have hw' : w < nW h p kd := by simpa using hw
  have h1 := wf.np
  have h2 := wf.nK_le p
  have h3 := (wf.nW_le hp' hk').2
  have hin := rowOf_ranges.mp (mem_comb.mp (List.mem_filter.mp hr).1)
  have hl := hin.len
  rw [sizes_len] at hl
  refine ⟨show p < 10 by omega, show kd < 10 by omega, show o < 10 by omega, show w < 10 by omega, show row.length ≤ 4 by omega, fun x hx => ?_⟩
  obtain ⟨i, hi, e⟩ := List.getElem_of_mem (show x ∈ row from hx)
  have hi' : i < (sizes h).length := by rw [hin.len] at hi; exact hi
  obtain ⟨r, g1, g2⟩ := hin.at (List.getElem?_eq_getElem hi')
  rw [List.getElem?_eq_getElem hi, e] at g1
  cases g1
  have := wf.sz _ (List.getElem_mem hi')
  omega
theorem firstGap_ok {h : HouseL} (wf : Wf h) {s : Int} {l : LieL} (e : firstGap (gapsOf h) s = some l) : LieOk l := by
  obtain ⟨g, hg, e⟩ := List.exists_of_findSome?_eq_some e
  split at e
  · cases e
    exact gaps_ok wf hg
  · cases e
theorem small_int : ∀ n, n < 10 → (nI n).showable = true ∧ (nI n).leavesShort 8 = true ∧ (nI n).weight ≤ 4 := by
  have h : ((List.range 10).all fun n => (nI n).showable && (nI n).leavesShort 8 && decide ((nI n).weight ≤ 4)) = true := by decide +kernel
  intro n hn
  have := List.all_eq_true.mp h n (List.mem_range.mpr hn)
  simp at this
  exact ⟨this.1.1, this.1.2, this.2⟩
theorem small_row : ∀ {l : List Nat}, (∀ x ∈ l, x < 10) → PyData.showableAll (l.map nI) = true ∧ PyData.leavesShortAll 8 (l.map nI) = true ∧ PyData.weightAll (l.map nI) ≤ 5 * l.length ∧ PyData.depthAll (l.map nI) = 0
  | [], _ => ⟨rfl, rfl, Nat.zero_le _, rfl⟩
  | x :: l, h => by
    obtain ⟨a, b, c⟩ := small_int x (h x List.mem_cons_self)
    obtain ⟨d, e, f, g⟩ := small_row fun y hy => h y (List.mem_cons_of_mem _ hy)
    refine ⟨?_, ?_, ?_, ?_⟩
    · simp only [List.map_cons, PyData.showableAll, a, d, Bool.and_self]
    · simp only [List.map_cons, PyData.leavesShortAll, b, e, Bool.and_self]
    · simp only [List.map_cons, PyData.weightAll, List.length_cons]
      omega
    · simp only [List.map_cons, PyData.depthAll, g, PyData.depth]
      rfl
theorem rp_lie {l : Option LieL} (h : ∀ x, l = some x → LieOk x) : rpD [dLie l] = some (.d (.str (dLie l).shown)) := by
  cases l with
  | none => rfl
  | some x =>
    obtain ⟨p, kd, o, w, row⟩ := x
    have ok := h _ rfl
    obtain ⟨a1, a2, a3⟩ := small_int p ok.a
    obtain ⟨b1, b2, b3⟩ := small_int kd ok.b
    obtain ⟨c1, c2, c3⟩ := small_int o ok.c
    obtain ⟨d1, d2, d3⟩ := small_int w ok.d
    obtain ⟨e1, e2, e3, e4⟩ := small_row ok.f
    have hrl := ok.e
    have hrl' : row.length ≤ 4 := hrl
    have s1 : (dLie (some (p, kd, o, w, row))).showable = true := by
      simp only [dLie, dNats, PyData.showable, PyData.showableAll, Bool.and_eq_true]
      exact ⟨a1, b1, c1, d1, e1, trivial⟩
    have s2 : (dLie (some (p, kd, o, w, row))).leavesShort 8 = true := by
      simp only [dLie, dNats, PyData.leavesShort, PyData.leavesShortAll, Bool.and_eq_true]
      exact ⟨a2, b2, c2, d2, e2, trivial⟩
    have s3 : (dLie (some (p, kd, o, w, row))).weight ≤ 100 := by
      simp only [dLie, dNats, PyData.weight, PyData.weightAll] at a3 b3 c3 d3 ⊢
      have e3' : PyData.weightAll (row.map nI) ≤ 5 * row.length := e3
      omega
    have s4 : (dLie (some (p, kd, o, w, row))).depth ≤ 100 := by
      simp only [dLie, dNats, PyData.depth, PyData.depthAll]
      have e4' : PyData.depthAll (row.map nI) = 0 := e4
      omega
    have s5 : (dLie (some (p, kd, o, w, row))).canLay0 = true := by
      simp only [dLie, dNats, PyData.canLay0, PyData.canLayAll0, Bool.and_eq_true]
      exact ⟨trivial, trivial, trivial, trivial, lay_nats row, trivial⟩
    have s6 := PyData.shown_le 8 (by omega) _ s2
    have s7 : (dLie (some (p, kd, o, w, row))).shown.length ≤ sizeLine := by
      rw [sizeLine_eq]
      omega
    have hn : isStr (dLie (some (p, kd, o, w, row))) = false := rfl
    have hr : reprD (dLie (some (p, kd, o, w, row))) = some (dLie (some (p, kd, o, w, row))).shown := by
      have : reprD (dLie (some (p, kd, o, w, row))) = if ((dLie (some (p, kd, o, w, row))).showable && (dLie (some (p, kd, o, w, row))).canLay0 && decide ((dLie (some (p, kd, o, w, row))).depth ≤ 100) && decide ((dLie (some (p, kd, o, w, row))).shown.length ≤ sizeLine)) = true then some (dLie (some (p, kd, o, w, row))).shown else none := rfl
      rw [this, if_pos]
      simp only [s1, s5, s4, s7, decide_true, Bool.and_self]
    show (if isStr (dLie (some (p, kd, o, w, row))) = true then none else (reprD (dLie (some (p, kd, o, w, row)))).map fun z => Sl.d (PyData.str z)) = _
    rw [hn, hr]
    rfl
end Dl

set_option Elab.async false
set_option linter.all false
set_option maxRecDepth 100000
set_option autoImplicit false
set_option maxHeartbeats 1000000
namespace Dl
open PySem PySem.Spec PyProof.Rows L2

/-! ### data told apart -/
theorem map_inj {α β : Type} {f : α → β} (h : ∀ x y, f x = f y → x = y) {l m : List α} : l.map f = m.map f ↔ l = m := List.map_inj_right h
@[simp] theorem dInts_inj {l m : List Int} : dInts l = dInts m ↔ l = m := by
  unfold dInts
  rw [PyData.tuple.injEq]
  exact map_inj fun x y h => PyData.int.inj h
@[simp] theorem nI_inj {a b : Nat} : (nI a = nI b) ↔ a = b := by
  unfold nI
  rw [PyData.int.injEq]
  omega
@[simp] theorem nats_inj {l m : List Nat} : l.map nI = m.map nI ↔ l = m := map_inj fun x y h => nI_inj.mp h
@[simp] theorem dNats_inj {l m : List Nat} : dNats l = dNats m ↔ l = m := by
  unfold dNats
  rw [PyData.tuple.injEq]
  exact nats_inj
@[simp] theorem box_inj {l m : List (List Nat)} : l.map dNats = m.map dNats ↔ l = m := map_inj fun x y h => dNats_inj.mp h
@[simp] theorem dBox_inj {l m : List (List Nat)} : dBox l = dBox m ↔ l = m := by
  unfold dBox
  rw [PyData.tuple.injEq]
  exact box_inj
@[simp] theorem ints_inj {l m : List Int} : l.map PyData.int = m.map PyData.int ↔ l = m := map_inj fun x y h => PyData.int.inj h
@[simp] theorem strs_inj {l m : List Str} : l.map PyData.str = m.map PyData.str ↔ l = m := map_inj fun x y h => PyData.str.inj h
@[simp] theorem dKind_inj {a b : KindL} : dKind a = dKind b ↔ a = b := by
  obtain ⟨n, r⟩ := a
  obtain ⟨m, s⟩ := b
  unfold dKind
  simp only [PyData.tuple.injEq, List.cons.injEq, PyData.str.injEq, KindL.mk.injEq, and_true]
  rw [map_inj fun x y h => dInts_inj.mp h]
@[simp] theorem dPerson_inj {a b : PersonL} : dPerson a = dPerson b ↔ a = b := by
  obtain ⟨n, r, u⟩ := a
  obtain ⟨m, s, v⟩ := b
  unfold dPerson
  simp only [PyData.tuple.injEq, List.cons.injEq, PyData.str.injEq, PersonL.mk.injEq, and_true, dNats_inj]
  rw [map_inj fun x y h => dKind_inj.mp h]
@[simp] theorem dEnd_inj {a b : EndL} : dEnd a = dEnd b ↔ a = b := by
  obtain ⟨n, r⟩ := a
  obtain ⟨m, s⟩ := b
  unfold dEnd
  simp only [PyData.tuple.injEq, List.cons.injEq, EndL.mk.injEq, and_true, dInts_inj, nI_inj]
@[simp] theorem dHouse_inj {a b : HouseL} : dHouse a = dHouse b ↔ a = b := by
  obtain ⟨n, r, u, x⟩ := a
  obtain ⟨m, s, v, y⟩ := b
  unfold dHouse
  simp only [PyData.tuple.injEq, List.cons.injEq, HouseL.mk.injEq, and_true, true_and, PyData.int.injEq]
  rw [map_inj fun x y h => PyData.str.inj h, map_inj fun x y h => dPerson_inj.mp h, map_inj fun x y h => dEnd_inj.mp h]

/-! ### calls, run -/
section
variable {k : Sl → List Sl → Prop} {h : HouseL} {p kind o w n : Nat} {row other : List Nat} {b : List (List Nat)} {e : EndL} {l : List Int}
@[simp] theorem c_count_of : F_count_of [.d (dHouse h)] k = k (.d (nI h.persons.length)) [.d (dHouse h)] := by simp [F_count_of, and_assoc]
@[simp] theorem c_kinds_of : F_kinds_of [.d (dHouse h), .d (nI p)] k = opt h.persons[p]? fun P => k (.d (.tuple (P.kinds.map dKind))) [.d (dHouse h), .d (nI p)] := by simp [F_kinds_of, opt, and_assoc]
@[simp] theorem c_all_kinds : F_all_kinds [.d (dHouse h)] k = (Wf h ∧ k (.d (dNats (sizes h))) [.d (dHouse h)]) := by simp [F_all_kinds, and_assoc]
@[simp] theorem c_whole : F_whole [.d (dHouse h)] k = (Wf h ∧ k (.d (dBox (ranges (sizes h)))) [.d (dHouse h)]) := by simp [F_whole, and_assoc]
@[simp] theorem c__law_whole : F__law_whole [.d (dHouse h)] k = (Wf h ∧ k (.d (dBox (ranges (sizes h)))) [.d (dHouse h)]) := by simp [F__law_whole, and_assoc]
@[simp] theorem c_combined : F_combined [.d (dBox b)] k = (b.length ≤ 4 ∧ (∀ p ∈ b, p.length ≤ 8) ∧ k (.d (dBox (comb b))) [.d (dBox b)]) := by simp [F_combined, and_assoc]
@[simp] theorem c_row_number : F_row_number [.d (dHouse h), .d (dNats row)] k = (Wf h ∧ RowIn (sizes h) row ∧ k (.d (nI (rowNoF 0 (sizes h) row))) [.d (dHouse h), .d (dNats row)]) := by simp [F_row_number, and_assoc]
@[simp] theorem c_end_of : F_end_of [.d (dHouse h), .d (dNats row)] k = (Wf h ∧ RowIn (sizes h) row ∧ k (.d (dEnd (endAt h row))) [.d (dHouse h), .d (dNats row)]) := by simp [F_end_of, and_assoc]
@[simp] theorem c_reworded : F_reworded [.d (dNats row), .d (nI p), .d (nI kind)] k = (p < row.length ∧ row.length ≤ 1000 ∧ k (.d (dNats (row.set p kind))) [.d (dNats row), .d (nI p), .d (nI kind)]) := by simp [F_reworded, and_assoc]
@[simp] theorem c_other_kinds : F_other_kinds [.d (dHouse h), .d (nI p), .d (nI kind)] k = (Wf h ∧ p < h.persons.length ∧ k (.d (dNats (others (nK h p) kind))) [.d (dHouse h), .d (nI p), .d (nI kind)]) := by simp [F_other_kinds, and_assoc]
@[simp] theorem c_rows_saying : F_rows_saying [.d (dHouse h), .d (nI p), .d (nI kind)] k = (Wf h ∧ p < h.persons.length ∧ k (.d (dBox (rowsSaying h p kind))) [.d (dHouse h), .d (nI p), .d (nI kind)]) := by simp [F_rows_saying, and_assoc]
@[simp] theorem c_worths_of : F_worths_of [.d (dHouse h), .d (nI p), .d (nI kind)] k = opt h.persons[p]? fun P => opt P.kinds[kind]? fun K => k (.d (.tuple (K.rows.map dInts))) [.d (dHouse h), .d (nI p), .d (nI kind)] := by
  simp [F_worths_of, opt, and_assoc]
@[simp] theorem c_row_worths : F_row_worths [.d (dHouse h), .d (nI p), .d (nI kind), .d (nI w)] k = opt h.persons[p]? fun P => opt P.kinds[kind]? fun K => opt K.rows[w]? fun r => k (.d (dInts r)) [.d (dHouse h), .d (nI p), .d (nI kind), .d (nI w)] := by
  simp [F_row_worths, opt, and_assoc]
@[simp] theorem c_payment_of : F_payment_of [.d (nI p), .d (dEnd e)] k = opt e.pays[p]? fun x => k (.d (.int x)) [.d (nI p), .d (dEnd e)] := by simp [F_payment_of, opt, and_assoc]
@[simp] theorem c_value_by : F_value_by [.d (dInts l), .d (nI p), .d (dEnd e)] k = opt l[e.out]? fun n => opt e.pays[p]? fun x => k (.d (.int (n - x))) [.d (dInts l), .d (nI p), .d (dEnd e)] := by simp [F_value_by, opt, and_assoc]
@[simp] theorem c_value_of : F_value_of [.d (dHouse h), .d (nI p), .d (nI kind), .d (nI w), .d (dEnd e)] k = (Wf h ∧ p < h.persons.length ∧ kind < nK h p ∧ w < nW h p kind ∧ EndOk h e ∧ k (.d (.int (valOf h p kind w e))) [.d (dHouse h), .d (nI p), .d (nI kind), .d (nI w), .d (dEnd e)]) := by
  simp [F_value_of, and_assoc]
@[simp] theorem c_count_worths : F_count_worths [.d (dHouse h), .d (nI p), .d (nI kind)] k = (p < h.persons.length ∧ kind < nK h p ∧ k (.d (nI (nW h p kind))) [.d (dHouse h), .d (nI p), .d (nI kind)]) := by simp [F_count_worths, and_assoc]
@[simp] theorem c_gain_between : F_gain_between [.d (dHouse h), .d (nI p), .d (nI kind), .d (nI w), .d (dNats row), .d (dNats other)] k = (Wf h ∧ p < h.persons.length ∧ kind < nK h p ∧ w < nW h p kind ∧ RowIn (sizes h) row ∧ RowIn (sizes h) other ∧
    k (.d (.int (gainB h p kind w row other))) [.d (dHouse h), .d (nI p), .d (nI kind), .d (nI w), .d (dNats row), .d (dNats other)]) := by simp [F_gain_between, and_assoc]
@[simp] theorem c_first_lie : F_first_lie [.d (dHouse h)] k = (Wf h ∧ k (.d (dLie (firstLie h))) [.d (dHouse h)]) := by simp [F_first_lie, and_assoc]
@[simp] theorem c__law_begin {ns : List Int} : F__law_begin [.scr ns] k = (ns.length ≤ 63 ∧ k (.drw false) [.scr ns]) := by simp [F__law_begin, and_assoc]
@[simp] theorem c__law_draw {m : Int} : F__law_draw [.drw true, .d (.int m)] k = (0 < m ∧ m < 1073741824 ∧ ∀ j : Nat, (j : Int) < m → k (.d (nI j)) [.drw true, .d (.int m)]) := by
  unfold F__law_draw
  refine propext ⟨fun ⟨a, e, h1, h2, q⟩ => ?_, fun ⟨h1, h2, q⟩ => ⟨m.toNat, ?_, by omega, by omega, fun j hj => q j (by omega)⟩⟩
  · have : m = a := by simpa using e
    subst this
    exact ⟨by omega, by omega, fun j hj => q j (by omega)⟩
  · simp
    omega
@[simp] theorem c__law_rare {m : Int} : F__law_rare [.drw true, .d (.int m)] k = (0 < m ∧ m < 1073741824 ∧ ∀ b : Bool, k (.d (.bool b)) [.drw true, .d (.int m)]) := by
  unfold F__law_rare
  refine propext ⟨fun ⟨a, e, h1, h2, q⟩ => ?_, fun ⟨h1, h2, q⟩ => ⟨m.toNat, ?_, by omega, by omega, q⟩⟩
  · have : m = a := by simpa using e
    subst this
    exact ⟨by omega, by omega, q⟩
  · simp
    omega
@[simp] theorem c__law_pick {x : D} : F__law_pick [.drw true, .d x] k = seqD (fun xs _ => 0 < xs.length ∧ xs.length < 1073741824 ∧ ∀ y ∈ xs, k (.d y) [.drw true, .d x]) x [] := by
  unfold F__law_pick
  refine propext ⟨fun ⟨a, xs, hs, e, q⟩ => ?_, fun q => ?_⟩
  · have : x = a := by simpa using e
    subst this
    rcases hs with rfl | rfl <;> exact q
  · cases x <;> first | exact q.elim | skip
    · exact ⟨_, _, Or.inl rfl, rfl, q⟩
    · exact ⟨_, _, Or.inr rfl, rfl, q⟩
@[simp] theorem c__law_pop {xs : List D} : F__law_pop [.drw true, .own true xs] k = (0 < xs.length ∧ xs.length < 1073741824 ∧ ∀ (j : Nat) (y : D), xs[j]? = some y → k (.d y) [.drw true, .own true (xs.eraseIdx j)]) := by simp [F__law_pop, and_assoc]
@[simp] theorem c__law_pool : F__law_pool [] k = k (.own false (pool.map .str)) [] := by simp [F__law_pool, and_assoc]
@[simp] theorem c__law_number : F__law_number [.drw true] k = ∀ x : Int, k (.d (.int x)) [.drw true] := by simp [F__law_number, and_assoc]
@[simp] theorem c__law_far : F__law_far [.drw true] k = ∀ x : Int, k (.d (.int x)) [.drw true] := by simp [F__law_far, and_assoc]
@[simp] theorem c__law_sizes {m : Int} : F__law_sizes [.drw true, .d (.int m)] k = (1 ≤ m ∧ ∀ ms, SizesOk ms → (prodN ms : Int) ≤ m → k (.d (dNats ms)) [.drw true, .d (.int m)]) := by
  unfold F__law_sizes
  refine propext ⟨fun ⟨a, e, h1, q⟩ => ?_, fun ⟨h1, q⟩ => ⟨m.toNat, ?_, by omega, fun ms h2 h3 => q ms h2 (by omega)⟩⟩
  · have : m = a := by simpa using e
    subst this
    exact ⟨by omega, fun ms h2 h3 => q ms h2 (by omega)⟩
  · simp
    omega
@[simp] theorem c__law_rows : F__law_rows [.d (dBox b)] k = (b.length ≤ 4 ∧ (∀ p ∈ b, p.length ≤ 8) ∧ k (.d (.list ((comb b).map dNats))) [.d (dBox b)]) := by
  unfold F__law_rows
  refine propext ⟨fun ⟨x, b', hx, e, h1, h2, q⟩ => ?_, fun ⟨h1, h2, q⟩ => ⟨_, b, Or.inl rfl, rfl, h1, h2, q⟩⟩
  have e' : dBox b = x := by simpa using e
  subst e'
  rcases hx with z | z
  · rw [dBox_inj] at z
    subst z
    exact ⟨h1, h2, q⟩
  · cases z
@[simp] theorem c__law_watching : F__law_watching [.drw true, .d (nI p), .d (nI n)] k = (n ≤ 1000 ∧ ∀ ws : List Nat, ws.Sublist (List.range n) → p ∉ ws → k (.d (dNats ws)) [.drw true, .d (nI p), .d (nI n)]) := by simp [F__law_watching, and_assoc]
@[simp] theorem c__law_narrowed {ks : List Nat} : F__law_narrowed [.d (dBox b), .d (nI p), .d (dNats ks)] k = (p < b.length ∧ b.length ≤ 1000 ∧ k (.d (dBox (b.set p ks))) [.d (dBox b), .d (nI p), .d (dNats ks)]) := by simp [F__law_narrowed, and_assoc]
theorem toNat_iff {m : Int} {a : Nat} : ((a : Int) = m) ↔ (0 ≤ m ∧ a = m.toNat) := by omega
@[simp] theorem c__law_house {ms : List Nat} {oc wo pay : Int} : F__law_house [.drw true, .d (dNats ms), .d (.int oc), .d (.int wo), .d (.int pay)] k = (SizesOk ms ∧ prodN ms ≤ 256 ∧ (1 ≤ oc ∧ oc ≤ 24) ∧ (1 ≤ wo ∧ wo ≤ 3) ∧ 0 ≤ pay ∧ pay ≤ 1000000 ∧
    ∀ h : HouseL, Wf h → sizes h = ms → k (.d (dHouse h)) [.drw true, .d (dNats ms), .d (.int oc), .d (.int wo), .d (.int pay)]) := by
  unfold F__law_house
  refine propext ⟨fun ⟨a, b, c, d, e, h1, h2, h3, h4, h5, q⟩ => ?_, fun ⟨h1, h2, h3, h4, h5, h6, q⟩ => ⟨ms, oc.toNat, wo.toNat, pay.toNat, ?_, h1, h2, by omega, by omega, by omega, q⟩⟩
  · simp at e
    obtain ⟨rfl, rfl, rfl, rfl⟩ := e
    exact ⟨h1, h2, by omega, by omega, by omega, by omega, q⟩
  · simp
    omega
@[simp] theorem c__law_great_house : F__law_great_house [.drw true] k = ∀ h : HouseL, Wf h → k (.d (dHouse h)) [.drw true] := by simp [F__law_great_house, and_assoc]
@[simp] theorem c__law_any_house {m : Int} : F__law_any_house [.drw true, .d (.int m)] k = (1 ≤ m ∧ m ≤ 256 ∧ ∀ h : HouseL, Wf h → (prodN (sizes h) : Int) ≤ m → k (.d (dHouse h)) [.drw true, .d (.int m)]) := by
  unfold F__law_any_house
  refine propext ⟨fun ⟨a, e, h1, h2, q⟩ => ?_, fun ⟨h1, h2, q⟩ => ⟨m.toNat, ?_, by omega, by omega, fun ms h2 h3 => q ms h2 (by omega)⟩⟩
  · have : m = a := by simpa using e
    subst this
    exact ⟨by omega, by omega, fun ms h2 h3 => q ms h2 (by omega)⟩
  · simp
    omega
end

@[simp] theorem tru_bool {b : Bool} : truD (.bool b) = some b := rfl
/-! ### loops, once more -/
theorem take_at {α : Type} {l : List α} {i : Nat} {x : α} (h : l[i]? = some x) : l.take (i + 1) = l.take i ++ [x] := by rw [List.take_succ, h]; rfl
/-- a loop that folds: I tells the slots by what was done so far -/
theorem loop_l {α : Type} {G : GT} {W : ST} {E : EndD} {l : List α} {f : α → D} {ρ : Rho} (I : List α → Rho → Prop) (hI : I [] ρ) (h0 : ∀ ρ, I l ρ → E.nx ρ)
    (hs : ∀ pre x, x ∈ l → ∀ ρ (N : Rho → Prop), I pre ρ → (∀ ρ', I (pre ++ [x]) ρ' → N ρ') → (∃ post, l = pre ++ x :: post) → G (f x) ρ fun ρ1 => W { nx := N, rt := E.rt, bk := E.nx, ct := N } ρ1) : loopW G W E (l.map f) ρ := by
  refine loop_idx (fun i ρ => I (l.take i) ρ) hI (fun ρ h => h0 ρ (by simpa using h)) fun i d hd ρ N hN h => ?_
  obtain ⟨x, hx, rfl⟩ := at_map hd
  refine hs (l.take i) x (List.mem_of_getElem? hx) ρ N h (fun ρ' h' => hN ρ' (by rw [take_at hx]; exact h')) ⟨l.drop (i + 1), ?_⟩
  have h1 := List.take_append_drop i l
  rw [List.drop_eq_getElem_cons (List.getElem?_eq_some_iff.mp hx).1, (List.getElem?_eq_some_iff.mp hx).2] at h1
  exact h1.symm
theorem all_at {α : Type} {c : α → Bool} {l : List α} {i : Nat} {x : α} (h0 : (l.take i).all c = true) (hx : l[i]? = some x) : (l.take (i + 1)).all c = c x ∧ (c x = false → l.all c = false) := by
  have e := take_at hx
  refine ⟨by rw [e, List.all_append, h0]; simp, fun h => ?_⟩
  rw [List.all_eq_false]
  exact ⟨x, List.mem_of_getElem? hx, by simp [h]⟩
/-- a loop that leaves the def at the first thing that fails -/
theorem loop_all {α : Type} {G : GT} {W : ST} {E : EndD} {l : List α} {f : α → D} {c : α → Bool} {ρ : Rho} (I : Rho → Prop) (hI : I ρ) (h0 : l.all c = true → ∀ ρ, I ρ → E.nx ρ)
    (hs : ∀ x ∈ l, ∀ ρ (N : Rho → Prop), I ρ → (c x = true → ∀ ρ', I ρ' → N ρ') → (c x = false → l.all c = false) → G (f x) ρ fun ρ1 => W { nx := N, rt := E.rt, bk := E.nx, ct := N } ρ1) : loopW G W E (l.map f) ρ := by
  refine loop_idx (fun i ρ => (l.take i).all c = true ∧ I ρ) ⟨rfl, hI⟩ (fun ρ ⟨a, b⟩ => h0 (by simpa using a) ρ b) fun i d hd ρ N hN ⟨a, b⟩ => ?_
  obtain ⟨x, hx, rfl⟩ := at_map hd
  obtain ⟨h1, h2⟩ := all_at a hx
  exact hs x (List.mem_of_getElem? hx) ρ N b (fun e ρ' i' => hN ρ' ⟨by rw [h1, e], i'⟩) h2

/-! ### loops by place -/
theorem lw_idx {α : Type} {G : GT} {W : ST} {E : EndD} {f : α → D} {l : List α} (St : Nat → Rho) {ρ : Rho} (h : ρ = St 0) (h0 : E.nx (St l.length))
    (hs : ∀ i x, l[i]? = some x → ∀ (N : Rho → Prop), N (St (i + 1)) → G (f x) (St i) fun ρ1 => W { nx := N, rt := E.rt, bk := E.nx, ct := N } ρ1) : loopW G W E (l.map f) ρ := by
  have hf : ∀ (m : List α) (n : Nat), m.foldl (fun n _ => n + 1) n = n + m.length := by
    intro m
    induction m with
    | nil => intro n; rfl
    | cons x m ih => intro n; rw [List.foldl_cons, ih, List.length_cons]; omega
  refine lw_fold St (fun n _ => n + 1) (s0 := 0) h (by rw [hf, Nat.zero_add]; exact h0) fun pre x post e N hN => ?_
  rw [hf, Nat.zero_add] at hN ⊢
  exact hs pre.length x (by rw [e]; simp) N hN
theorem lw_rg {G : GT} {W : ST} {E : EndD} {n : Nat} (St : Nat → Rho) {ρ : Rho} (h : ρ = St 0) (h0 : E.nx (St n))
    (hs : ∀ i, i < n → ∀ (N : Rho → Prop), N (St (i + 1)) → G (nI i) (St i) fun ρ1 => W { nx := N, rt := E.rt, bk := E.nx, ct := N } ρ1) : loopW G W E ((List.range n).map nI) ρ := by
  refine lw_idx St h (by rw [List.length_range]; exact h0) fun i x hx N hN => ?_
  obtain ⟨hi, e⟩ := List.getElem?_eq_some_iff.mp hx
  rw [List.getElem_range] at e
  subst e
  exact hs i (by simpa using hi) N hN
/-- a state that is a list: each turn adds g x; the slots tell it -/
theorem lw_accS {α γ : Type} {G : GT} {W : ST} {E : EndD} {f : α → D} {l : List α} (g : α → List γ) (St : List γ → Rho) (A0 : List γ) {ρ : Rho} (h : ρ = St A0) (h0 : E.nx (St (A0 ++ l.flatMap g)))
    (hs : ∀ x ∈ l, ∀ (A : List γ) (N : Rho → Prop), A.length + (g x).length ≤ A0.length + (l.flatMap g).length → N (St (A ++ g x)) → G (f x) (St A) fun ρ1 => W { nx := N, rt := E.rt, bk := E.nx, ct := N } ρ1) : loopW G W E (l.map f) ρ := by
  have hf : ∀ (m : List α) A, m.foldl (fun A x => A ++ g x) A = A ++ m.flatMap g := by
    intro m
    induction m with
    | nil => intro A; simp
    | cons x m ih => intro A; rw [List.foldl_cons, ih, List.flatMap_cons, List.append_assoc]
  refine lw_fold St (fun A x => A ++ g x) (s0 := A0) h (by rw [hf]; exact h0) fun pre x post e N hN => ?_
  rw [hf] at hN ⊢
  refine hs x (by rw [e]; simp) _ N ?_ hN
  rw [e]
  simp only [List.length_append, List.flatMap_append, List.flatMap_cons]
  omega

/-! ### data whose text is short -/
structure RpG (n dp : Nat) (d : D) : Prop where
  s : d.showable = true
  l : d.canLay0 = true
  dep : d.depth ≤ dp
  len : d.shown.length ≤ n
theorem RpG.up {n dp n' dp' : Nat} {x : D} (h : RpG n dp x) (a : n ≤ n') (b : dp ≤ dp') : RpG n' dp' x := ⟨h.s, h.l, Nat.le_trans h.dep b, Nat.le_trans h.len a⟩
theorem rpg_int {i : Int} (h : i.natAbs < 10 ^ 12) : RpG 13 0 (.int i) := by
  refine ⟨?_, rfl, Nat.le_refl _, PyData.shown_int_le h⟩
  simp only [PyData.showable, decide_eq_true_eq]
  have e : (10 : Nat) ^ 12 < 2 ^ 40 := by decide
  have : i.natAbs.log2 < 40 := by
    by_cases z : i.natAbs = 0
    · rw [z]; decide
    · exact (Nat.log2_lt z).mpr (by omega)
  omega
theorem rpg_nat {n : Nat} (h : n < 10 ^ 12) : RpG 13 0 (nI n) := rpg_int (by simpa using h)
theorem rpg_none : RpG 4 0 .none := ⟨rfl, rfl, Nat.le_refl _, by decide +kernel⟩
theorem rpg_bool {b : Bool} : RpG 5 0 (.bool b) := ⟨rfl, rfl, Nat.le_refl _, by cases b <;> decide +kernel⟩
theorem depthAll_le {dp : Nat} : ∀ {xs : List D}, (∀ x ∈ xs, x.depth ≤ dp) → PyData.depthAll xs ≤ dp
  | [], _ => by simp [PyData.depthAll]
  | x :: xs, h => by
    have h1 := h x List.mem_cons_self
    have h2 := depthAll_le fun y hy => h y (List.mem_cons_of_mem x hy)
    simp only [PyData.depthAll]
    omega
theorem rpg_all {n dp : Nat} : ∀ {xs : List D}, (∀ x ∈ xs, RpG n dp x) → PyData.showableAll xs = true ∧ PyData.canLayAll0 xs = true ∧ ((PyData.shownAll xs).map (·.length)).sum ≤ xs.length * n ∧ (PyData.shownAll xs).length = xs.length
  | [], _ => ⟨rfl, rfl, Nat.zero_le _, rfl⟩
  | x :: xs, h => by
    have h1 := h x List.mem_cons_self
    obtain ⟨a, b, c, d⟩ := rpg_all fun y hy => h y (List.mem_cons_of_mem x hy)
    refine ⟨by simp only [PyData.showableAll, h1.s, a, Bool.and_self], by simp only [PyData.canLayAll0, h1.l, b, Bool.and_self], ?_, ?_⟩
    · have := h1.len
      simp only [PyData.shownAll, List.map_cons, List.sum_cons, List.length_cons, Nat.succ_mul]
      omega
    · simp only [PyData.shownAll, List.length_cons, d]
theorem rpg_tup {n dp : Nat} {xs : List D} (h : ∀ x ∈ xs, RpG n dp x) : RpG (xs.length * (n + 2) + 3) (dp + 1) (.tuple xs) := by
  obtain ⟨a, b, c, d⟩ := rpg_all h
  refine ⟨by simpa only [PyData.showable] using a, by simpa only [PyData.canLay0] using b, ?_, ?_⟩
  · have := depthAll_le fun x hx => (h x hx).dep
    simp only [PyData.depth]
    omega
  · have := tupleText_len_le (PyData.shownAll xs)
    simp only [PyData.shown]
    rw [Nat.mul_add]
    omega
theorem rpg_list {n dp : Nat} {xs : List D} (h : ∀ x ∈ xs, RpG n dp x) : RpG (xs.length * (n + 2) + 3) (dp + 1) (.list xs) := by
  obtain ⟨a, b, c, d⟩ := rpg_all h
  refine ⟨by simpa only [PyData.showable] using a, by simpa only [PyData.canLay0] using b, ?_, ?_⟩
  · have := depthAll_le fun x hx => (h x hx).dep
    simp only [PyData.depth]
    omega
  · have := listText_len_le (PyData.shownAll xs)
    simp only [PyData.shown]
    rw [Nat.mul_add]
    omega
theorem rp_of {n dp : Nat} {x : D} (h : RpG n dp x) (hn : n ≤ 16777216) (hd : dp ≤ 100) (hs : isStr x = false) : rpD [x] = some (.d (.str x.shown)) := by
  have hr : reprD x = some x.shown ∨ x = .none ∨ ∃ b, x = .bool b := by
    cases x with
    | none => exact Or.inr (Or.inl rfl)
    | bool b => exact Or.inr (Or.inr ⟨b, rfl⟩)
    | int i =>
      left
      have hi := h.s
      simp only [PyData.showable, decide_eq_true_eq] at hi
      simp only [reprD, PyData.shown, hi, if_true]
    | _ =>
      left
      refine if_pos ?_
      have e := h.len
      have e2 := h.dep
      simp only [h.s, h.l, Bool.and_eq_true, decide_eq_true_eq, true_and]
      rw [sizeLine_eq]
      omega
  rcases hr with hr | rfl | ⟨b, rfl⟩
  · unfold rpD
    simp only [hs, hr]
    rfl
  · rfl
  · cases b <;> rfl
end Dl

set_option Elab.async false
set_option linter.all false
set_option maxRecDepth 100000
set_option autoImplicit false
set_option maxHeartbeats 1000000
namespace Dl
open PySem PySem.Spec PyProof.Rows L2

/-! ### data without bools: == is equality -/
mutual
def nb : D → Bool
  | .none => true
  | .bool _ => false
  | .int _ => true
  | .str _ => true
  | .list xs => nbA xs
  | .tuple xs => nbA xs
  | .dict _ => false
def nbA : List D → Bool
  | [] => true
  | x :: xs => nb x && nbA xs
end
mutual
theorem eqv_nb : ∀ (x y : D), nb x = true → nb y = true → (PyData.eqv x y = true ↔ x = y)
  | .none, y, _, hy => by cases y <;> simp [PyData.eqv]
  | .bool _, _, hx, _ => by simp [nb] at hx
  | .int i, y, _, hy => by cases y <;> simp [PyData.eqv, nb] at hy ⊢
  | .str i, y, _, hy => by cases y <;> simp [PyData.eqv]
  | .list xs, y, hx, hy => by
    cases y with
    | list ys =>
      simp only [nb] at hx hy
      simp only [PyData.eqv, PyData.list.injEq]
      exact eqvA_nb xs ys hx hy
    | _ => simp [PyData.eqv]
  | .tuple xs, y, hx, hy => by
    cases y with
    | tuple ys =>
      simp only [nb] at hx hy
      simp only [PyData.eqv, PyData.tuple.injEq]
      exact eqvA_nb xs ys hx hy
    | _ => simp [PyData.eqv]
  | .dict _, _, hx, _ => by simp [nb] at hx
theorem eqvA_nb : ∀ (xs ys : List D), nbA xs = true → nbA ys = true → (PyData.eqvAll xs ys = true ↔ xs = ys)
  | [], [], _, _ => by simp [PyData.eqvAll]
  | [], _ :: _, _, _ => by simp [PyData.eqvAll]
  | _ :: _, [], _, _ => by simp [PyData.eqvAll]
  | x :: xs, y :: ys, hx, hy => by
    simp only [nbA, Bool.and_eq_true] at hx hy
    simp only [PyData.eqvAll, Bool.and_eq_true, List.cons.injEq]
    rw [eqv_nb x y hx.1 hy.1, eqvA_nb xs ys hx.2 hy.2]
end
structure QOk (dp : Nat) (d : D) : Prop where
  n : nb d = true
  l : d.canLay0 = true
  dep : d.depth ≤ dp
theorem QOk.up {dp dp' : Nat} {x : D} (h : QOk dp x) (a : dp ≤ dp') : QOk dp' x := ⟨h.n, h.l, Nat.le_trans h.dep a⟩
theorem q_int {i : Int} : QOk 0 (.int i) := ⟨rfl, rfl, Nat.le_refl _⟩
theorem q_none : QOk 0 .none := ⟨rfl, rfl, Nat.le_refl _⟩
theorem q_all {dp : Nat} : ∀ {xs : List D}, (∀ x ∈ xs, QOk dp x) → nbA xs = true ∧ PyData.canLayAll0 xs = true
  | [], _ => ⟨rfl, rfl⟩
  | x :: xs, h => by
    have h1 := h x List.mem_cons_self
    obtain ⟨a, b⟩ := q_all fun y hy => h y (List.mem_cons_of_mem x hy)
    exact ⟨by simp only [nbA, h1.n, a, Bool.and_self], by simp only [PyData.canLayAll0, h1.l, b, Bool.and_self]⟩
theorem q_tup {dp : Nat} {xs : List D} (h : ∀ x ∈ xs, QOk dp x) : QOk (dp + 1) (.tuple xs) := by
  obtain ⟨a, b⟩ := q_all h
  refine ⟨by simpa only [nb] using a, by simpa only [PyData.canLay0] using b, ?_⟩
  have := depthAll_le fun x hx => (h x hx).dep
  simp only [PyData.depth]
  omega
theorem q_list {dp : Nat} {xs : List D} (h : ∀ x ∈ xs, QOk dp x) : QOk (dp + 1) (.list xs) := by
  obtain ⟨a, b⟩ := q_all h
  refine ⟨by simpa only [nb] using a, by simpa only [PyData.canLay0] using b, ?_⟩
  have := depthAll_le fun x hx => (h x hx).dep
  simp only [PyData.depth]
  omega
theorem q_nats {l : List Nat} : QOk 1 (dNats l) := q_tup (dp := 0) fun x hx => by
  obtain ⟨n, _, rfl⟩ := List.mem_map.mp hx
  exact q_int
theorem q_ints {l : List Int} : QOk 1 (dInts l) := q_tup (dp := 0) fun x hx => by
  obtain ⟨n, _, rfl⟩ := List.mem_map.mp hx
  exact q_int
theorem q_box {b : List (List Nat)} : QOk 2 (dBox b) := q_tup (dp := 1) fun x hx => by
  obtain ⟨n, _, rfl⟩ := List.mem_map.mp hx
  exact q_nats
theorem q_boxes {l : List (List (List Nat))} : QOk 3 (.tuple (l.map dBox)) := q_tup (dp := 2) fun x hx => by
  obtain ⟨n, _, rfl⟩ := List.mem_map.mp hx
  exact q_box
theorem QOk.shaped {dp : Nat} {x : D} (h : QOk dp x) (hd : dp ≤ 64) : SeqAt.shaped x = true := by
  unfold SeqAt.shaped
  have := h.dep
  simp only [h.l, Bool.true_and, decide_eq_true_eq]
  omega
theorem eqB_q {a b : Nat} {x y : D} (hx : QOk a x) (hy : QOk b y) (ha : a ≤ 64) (hb : b ≤ 64) [Decidable (x = y)] : eqB x y = some (decide (x = y)) := by
  have e : PyData.eqv x y = decide (x = y) := by
    rw [Bool.eq_iff_iff, eqv_nb x y hx.n hy.n, decide_eq_true_eq]
  have h1 := hx.shaped ha
  have h2 := hy.shaped hb
  unfold eqB
  split
  · congr 1
  · congr 1
  · rw [if_pos (by rw [h1, h2]; rfl), e]
theorem eqD_q {a b : Nat} {x y : D} (hx : QOk a x) (hy : QOk b y) (ha : a ≤ 64) (hb : b ≤ 64) [Decidable (x = y)] : eqD x y = some (.d (.bool (decide (x = y)))) := by
  unfold eqD
  rw [eqB_q hx hy ha hb]
  rfl
theorem neD_q {a b : Nat} {x y : D} (hx : QOk a x) (hy : QOk b y) (ha : a ≤ 64) (hb : b ≤ 64) [Decidable (x = y)] : neD x y = some (.d (.bool (!decide (x = y)))) := by
  unfold neD
  rw [eqB_q hx hy ha hb]
  rfl
theorem dec_iff {p q : Prop} [Decidable p] [Decidable q] (h : p ↔ q) : decide p = decide q := decide_eq_decide.mpr h
@[simp] theorem eq_nats {l m : List Nat} : eqD (dNats l) (dNats m) = some (.d (.bool (decide (l = m)))) := by
  have : Decidable (dNats l = dNats m) := decidable_of_iff (l = m) dNats_inj.symm
  rw [eqD_q q_nats q_nats (by omega) (by omega), dec_iff dNats_inj]
@[simp] theorem ne_nats {l m : List Nat} : neD (dNats l) (dNats m) = some (.d (.bool (!decide (l = m)))) := by
  have : Decidable (dNats l = dNats m) := decidable_of_iff (l = m) dNats_inj.symm
  rw [neD_q q_nats q_nats (by omega) (by omega), dec_iff dNats_inj]
@[simp] theorem eq_box {l m : List (List Nat)} : eqD (dBox l) (dBox m) = some (.d (.bool (decide (l = m)))) := by
  have : Decidable (dBox l = dBox m) := decidable_of_iff (l = m) dBox_inj.symm
  rw [eqD_q q_box q_box (by omega) (by omega), dec_iff dBox_inj]
@[simp] theorem ne_box {l m : List (List Nat)} : neD (dBox l) (dBox m) = some (.d (.bool (!decide (l = m)))) := by
  have : Decidable (dBox l = dBox m) := decidable_of_iff (l = m) dBox_inj.symm
  rw [neD_q q_box q_box (by omega) (by omega), dec_iff dBox_inj]
@[simp] theorem eq_bools {a b : Bool} : eqD (.bool a) (.bool b) = some (.d (.bool (a == b))) := by cases a <;> cases b <;> rfl
@[simp] theorem ne_bools {a b : Bool} : neD (.bool a) (.bool b) = some (.d (.bool (!(a == b)))) := by cases a <;> cases b <;> rfl
@[simp] theorem ne_ints {a b : Int} : neD (.int a) (.int b) = some (.d (.bool (!decide (a = b)))) := rfl
@[simp] theorem ne_strs {a b : Str} : neD (.str a) (.str b) = some (.d (.bool (!decide (a = b)))) := rfl
@[simp] theorem lt_one_nat {n : Nat} : ((1 : Int) < (n : Int)) ↔ 1 < n := by omega
@[simp] theorem lt_two_nat {n : Nat} : ((n : Int) < 2) ↔ n < 2 := by omega
/-! ### slices from the end -/
theorem cut_m1 {α : Type} (xs : List α) : cutL xs none (some (-1)) = xs.dropLast := by
  unfold cutL
  show (xs.drop 0).take ((-1 + (xs.length : Int)).toNat - 0) = _
  rw [List.drop_zero, List.dropLast_eq_take]
  congr 1
  omega
theorem cut_last {α : Type} (xs : List α) : cutL xs (some (-1)) none = xs.drop (xs.length - 1) := by
  unfold cutL
  show (xs.drop (-1 + (xs.length : Int)).toNat).take (xs.length - (-1 + (xs.length : Int)).toNat) = _
  rw [show (-1 + (xs.length : Int)).toNat = xs.length - 1 by omega, List.take_of_length_le (by simp)]
theorem drop_last1 {α : Type} {xs : List α} {d : α} (h : xs ≠ []) : xs.drop (xs.length - 1) = [xs.getLast h] := by
  rcases List.eq_nil_or_concat xs with rfl | ⟨l, x, rfl⟩
  · exact absurd rfl h
  · simp
theorem cut_lit {α : Type} (xs : List α) (n : Nat) : cutL xs none (some (OfNat.ofNat n)) = xs.take n := cut_take xs n
theorem cut_one {α : Type} (xs : List α) : cutL xs none (some 1) = xs.take 1 := cut_take xs 1
theorem cut_from1 {α : Type} (xs : List α) : cutL xs (some 1) none = xs.drop 1 := cut_drop xs 1
theorem at_m1 {α : Type} {xs : List α} (h : xs ≠ []) : atI xs (-1) = xs[xs.length - 1]? := by
  have : 0 < xs.length := List.length_pos_iff.mpr h
  unfold atI ixN
  rw [if_neg (by omega), if_pos (by omega)]
  show xs[(-1 + (xs.length : Int)).toNat]? = _
  congr 1
  omega
@[simp] theorem at_0 {α : Type} (xs : List α) : atI xs 0 = xs[0]? := by
  cases xs <;> simp [atI, ixN]
@[simp] theorem at_1 {α : Type} (xs : List α) : atI xs 1 = xs[1]? := by
  by_cases h : 1 < xs.length
  · have h2 : (1 : Int) < (xs.length : Int) := by omega
    simp [atI, ixN, h2]
  · have h2 : ¬ (1 : Int) < (xs.length : Int) := by omega
    simp [atI, ixN, h2]
    omega
/-! ### sorted ints -/
def sortN (l : List Nat) : List Nat := l.mergeSort fun a b => decide (a ≤ b)
theorem sortN_perm (l : List Nat) : (sortN l).Perm l := List.mergeSort_perm _ _
theorem sortN_sorted (l : List Nat) : (sortN l).Pairwise (· ≤ ·) := by
  have := List.pairwise_mergeSort (le := fun a b : Nat => decide (a ≤ b)) (fun a b c h1 h2 => by simp at h1 h2 ⊢; omega) (fun a b => by simp; omega) l
  exact this.imp fun h => by simpa using h
theorem sortD_nats (l : List Nat) : sortD (l.map nI) = (sortN l).map nI := by
  unfold sortD sortN
  rw [List.map_mergeSort (s := PySem.W.dataLe false id) (f := nI)]
  intro a _ b _
  have := congrFun (congrFun (PySem.W.dataLe_int (fun x : Nat => (x : Int))) a) b
  show decide (a ≤ b) = PySem.W.dataLe false (fun x : Nat => nI x) a b
  rw [this]
  exact dec_iff (by omega)
theorem srtOk_nats (l : List Nat) : srtOk (l.map nI) = true := by
  have h1 : ∀ a b : Int, PySem.W.alike (.int a) (.int b) = true := fun a b => by rw [PySem.W.alike]
  simp [srtOk, h1, PyData.canLay0, PyData.depth]
theorem perm_eq_of_sorted {l m : List Nat} (hp : l.Perm m) (h1 : l.Pairwise (· ≤ ·)) (h2 : m.Pairwise (· ≤ ·)) : l = m := List.Perm.eq_of_pairwise (fun a b _ _ h1 h2 => Nat.le_antisymm h1 h2) h1 h2 hp
/-! ### while, by a state and a measure -/
theorem ww_by {β : Type} {js : List Nat} {B : BT} {W : ST} {E : EndD} {ρ : Rho} (St : β → Rho) (μ : β → Nat) (I : β → Prop) (s0 : β) (h : wipeR ρ js = St s0) (h0 : I s0)
    (hs : ∀ s, I s → ∀ (N : Rho → Prop), (∀ s', I s' → μ s' < μ s → N (St s')) → B (St s) fun c ρ1 => if c = true then sForget js W { nx := N, rt := E.rt, bk := E.nx, ct := N } ρ1 else E.nx ρ1) : sWhileW js B W E ρ := by
  refine ⟨fun m ρ' => ∃ s, I s ∧ m = μ s ∧ ρ' = St s, ⟨μ s0, s0, h0, rfl, h⟩, fun m ρ' ⟨s, hi, em, er⟩ => ?_⟩
  subst em er
  exact hs s hi _ fun s' hi' hm => ⟨μ s', hm, s', hi', rfl, rfl⟩

/-! ### loops and comprehensions that draw -/
theorem lw_nd {α β : Type} {G : GT} {W : ST} {E : EndD} {f : α → D} {l : List α} (St : β → Rho) (R : List α → β → Prop) (s0 : β) {ρ : Rho} (h : ρ = St s0) (h0 : R [] s0) (hN : ∀ s, R l s → E.nx (St s))
    (hs : ∀ pre x post, l = pre ++ x :: post → ∀ s, R pre s → ∀ (N : Rho → Prop), (∀ s', R (pre ++ [x]) s' → N (St s')) → G (f x) (St s) fun ρ1 => W { nx := N, rt := E.rt, bk := E.nx, ct := N } ρ1) : loopW G W E (l.map f) ρ := by
  subst h
  have key : ∀ post pre s, l = pre ++ post → R pre s → loopW G W E (post.map f) (St s) := by
    intro post
    induction post with
    | nil =>
      intro pre s e r
      rw [List.append_nil] at e
      subst e
      exact hN s r
    | cons x post ih =>
      intro pre s e r
      rw [List.map_cons]
      show G (f x) _ _
      exact hs pre x post e s r _ fun s' r' => ih (pre ++ [x]) s' (by rw [e]; simp) r'
  exact key l [] s0 rfl h0
theorem lc_nd {α β : Type} {ck : Bool} {G : GT} {B : BT} {T : ET} {vs : List Nat} {k : List D → Rho → Prop} {ρ : Rho} {f : α → D} {l : List α} (R : List α → List β → Prop) (enc : β → D) (hl : ck = true → l.length ≤ sizeLine) (h0 : R [] [])
    (hs : ∀ pre x post, l = pre ++ x :: post → ∀ A, R pre A → ∀ (N : D → Rho → Prop) (M : Rho → Prop), (∀ y, R (pre ++ [x]) (A ++ [y]) → N (enc y) ρ) → (R (pre ++ [x]) A → M ρ) → G (f x) (wipeR ρ vs) fun ρ1 => B ρ1 fun b ρ2 => if b = true then T ρ2 (asD fun y ρ3 => N y (backR ρ ρ3 vs)) else M (backR ρ ρ2 vs))
    (hk : ∀ A, R l A → k (A.map enc) ρ) : lcW ck G B T vs (l.map f) [] ρ k := by
  refine lc_st (fun pre acc ρ' => ∃ A : List β, R pre A ∧ acc = A.map enc ∧ ρ' = ρ) (by simpa using hl) ⟨[], h0, rfl, rfl⟩ (fun pre x post acc ρ' e ⟨A, r, ea, er⟩ N M hN hM => ?_) fun acc ρ' ⟨A, r, ea, er⟩ => ?_
  · subst ea er
    exact hs pre x post e A r N M (fun y r' => hN _ _ ⟨A ++ [y], r', by simp, rfl⟩) fun r' => hM _ ⟨A, r', rfl, rfl⟩
  · subst ea er
    exact hk A r
/-- a filter that draws -/
theorem lc_sub {α : Type} {ck : Bool} {G : GT} {B : BT} {T : ET} {vs : List Nat} {k : List D → Rho → Prop} {ρ : Rho} {f g : α → D} {l : List α} (hl : ck = true → l.length ≤ sizeLine)
    (hs : ∀ x ∈ l, ∀ (N : D → Rho → Prop) (M : Rho → Prop), N (g x) ρ → M ρ → G (f x) (wipeR ρ vs) fun ρ1 => B ρ1 fun b ρ2 => if b = true then T ρ2 (asD fun y ρ3 => N y (backR ρ ρ3 vs)) else M (backR ρ ρ2 vs))
    (hk : ∀ m : List α, m.Sublist l → k (m.map g) ρ) : lcW ck G B T vs (l.map f) [] ρ k := by
  refine lc_nd (fun pre m => m.Sublist pre) g hl (List.Sublist.refl _) (fun pre x post e A r N M hN hM => ?_) fun A r => hk A r
  exact hs x (by rw [e]; simp) N M (hN x (r.append_right [x])) (hM (r.trans (List.sublist_append_left _ _)))
theorem RowIn.snoc : ∀ {ms row : List Nat} {m r : Nat}, RowIn ms row → r < m → RowIn (ms ++ [m]) (row ++ [r])
  | [], [], _, _, _, h => ⟨h, trivial⟩
  | _ :: _, _ :: _, _, _, h, h2 => ⟨h.1, RowIn.snoc h.2 h2⟩
  | [], _ :: _, _, _, h, _ => h.elim
  | _ :: _, [], _, _, h, _ => h.elim
theorem asc_sub {l : List Nat} {n : Nat} (h1 : l.Pairwise (· < ·)) (h2 : ∀ x ∈ l, x < n) : l.Sublist (List.range n) := by
  have e : l = (List.range n).filter fun x => l.contains x := by
    refine perm_eq_of_sorted ?_ (h1.imp fun h => Nat.le_of_lt h) (List.Pairwise.filter _ (List.pairwise_le_range))
    refine (List.perm_ext_iff_of_nodup (h1.imp fun h => Nat.ne_of_lt h) (List.filter_sublist.nodup List.nodup_range)).mpr fun a => ?_
    simp
    exact h2 a
  rw [e]
  exact List.filter_sublist
theorem sub_asc {l : List Nat} {n : Nat} (h : l.Sublist (List.range n)) : l.Pairwise (· < ·) ∧ ∀ x ∈ l, x < n := ⟨List.Pairwise.sublist h List.pairwise_lt_range, fun x hx => List.mem_range.mp (h.subset hx)⟩
/-- a nodup list, sorted -/
theorem sortN_sub {l : List Nat} {n : Nat} (h1 : l.Nodup) (h2 : ∀ x ∈ l, x < n) : (sortN l).Sublist (List.range n) := by
  refine asc_sub ?_ fun x hx => h2 x ((sortN_perm l).subset hx)
  have h3 : (sortN l).Nodup := (sortN_perm l).nodup_iff.mpr h1
  have h4 := sortN_sorted l
  exact List.Pairwise.imp₂ (fun a b h5 h6 => Nat.lt_of_le_of_ne h5 h6) h4 h3
theorem inB_q {x : D} {xs : List D} (hx : QOk 60 x) (hxs : ∀ y ∈ xs, QOk 60 y) (hf : flatD x = false) : inB x (.list xs) = some (xs.any fun z => PyData.eqv z x) := by
  have h1 := (hx.shaped (by omega))
  have h2 := ((q_list hxs).shaped (by omega))
  cases x with
  | str _ => simp [flatD] at hf
  | _ =>
    unfold inB
    simp only [hf, Bool.false_and, h1, h2, Bool.and_self, if_true]
    rfl
@[simp] theorem in_rows {r : List Nat} {l : List (List Nat)} : inD false (dNats r) (.list (l.map dNats)) = some (.d (.bool (l.contains r))) := by
  have h : inB (dNats r) (.list (l.map dNats)) = some (l.contains r) := by
    rw [inB_q (q_nats.up (by omega)) (fun y hy => by obtain ⟨z, _, rfl⟩ := List.mem_map.mp hy; exact q_nats.up (by omega)) rfl, List.any_map]
    congr 1
    rw [Bool.eq_iff_iff]
    simp [eqv_nats]
  unfold inD
  rw [h]
  rfl
@[simp] theorem notIn_rows {r : List Nat} {l : List (List Nat)} : inD true (dNats r) (.list (l.map dNats)) = some (.d (.bool (!l.contains r))) := by
  have h := in_rows (r := r) (l := l)
  unfold inD at h ⊢
  cases e : inB (dNats r) (.list (l.map dNats)) with
  | none => rw [e] at h; cases h
  | some b => rw [e] at h; simp at h; simp [h]
/-- x stored under q, then looked up -/
theorem at_putT {α : Type} {q q' : List Key} {v : α} : ∀ {ks : List (List Key)} {vs : List α}, vs.length = ks.length → atT (putTK ks q) (putTV ks vs q v) q' = if q' = q then some v else atT ks vs q' := by
  intro ks vs hl
  unfold putTK putTV
  by_cases hh : hasT ks q = true
  · rw [if_pos hh, if_pos hh]
    have key : ∀ (ks : List (List Key)) (vs : List α), vs.length = ks.length → (hasT ks q = true ∨ q' ≠ q) → atT ks ((ks.zip vs).map fun kv => if kv.1 = q then v else kv.2) q' = if q' = q then some v else atT ks vs q' := by
      intro ks
      induction ks with
      | nil =>
        intro vs _ h
        rcases h with h | h
        · simp [hasT] at h
        · simp [atT, h]
      | cons k ks ih =>
        intro vs hl h
        cases vs with
        | nil => simp at hl
        | cons u vs =>
          rw [List.zip_cons_cons, List.map_cons]
          by_cases hk : k = q'
          · rw [atT_pos hk, atT_pos hk]
            subst hk
            by_cases z : k = q <;> simp [z]
          · rw [atT_neg hk, atT_neg hk]
            refine ih vs (by simpa using hl) ?_
            by_cases z : q' = q
            · subst z
              rcases h with h | h
              · left
                simpa [hasT, hk] using h
              · exact absurd rfl h
            · exact Or.inr z
    exact key ks vs hl (Or.inl hh)
  · rw [if_neg hh, if_neg hh]
    have key : ∀ (ks : List (List Key)) (vs : List α), vs.length = ks.length → hasT ks q ≠ true → atT (ks ++ [q]) (vs ++ [v]) q' = if q' = q then some v else atT ks vs q' := by
      intro ks
      induction ks with
      | nil =>
        intro vs hl _
        cases vs with
        | nil =>
          by_cases z : q' = q
          · subst z
            simp [atT]
          · have : ¬ q = q' := fun y => z y.symm
            simp [atT, z, this]
        | cons u vs => simp at hl
      | cons k ks ih =>
        intro vs hl h
        cases vs with
        | nil => simp at hl
        | cons u vs =>
          have hkq : ¬ k = q := fun z => h (by simp [hasT, z])
          have h' : hasT ks q ≠ true := fun z => h (by simp only [hasT, List.any_cons] at z ⊢; rw [z]; simp)
          rw [List.cons_append, List.cons_append]
          by_cases hk : k = q'
          · rw [atT_pos hk, atT_pos hk, if_neg]
            rw [← hk]
            exact hkq
          · rw [atT_neg hk, atT_neg hk]
            exact ih vs (by simpa using hl) h'
    exact key ks vs hl hh
theorem putTK_le {ks : List (List Key)} {q : List Key} : (putTK ks q).length ≤ ks.length + 1 := by
  unfold putTK
  split <;> simp
theorem putTV_all {α : Type} {P : α → Prop} {ks : List (List Key)} {vs : List α} {q : List Key} {v : α} (h : ∀ x ∈ vs, P x) (hv : P v) : ∀ x ∈ putTV ks vs q v, P x := by
  intro x hx
  unfold putTV at hx
  split at hx
  · obtain ⟨kv, h1, h2⟩ := List.mem_map.mp hx
    split at h2
    · rw [← h2]; exact hv
    · rw [← h2]; exact h _ (List.of_mem_zip h1).2
  · rcases List.mem_append.mp hx with hx | hx
    · exact h x hx
    · rw [List.mem_singleton.mp hx]; exact hv
theorem putKV_all {α : Type} {P : α → Prop} {ks : List Key} {vs : List α} {q : Key} {v : α} (h : ∀ x ∈ vs, P x) (hv : P v) : ∀ x ∈ putKV ks vs q v, P x := by
  intro x hx
  unfold putKV at hx
  split at hx
  · obtain ⟨kv, h1, h2⟩ := List.mem_map.mp hx
    split at h2
    · rw [← h2]; exact hv
    · rw [← h2]; exact h _ (List.of_mem_zip h1).2
  · rcases List.mem_append.mp hx with hx | hx
    · exact h x hx
    · rw [List.mem_singleton.mp hx]; exact hv
theorem putKK_le {ks : List Key} {q : Key} : (putKK ks q).length ≤ ks.length + 1 := by
  unfold putKK
  split <;> simp
theorem atK_mem {α : Type} {q : Key} {v : α} : ∀ {ks : List Key} {vs : List α}, atK ks vs q = some v → v ∈ vs := by
  intro ks vs h
  unfold atK at h
  obtain ⟨kv, h1, h2⟩ := map_some h
  rw [← h2]
  exact (List.of_mem_zip (List.mem_of_find?_eq_some h1)).2
end Dl

set_option Elab.async false
set_option linter.all false
set_option maxRecDepth 100000
set_option autoImplicit false
set_option maxHeartbeats 2000000
namespace Dl
open PySem PySem.Spec PyProof.Rows L2

/-! ### least and greatest of a list -/
def minL : List Int → Int
  | [] => 0
  | x :: r => minI x r
def maxL : List Int → Int
  | [] => 0
  | x :: r => maxI x r
theorem minD_l {l : List Int} (h : l ≠ []) : minD [.list (l.map PyData.int)] = some (.d (.int (minL l))) := by
  cases l with
  | nil => exact absurd rfl h
  | cons x r => simp [minD, intsOf_map, minL]
theorem maxD_l {l : List Int} (h : l ≠ []) : maxD [.list (l.map PyData.int)] = some (.d (.int (maxL l))) := by
  cases l with
  | nil => exact absurd rfl h
  | cons x r => simp [maxD, intsOf_map, maxL]
theorem minL_le {l : List Int} {x : Int} (h : x ∈ l) : minL l ≤ x := by
  cases l with
  | nil => cases h
  | cons y r =>
    obtain ⟨a, b, c⟩ := minI_le r y
    rcases List.mem_cons.mp h with rfl | h
    · exact a
    · exact b x h
theorem le_maxL {l : List Int} {x : Int} (h : x ∈ l) : x ≤ maxL l := by
  cases l with
  | nil => cases h
  | cons y r =>
    obtain ⟨a, b, c⟩ := maxI_ge r y
    rcases List.mem_cons.mp h with rfl | h
    · exact a
    · exact b x h
theorem minL_mem {l : List Int} (h : l ≠ []) : minL l ∈ l := by
  cases l with
  | nil => exact absurd rfl h
  | cons y r =>
    obtain ⟨a, b, c⟩ := minI_le r y
    rcases c with c | c
    · rw [minL, c]; exact List.mem_cons_self
    · exact List.mem_cons_of_mem _ c
theorem maxL_mem {l : List Int} (h : l ≠ []) : maxL l ∈ l := by
  cases l with
  | nil => exact absurd rfl h
  | cons y r =>
    obtain ⟨a, b, c⟩ := maxI_ge r y
    rcases c with c | c
    · rw [maxL, c]; exact List.mem_cons_self
    · exact List.mem_cons_of_mem _ c
/-! ### spans of values -/
theorem mem_own {h : HouseL} {p k : Nat} {row : List Nat} : row ∈ ownRows h p k ↔ RowIn (sizes h) row ∧ row[p]? = some k := by
  unfold ownRows allRows
  rw [List.mem_filter, mem_comb, rowOf_ranges]
  simp
theorem row_ex {h : HouseL} (wf : Wf h) : ∃ row, RowIn (sizes h) row := by
  have key : ∀ ms : List Nat, (∀ m ∈ ms, 0 < m) → ∃ row, RowIn ms row := by
    intro ms
    induction ms with
    | nil => intro _; exact ⟨[], trivial⟩
    | cons m ms ih =>
      intro hm
      obtain ⟨row, hr⟩ := ih fun x hx => hm x (List.mem_cons_of_mem _ hx)
      exact ⟨0 :: row, hm m List.mem_cons_self, hr⟩
  exact key _ wf.pos
theorem own_ex {h : HouseL} (wf : Wf h) {p k : Nat} (hp : p < h.persons.length) (hk : k < nK h p) : ∃ row, row ∈ ownRows h p k := by
  obtain ⟨row, hr⟩ := row_ex wf
  refine ⟨row.set p k, mem_own.mpr ⟨hr.set (sizes_at hp).1 hk, ?_⟩⟩
  rw [List.getElem?_set_self]
  rw [hr.len, sizes_len]
  exact hp
def valsSay (h : HouseL) (p kd w word : Nat) : List Int := (rowsSaying h p word).map fun row => valOf h p kd w (endAt h row)
theorem valsSay_ne {h : HouseL} (wf : Wf h) {p kd w word : Nat} (hp : p < h.persons.length) (ho : word < nK h p) : valsSay h p kd w word ≠ [] := by
  obtain ⟨row, hr⟩ := own_ex wf hp ho
  rw [← saying_eq hp ho] at hr
  intro z
  have := List.mem_map_of_mem (f := fun row => valOf h p kd w (endAt h row)) hr
  unfold valsSay at z
  rw [z] at this
  cases this
def spanL (h : HouseL) (p kd w word : Nat) : Int × Int := (minL (valsSay h p kd w word), maxL (valsSay h p kd w word))
def dSpan (s : Int × Int) : D := .tuple [.int s.1, .int s.2]
@[simp] theorem ix_s0 {s : Int × Int} : idxD (dSpan s) (.int 0) = some (.int s.1) := rfl
@[simp] theorem ix_s1 {s : Int × Int} : idxD (dSpan s) (.int 1) = some (.int s.2) := rfl
@[simp] theorem dSpan_inj {s t : Int × Int} : dSpan s = dSpan t ↔ s = t := by
  obtain ⟨a, b⟩ := s
  obtain ⟨c, d⟩ := t
  simp [dSpan]
def spansOf (h : HouseL) (p kd w : Nat) : List (Int × Int) := (List.range (nK h p)).map (spanL h p kd w)
def F_values_saying : FT := fun ss k => ∃ (h : HouseL) (p kd w word : Nat), ss = [.d (dHouse h), .d (nI p), .d (nI kd), .d (nI w), .d (nI word)] ∧ (Wf h) ∧ (p < h.persons.length) ∧ (kd < nK h p) ∧ (w < nW h p kd) ∧ (word < nK h p) ∧ k (.own false ((valsSay h p kd w word).map .int)) ss
theorem mono_F_values_saying : MonoF (F_values_saying) := by
  rintro ss k k' hmono ⟨h, p, kd, w, word, hss, wf, hp, hk, hw, ho, q⟩
  refine ⟨h, p, kd, w, word, hss, wf, hp, hk, hw, ho, ?_⟩
  intros; apply hmono; apply q <;> assumption
@[simp] theorem c_values_saying {h : HouseL} {p kd w word : Nat} {k : Sl → List Sl → Prop} : F_values_saying [.d (dHouse h), .d (nI p), .d (nI kd), .d (nI w), .d (nI word)] k = ((Wf h) ∧ (p < h.persons.length) ∧ (kd < nK h p) ∧ (w < nW h p kd) ∧ (word < nK h p) ∧ (k (.own false ((valsSay h p kd w word).map .int)) [.d (dHouse h), .d (nI p), .d (nI kd), .d (nI w), .d (nI word)])) := by
  simp [F_values_saying, and_assoc]
/-- values_saying: slots 0 house 1 person 2 kind 3 worth 4 word 5 rows 6 row -/
def W_values_saying : ST := (sSeq (sSet 5 (eCall F_rows_saying (.e (eVar 0) :: (.e (eVar 1) :: (.e (eVar 4) :: [])))))
    (sRet (eLC (iSeq (eVar 5)) (gN 6) bYes (eCall F_value_of (.e (eVar 0) :: (.e (eVar 1) :: (.e (eVar 2) :: (.e (eVar 3) :: (.e (eCall F_end_of (.e (eVar 0) :: (.e (eVar 6) :: []))) :: [])))))) [6])))
theorem ok_values_saying : BodyOk 7 (W_values_saying) (F_values_saying) := by
  rintro _ k ⟨h, p, kd, w, word, rfl, wf, hp, hk, hw, ho, q⟩
  simp [W_values_saying, entry, wf, hp, hk, hw]
  refine lc_mapA (fun row => PyData.int (valOf h p kd w (endAt h row))) (by simp) (fun row hr N M hN => ?_) ?_
  · have hin := rowsSaying_in hp ho hr
    simp [wf, hin, hp, hk, hw, (wf.endAt hin).2]
    exact hN
  · simpa [valsSay, Function.comp_def] using q
def F_span_saying : FT := fun ss k => ∃ (h : HouseL) (p kd w word : Nat), ss = [.d (dHouse h), .d (nI p), .d (nI kd), .d (nI w), .d (nI word)] ∧ (Wf h) ∧ (p < h.persons.length) ∧ (kd < nK h p) ∧ (w < nW h p kd) ∧ (word < nK h p) ∧ k (.d (dSpan (spanL h p kd w word))) ss
theorem mono_F_span_saying : MonoF (F_span_saying) := by
  rintro ss k k' hmono ⟨h, p, kd, w, word, hss, wf, hp, hk, hw, ho, q⟩
  exact ⟨h, p, kd, w, word, hss, wf, hp, hk, hw, ho, hmono _ _ q⟩
@[simp] theorem c_span_saying {h : HouseL} {p kd w word : Nat} {k : Sl → List Sl → Prop} : F_span_saying [.d (dHouse h), .d (nI p), .d (nI kd), .d (nI w), .d (nI word)] k = ((Wf h) ∧ (p < h.persons.length) ∧ (kd < nK h p) ∧ (w < nW h p kd) ∧ (word < nK h p) ∧ (k (.d (dSpan (spanL h p kd w word))) [.d (dHouse h), .d (nI p), .d (nI kd), .d (nI w), .d (nI word)])) := by
  simp [F_span_saying, and_assoc]
/-- span_saying: slots 0 house 1 person 2 kind 3 worth 4 word 5 values -/
def W_span_saying : ST := (sSeq (sSet 5 (eCall F_values_saying (.e (eVar 0) :: (.e (eVar 1) :: (.e (eVar 2) :: (.e (eVar 3) :: (.e (eVar 4) :: [])))))))
    (sRet (eTup (aCons (eCB minD (aCons (eVar 5) aNil)) (aCons (eCB maxD (aCons (eVar 5) aNil)) aNil)))))
theorem ok_span_saying : BodyOk 6 (W_span_saying) (F_span_saying) := by
  rintro _ k ⟨h, p, kd, w, word, rfl, wf, hp, hk, hw, ho, q⟩
  simp [W_span_saying, entry, wf, hp, hk, hw, ho, minD_l (valsSay_ne (kd := kd) (w := w) wf hp ho), maxD_l (valsSay_ne (kd := kd) (w := w) wf hp ho)]
  exact q
def F_outlook : FT := fun ss k => ∃ (h : HouseL) (p kd w : Nat), ss = [.d (dHouse h), .d (nI p), .d (nI kd), .d (nI w)] ∧ (Wf h) ∧ (p < h.persons.length) ∧ (kd < nK h p) ∧ (w < nW h p kd) ∧ k (.d (.tuple ((spansOf h p kd w).map dSpan))) ss
theorem mono_F_outlook : MonoF (F_outlook) := by
  rintro ss k k' hmono ⟨h, p, kd, w, hss, wf, hp, hk, hw, q⟩
  exact ⟨h, p, kd, w, hss, wf, hp, hk, hw, hmono _ _ q⟩
@[simp] theorem c_outlook {h : HouseL} {p kd w : Nat} {k : Sl → List Sl → Prop} : F_outlook [.d (dHouse h), .d (nI p), .d (nI kd), .d (nI w)] k = ((Wf h) ∧ (p < h.persons.length) ∧ (kd < nK h p) ∧ (w < nW h p kd) ∧ (k (.d (.tuple ((spansOf h p kd w).map dSpan))) [.d (dHouse h), .d (nI p), .d (nI kd), .d (nI w)])) := by
  simp [F_outlook, and_assoc]
/-- outlook: slots 0 house 1 person 2 kind 3 worth 4 many 5 word -/
def W_outlook : ST := (sSeq (sSet 4 (eCB lenD (aCons (eCall F_kinds_of (.e (eVar 0) :: (.e (eVar 1) :: []))) aNil)))
    (sRet (eCB tupD (aCons (eLC (iRg1 (eVar 4)) (gN 5) bYes (eCall F_span_saying (.e (eVar 0) :: (.e (eVar 1) :: (.e (eVar 2) :: (.e (eVar 3) :: (.e (eVar 5) :: [])))))) [5]) aNil))))
theorem ok_outlook : BodyOk 6 (W_outlook) (F_outlook) := by
  rintro _ k ⟨h, p, kd, w, rfl, wf, hp, hk, hw, q⟩
  obtain ⟨e1, P, e2, e3⟩ := sizes_at hp
  have h8 := wf.nK_le p
  simp [W_outlook, entry, e2, ← e3, rgD_nat, rgB_nat (show nK h p ≤ 16777216 by omega)]
  refine lc_mapA (fun word => dSpan (spanL h p kd w word)) (by simp) (fun word hwd N M hN => ?_) ?_
  · have := List.mem_range.mp hwd
    simp [wf, hp, hk, hw, this]
    exact hN
  · simpa [spansOf, Function.comp_def] using q
def F_opens_best : FT := fun ss k => ∃ (h : HouseL) (s t : Int × Int), ss = [.d (dHouse h), .d (dSpan s), .d (dSpan t)] ∧ k (.d (.bool (decide (s.2 + h.slack < t.2)))) ss
theorem mono_F_opens_best : MonoF (F_opens_best) := by
  rintro ss k k' hmono ⟨h, s, t, hss, q⟩
  exact ⟨h, s, t, hss, hmono _ _ q⟩
@[simp] theorem c_opens_best {h : HouseL} {s t : Int × Int} {k : Sl → List Sl → Prop} : F_opens_best [.d (dHouse h), .d (dSpan s), .d (dSpan t)] k = ((k (.d (.bool (decide (s.2 + h.slack < t.2)))) [.d (dHouse h), .d (dSpan s), .d (dSpan t)])) := by
  simp [F_opens_best, and_assoc]
/-- opens_best: slots 0 house 1 own 2 other -/
def W_opens_best : ST := (sRet (eBin gtD (eIdxV 2 (eC (.int 1))) (eBin addD (eIdxV 1 (eC (.int 1))) (eIdxV 0 (eC (.int 4))))))
theorem ok_opens_best : BodyOk 3 (W_opens_best) (F_opens_best) := by
  rintro _ k ⟨h, s, t, rfl, q⟩
  simp [W_opens_best, entry]
  exact q
def F_opens_worst : FT := fun ss k => ∃ (h : HouseL) (s t : Int × Int), ss = [.d (dHouse h), .d (dSpan s), .d (dSpan t)] ∧ k (.d (.bool (decide (s.1 + h.slack < t.1)))) ss
theorem mono_F_opens_worst : MonoF (F_opens_worst) := by
  rintro ss k k' hmono ⟨h, s, t, hss, q⟩
  exact ⟨h, s, t, hss, hmono _ _ q⟩
@[simp] theorem c_opens_worst {h : HouseL} {s t : Int × Int} {k : Sl → List Sl → Prop} : F_opens_worst [.d (dHouse h), .d (dSpan s), .d (dSpan t)] k = ((k (.d (.bool (decide (s.1 + h.slack < t.1)))) [.d (dHouse h), .d (dSpan s), .d (dSpan t)])) := by
  simp [F_opens_worst, and_assoc]
/-- opens_worst: slots 0 house 1 own 2 other -/
def W_opens_worst : ST := (sRet (eBin gtD (eIdxV 2 (eC (.int 0))) (eBin addD (eIdxV 1 (eC (.int 0))) (eIdxV 0 (eC (.int 4))))))
theorem ok_opens_worst : BodyOk 3 (W_opens_worst) (F_opens_worst) := by
  rintro _ k ⟨h, s, t, rfl, q⟩
  simp [W_opens_worst, entry]
  exact q
def waysL (h : HouseL) (s t : Int × Int) : List Str := (if s.2 + h.slack < t.2 then [("best" : Str)] else []) ++ (if s.1 + h.slack < t.1 then [("worst" : Str)] else [])
theorem waysL_le (h : HouseL) (s t : Int × Int) : (waysL h s t).length ≤ 2 := by
  unfold waysL
  split <;> split <;> simp
def F_ways_open : FT := fun ss k => ∃ (h : HouseL) (s t : Int × Int), ss = [.d (dHouse h), .d (dSpan s), .d (dSpan t)] ∧ k (.d (.list ((waysL h s t).map .str))) ss
theorem mono_F_ways_open : MonoF (F_ways_open) := by
  rintro ss k k' hmono ⟨h, s, t, hss, q⟩
  exact ⟨h, s, t, hss, hmono _ _ q⟩
@[simp] theorem c_ways_open {h : HouseL} {s t : Int × Int} {k : Sl → List Sl → Prop} : F_ways_open [.d (dHouse h), .d (dSpan s), .d (dSpan t)] k = ((k (.d (.list ((waysL h s t).map .str))) [.d (dHouse h), .d (dSpan s), .d (dSpan t)])) := by
  simp [F_ways_open, and_assoc]
/-- ways_open: slots 0 house 1 own 2 other 3 ways -/
def W_ways_open : ST := (sSeq (sSet 3 (eLst aNil))
    (sSeq (sIf (bTru (eCall F_opens_best (.e (eVar 0) :: (.e (eVar 1) :: (.e (eVar 2) :: []))))) (sExpr (eApp 3 (eC (.str "best")))) sNext)
    (sSeq (sIf (bTru (eCall F_opens_worst (.e (eVar 0) :: (.e (eVar 1) :: (.e (eVar 2) :: []))))) (sExpr (eApp 3 (eC (.str "worst")))) sNext)
    (sRet (eVar 3)))))
theorem ok_ways_open : BodyOk 4 (W_ways_open) (F_ways_open) := by
  rintro _ k ⟨h, s, t, rfl, q⟩
  unfold waysL at q
  by_cases h1 : s.2 + h.slack < t.2 <;> by_cases h2 : s.1 + h.slack < t.1 <;> simp [h1, h2] at q <;> simp [W_ways_open, entry, h1, h2] <;> exact q
abbrev OpenL := Nat × Nat × Nat × Nat × Str
def dOpen (l : OpenL) : D := .tuple [nI l.1, nI l.2.1, nI l.2.2.1, nI l.2.2.2.1, .str l.2.2.2.2]
@[simp] theorem dOpen_inj {s t : OpenL} : dOpen s = dOpen t ↔ s = t := by
  obtain ⟨a, b, c, d, e⟩ := s
  obtain ⟨a', b', c', d', e'⟩ := t
  simp [dOpen]
def openW (h : HouseL) (p kd o w : Nat) : List OpenL := (waysL h (spanL h p kd w kd) (spanL h p kd w o)).map fun way => (p, kd, o, w, way)
def openO (h : HouseL) (p kd o : Nat) : List OpenL := (List.range (nW h p kd)).flatMap (openW h p kd o)
def openK (h : HouseL) (p kd : Nat) : List OpenL := (others (nK h p) kd).flatMap (openO h p kd)
def openP (h : HouseL) (p : Nat) : List OpenL := (List.range (nK h p)).flatMap (openK h p)
def openLies (h : HouseL) : List OpenL := (List.range h.persons.length).flatMap (openP h)
theorem openW_le (h : HouseL) (p kd o w : Nat) : (openW h p kd o w).length ≤ 2 := by
  unfold openW
  rw [List.length_map]
  exact waysL_le _ _ _
theorem openO_le {h : HouseL} (wf : Wf h) {p kd : Nat} (hp : p < h.persons.length) (hk : kd < nK h p) (o : Nat) : (openO h p kd o).length ≤ 6 := flatMap_le (c := 2) (n := 3) (by rw [List.length_range]; exact (wf.nW_le hp hk).2) fun w _ => openW_le h p kd o w
theorem openK_le {h : HouseL} (wf : Wf h) {p kd : Nat} (hp : p < h.persons.length) (hk : kd < nK h p) : (openK h p kd).length ≤ 48 := flatMap_le (c := 6) (n := 8) (Nat.le_trans (others_le _ _) (wf.nK_le p)) fun o _ => openO_le wf hp hk o
theorem openP_le {h : HouseL} (wf : Wf h) {p : Nat} (hp : p < h.persons.length) : (openP h p).length ≤ 384 := flatMap_le (c := 48) (n := 8) (by rw [List.length_range]; exact wf.nK_le p) fun k hk => openK_le wf hp (List.mem_range.mp hk)
theorem openLies_le {h : HouseL} (wf : Wf h) : (openLies h).length ≤ 1536 := flatMap_le (c := 384) (n := 4) (by rw [List.length_range]; exact wf.np.2) fun p hp => openP_le wf (List.mem_range.mp hp)
def F_open_lies_of : FT := fun ss k => ∃ (h : HouseL) (p kd : Nat), ss = [.d (dHouse h), .d (nI p), .d (nI kd)] ∧ (Wf h) ∧ (p < h.persons.length) ∧ (kd < nK h p) ∧ k (.d (.list ((openK h p kd).map dOpen))) ss
theorem mono_F_open_lies_of : MonoF (F_open_lies_of) := by
  rintro ss k k' hmono ⟨h, p, kd, hss, wf, hp, hk, q⟩
  exact ⟨h, p, kd, hss, wf, hp, hk, hmono _ _ q⟩
@[simp] theorem c_open_lies_of {h : HouseL} {p kd : Nat} {k : Sl → List Sl → Prop} : F_open_lies_of [.d (dHouse h), .d (nI p), .d (nI kd)] k = ((Wf h) ∧ (p < h.persons.length) ∧ (kd < nK h p) ∧ (k (.d (.list ((openK h p kd).map dOpen))) [.d (dHouse h), .d (nI p), .d (nI kd)])) := by
  simp [F_open_lies_of, and_assoc]
/-- open_lies_of: slots 0 house 1 person 2 kind 3 outlooks 4 found 5 other 6 worth 7 spans 8 way -/
def W_open_lies_of : ST := (sSeq (sSet 3 (eLC (iRg1 (eCall F_count_worths (.e (eVar 0) :: (.e (eVar 1) :: (.e (eVar 2) :: []))))) (gN 6) bYes (eCall F_outlook (.e (eVar 0) :: (.e (eVar 1) :: (.e (eVar 2) :: (.e (eVar 6) :: []))))) [6]))
    (sSeq (sSet 4 (eLst aNil))
    (sSeq (sForW [5, 6, 7, 8] (iSeq (eCall F_other_kinds (.e (eVar 0) :: (.e (eVar 1) :: (.e (eVar 2) :: []))))) (gN 5) (sForW [6, 7, 8] (iRg1 (eLenV 3)) (gN 6) (sSeq (sSet 7 (eIdxV 3 (eVar 6)))
    (sForW [8] (iSeq (eCall F_ways_open (.e (eVar 0) :: (.e (eIdxV 7 (eVar 2)) :: (.e (eIdxV 7 (eVar 5)) :: []))))) (gN 8) (sExpr (eApp 4 (eTup (aCons (eVar 1) (aCons (eVar 2) (aCons (eVar 5) (aCons (eVar 6) (aCons (eVar 8) aNil))))))))))))
    (sRet (eVar 4)))))
theorem ok_open_lies_of : BodyOk 9 (W_open_lies_of) (F_open_lies_of) := by
  rintro _ k ⟨h, p, kd, rfl, wf, hp, hk, q⟩
  have h3 := wf.nW_le hp hk
  have h8 := wf.nK_le p
  have hK := openK_le wf hp hk
  simp [W_open_lies_of, entry, wf, hp, hk, rgD_nat, rgB_nat (show nW h p kd ≤ 16777216 by omega)]
  refine lc_mapA (fun w => PyData.tuple ((spansOf h p kd w).map dSpan)) (by simp) (fun w hw N M hN => ?_) ?_
  · have := List.mem_range.mp hw
    simp [wf, hp, hk, this]
    exact hN
  simp [wf, hp]
  refine lw_accS (openO h p kd) (fun A => [.d (dHouse h), .d (nI p), .d (nI kd), .own false ((List.range (nW h p kd)).map fun w => PyData.tuple ((spansOf h p kd w).map dSpan)), .own false (A.map dOpen), .non, .non, .non, .non]) [] rfl ?_ (fun o ho A N hA hN => ?_)
  · simpa [openK] using q
  have ho' : o < nK h p := by
    unfold others at ho
    simp at ho
    exact ho.1
  have e1 : ((others (nK h p) kd).flatMap (openO h p kd)).length ≤ 48 := hK
  simp [rgD_nat, rgB_nat (show nW h p kd ≤ 16777216 by omega)]
  refine lw_accS (openW h p kd o) (fun A => [.d (dHouse h), .d (nI p), .d (nI kd), .own false ((List.range (nW h p kd)).map fun w => PyData.tuple ((spansOf h p kd w).map dSpan)), .own false (A.map dOpen), .d (nI o), .non, .non, .non]) A rfl ?_ (fun w hw A2 N2 hA2 hN2 => ?_)
  · simp
    simpa [openO] using hN
  have hw' := List.mem_range.mp hw
  have e2 : ((List.range (nW h p kd)).flatMap (openW h p kd o)).length ≤ 6 := openO_le wf hp hk o
  have s1 : (spansOf h p kd w)[kd]? = some (spanL h p kd w kd) := by simp [spansOf, hk]
  have s2 : (spansOf h p kd w)[o]? = some (spanL h p kd w o) := by simp [spansOf, ho']
  simp [at_nat, hw', s1, s2]
  refine lw_accS (fun way => [((p, kd, o, w, way) : OpenL)]) (fun A => [.d (dHouse h), .d (nI p), .d (nI kd), .own false ((List.range (nW h p kd)).map fun w => PyData.tuple ((spansOf h p kd w).map dSpan)), .own false (A.map dOpen), .d (nI o), .d (nI w), .d (.tuple ((spansOf h p kd w).map dSpan)), .non]) A2 rfl ?_ (fun way hway A3 N3 hA3 hN3 => ?_)
  · simp
    have : (waysL h (spanL h p kd w kd) (spanL h p kd w o)).flatMap (fun way => [((p, kd, o, w, way) : OpenL)]) = openW h p kd o w := by
      rw [flat_one]
      rfl
    rw [this]
    simpa using hN2
  · have e3 : ((waysL h (spanL h p kd w kd) (spanL h p kd w o)).flatMap (fun way => [((p, kd, o, w, way) : OpenL)])).length ≤ 2 := by
      rw [flat_one, List.length_map]
      exact waysL_le _ _ _
    have e4 : (openW h p kd o w).length ≤ 2 := openW_le h p kd o w
    simp at hA hA2 hA3
    simp at e1 e2 e3
    simp
    refine ⟨by omega, ?_⟩
    simpa [dOpen] using hN3
def F_open_lies : FT := fun ss k => ∃ (h : HouseL), ss = [.d (dHouse h)] ∧ (Wf h) ∧ k (.d (.tuple ((openLies h).map dOpen))) ss
theorem mono_F_open_lies : MonoF (F_open_lies) := by
  rintro ss k k' hmono ⟨h, hss, wf, q⟩
  exact ⟨h, hss, wf, hmono _ _ q⟩
@[simp] theorem c_open_lies {h : HouseL} {k : Sl → List Sl → Prop} : F_open_lies [.d (dHouse h)] k = ((Wf h) ∧ (k (.d (.tuple ((openLies h).map dOpen))) [.d (dHouse h)])) := by
  simp [F_open_lies, and_assoc]
/-- open_lies: slots 0 house 1 found 2 person 3 kind -/
def W_open_lies : ST := (sSeq (sSet 1 (eLst aNil))
    (sSeq (sForW [2, 3] (iRg1 (eCall F_count_of (.e (eVar 0) :: []))) (gN 2) (sForW [3] (iRg1 (eCB lenD (aCons (eCall F_kinds_of (.e (eVar 0) :: (.e (eVar 2) :: []))) aNil))) (gN 3) (sExpr (eExt 1 (eCall F_open_lies_of (.e (eVar 0) :: (.e (eVar 2) :: (.e (eVar 3) :: []))))))))
    (sRet (eCB tupD (aCons (eVar 1) aNil)))))
theorem ok_open_lies : BodyOk 4 (W_open_lies) (F_open_lies) := by
  rintro _ k ⟨h, rfl, wf, q⟩
  have h0 := openLies_le wf
  simp [W_open_lies, entry, rgD_nat, wf.rg]
  refine lw_accS (openP h) (fun A => [.d (dHouse h), .own false (A.map dOpen), .non, .non]) [] rfl ?_ (fun p hp A N hA hN => ?_)
  · simpa [openLies] using q
  have hp' := List.mem_range.mp hp
  obtain ⟨e1, P, e2, e3⟩ := sizes_at hp'
  have h8 := wf.nK_le p
  simp [e2, ← e3, rgD_nat, rgB_nat (show nK h p ≤ 16777216 by omega)]
  refine lw_accS (openK h p) (fun A => [.d (dHouse h), .own false (A.map dOpen), .d (nI p), .non]) A rfl ?_ (fun kd hk A2 N2 hA2 hN2 => ?_)
  · simp
    simpa [openP] using hN
  have hk' := List.mem_range.mp hk
  have g1 : ((List.range h.persons.length).flatMap (openP h)).length ≤ 1536 := h0
  have g2 : ((List.range (nK h p)).flatMap (openK h p)).length ≤ 384 := openP_le wf hp'
  have g3 := openK_le wf hp' hk'
  simp at hA hA2
  simp at g1 g2
  simp [wf, hp', hk']
  refine ⟨by omega, ?_⟩
  simpa using hN2
/-! ### the law's defs -/
def isIntD (x : D) : Bool := isiD "int" x && !isiD "bool" x
def isIntsD : D → Bool
  | .tuple xs => xs.all isIntD
  | _ => false
@[simp] theorem isIntD_i {i : Int} : isIntD (.int i) = true := rfl
@[simp] theorem isInts_i {l : List Int} : isIntsD (dInts l) = true := by simp [isIntsD, dInts]
@[simp] theorem isInts_n {l : List Nat} : isIntsD (dNats l) = true := by simp [isIntsD, dNats]
def F__law_is_int : FT := fun ss k => ∃ (x : D), ss = [.d (x)] ∧ k (.d (.bool (isIntD x))) ss
theorem mono_F__law_is_int : MonoF (F__law_is_int) := by
  rintro ss k k' hmono ⟨x, hss, q⟩
  exact ⟨x, hss, hmono _ _ q⟩
@[simp] theorem c__law_is_int {x : D} {k : Sl → List Sl → Prop} : F__law_is_int [.d (x)] k = ((k (.d (.bool (isIntD x))) [.d (x)])) := by
  simp [F__law_is_int, and_assoc]
/-- _law_is_int: slots 0 thing -/
def W__law_is_int : ST := (sRet ((eAnd (eIsi "int" (eVar 0)) (eNot (eIsi "bool" (eVar 0))))))
theorem ok__law_is_int : BodyOk 1 (W__law_is_int) (F__law_is_int) := by
  rintro _ k ⟨x, rfl, q⟩
  unfold isIntD at q
  cases h1 : isiD "int" x <;> cases h2 : isiD "bool" x <;> simp [h1, h2] at q <;> simp [W__law_is_int, entry, h1, h2] <;> exact q
def F__law_is_ints : FT := fun ss k => ∃ (x : D), ss = [.d (x)] ∧ k (.d (.bool (isIntsD x))) ss
theorem mono_F__law_is_ints : MonoF (F__law_is_ints) := by
  rintro ss k k' hmono ⟨x, hss, q⟩
  exact ⟨x, hss, hmono _ _ q⟩
@[simp] theorem c__law_is_ints {x : D} {k : Sl → List Sl → Prop} : F__law_is_ints [.d (x)] k = ((k (.d (.bool (isIntsD x))) [.d (x)])) := by
  simp [F__law_is_ints, and_assoc]
/-- _law_is_ints: slots 0 row 1 share -/
def W__law_is_ints : ST := (sRet ((eAnd (eIsi "tuple" (eVar 0)) (eCB allD (aCons (eLC (iSeq (eVar 0)) (gN 1) bYes (eCall F__law_is_int (.e (eVar 1) :: [])) [1]) aNil)))))
theorem ok__law_is_ints : BodyOk 2 (W__law_is_ints) (F__law_is_ints) := by
  rintro _ k ⟨x, rfl, q⟩
  cases x with
  | tuple xs =>
    simp [W__law_is_ints, entry]
    refine lc_map (fun y => PyData.bool (isIntD y)) xs [] (by simp) (fun y hy N M hN => ?_) ?_
    · simp
      exact hN
    · simpa [isIntsD, Function.comp_def] using q
  | _ => simpa [W__law_is_ints, entry, isiD, isiT, tyD, isIntsD] using q
def isRowB (b : List (List Nat)) (r : List Int) : Bool := r.length == b.length && (List.range b.length).all fun i => ((b[i]?).getD []).any fun n => decide ((n : Int) = (r[i]?).getD (-1))
theorem flat_all_nats {l : List Nat} : (l.map nI).all flatD = true := by simp [flatD]
theorem in_int_nats {z : Int} {l : List Nat} : inD false (.int z) (dNats l) = some (.d (.bool (l.any fun n => decide ((n : Int) = z)))) := by
  have h : inB (.int z) (dNats l) = some (l.any fun n => decide ((n : Int) = z)) := by
    show (if (flatD (.int z) && (l.map nI).all flatD) = true then some ((l.map nI).any fun y => PyData.eqv y (.int z)) else none) = _
    rw [if_pos (by simp [flatD]), List.any_map]
    congr 2
  unfold inD
  rw [h]
  rfl
def F__law_is_row : FT := fun ss k => ∃ (b : List (List Nat)) (r : List Int), ss = [.d (dBox b), .d (dInts r)] ∧ (b.length ≤ 1000) ∧ k (.d (.bool (isRowB b r))) ss
theorem mono_F__law_is_row : MonoF (F__law_is_row) := by
  rintro ss k k' hmono ⟨b, r, hss, hb, q⟩
  exact ⟨b, r, hss, hb, hmono _ _ q⟩
@[simp] theorem c__law_is_row {b : List (List Nat)} {r : List Int} {k : Sl → List Sl → Prop} : F__law_is_row [.d (dBox b), .d (dInts r)] k = ((b.length ≤ 1000) ∧ (k (.d (.bool (isRowB b r))) [.d (dBox b), .d (dInts r)])) := by
  simp [F__law_is_row, and_assoc]
/-- _law_is_row: slots 0 box 1 row 2 person -/
def W__law_is_row : ST := (sSeq (sIf ((bOr (bNot (bTru (eCall F__law_is_ints (.e (eVar 1) :: [])))) (bBin neD (eLenV 1) (eLenV 0)))) (sRet (eC (.bool false))) sNext)
    (sRet (eCB allD (aCons (eLC (iRg1 (eLenV 0)) (gN 2) bYes (eBin (inD false) (eIdxV 1 (eVar 2)) (eIdxV 0 (eVar 2))) [2]) aNil))))
theorem ok__law_is_row : BodyOk 3 (W__law_is_row) (F__law_is_row) := by
  rintro _ k ⟨b, r, rfl, hb, q⟩
  by_cases hl : r.length = b.length
  · simp [W__law_is_row, entry, hl, rgD_nat, in_int_nats, rgB_nat (show b.length ≤ 16777216 by omega)]
    refine lc_mapA (fun i : Nat => PyData.bool (((b[i]?).getD []).any fun n => decide ((n : Int) = (r[i]?).getD (-1)))) (by simp) (fun i hi N M hN => ?_) ?_
    · have hi' := List.mem_range.mp hi
      simp [hi', in_int_nats, show i < r.length by omega] at hN ⊢
      exact hN
    · simpa [isRowB, hl, Function.comp_def] using q
  · have hl2 : ¬ ((r.length : Int) = b.length) := by omega
    have e : isRowB b r = false := by
      unfold isRowB
      rw [beq_false_of_ne hl]
      rfl
    rw [e] at q
    simpa [W__law_is_row, entry, hl] using q
theorem dNats_ints (l : List Nat) : dNats l = dInts (l.map fun (n : Nat) => (n : Int)) := by simp [dNats, dInts, Function.comp_def]
theorem isRow_of {b : List (List Nat)} {r : List Nat} : isRowB b (r.map fun (n : Nat) => (n : Int)) = true ↔ RowOf b r := by
  have key : ∀ (b : List (List Nat)) (r : List Nat), RowOf b r ↔ r.length = b.length ∧ ∀ i, i < b.length → ∃ n, (b[i]?).getD [] = (b[i]?).getD [] ∧ r[i]? = some n ∧ n ∈ (b[i]?).getD [] := by
    intro b
    induction b with
    | nil =>
      intro r
      cases r <;> simp [RowOf]
    | cons p b ih =>
      intro r
      cases r with
      | nil => simp [RowOf]
      | cons x r =>
        show (x ∈ p ∧ RowOf b r) ↔ _
        rw [ih r]
        constructor
        · rintro ⟨h1, h2, h3⟩
          refine ⟨by simp [h2], fun i hi => ?_⟩
          cases i with
          | zero => exact ⟨x, rfl, rfl, by simpa using h1⟩
          | succ i =>
            obtain ⟨n, _, g1, g2⟩ := h3 i (by simpa using hi)
            exact ⟨n, rfl, by simpa using g1, by simpa using g2⟩
        · rintro ⟨h1, h2⟩
          refine ⟨?_, by simpa using h1, fun i hi => ?_⟩
          · obtain ⟨n, _, g1, g2⟩ := h2 0 (by simp)
            simp at g1 g2
            subst g1
            exact g2
          · obtain ⟨n, _, g1, g2⟩ := h2 (i + 1) (by simpa using hi)
            exact ⟨n, rfl, by simpa using g1, by simpa using g2⟩
  rw [key]
  unfold isRowB
  simp only [Bool.and_eq_true, beq_iff_eq, List.length_map, List.all_eq_true, List.mem_range, List.any_eq_true, decide_eq_true_eq]
  refine and_congr_right fun hl => forall_congr' fun i => forall_congr' fun hi => ?_
  constructor
  · rintro ⟨n, h1, h2⟩
    have hi2 : i < r.length := by omega
    rw [List.getElem?_map, List.getElem?_eq_getElem hi2] at h2
    simp at h2
    subst h2
    exact ⟨_, trivial, List.getElem?_eq_getElem hi2, h1⟩
  · rintro ⟨n, _, h1, h2⟩
    refine ⟨n, h2, ?_⟩
    rw [List.getElem?_map, h1]
    rfl
theorem isRow_ranges {ms r : List Nat} : isRowB (ranges ms) (r.map fun (n : Nat) => (n : Int)) = true ↔ RowIn ms r := by rw [isRow_of, rowOf_ranges]
def F__law_end : FT := fun ss k => ∃ (h : HouseL) (row : List Nat), ss = [.d (dHouse h), .d (dNats row)] ∧ (Wf h) ∧ (RowIn (sizes h) row) ∧ k (.d (dEnd (endAt h row))) ss
theorem mono_F__law_end : MonoF (F__law_end) := by
  rintro ss k k' hmono ⟨h, row, hss, wf, hr, q⟩
  exact ⟨h, row, hss, wf, hr, hmono _ _ q⟩
@[simp] theorem c__law_end {h : HouseL} {row : List Nat} {k : Sl → List Sl → Prop} : F__law_end [.d (dHouse h), .d (dNats row)] k = ((Wf h) ∧ (RowIn (sizes h) row) ∧ (k (.d (dEnd (endAt h row))) [.d (dHouse h), .d (dNats row)])) := by
  simp [F__law_end, and_assoc]
/-- _law_end: slots 0 house 1 row 2 place 3 person -/
def W__law_end : ST := (sSeq (sSet 2 (eC (.int 0)))
    (sSeq (sForW [3] (iRg1 (eLenV 1)) (gN 3) (sSet 2 (eBin addD (eBin mulD (eVar 2) (eCB lenD (aCons (eBin idxS (eBin idxS (eIdxV 0 (eC (.int 2))) (eVar 3)) (eC (.int 1))) aNil))) (eIdxV 1 (eVar 3)))))
    (sRet (eBin idxS (eIdxV 0 (eC (.int 3))) (eVar 2)))))
theorem ok__law_end : BodyOk 4 (W__law_end) (F__law_end) := by
  rintro _ k ⟨h, row, rfl, wf, hr, q⟩
  have hl : row.length = h.persons.length := by rw [hr.len, sizes_len]
  have h4 := wf.np
  simp [W__law_end, entry, rgD_nat, hl, wf.rg]
  refine lw_rg (fun i => [.d (dHouse h), .d (dNats row), .d (nI (rowNoF 0 ((sizes h).take i) (row.take i))), .non]) rfl ?_ (fun i hi N hN => ?_)
  · have e1 : (sizes h).take h.persons.length = sizes h := by rw [← sizes_len, List.take_length]
    have e2 : row.take h.persons.length = row := by rw [← hl, List.take_length]
    simp only [e1, e2]
    simp [at_nat, (wf.endAt hr).1]
    exact q
  · obtain ⟨e1, P, e2, e3⟩ := sizes_at hi
    obtain ⟨r, e4, e5⟩ := hr.at e1
    have h8 := wf.nK_le i
    have t1 : (sizes h).take (i + 1) = (sizes h).take i ++ [nK h i] := by rw [List.take_succ, e1]; rfl
    have t2 : row.take (i + 1) = row.take i ++ [r] := by rw [List.take_succ, e4]; rfl
    rw [t1, t2, rowNoF_snoc (by rw [List.length_take, List.length_take, hr.len])] at hN
    simp [at_nat, e2, ← e3, mul_nat (show nK h i ≤ 100000 by omega), e4]
    simpa [nI, Int.natCast_add, Int.natCast_mul] using hN
def F__law_value : FT := fun ss k => ∃ (h : HouseL) (p kd w : Nat) (e : EndL), ss = [.d (dHouse h), .d (nI p), .d (nI kd), .d (nI w), .d (dEnd e)] ∧ (Wf h) ∧ (p < h.persons.length) ∧ (kd < nK h p) ∧ (w < nW h p kd) ∧ (EndOk h e) ∧ k (.d (.int (valOf h p kd w e))) ss
theorem mono_F__law_value : MonoF (F__law_value) := by
  rintro ss k k' hmono ⟨h, p, kd, w, e, hss, wf, hp, hk, hw, he, q⟩
  exact ⟨h, p, kd, w, e, hss, wf, hp, hk, hw, he, hmono _ _ q⟩
@[simp] theorem c__law_value {h : HouseL} {p kd w : Nat} {e : EndL} {k : Sl → List Sl → Prop} : F__law_value [.d (dHouse h), .d (nI p), .d (nI kd), .d (nI w), .d (dEnd e)] k = ((Wf h) ∧ (p < h.persons.length) ∧ (kd < nK h p) ∧ (w < nW h p kd) ∧ (EndOk h e) ∧ (k (.d (.int (valOf h p kd w e))) [.d (dHouse h), .d (nI p), .d (nI kd), .d (nI w), .d (dEnd e)])) := by
  simp [F__law_value, and_assoc]
/-- _law_value: slots 0 house 1 person 2 kind 3 worth 4 end -/
def W__law_value : ST := (sRet (eBin subD (eBin idxS (eBin idxS (eBin idxS (eBin idxS (eBin idxS (eBin idxS (eIdxV 0 (eC (.int 2))) (eVar 1)) (eC (.int 1))) (eVar 2)) (eC (.int 1))) (eVar 3)) (eIdxV 4 (eC (.int 0)))) (eBin idxS (eIdxV 4 (eC (.int 1))) (eVar 1))))
theorem ok__law_value : BodyOk 5 (W__law_value) (F__law_value) := by
  rintro _ k ⟨h, p, kd, w, e, rfl, wf, hp, hk, hw, he, q⟩
  obtain ⟨P, K, r, e1, e2, e3, e4, e5⟩ := numsAt_of wf hp hk hw
  obtain ⟨x1, h1⟩ : ∃ x, r[e.out]? = some x := ⟨_, List.getElem?_eq_getElem (by rw [e5]; exact he.out)⟩
  obtain ⟨x2, h2⟩ : ∃ x, e.pays[p]? = some x := ⟨_, List.getElem?_eq_getElem (by rw [he.pays]; exact hp)⟩
  have : valOf h p kd w e = x1 - x2 := by
    simp [valOf, e4, h1, h2]
  rw [this] at q
  simp [W__law_value, entry, at_nat, e1, e2, e3, h1, h2]
  exact q
def F__law_gain : FT := fun ss k => ∃ (h : HouseL) (p kd o w : Nat) (row : List Nat), ss = [.d (dHouse h), .d (nI p), .d (nI kd), .d (nI o), .d (nI w), .d (dNats row)] ∧ (Wf h) ∧ (p < h.persons.length) ∧ (kd < nK h p) ∧ (o < nK h p) ∧ (w < nW h p kd) ∧ (RowIn (sizes h) row) ∧ k (.d (.int (gainB h p kd w row (row.set p o)))) ss
theorem mono_F__law_gain : MonoF (F__law_gain) := by
  rintro ss k k' hmono ⟨h, p, kd, o, w, row, hss, wf, hp, hk, ho, hw, hr, q⟩
  exact ⟨h, p, kd, o, w, row, hss, wf, hp, hk, ho, hw, hr, hmono _ _ q⟩
@[simp] theorem c__law_gain {h : HouseL} {p kd o w : Nat} {row : List Nat} {k : Sl → List Sl → Prop} : F__law_gain [.d (dHouse h), .d (nI p), .d (nI kd), .d (nI o), .d (nI w), .d (dNats row)] k = ((Wf h) ∧ (p < h.persons.length) ∧ (kd < nK h p) ∧ (o < nK h p) ∧ (w < nW h p kd) ∧ (RowIn (sizes h) row) ∧ (k (.d (.int (gainB h p kd w row (row.set p o)))) [.d (dHouse h), .d (nI p), .d (nI kd), .d (nI o), .d (nI w), .d (dNats row)])) := by
  simp [F__law_gain, and_assoc]
/-- _law_gain: slots 0 house 1 person 2 kind 3 other 4 worth 5 row 6 bent 7 there -/
def W__law_gain : ST := (sSeq (sSet 6 (eBin addD (eBin addD (eSl (eVar 5) oNone (oSome (eVar 1))) (eTup (aCons (eVar 3) aNil))) (eSl (eVar 5) (oSome (eBin addD (eVar 1) (eC (.int 1)))) oNone)))
    (sSeq (sSet 7 (eCall F__law_value (.e (eVar 0) :: (.e (eVar 1) :: (.e (eVar 2) :: (.e (eVar 4) :: (.e (eCall F__law_end (.e (eVar 0) :: (.e (eVar 6) :: []))) :: [])))))))
    (sRet (eBin subD (eVar 7) (eCall F__law_value (.e (eVar 0) :: (.e (eVar 1) :: (.e (eVar 2) :: (.e (eVar 4) :: (.e (eCall F__law_end (.e (eVar 0) :: (.e (eVar 5) :: []))) :: []))))))))))
theorem ok__law_gain : BodyOk 8 (W__law_gain) (F__law_gain) := by
  rintro _ k ⟨h, p, kd, o, w, row, rfl, wf, hp, hk, ho, hw, hr, q⟩
  have hl : row.length = h.persons.length := by rw [hr.len, sizes_len]
  have h4 := wf.np
  have hin2 := hr.set (sizes_at hp).1 ho
  have t1 : PyData.tuple [nI o] = dNats [o] := rfl
  have hc := set_cut (o := o) (show p < row.length by omega)
  simp [W__law_gain, entry, sl_take, sl_drop]
  rw [t1, cat_nn (by simp; omega)]
  simp [sl_drop]
  rw [cat_nn (by simp; omega)]
  simp at hc
  simp [hc, wf, hp, hk, ho, hw, hr, hin2, (wf.endAt hr).2, (wf.endAt hin2).2]
  exact q
end Dl

set_option Elab.async false
set_option linter.all false
set_option maxRecDepth 100000
set_option autoImplicit false
set_option maxHeartbeats 2000000
namespace Dl
open PySem PySem.Spec PyProof.Rows L2

/-! ### clock tables as data -/
structure ClkP where
  name : Str
  up : Bool
  worths : List Int
structure ClkL where
  persons : List ClkP
  wins : List (List Nat)
def sideS (u : Bool) : Str := if u = true then "up" else "down"
def dClkP (p : ClkP) : D := .tuple [.str p.name, .str (sideS p.up), dInts p.worths]
def dClk (c : ClkL) : D := .tuple [.str "clocks", .tuple (c.persons.map dClkP), dBox c.wins]
theorem down_up : ¬ (("down" : Str) = "up") := by decide
theorem up_down : ¬ (("up" : Str) = "down") := by decide
@[simp] theorem side_up {u : Bool} : (sideS u = ("up" : Str)) ↔ u = true := by cases u <;> simp [sideS, down_up]
@[simp] theorem side_down {u : Bool} : (sideS u = ("down" : Str)) ↔ u = false := by cases u <;> simp [sideS, up_down]
theorem side_inj {u v : Bool} : sideS u = sideS v ↔ u = v := by cases u <;> cases v <;> simp [sideS, down_up, up_down]
@[simp] theorem ix_c1 {c : ClkL} : idxD (dClk c) (.int 1) = some (.tuple (c.persons.map dClkP)) := rfl
@[simp] theorem ix_c2 {c : ClkL} : idxD (dClk c) (.int 2) = some (dBox c.wins) := rfl
@[simp] theorem ix_cp1 {p : ClkP} : idxD (dClkP p) (.int 1) = some (.str (sideS p.up)) := rfl
@[simp] theorem ix_cp2 {p : ClkP} : idxD (dClkP p) (.int 2) = some (dInts p.worths) := rfl
@[simp] theorem dClkP_inj {a b : ClkP} : dClkP a = dClkP b ↔ a = b := by
  obtain ⟨n, u, w⟩ := a
  obtain ⟨m, v, z⟩ := b
  simp [dClkP, side_inj]
@[simp] theorem dClk_inj {a b : ClkL} : dClk a = dClk b ↔ a = b := by
  obtain ⟨n, u⟩ := a
  obtain ⟨m, v⟩ := b
  simp only [dClk, PyData.tuple.injEq, List.cons.injEq, ClkL.mk.injEq, and_true, true_and, dBox_inj]
  rw [map_inj fun x y h => dClkP_inj.mp h]
def csizes (c : ClkL) : List Nat := c.persons.map (·.worths.length)
def csz (c : ClkL) (p : Nat) : Nat := match c.persons[p]? with
  | some P => P.worths.length
  | none => 0
def upAt (c : ClkL) (p : Nat) : Bool := match c.persons[p]? with
  | some P => P.up
  | none => true
structure WfC (c : ClkL) : Prop where
  np : 1 ≤ c.persons.length ∧ c.persons.length ≤ 4
  nk : ∀ p ∈ c.persons, 1 ≤ p.worths.length ∧ p.worths.length ≤ 8
  nw : c.wins.length = prodN (csizes c) ∧ c.wins.length ≤ 256
  ws : ∀ w ∈ c.wins, w.Sublist (List.range c.persons.length)
theorem csz_at {c : ClkL} {p : Nat} (hp : p < c.persons.length) : (csizes c)[p]? = some (csz c p) ∧ ∃ P, c.persons[p]? = some P ∧ csz c p = P.worths.length ∧ upAt c p = P.up ∧ P ∈ c.persons := by
  have e := List.getElem?_eq_getElem hp
  refine ⟨by simp [csizes, csz, e], c.persons[p], e, by simp [csz, e], by simp [upAt, e], List.getElem_mem hp⟩
theorem csizes_len {c : ClkL} : (csizes c).length = c.persons.length := by simp [csizes]
theorem WfC.sz {c : ClkL} (wf : WfC c) : ∀ m ∈ csizes c, 1 ≤ m ∧ m ≤ 8 := by
  intro m hm
  obtain ⟨P, hP, rfl⟩ := List.mem_map.mp hm
  exact wf.nk P hP
theorem WfC.csz_le {c : ClkL} (wf : WfC c) (p : Nat) : csz c p ≤ 8 := by
  unfold csz
  cases e : c.persons[p]? with
  | none => simp
  | some P => exact (wf.nk P (List.mem_of_getElem? e)).2
def winAt (c : ClkL) (row : List Nat) : List Nat := (c.wins[rowNoF 0 (csizes c) row]?).getD []
theorem WfC.winAt {c : ClkL} (wf : WfC c) {row : List Nat} (hr : RowIn (csizes c) row) : c.wins[rowNoF 0 (csizes c) row]? = some (winAt c row) ∧ winAt c row ∈ c.wins := by
  have h1 := rowNoF_lt (pl := 0) hr
  rw [Nat.zero_add, Nat.one_mul, ← wf.nw.1] at h1
  have e := List.getElem?_eq_getElem h1
  have e2 : Dl.winAt c row = c.wins[rowNoF 0 (csizes c) row] := by
    unfold Dl.winAt
    rw [e]
    rfl
  rw [e2]
  exact ⟨e, List.getElem_mem h1⟩
/-- a box of a table -/
structure BxC (c : ClkL) (b : List (List Nat)) : Prop where
  len : b.length = c.persons.length
  each : ∀ (i : Nat) (part : List Nat), b[i]? = some part → part ≠ [] ∧ part.Sublist (List.range (csz c i))
def partAt (b : List (List Nat)) (p : Nat) : List Nat := (b[p]?).getD []
theorem BxC.part {c : ClkL} {b : List (List Nat)} (hb : BxC c b) {p : Nat} (hp : p < c.persons.length) : b[p]? = some (partAt b p) ∧ partAt b p ≠ [] ∧ (partAt b p).Sublist (List.range (csz c p)) := by
  have e := List.getElem?_eq_getElem (show p < b.length by rw [hb.len]; exact hp)
  have e2 : partAt b p = b[p]'(by rw [hb.len]; exact hp) := by
    unfold partAt
    rw [e]
    rfl
  rw [e2]
  exact ⟨e, hb.each p _ e⟩
theorem BxC.l8 {c : ClkL} {b : List (List Nat)} (wf : WfC c) (hb : BxC c b) : ∀ part ∈ b, part.length ≤ 8 := by
  intro part hp
  obtain ⟨i, e⟩ := List.mem_iff_getElem?.mp hp
  have := (hb.each i part e).2.length_le
  have h8 := wf.csz_le i
  rw [List.length_range] at this
  omega
theorem BxC.l4 {c : ClkL} {b : List (List Nat)} (wf : WfC c) (hb : BxC c b) : b.length ≤ 4 := by
  have := wf.np
  rw [hb.len]
  omega
theorem BxC.row {c : ClkL} {b : List (List Nat)} (hb : BxC c b) {row : List Nat} (hr : row ∈ comb b) : RowIn (csizes c) row := by
  rw [← rowOf_ranges]
  refine RowOf.sub (by simp [ranges, csizes, hb.len]) (fun i q q' e e' x hx => ?_) (mem_comb.mp hr)
  have h1 := (hb.each i q e).2.subset hx
  have hi : i < c.persons.length := by
    rw [← hb.len]
    exact (List.getElem?_eq_some_iff.mp e).1
  unfold ranges at e'
  rw [List.getElem?_map, (csz_at hi).1] at e'
  cases e'
  exact h1
theorem rowOf_ex : ∀ {b : List (List Nat)}, (∀ p ∈ b, p ≠ []) → ∃ row, RowOf b row
  | [], _ => ⟨[], trivial⟩
  | p :: b, h => by
    obtain ⟨row, hr⟩ := rowOf_ex fun q hq => h q (List.mem_cons_of_mem _ hq)
    have hp := h p List.mem_cons_self
    obtain ⟨x, hx⟩ := List.exists_mem_of_ne_nil p hp
    exact ⟨x :: row, hx, hr⟩
def firstRow (b : List (List Nat)) : List Nat := (comb b).headD []
theorem first_at {b : List (List Nat)} (h : ∀ p ∈ b, p ≠ []) : (comb b)[0]? = some (firstRow b) ∧ firstRow b ∈ comb b := by
  obtain ⟨row, hr⟩ := rowOf_ex h
  have := mem_comb.mpr hr
  unfold firstRow
  cases e : comb b with
  | nil => rw [e] at this; cases this
  | cons x l => simp
theorem BxC.ne {c : ClkL} {b : List (List Nat)} (hb : BxC c b) : ∀ p ∈ b, p ≠ [] := by
  intro p hp
  obtain ⟨i, e⟩ := List.mem_iff_getElem?.mp hp
  exact (hb.each i p e).1
theorem comb_le_box {b : List (List Nat)} (h4 : b.length ≤ 4) (h8 : ∀ p ∈ b, p.length ≤ 8) : (comb b).length ≤ 4096 := by
  have := comb_le h4 h8 b.length
  rwa [List.take_length] at this
theorem ix_head {l : List Nat} (h : l ≠ []) : idxD (dNats l) (.int 0) = some (nI (l.headD 0)) := by
  cases l with
  | nil => exact absurd rfl h
  | cons x l =>
    show atI _ 0 = _
    rw [at_0]
    rfl
theorem ix_last {l : List Nat} (h : l ≠ []) : idxD (dNats l) (.int (-1)) = some (nI (l.getLastD 0)) := by
  show atI (l.map nI) (-1) = _
  rw [at_m1 (by simpa using h), List.length_map, List.getElem?_map]
  rcases List.eq_nil_or_concat l with rfl | ⟨m, x, rfl⟩
  · exact absurd rfl h
  · simp
/-! ### the program's defs -/
def F_rows_of : FT := fun ss k => ∃ (b : List (List Nat)), ss = [.d (dBox b)] ∧ (b.length ≤ 4) ∧ (∀ p ∈ b, p.length ≤ 8) ∧ k (.d (dBox (comb b))) ss
theorem mono_F_rows_of : MonoF (F_rows_of) := by
  rintro ss k k' hmono ⟨b, hss, h4, h8, q⟩
  exact ⟨b, hss, h4, h8, hmono _ _ q⟩
@[simp] theorem c_rows_of {b : List (List Nat)} {k : Sl → List Sl → Prop} : F_rows_of [.d (dBox b)] k = ((b.length ≤ 4) ∧ (∀ p ∈ b, p.length ≤ 8) ∧ (k (.d (dBox (comb b))) [.d (dBox b)])) := by
  simp [F_rows_of, and_assoc]
/-- rows_of: slots 0 box -/
def W_rows_of : ST := (sRet (eCall F_combined (.e (eVar 0) :: [])))
theorem ok_rows_of : BodyOk 1 (W_rows_of) (F_rows_of) := by
  rintro _ k ⟨b, rfl, h4, h8, q⟩
  simp [W_rows_of, entry, h4]
  exact ⟨h8, q⟩
def F_person_count : FT := fun ss k => ∃ (c : ClkL), ss = [.d (dClk c)] ∧ k (.d (nI c.persons.length)) ss
theorem mono_F_person_count : MonoF (F_person_count) := by
  rintro ss k k' hmono ⟨c, hss, q⟩
  exact ⟨c, hss, hmono _ _ q⟩
@[simp] theorem c_person_count {c : ClkL} {k : Sl → List Sl → Prop} : F_person_count [.d (dClk c)] k = ((k (.d (nI c.persons.length)) [.d (dClk c)])) := by
  simp [F_person_count, and_assoc]
/-- person_count: slots 0 clocks -/
def W_person_count : ST := (sRet (eCB lenD (aCons (eIdxV 0 (eC (.int 1))) aNil)))
theorem ok_person_count : BodyOk 1 (W_person_count) (F_person_count) := by
  rintro _ k ⟨c, rfl, q⟩
  simp [W_person_count, entry]
  exact q
def F_is_rising : FT := fun ss k => ∃ (c : ClkL) (p : Nat), ss = [.d (dClk c), .d (nI p)] ∧ (p < c.persons.length) ∧ k (.d (.bool (upAt c p))) ss
theorem mono_F_is_rising : MonoF (F_is_rising) := by
  rintro ss k k' hmono ⟨c, p, hss, hp, q⟩
  exact ⟨c, p, hss, hp, hmono _ _ q⟩
@[simp] theorem c_is_rising {c : ClkL} {p : Nat} {k : Sl → List Sl → Prop} : F_is_rising [.d (dClk c), .d (nI p)] k = ((p < c.persons.length) ∧ (k (.d (.bool (upAt c p))) [.d (dClk c), .d (nI p)])) := by
  simp [F_is_rising, and_assoc]
/-- is_rising: slots 0 clocks 1 person -/
def W_is_rising : ST := (sRet (eBin eqD (eBin idxS (eBin idxS (eIdxV 0 (eC (.int 1))) (eVar 1)) (eC (.int 1))) (eC (.str "up"))))
theorem ok_is_rising : BodyOk 2 (W_is_rising) (F_is_rising) := by
  rintro _ k ⟨c, p, rfl, hp, q⟩
  obtain ⟨e1, P, e2, e3, e4, e5⟩ := csz_at hp
  simp [W_is_rising, entry, at_nat, e2]
  rw [e4] at q
  exact q
def F_ck_worths_of : FT := fun ss k => ∃ (c : ClkL) (p : Nat) (P : ClkP), ss = [.d (dClk c), .d (nI p)] ∧ (c.persons[p]? = some P) ∧ k (.d (dInts P.worths)) ss
theorem mono_F_ck_worths_of : MonoF (F_ck_worths_of) := by
  rintro ss k k' hmono ⟨c, p, P, hss, hP, q⟩
  exact ⟨c, p, P, hss, hP, hmono _ _ q⟩
@[simp] theorem c_ck_worths_of {c : ClkL} {p : Nat} {k : Sl → List Sl → Prop} : F_ck_worths_of [.d (dClk c), .d (nI p)] k = opt c.persons[p]? fun P => k (.d (dInts P.worths)) [.d (dClk c), .d (nI p)] := by simp [F_ck_worths_of, opt, and_assoc]
/-- worths_of: slots 0 clocks 1 person -/
def W_ck_worths_of : ST := (sRet (eBin idxS (eBin idxS (eIdxV 0 (eC (.int 1))) (eVar 1)) (eC (.int 2))))
theorem ok_ck_worths_of : BodyOk 2 (W_ck_worths_of) (F_ck_worths_of) := by
  rintro _ k ⟨c, p, P, rfl, hP, q⟩
  simp [W_ck_worths_of, entry, at_nat, hP]
  exact q
theorem WfC.rg {c : ClkL} (wf : WfC c) : rgB (c.persons.length : Int) = true := rgB_nat (by have := wf.np; omega)
def F_table_sizes : FT := fun ss k => ∃ (c : ClkL), ss = [.d (dClk c)] ∧ (WfC c) ∧ k (.d (dNats (csizes c))) ss
theorem mono_F_table_sizes : MonoF (F_table_sizes) := by
  rintro ss k k' hmono ⟨c, hss, wf, q⟩
  exact ⟨c, hss, wf, hmono _ _ q⟩
@[simp] theorem c_table_sizes {c : ClkL} {k : Sl → List Sl → Prop} : F_table_sizes [.d (dClk c)] k = ((WfC c) ∧ (k (.d (dNats (csizes c))) [.d (dClk c)])) := by
  simp [F_table_sizes, and_assoc]
/-- table_sizes: slots 0 clocks 1 person -/
def W_table_sizes : ST := (sRet (eCB tupD (aCons (eLC (iRg1 (eCall F_person_count (.e (eVar 0) :: []))) (gN 1) bYes (eCB lenD (aCons (eCall F_ck_worths_of (.e (eVar 0) :: (.e (eVar 1) :: []))) aNil)) [1]) aNil)))
theorem ok_table_sizes : BodyOk 2 (W_table_sizes) (F_table_sizes) := by
  rintro _ k ⟨c, rfl, wf, q⟩
  simp [W_table_sizes, entry, rgD_nat, wf.rg]
  refine lc_mapA (fun p => nI (csz c p)) (by simp) (fun p hp N M hN => ?_) ?_
  · obtain ⟨e1, P, e2, e3, e4, e5⟩ := csz_at (List.mem_range.mp hp)
    simp [e2]
    rw [e3] at hN
    exact hN
  · have : (List.range c.persons.length).map (fun p => nI (csz c p)) = (csizes c).map nI := by
      refine List.ext_getElem? fun i => ?_
      by_cases hi : i < c.persons.length
      · simp [hi, (csz_at hi).1]
      · rw [List.getElem?_eq_none (by simp; omega), List.getElem?_eq_none (by simp [csizes]; omega)]
    simp [this]
    exact q
def F_table_place : FT := fun ss k => ∃ (c : ClkL) (row : List Nat), ss = [.d (dClk c), .d (dNats row)] ∧ (WfC c) ∧ (RowIn (csizes c) row) ∧ k (.d (nI (rowNoF 0 (csizes c) row))) ss
theorem mono_F_table_place : MonoF (F_table_place) := by
  rintro ss k k' hmono ⟨c, row, hss, wf, hr, q⟩
  exact ⟨c, row, hss, wf, hr, hmono _ _ q⟩
@[simp] theorem c_table_place {c : ClkL} {row : List Nat} {k : Sl → List Sl → Prop} : F_table_place [.d (dClk c), .d (dNats row)] k = ((WfC c) ∧ (RowIn (csizes c) row) ∧ (k (.d (nI (rowNoF 0 (csizes c) row))) [.d (dClk c), .d (dNats row)])) := by
  simp [F_table_place, and_assoc]
/-- table_place: slots 0 clocks 1 row 2 place 3 person -/
def W_table_place : ST := (sSeq (sSet 2 (eC (.int 0)))
    (sSeq (sForW [3] (iRg1 (eCall F_person_count (.e (eVar 0) :: []))) (gN 3) (sSet 2 (eBin addD (eBin mulD (eVar 2) (eCB lenD (aCons (eCall F_ck_worths_of (.e (eVar 0) :: (.e (eVar 3) :: []))) aNil))) (eIdxV 1 (eVar 3)))))
    (sRet (eVar 2))))
theorem ok_table_place : BodyOk 4 (W_table_place) (F_table_place) := by
  rintro _ k ⟨c, row, rfl, wf, hr, q⟩
  simp [W_table_place, entry, rgD_nat, wf.rg]
  refine lw_rg (fun i => [.d (dClk c), .d (dNats row), .d (nI (rowNoF 0 ((csizes c).take i) (row.take i))), .non]) rfl ?_ (fun i hi N hN => ?_)
  · have e1 : (csizes c).take c.persons.length = csizes c := by rw [← csizes_len, List.take_length]
    have e2 : row.take c.persons.length = row := by rw [← csizes_len, ← hr.len, List.take_length]
    simp only [e1, e2]
    simpa using q
  · obtain ⟨e1, P, e2, e3, e4, e5⟩ := csz_at hi
    obtain ⟨r, f4, f5⟩ := hr.at e1
    have h8 := wf.csz_le i
    have t1 : (csizes c).take (i + 1) = (csizes c).take i ++ [csz c i] := by rw [List.take_succ, e1]; rfl
    have t2 : row.take (i + 1) = row.take i ++ [r] := by rw [List.take_succ, f4]; rfl
    rw [t1, t2, rowNoF_snoc (by rw [List.length_take, List.length_take, hr.len])] at hN
    simp [e2, ← e3, mul_nat (show csz c i ≤ 100000 by omega), f4]
    simpa [nI, Int.natCast_add, Int.natCast_mul] using hN
def F_winners_at : FT := fun ss k => ∃ (c : ClkL) (row : List Nat), ss = [.d (dClk c), .d (dNats row)] ∧ (WfC c) ∧ (RowIn (csizes c) row) ∧ k (.d (dNats (winAt c row))) ss
theorem mono_F_winners_at : MonoF (F_winners_at) := by
  rintro ss k k' hmono ⟨c, row, hss, wf, hr, q⟩
  exact ⟨c, row, hss, wf, hr, hmono _ _ q⟩
@[simp] theorem c_winners_at {c : ClkL} {row : List Nat} {k : Sl → List Sl → Prop} : F_winners_at [.d (dClk c), .d (dNats row)] k = ((WfC c) ∧ (RowIn (csizes c) row) ∧ (k (.d (dNats (winAt c row))) [.d (dClk c), .d (dNats row)])) := by
  simp [F_winners_at, and_assoc]
/-- winners_at: slots 0 clocks 1 row -/
def W_winners_at : ST := (sRet (eBin idxS (eIdxV 0 (eC (.int 2))) (eCall F_table_place (.e (eVar 0) :: (.e (eVar 1) :: [])))))
theorem ok_winners_at : BodyOk 2 (W_winners_at) (F_winners_at) := by
  rintro _ k ⟨c, row, rfl, wf, hr, q⟩
  simp [W_winners_at, entry, wf, hr, (wf.winAt hr).1]
  exact q
def F_wins_at : FT := fun ss k => ∃ (c : ClkL) (row : List Nat) (p : Nat), ss = [.d (dClk c), .d (dNats row), .d (nI p)] ∧ (WfC c) ∧ (RowIn (csizes c) row) ∧ k (.d (.bool ((winAt c row).contains p))) ss
theorem mono_F_wins_at : MonoF (F_wins_at) := by
  rintro ss k k' hmono ⟨c, row, p, hss, wf, hr, q⟩
  exact ⟨c, row, p, hss, wf, hr, hmono _ _ q⟩
@[simp] theorem c_wins_at {c : ClkL} {row : List Nat} {p : Nat} {k : Sl → List Sl → Prop} : F_wins_at [.d (dClk c), .d (dNats row), .d (nI p)] k = ((WfC c) ∧ (RowIn (csizes c) row) ∧ (k (.d (.bool ((winAt c row).contains p))) [.d (dClk c), .d (dNats row), .d (nI p)])) := by
  simp [F_wins_at, and_assoc]
/-- wins_at: slots 0 clocks 1 row 2 person -/
def W_wins_at : ST := (sRet (eBin (inD false) (eVar 2) (eCall F_winners_at (.e (eVar 0) :: (.e (eVar 1) :: [])))))
theorem ok_wins_at : BodyOk 3 (W_wins_at) (F_wins_at) := by
  rintro _ k ⟨c, row, p, rfl, wf, hr, q⟩
  simp [W_wins_at, entry, wf, hr]
  simpa using q
def F_clock_whole : FT := fun ss k => ∃ (c : ClkL), ss = [.d (dClk c)] ∧ (WfC c) ∧ k (.d (dBox (ranges (csizes c)))) ss
theorem mono_F_clock_whole : MonoF (F_clock_whole) := by
  rintro ss k k' hmono ⟨c, hss, wf, q⟩
  exact ⟨c, hss, wf, hmono _ _ q⟩
@[simp] theorem c_clock_whole {c : ClkL} {k : Sl → List Sl → Prop} : F_clock_whole [.d (dClk c)] k = ((WfC c) ∧ (k (.d (dBox (ranges (csizes c)))) [.d (dClk c)])) := by
  simp [F_clock_whole, and_assoc]
/-- clock_whole: slots 0 clocks 1 many -/
def W_clock_whole : ST := (sRet (eCB tupD (aCons (eLC (iSeq (eCall F_table_sizes (.e (eVar 0) :: []))) (gN 1) bYes (eTupRg (eVar 1)) [1]) aNil)))
theorem ok_clock_whole : BodyOk 2 (W_clock_whole) (F_clock_whole) := by
  rintro _ k ⟨c, rfl, wf, q⟩
  simp [W_clock_whole, entry, wf]
  refine lc_mapA (fun n => dNats (List.range n)) (by simp) (fun n hn N M hN => ?_) ?_
  · have := wf.sz n hn
    simp [rgD_nat, rgB_nat (show n ≤ 16777216 by omega)]
    exact hN
  · simpa [dBox, ranges, Function.comp_def] using q
def unlikeW (c : ClkL) (b : List (List Nat)) : Option (List Nat × List Nat) := (comb b).findSome? fun row => if winAt c row = winAt c (firstRow b) then none else some (firstRow b, row)
def dPairO : Option (List Nat × List Nat) → D
  | some (r, s) => dBox [r, s]
  | none => .none
@[simp] theorem isNone_pair {o : Option (List Nat × List Nat)} : isNoneD (dPairO o) = o.isNone := by cases o <;> rfl
def F_unlike_winners : FT := fun ss k => ∃ (c : ClkL) (b : List (List Nat)), ss = [.d (dClk c), .d (dBox b)] ∧ (WfC c) ∧ (BxC c b) ∧ k (.d (dPairO (unlikeW c b))) ss
theorem mono_F_unlike_winners : MonoF (F_unlike_winners) := by
  rintro ss k k' hmono ⟨c, b, hss, wf, hb, q⟩
  exact ⟨c, b, hss, wf, hb, hmono _ _ q⟩
@[simp] theorem c_unlike_winners {c : ClkL} {b : List (List Nat)} {k : Sl → List Sl → Prop} : F_unlike_winners [.d (dClk c), .d (dBox b)] k = ((WfC c) ∧ (BxC c b) ∧ (k (.d (dPairO (unlikeW c b))) [.d (dClk c), .d (dBox b)])) := by
  simp [F_unlike_winners, and_assoc]
/-- unlike_winners: slots 0 clocks 1 box 2 rows 3 first 4 row -/
def W_unlike_winners : ST := (sSeq (sSet 2 (eCall F_rows_of (.e (eVar 1) :: [])))
    (sSeq (sSet 3 (eCall F_winners_at (.e (eVar 0) :: (.e (eIdxV 2 (eC (.int 0))) :: []))))
    (sSeq (sForW [4] (iSeq (eVar 2)) (gN 4) (sIf (bBin neD (eCall F_winners_at (.e (eVar 0) :: (.e (eVar 4) :: []))) (eVar 3)) (sRet (eTup (aCons (eIdxV 2 (eC (.int 0))) (aCons (eVar 4) aNil)))) sNext))
    (sRet (eC .none)))))
theorem ok_unlike_winners : BodyOk 5 (W_unlike_winners) (F_unlike_winners) := by
  rintro _ k ⟨c, b, rfl, wf, hb, q⟩
  obtain ⟨f1, f2⟩ := first_at hb.ne
  simp [W_unlike_winners, entry, hb.l4 wf]
  refine ⟨hb.l8 wf, ?_⟩
  have i0 : idxD (dBox (comb b)) (.int 0) = some (dNats (firstRow b)) := by
    show atI ((comb b).map dNats) 0 = _
    rw [at_0, List.getElem?_map, f1]
    rfl
  simp [f1, wf, hb.row f2]
  refine lw_find (c := fun row => if winAt c row = winAt c (firstRow b) then none else some (firstRow b, row)) (fun hn => ?_) (fun row hrow N hN hF => ?_)
  · unfold unlikeW at q
    rw [hn] at q
    simpa [dPairO] using q
  · by_cases z : winAt c row = winAt c (firstRow b)
    · simp [wf, hb.row hrow, z]
      exact hN (by simp [z])
    · have := hF (firstRow b, row) (by simp [z])
      unfold unlikeW at q
      rw [this] at q
      simp [wf, hb.row hrow, z, f1]
      exact q
def F_is_settled : FT := fun ss k => ∃ (c : ClkL) (b : List (List Nat)), ss = [.d (dClk c), .d (dBox b)] ∧ (WfC c) ∧ (BxC c b) ∧ k (.d (.bool (unlikeW c b).isNone)) ss
theorem mono_F_is_settled : MonoF (F_is_settled) := by
  rintro ss k k' hmono ⟨c, b, hss, wf, hb, q⟩
  exact ⟨c, b, hss, wf, hb, hmono _ _ q⟩
@[simp] theorem c_is_settled {c : ClkL} {b : List (List Nat)} {k : Sl → List Sl → Prop} : F_is_settled [.d (dClk c), .d (dBox b)] k = ((WfC c) ∧ (BxC c b) ∧ (k (.d (.bool (unlikeW c b).isNone)) [.d (dClk c), .d (dBox b)])) := by
  simp [F_is_settled, and_assoc]
/-- is_settled: slots 0 clocks 1 box -/
def W_is_settled : ST := (sRet (eIsN false (eCall F_unlike_winners (.e (eVar 0) :: (.e (eVar 1) :: [])))))
theorem ok_is_settled : BodyOk 2 (W_is_settled) (F_is_settled) := by
  rintro _ k ⟨c, b, rfl, wf, hb, q⟩
  simp [W_is_settled, entry, wf, hb]
  exact q
def outerK (c : ClkL) (b : List (List Nat)) (p : Nat) : Nat := if upAt c p = true then (partAt b p).headD 0 else (partAt b p).getLastD 0
def outerPts (c : ClkL) (part : List Nat) (p : Nat) : List (List Nat) := if upAt c p = true then [part.take 1, part.drop 1] else [part.dropLast, part.drop (part.length - 1)]
def F_outer_kind : FT := fun ss k => ∃ (c : ClkL) (b : List (List Nat)) (p : Nat), ss = [.d (dClk c), .d (dBox b), .d (nI p)] ∧ (BxC c b) ∧ (p < c.persons.length) ∧ k (.d (nI (outerK c b p))) ss
theorem mono_F_outer_kind : MonoF (F_outer_kind) := by
  rintro ss k k' hmono ⟨c, b, p, hss, hb, hp, q⟩
  exact ⟨c, b, p, hss, hb, hp, hmono _ _ q⟩
@[simp] theorem c_outer_kind {c : ClkL} {b : List (List Nat)} {p : Nat} {k : Sl → List Sl → Prop} : F_outer_kind [.d (dClk c), .d (dBox b), .d (nI p)] k = ((BxC c b) ∧ (p < c.persons.length) ∧ (k (.d (nI (outerK c b p))) [.d (dClk c), .d (dBox b), .d (nI p)])) := by
  simp [F_outer_kind, and_assoc]
/-- outer_kind: slots 0 clocks 1 box 2 person -/
def W_outer_kind : ST := (sSeq (sIf (bTru (eCall F_is_rising (.e (eVar 0) :: (.e (eVar 2) :: [])))) (sRet (eBin idxS (eIdxV 1 (eVar 2)) (eC (.int 0)))) sNext)
    (sRet (eBin idxS (eIdxV 1 (eVar 2)) (eNeg (eC (.int 1))))))
theorem ok_outer_kind : BodyOk 3 (W_outer_kind) (F_outer_kind) := by
  rintro _ k ⟨c, b, p, rfl, hb, hp, q⟩
  obtain ⟨e1, e2, e3⟩ := hb.part hp
  unfold outerK at q
  cases hu : upAt c p with
  | true =>
    simp [hu] at q
    simp [W_outer_kind, entry, hp, hu, e1, ix_head e2]
    simpa using q
  | false =>
    simp [hu] at q
    simp [W_outer_kind, entry, hp, hu, e1, ix_last e2]
    simpa using q
theorem sl_n1 {l : List Nat} : slD none (some 1) (dNats l) = some (.d (dNats (l.take 1))) := by
  simp [dNats, slD, cut_one]
theorem sl_f1 {l : List Nat} : slD (some 1) none (dNats l) = some (.d (dNats (l.drop 1))) := by
  simp [dNats, slD, cut_from1]
theorem sl_m1 {l : List Nat} : slD none (some (-1)) (dNats l) = some (.d (dNats l.dropLast)) := by
  simp [dNats, slD, cut_m1]
theorem sl_l1 {l : List Nat} : slD (some (-1)) none (dNats l) = some (.d (dNats (l.drop (l.length - 1)))) := by
  simp [dNats, slD, cut_last]
def F_outer_parts : FT := fun ss k => ∃ (c : ClkL) (b : List (List Nat)) (p : Nat), ss = [.d (dClk c), .d (dBox b), .d (nI p)] ∧ (BxC c b) ∧ (p < c.persons.length) ∧ k (.d (dBox (outerPts c (partAt b p) p))) ss
theorem mono_F_outer_parts : MonoF (F_outer_parts) := by
  rintro ss k k' hmono ⟨c, b, p, hss, hb, hp, q⟩
  exact ⟨c, b, p, hss, hb, hp, hmono _ _ q⟩
@[simp] theorem c_outer_parts {c : ClkL} {b : List (List Nat)} {p : Nat} {k : Sl → List Sl → Prop} : F_outer_parts [.d (dClk c), .d (dBox b), .d (nI p)] k = ((BxC c b) ∧ (p < c.persons.length) ∧ (k (.d (dBox (outerPts c (partAt b p) p))) [.d (dClk c), .d (dBox b), .d (nI p)])) := by
  simp [F_outer_parts, and_assoc]
/-- outer_parts: slots 0 clocks 1 box 2 person 3 kinds -/
def W_outer_parts : ST := (sSeq (sSet 3 (eIdxV 1 (eVar 2)))
    (sSeq (sIf (bTru (eCall F_is_rising (.e (eVar 0) :: (.e (eVar 2) :: [])))) (sRet (eTup (aCons (eSl (eVar 3) oNone (oSome (eC (.int 1)))) (aCons (eSl (eVar 3) (oSome (eC (.int 1))) oNone) aNil)))) sNext)
    (sRet (eTup (aCons (eSl (eVar 3) oNone (oSome (eNeg (eC (.int 1))))) (aCons (eSl (eVar 3) (oSome (eNeg (eC (.int 1)))) oNone) aNil))))))
theorem ok_outer_parts : BodyOk 4 (W_outer_parts) (F_outer_parts) := by
  rintro _ k ⟨c, b, p, rfl, hb, hp, q⟩
  obtain ⟨e1, e2, e3⟩ := hb.part hp
  unfold outerPts at q
  cases hu : upAt c p with
  | true =>
    simp [hu] at q
    simp [W_outer_parts, entry, hp, hu, e1, sl_n1, sl_f1]
    simpa [dBox] using q
  | false =>
    simp [hu] at q
    simp [W_outer_parts, entry, hp, hu, e1, sl_m1, sl_l1]
    simpa [dBox] using q
def F_is_against : FT := fun ss k => ∃ (c : ClkL) (row : List Nat) (p : Nat), ss = [.d (dClk c), .d (dNats row), .d (nI p)] ∧ (WfC c) ∧ (RowIn (csizes c) row) ∧ (p < c.persons.length) ∧ k (.d (.bool ((winAt c row).contains p == upAt c p))) ss
theorem mono_F_is_against : MonoF (F_is_against) := by
  rintro ss k k' hmono ⟨c, row, p, hss, wf, hr, hp, q⟩
  exact ⟨c, row, p, hss, wf, hr, hp, hmono _ _ q⟩
@[simp] theorem c_is_against {c : ClkL} {row : List Nat} {p : Nat} {k : Sl → List Sl → Prop} : F_is_against [.d (dClk c), .d (dNats row), .d (nI p)] k = ((WfC c) ∧ (RowIn (csizes c) row) ∧ (p < c.persons.length) ∧ (k (.d (.bool ((winAt c row).contains p == upAt c p))) [.d (dClk c), .d (dNats row), .d (nI p)])) := by
  simp [F_is_against, and_assoc]
/-- is_against: slots 0 clocks 1 row 2 person -/
def W_is_against : ST := (sSeq (sIf (bTru (eCall F_is_rising (.e (eVar 0) :: (.e (eVar 2) :: [])))) (sRet (eCall F_wins_at (.e (eVar 0) :: (.e (eVar 1) :: (.e (eVar 2) :: []))))) sNext)
    (sRet (eNot (eCall F_wins_at (.e (eVar 0) :: (.e (eVar 1) :: (.e (eVar 2) :: [])))))))
theorem ok_is_against : BodyOk 3 (W_is_against) (F_is_against) := by
  rintro _ k ⟨c, row, p, rfl, wf, hr, hp, q⟩
  cases hu : upAt c p with
  | true =>
    simp [hu] at q
    simp [W_is_against, entry, hp, hu, wf, hr]
    simpa using q
  | false =>
    simp [hu] at q
    simp [W_is_against, entry, hp, hu, wf, hr]
    simpa using q
def showsB (c : ClkL) (b : List (List Nat)) (p : Nat) (row : List Nat) : Bool := decide (row[p]? = some (outerK c b p)) && ((winAt c row).contains p == upAt c p)
def F_is_showing : FT := fun ss k => ∃ (c : ClkL) (b : List (List Nat)) (p : Nat) (row : List Nat), ss = [.d (dClk c), .d (dBox b), .d (nI p), .d (dNats row)] ∧ (WfC c) ∧ (BxC c b) ∧ (p < c.persons.length) ∧ (RowIn (csizes c) row) ∧ k (.d (.bool (showsB c b p row))) ss
theorem mono_F_is_showing : MonoF (F_is_showing) := by
  rintro ss k k' hmono ⟨c, b, p, row, hss, wf, hb, hp, hr, q⟩
  exact ⟨c, b, p, row, hss, wf, hb, hp, hr, hmono _ _ q⟩
@[simp] theorem c_is_showing {c : ClkL} {b : List (List Nat)} {p : Nat} {row : List Nat} {k : Sl → List Sl → Prop} : F_is_showing [.d (dClk c), .d (dBox b), .d (nI p), .d (dNats row)] k = ((WfC c) ∧ (BxC c b) ∧ (p < c.persons.length) ∧ (RowIn (csizes c) row) ∧ (k (.d (.bool (showsB c b p row))) [.d (dClk c), .d (dBox b), .d (nI p), .d (dNats row)])) := by
  simp [F_is_showing, and_assoc]
/-- is_showing: slots 0 clocks 1 box 2 person 3 row -/
def W_is_showing : ST := (sRet ((eAnd (eBin eqD (eIdxV 3 (eVar 2)) (eCall F_outer_kind (.e (eVar 0) :: (.e (eVar 1) :: (.e (eVar 2) :: []))))) (eCall F_is_against (.e (eVar 0) :: (.e (eVar 3) :: (.e (eVar 2) :: [])))))))
theorem ok_is_showing : BodyOk 4 (W_is_showing) (F_is_showing) := by
  rintro _ k ⟨c, b, p, row, rfl, wf, hb, hp, hr, q⟩
  obtain ⟨r, f4, f5⟩ := hr.at (csz_at hp).1
  unfold showsB at q
  by_cases z : r = outerK c b p
  · simp [f4, z] at q
    simp [W_is_showing, entry, f4, z, wf, hb, hp, hr]
    simpa using q
  · simp [f4, z] at q
    simp [W_is_showing, entry, f4, z, wf, hb, hp, hr]
    simpa using q
def F_showing_row : FT := fun ss k => ∃ (c : ClkL) (b : List (List Nat)) (p : Nat), ss = [.d (dClk c), .d (dBox b), .d (nI p)] ∧ (WfC c) ∧ (BxC c b) ∧ (p < c.persons.length) ∧ k (.d (dRowO ((comb b).find? (showsB c b p)))) ss
theorem mono_F_showing_row : MonoF (F_showing_row) := by
  rintro ss k k' hmono ⟨c, b, p, hss, wf, hb, hp, q⟩
  exact ⟨c, b, p, hss, wf, hb, hp, hmono _ _ q⟩
@[simp] theorem c_showing_row {c : ClkL} {b : List (List Nat)} {p : Nat} {k : Sl → List Sl → Prop} : F_showing_row [.d (dClk c), .d (dBox b), .d (nI p)] k = ((WfC c) ∧ (BxC c b) ∧ (p < c.persons.length) ∧ (k (.d (dRowO ((comb b).find? (showsB c b p)))) [.d (dClk c), .d (dBox b), .d (nI p)])) := by
  simp [F_showing_row, and_assoc]
/-- showing_row: slots 0 clocks 1 box 2 person 3 row -/
def W_showing_row : ST := (sSeq (sForW [3] (iSeq (eCall F_rows_of (.e (eVar 1) :: []))) (gN 3) (sIf (bTru (eCall F_is_showing (.e (eVar 0) :: (.e (eVar 1) :: (.e (eVar 2) :: (.e (eVar 3) :: [])))))) (sRet (eVar 3)) sNext))
    (sRet (eC .none)))
theorem ok_showing_row : BodyOk 4 (W_showing_row) (F_showing_row) := by
  rintro _ k ⟨c, b, p, rfl, wf, hb, hp, q⟩
  simp [W_showing_row, entry, hb.l4 wf]
  refine ⟨hb.l8 wf, ?_⟩
  refine lw_find (c := fun row => if showsB c b p row = true then some row else none) (fun hn => ?_) (fun row hrow N hN hF => ?_)
  · have : (comb b).find? (showsB c b p) = none := by
      rw [List.findSome?_eq_none_iff] at hn
      rw [List.find?_eq_none]
      intro x hx hz
      have := hn x hx
      rw [if_pos hz] at this
      cases this
    rw [this] at q
    simpa [dRowO] using q
  · have e : (comb b).findSome? (fun row => if showsB c b p row = true then some row else none) = (comb b).find? (showsB c b p) := by
      rw [List.find?_eq_findSome?_guard]
      rfl
    cases z : showsB c b p row with
    | true =>
      have := hF row (by simp [z])
      rw [e] at this
      rw [this] at q
      simp [wf, hb, hp, hb.row hrow, z]
      exact q
    | false =>
      simp [wf, hb, hp, hb.row hrow, z]
      exact hN (by simp [z])
def F_has_choice : FT := fun ss k => ∃ (b : List (List Nat)) (p : Nat), ss = [.d (dBox b), .d (nI p)] ∧ (p < b.length) ∧ k (.d (.bool (decide (1 < (partAt b p).length)))) ss
theorem mono_F_has_choice : MonoF (F_has_choice) := by
  rintro ss k k' hmono ⟨b, p, hss, hp, q⟩
  exact ⟨b, p, hss, hp, hmono _ _ q⟩
@[simp] theorem c_has_choice {b : List (List Nat)} {p : Nat} {k : Sl → List Sl → Prop} : F_has_choice [.d (dBox b), .d (nI p)] k = ((p < b.length) ∧ (k (.d (.bool (decide (1 < (partAt b p).length)))) [.d (dBox b), .d (nI p)])) := by
  simp [F_has_choice, and_assoc]
/-- has_choice: slots 0 box 1 person -/
def W_has_choice : ST := (sRet (eBin gtD (eCB lenD (aCons (eIdxV 0 (eVar 1)) aNil)) (eC (.int 1))))
theorem ok_has_choice : BodyOk 2 (W_has_choice) (F_has_choice) := by
  rintro _ k ⟨b, p, rfl, hp, q⟩
  have e := List.getElem?_eq_getElem hp
  have e2 : partAt b p = b[p] := by
    unfold partAt
    rw [e]
    rfl
  rw [e2] at q
  simp [W_has_choice, entry, e]
  simpa using q
def clockParts (c : ClkL) (b : List (List Nat)) (p : Nat) : Option (List (List Nat)) := if (partAt b p).length ≤ 1 then none else if (comb b).any (showsB c b p) = true then none else some (outerPts c (partAt b p) p)
def dBoxO : Option (List (List Nat)) → D
  | some b => dBox b
  | none => .none
@[simp] theorem isNone_box {o : Option (List (List Nat))} : isNoneD (dBoxO o) = o.isNone := by cases o <;> rfl
@[simp] theorem isNone_row {o : Option (List Nat)} : isNoneD (dRowO o) = o.isNone := by cases o <;> rfl
theorem find_any {α : Type} {l : List α} {f : α → Bool} : (l.find? f).isNone = !l.any f := by
  rw [Bool.eq_iff_iff]
  simp
def F_clock_parts : FT := fun ss k => ∃ (c : ClkL) (b : List (List Nat)) (p : Nat), ss = [.d (dClk c), .d (dBox b), .d (nI p)] ∧ (WfC c) ∧ (BxC c b) ∧ (p < c.persons.length) ∧ k (.d (dBoxO (clockParts c b p))) ss
theorem mono_F_clock_parts : MonoF (F_clock_parts) := by
  rintro ss k k' hmono ⟨c, b, p, hss, wf, hb, hp, q⟩
  exact ⟨c, b, p, hss, wf, hb, hp, hmono _ _ q⟩
@[simp] theorem c_clock_parts {c : ClkL} {b : List (List Nat)} {p : Nat} {k : Sl → List Sl → Prop} : F_clock_parts [.d (dClk c), .d (dBox b), .d (nI p)] k = ((WfC c) ∧ (BxC c b) ∧ (p < c.persons.length) ∧ (k (.d (dBoxO (clockParts c b p))) [.d (dClk c), .d (dBox b), .d (nI p)])) := by
  simp [F_clock_parts, and_assoc]
/-- clock_parts: slots 0 clocks 1 box 2 person -/
def W_clock_parts : ST := (sSeq (sIf (bNot (bTru (eCall F_has_choice (.e (eVar 1) :: (.e (eVar 2) :: []))))) (sRet (eC .none)) sNext)
    (sSeq (sIf (bIsN true (eCall F_showing_row (.e (eVar 0) :: (.e (eVar 1) :: (.e (eVar 2) :: []))))) (sRet (eC .none)) sNext)
    (sRet (eCall F_outer_parts (.e (eVar 0) :: (.e (eVar 1) :: (.e (eVar 2) :: [])))))))
theorem ok_clock_parts : BodyOk 3 (W_clock_parts) (F_clock_parts) := by
  rintro _ k ⟨c, b, p, rfl, wf, hb, hp, q⟩
  have hp2 : p < b.length := by rw [hb.len]; exact hp
  unfold clockParts at q
  by_cases z : (partAt b p).length ≤ 1
  · simp [z] at q
    simp [W_clock_parts, entry, hp2, show ¬ 1 < (partAt b p).length by omega]
    simpa [dBoxO] using q
  · cases z2 : (comb b).any (showsB c b p) with
    | true =>
      rw [if_neg z, if_pos z2] at q
      simp [W_clock_parts, entry, hp2, show 1 < (partAt b p).length by omega, wf, hb, hp, find_any, z2]
      exact q
    | false =>
      rw [if_neg z, if_neg (by rw [z2]; simp)] at q
      simp [W_clock_parts, entry, hp2, show 1 < (partAt b p).length by omega, wf, hb, hp, find_any, z2]
      exact q
end Dl

set_option Elab.async false
set_option linter.all false
set_option maxRecDepth 100000
set_option autoImplicit false
set_option maxHeartbeats 2000000
namespace Dl
open PySem PySem.Spec PyProof.Rows L2

/-! ### the clock laws' shared defs -/
def F__law_bool : FT := fun ss k => ∃ (a b : Bool), ss = [.d (.bool a), .d (.bool b)] ∧ k (.d (.bool (a == b))) ss
theorem mono_F__law_bool : MonoF (F__law_bool) := by
  rintro ss k k' hmono ⟨a, b, hss, q⟩
  exact ⟨a, b, hss, hmono _ _ q⟩
@[simp] theorem c__law_bool {a b : Bool} {k : Sl → List Sl → Prop} : F__law_bool [.d (.bool a), .d (.bool b)] k = ((k (.d (.bool (a == b))) [.d (.bool a), .d (.bool b)])) := by
  simp [F__law_bool, and_assoc]
/-- _law_bool: slots 0 told 1 due -/
def W__law_bool : ST := (sSeq (sIf (bTruV 1) (sRet (eIsB false true (eVar 0))) sNext)
    (sRet (eIsB false false (eVar 0))))
theorem ok__law_bool : BodyOk 2 (W__law_bool) (F__law_bool) := by
  rintro _ k ⟨a, b, rfl, q⟩
  cases a <;> cases b <;> simpa [W__law_bool, entry] using q
/-! ### same data -/
mutual
def szD : D → Nat
  | .list xs => szA xs + 1
  | .tuple xs => szA xs + 1
  | .none => 1
  | .bool _ => 1
  | .int _ => 1
  | .str _ => 1
  | .dict _ => 1
def szA : List D → Nat
  | [] => 0
  | x :: xs => szD x + szA xs
end
mutual
def smD : D → Bool
  | .tuple xs => smA xs
  | .none => true
  | .int _ => true
  | .str _ => true
  | .list _ => false
  | .bool _ => false
  | .dict _ => false
def smA : List D → Bool
  | [] => true
  | x :: xs => smD x && smA xs
end
theorem szD_pos (x : D) : 1 ≤ szD x := by cases x <;> simp [szD]
theorem szA_app : ∀ a b : List D, szA (a ++ b) = szA a + szA b
  | [], b => by simp [szA]
  | x :: a, b => by simp only [List.cons_append, szA, szA_app a b]; omega
theorem szA_len : ∀ a : List D, a.length ≤ szA a
  | [] => by simp [szA]
  | x :: a => by
    have := szA_len a
    have := szD_pos x
    simp only [List.length_cons, szA]
    omega
theorem smA_all : ∀ {a : List D}, smA a = true ↔ ∀ x ∈ a, smD x = true
  | [] => by simp [smA]
  | x :: a => by simp [smA, smA_all]
def dTwin (x : D) : D := .tuple [x, x]
@[simp] theorem gT_twin {x : D} {i j : Nat} {kg : Rho → Prop} {ρ : Rho} : gT 2 (gsC (gN i) (gsC (gN j) gsN)) (dTwin x) ρ kg = kg ((ρ.set i (.d x)).set j (.d x)) := by simp [dTwin]
def F__law_same : FT := fun ss k => ∃ (x : D), ss = [.d (x), .d (x)] ∧ (smD x = true) ∧ (szD x ≤ 1000000) ∧ k (.d (.bool true)) ss
theorem mono_F__law_same : MonoF (F__law_same) := by
  rintro ss k k' hmono ⟨x, hss, hx, hs, q⟩
  exact ⟨x, hss, hx, hs, hmono _ _ q⟩
@[simp] theorem c__law_same {x : D} {k : Sl → List Sl → Prop} : F__law_same [.d (x), .d (x)] k = ((smD x = true) ∧ (szD x ≤ 1000000) ∧ (k (.d (.bool true)) [.d (x), .d (x)])) := by
  simp [F__law_same, and_assoc]
/-- _law_same: slots 0 told 1 due 2 waiting 3 one 4 other 5 k -/
def W__law_same : ST := (sSeq (sSet 2 (eLst (aCons (eTup (aCons (eVar 0) (aCons (eVar 1) aNil))) aNil)))
    (sSeq (sWhileW [3, 4, 5] (bTruV 2) (sSeq (sAsgT (ePop 2) (gT 2 (gsC (gN 3) (gsC (gN 4) gsN))))
    (sIf (bTru (eIsi "tuple" (eVar 4))) (sSeq (sIf ((bOr (bNot (bTru (eIsi "tuple" (eVar 3)))) (bBin neD (eLenV 3) (eLenV 4)))) (sRet (eC (.bool false))) sNext)
    (sExpr (eExt 2 (eLC (iRg1 (eLenV 4)) (gN 5) bYes (eTup (aCons (eIdxV 3 (eVar 5)) (aCons (eIdxV 4 (eVar 5)) aNil))) [5])))) (sIf (bTru (eIsi "str" (eVar 4))) (sIf ((bOr (bNot (bTru (eIsi "str" (eVar 3)))) (bBin neD (eVar 3) (eVar 4)))) (sRet (eC (.bool false))) sNext) (sIf (bIsN false (eVar 4)) (sIf (bIsN true (eVar 3)) (sRet (eC (.bool false))) sNext) (sIf ((bOr (bNot (bTru (eCall F__law_is_int (.e (eVar 3) :: [])))) (bBin neD (eVar 3) (eVar 4)))) (sRet (eC (.bool false))) sNext))))))
    (sRet (eC (.bool true)))))
theorem ext_len {l : List D} {n : Nat} (h : l.length = n) : (List.range n).map (fun k => dTwin ((l[k]?).getD .none)) = l.map dTwin := by
  subst h
  refine List.ext_getElem? fun i => ?_
  by_cases hi : i < l.length <;> simp [hi]
theorem ok__law_same : BodyOk 6 (W__law_same) (F__law_same) := by
  rintro _ k ⟨x, rfl, hx, hs, q⟩
  simp [W__law_same, entry]
  refine ww_by (β := List D) (fun l => [.d x, .d x, .own false (l.map dTwin), .non, .non, .non]) szA (fun l => smA l = true ∧ szA l ≤ 1000000) [x] rfl ⟨by simpa [smA] using hx, by simpa [szA] using hs⟩ (fun l ⟨h1, h2⟩ N hN => ?_)
  rcases List.eq_nil_or_concat l with rfl | ⟨m, y, rfl⟩
  · simp [truD]
    exact q
  · rw [List.concat_eq_append] at h1 h2 hN ⊢
    have hy : smD y = true := smA_all.mp h1 y (by simp)
    have hm : smA m = true := smA_all.mpr fun z hz => smA_all.mp h1 z (by simp [hz])
    rw [szA_app] at h2 hN
    simp only [szA] at h2 hN
    have hyp := szD_pos y
    have hml := szA_len m
    simp [truD]
    cases y with
    | tuple xs =>
      have hx2 : smA xs = true := by simpa only [smD] using hy
      have hxl := szA_len xs
      simp only [szD] at h2 hN
      simp [rgD_nat, rgB_nat (show xs.length ≤ 16777216 by omega)]
      refine lc_mapA (fun k : Nat => dTwin ((xs[k]?).getD .none)) (by simp) (fun k hk N' M hN' => ?_) ?_
      · have hk' := List.mem_range.mp hk
        simp [at_nat, hk'] at hN' ⊢
        exact hN'
      · rw [List.nil_append, ext_len rfl]
        simp
        refine ⟨by omega, ?_⟩
        rw [← List.map_append]
        refine hN (m ++ xs) ⟨smA_all.mpr fun z hz => ?_, ?_⟩ ?_
        · rcases List.mem_append.mp hz with hz | hz
          · exact smA_all.mp hm z hz
          · exact smA_all.mp hx2 z hz
        · rw [szA_app]; omega
        · rw [szA_app]; omega
    | str z =>
      (try simp)
      exact hN m ⟨hm, by omega⟩ (by omega)
    | none =>
      (try simp)
      exact hN m ⟨hm, by omega⟩ (by omega)
    | int z =>
      (try simp)
      exact hN m ⟨hm, by omega⟩ (by omega)
    | bool z => simp [smD] at hy
    | list z => simp [smD] at hy
    | dict z => simp [smD] at hy
theorem sm_nats (l : List Nat) : smD (dNats l) = true := by
  simp only [dNats, smD]
  exact smA_all.mpr fun x hx => by
    obtain ⟨n, _, rfl⟩ := List.mem_map.mp hx
    rfl
theorem sm_box (b : List (List Nat)) : smD (dBox b) = true := by
  simp only [dBox, smD]
  exact smA_all.mpr fun x hx => by
    obtain ⟨n, _, rfl⟩ := List.mem_map.mp hx
    exact sm_nats n
theorem sz_nats : ∀ l : List Nat, szA (l.map nI) = l.length
  | [] => rfl
  | x :: l => by
    simp only [List.map_cons, szA, sz_nats l, szD, List.length_cons]
    omega
theorem sz_box {c : Nat} : ∀ {b : List (List Nat)}, (∀ p ∈ b, p.length ≤ c) → szA (b.map dNats) ≤ b.length * (c + 1)
  | [], _ => by simp [szA]
  | x :: b, h => by
    have h1 := sz_box fun p hp => h p (List.mem_cons_of_mem x hp)
    have h2 := h x List.mem_cons_self
    simp only [List.map_cons, szA, dNats, szD, sz_nats, List.length_cons, Nat.succ_mul] at h1 ⊢
    omega
theorem sz_dBox {b : List (List Nat)} {n c : Nat} (h : b.length ≤ n) (hc : ∀ p ∈ b, p.length ≤ c) : szD (dBox b) ≤ n * (c + 1) + 1 := by
  have h1 := sz_box hc
  have h2 := Nat.mul_le_mul_right (c + 1) h
  simp only [dBox, szD]
  omega
/-! ### tables -/
theorem rg_len {ms : List Nat} : (ranges ms).length = ms.length := by simp [ranges]
def F__law_table_box : FT := fun ss k => ∃ (c : ClkL), ss = [.d (dClk c)] ∧ (WfC c) ∧ k (.d (dBox (ranges (csizes c)))) ss
theorem mono_F__law_table_box : MonoF (F__law_table_box) := by
  rintro ss k k' hmono ⟨c, hss, wf, q⟩
  exact ⟨c, hss, wf, hmono _ _ q⟩
@[simp] theorem c__law_table_box {c : ClkL} {k : Sl → List Sl → Prop} : F__law_table_box [.d (dClk c)] k = ((WfC c) ∧ (k (.d (dBox (ranges (csizes c)))) [.d (dClk c)])) := by
  simp [F__law_table_box, and_assoc]
/-- _law_table_box: slots 0 clocks 1 person -/
def W__law_table_box : ST := (sRet (eCB tupD (aCons (eLC (iSeq (eIdxV 0 (eC (.int 1)))) (gN 1) bYes (eTupRg (eCB lenD (aCons (eIdxV 1 (eC (.int 2))) aNil))) [1]) aNil)))
theorem ok__law_table_box : BodyOk 2 (W__law_table_box) (F__law_table_box) := by
  rintro _ k ⟨c, rfl, wf, q⟩
  simp [W__law_table_box, entry]
  refine lc_mapA (fun P => dNats (List.range P.worths.length)) (by simp) (fun P hP N M hN => ?_) ?_
  · have := wf.nk P hP
    simp [rgD_nat, rgB_nat (show P.worths.length ≤ 16777216 by omega)]
    exact hN
  · simpa [dBox, ranges, csizes, Function.comp_def] using q
def F__law_place : FT := fun ss k => ∃ (c : ClkL) (row : List Nat), ss = [.d (dClk c), .d (dNats row)] ∧ (WfC c) ∧ (RowIn (csizes c) row) ∧ k (.d (nI (rowNoF 0 (csizes c) row))) ss
theorem mono_F__law_place : MonoF (F__law_place) := by
  rintro ss k k' hmono ⟨c, row, hss, wf, hr, q⟩
  exact ⟨c, row, hss, wf, hr, hmono _ _ q⟩
@[simp] theorem c__law_place {c : ClkL} {row : List Nat} {k : Sl → List Sl → Prop} : F__law_place [.d (dClk c), .d (dNats row)] k = ((WfC c) ∧ (RowIn (csizes c) row) ∧ (k (.d (nI (rowNoF 0 (csizes c) row))) [.d (dClk c), .d (dNats row)])) := by
  simp [F__law_place, and_assoc]
/-- _law_place: slots 0 clocks 1 row 2 place 3 person -/
def W__law_place : ST := (sSeq (sSet 2 (eC (.int 0)))
    (sSeq (sForW [3] (iRg1 (eLenV 1)) (gN 3) (sSet 2 (eBin addD (eBin mulD (eVar 2) (eCB lenD (aCons (eBin idxS (eBin idxS (eIdxV 0 (eC (.int 1))) (eVar 3)) (eC (.int 2))) aNil))) (eIdxV 1 (eVar 3)))))
    (sRet (eVar 2))))
theorem ok__law_place : BodyOk 4 (W__law_place) (F__law_place) := by
  rintro _ k ⟨c, row, rfl, wf, hr, q⟩
  have hl : row.length = c.persons.length := by rw [hr.len, csizes_len]
  simp [W__law_place, entry, rgD_nat, hl, wf.rg]
  refine lw_rg (fun i => [.d (dClk c), .d (dNats row), .d (nI (rowNoF 0 ((csizes c).take i) (row.take i))), .non]) rfl ?_ (fun i hi N hN => ?_)
  · have e1 : (csizes c).take c.persons.length = csizes c := by rw [← csizes_len, List.take_length]
    have e2 : row.take c.persons.length = row := by rw [← hl, List.take_length]
    simp only [e1, e2]
    simpa using q
  · obtain ⟨e1, P, e2, e3, e4, e5⟩ := csz_at hi
    obtain ⟨r, f4, f5⟩ := hr.at e1
    have h8 := wf.csz_le i
    have t1 : (csizes c).take (i + 1) = (csizes c).take i ++ [csz c i] := by rw [List.take_succ, e1]; rfl
    have t2 : row.take (i + 1) = row.take i ++ [r] := by rw [List.take_succ, f4]; rfl
    rw [t1, t2, rowNoF_snoc (by rw [List.length_take, List.length_take, hr.len])] at hN
    simp [at_nat, e2, ← e3, mul_nat (show csz c i ≤ 100000 by omega), f4]
    simpa [nI, Int.natCast_add, Int.natCast_mul] using hN
def F__law_winners : FT := fun ss k => ∃ (c : ClkL) (row : List Nat), ss = [.d (dClk c), .d (dNats row)] ∧ (WfC c) ∧ (RowIn (csizes c) row) ∧ k (.d (dNats (winAt c row))) ss
theorem mono_F__law_winners : MonoF (F__law_winners) := by
  rintro ss k k' hmono ⟨c, row, hss, wf, hr, q⟩
  exact ⟨c, row, hss, wf, hr, hmono _ _ q⟩
@[simp] theorem c__law_winners {c : ClkL} {row : List Nat} {k : Sl → List Sl → Prop} : F__law_winners [.d (dClk c), .d (dNats row)] k = ((WfC c) ∧ (RowIn (csizes c) row) ∧ (k (.d (dNats (winAt c row))) [.d (dClk c), .d (dNats row)])) := by
  simp [F__law_winners, and_assoc]
/-- _law_winners: slots 0 clocks 1 row -/
def W__law_winners : ST := (sRet (eBin idxS (eIdxV 0 (eC (.int 2))) (eCall F__law_place (.e (eVar 0) :: (.e (eVar 1) :: [])))))
theorem ok__law_winners : BodyOk 2 (W__law_winners) (F__law_winners) := by
  rintro _ k ⟨c, row, rfl, wf, hr, q⟩
  simp [W__law_winners, entry, wf, hr, (wf.winAt hr).1]
  exact q
theorem WfC.put {c : ClkL} (wf : WfC c) {n : Nat} {w : List Nat} (hw : w.Sublist (List.range c.persons.length)) : WfC ⟨c.persons, c.wins.set n w⟩ := by
  refine ⟨wf.np, wf.nk, ?_, fun x hx => ?_⟩
  · show (c.wins.set n w).length = prodN (csizes c) ∧ (c.wins.set n w).length ≤ 256
    rw [List.length_set]
    exact wf.nw
  · rcases List.mem_or_eq_of_mem_set (show x ∈ c.wins.set n w from hx) with z | z
    · exact wf.ws x z
    · subst z
      exact hw
theorem fold_clk {ps : List ClkP} {l : List (List Nat)} : PyData.tuple [.str "clocks", .tuple (ps.map dClkP), .tuple (l.map dNats)] = dClk ⟨ps, l⟩ := rfl
def F__law_put_winners : FT := fun ss k => ∃ (c : ClkL) (rows : List (List Nat)) (w : List Nat), ss = [.d (dClk c), .d (.list (rows.map dNats)), .d (dNats w)] ∧ (WfC c) ∧ (∀ row ∈ rows, RowIn (csizes c) row) ∧ (w.Sublist (List.range c.persons.length)) ∧ ∀ c' : ClkL, WfC c' → c'.persons = c.persons → k (.d (dClk c')) ss
theorem mono_F__law_put_winners : MonoF (F__law_put_winners) := by
  rintro ss k k' hmono ⟨c, rows, w, hss, wf, hr, hw, q⟩
  refine ⟨c, rows, w, hss, wf, hr, hw, ?_⟩
  intros; apply hmono; apply q <;> assumption
/-- _law_put_winners: slots 0 clocks 1 rows 2 winners 3 told 4 row -/
def W__law_put_winners : ST := (sSeq (sSet 3 (eCB lstD (aCons (eIdxV 0 (eC (.int 2))) aNil)))
    (sSeq (sForW [4] (iSeq (eVar 1)) (gN 4) (sPutL 3 (eCall F__law_place (.e (eVar 0) :: (.e (eVar 4) :: []))) (eVar 2)))
    (sRet (eTup (aCons (eC (.str "clocks")) (aCons (eIdxV 0 (eC (.int 1))) (aCons (eCB tupD (aCons (eVar 3) aNil)) aNil)))))))
theorem ok__law_put_winners : BodyOk 5 (W__law_put_winners) (F__law_put_winners) := by
  rintro _ k ⟨c, rows, w, rfl, wf, hr, hw, q⟩
  simp [W__law_put_winners, entry]
  have hlst : lstD [dBox c.wins] = some (.own false (c.wins.map dNats)) := rfl
  simp [hlst]
  refine lw_nd (fun l : List (List Nat) => [.d (dClk c), .d (.list (rows.map dNats)), .d (dNats w), .own false (l.map dNats), .non]) (fun _ l => WfC ⟨c.persons, l⟩) c.wins rfl wf (fun l hl => ?_) (fun pre row post e l hl N hN => ?_)
  · simp [fold_clk]
    exact q ⟨c.persons, l⟩ hl rfl
  · have hrow := hr row (by rw [e]; simp)
    have h1 := rowNoF_lt (pl := 0) hrow
    rw [Nat.zero_add, Nat.one_mul] at h1
    have h2 : l.length = prodN (csizes c) := hl.nw.1
    simp [wf, hrow, ix_nat (show rowNoF 0 (csizes c) row < l.length by omega)]
    have := hN (l.set (rowNoF 0 (csizes c) row) w) (hl.put hw)
    simpa [List.map_set] using this
def F__law_put_wins : FT := fun ss k => ∃ (c : ClkL) (rows : List (List Nat)) (p : Nat) (wins : Bool), ss = [.d (dClk c), .d (.list (rows.map dNats)), .d (nI p), .d (.bool wins)] ∧ (WfC c) ∧ (∀ row ∈ rows, RowIn (csizes c) row) ∧ (p < c.persons.length) ∧ ∀ c' : ClkL, WfC c' → c'.persons = c.persons → k (.d (dClk c')) ss
theorem mono_F__law_put_wins : MonoF (F__law_put_wins) := by
  rintro ss k k' hmono ⟨c, rows, p, wins, hss, wf, hr, hp, q⟩
  refine ⟨c, rows, p, wins, hss, wf, hr, hp, ?_⟩
  intros; apply hmono; apply q <;> assumption
/-- _law_put_wins: slots 0 clocks 1 rows 2 person 3 wins 4 told 5 row 6 place 7 others 8 other -/
def W__law_put_wins : ST := (sSeq (sSet 4 (eCB lstD (aCons (eIdxV 0 (eC (.int 2))) aNil)))
    (sSeq (sForW [5, 6, 7, 8] (iSeq (eVar 1)) (gN 5) (sSeq (sSet 6 (eCall F__law_place (.e (eVar 0) :: (.e (eVar 5) :: []))))
    (sSeq (sSet 7 (eLC (iSeq (eIdxV 4 (eVar 6))) (gN 8) (bBin neD (eVar 8) (eVar 2)) (eVar 8) [8]))
    (sSeq (sIf (bTruV 3) (sExpr (eApp 7 (eVar 2))) sNext)
    (sPutL 4 (eVar 6) (eCB tupD (aCons (eCB srtD (aCons (eVar 7) aNil)) aNil)))))))
    (sRet (eTup (aCons (eC (.str "clocks")) (aCons (eIdxV 0 (eC (.int 1))) (aCons (eCB tupD (aCons (eVar 4) aNil)) aNil)))))))
theorem ok__law_put_wins : BodyOk 9 (W__law_put_wins) (F__law_put_wins) := by
  rintro _ k ⟨c, rows, p, wins, rfl, wf, hr, hp, q⟩
  simp [W__law_put_wins, entry]
  have hlst : lstD [dBox c.wins] = some (.own false (c.wins.map dNats)) := rfl
  simp [hlst]
  refine lw_nd (fun l : List (List Nat) => [.d (dClk c), .d (.list (rows.map dNats)), .d (nI p), .d (.bool wins), .own false (l.map dNats), .non, .non, .non, .non]) (fun _ l => WfC ⟨c.persons, l⟩) c.wins rfl wf (fun l hl => ?_) (fun pre row post e l hl N hN => ?_)
  · simp [fold_clk]
    exact q ⟨c.persons, l⟩ hl rfl
  · have hrow := hr row (by rw [e]; simp)
    have h1 := rowNoF_lt (pl := 0) hrow
    rw [Nat.zero_add, Nat.one_mul] at h1
    have h2 : l.length = prodN (csizes c) := hl.nw.1
    have h3 : rowNoF 0 (csizes c) row < l.length := by omega
    obtain ⟨w, hw⟩ : ∃ w, l[rowNoF 0 (csizes c) row]? = some w := ⟨_, List.getElem?_eq_getElem h3⟩
    have hws := hl.ws w (List.mem_of_getElem? hw)
    obtain ⟨hw1, hw2⟩ := sub_asc hws
    have hnp := wf.np
    have hwl := hws.length_le
    rw [List.length_range] at hwl
    have hwl2 : w.length ≤ c.persons.length := hwl
    simp [wf, hrow, at_nat, hw]
    refine lc_filA (fun o => o != p) nI (by simp) (fun o ho N' M h1 h2 => ?_) ?_
    · by_cases z : o = p
      · simp [z]
        exact h2 (by simp [z])
      · simp [z]
        exact h1 (by simp [z])
    have hfl : (w.filter fun o => o != p).length ≤ w.length := List.length_filter_le _ _
    have hnd : (w.filter fun o => o != p).Nodup := List.filter_sublist.nodup (hw1.imp fun h => Nat.ne_of_lt h)
    have hlt : ∀ x ∈ w.filter (fun o => o != p), x < c.persons.length := fun x hx => hw2 x (List.mem_filter.mp hx).1
    generalize hv : (w.filter fun o => o != p) = v at hfl hnd hlt
    have hpv : p ∉ v := by
      rw [← hv]
      simp
    cases wins with
    | true =>
      have e1 : v.map nI ++ [nI p] = (v ++ [p]).map nI := by simp
      simp
      rw [e1, srtOk_nats, sortD_nats]
      have hs : (sortN (v ++ [p])).Sublist (List.range c.persons.length) := sortN_sub (List.nodup_append.mpr ⟨hnd, by simp, fun a ha b hb => by
        rw [List.mem_singleton.mp hb]
        exact fun z => hpv (z ▸ ha)⟩) fun x hx => by
        rcases List.mem_append.mp hx with hx | hx
        · exact hlt x hx
        · rw [List.mem_singleton.mp hx]; exact hp
      have := hN (l.set (rowNoF 0 (csizes c) row) (sortN (v ++ [p]))) (hl.put hs)
      simp [ix_nat h3, wf, hrow]
      refine ⟨by omega, ?_⟩
      simpa [List.map_set, dNats] using this
    | false =>
      simp
      rw [srtOk_nats, sortD_nats]
      have hs : (sortN v).Sublist (List.range c.persons.length) := sortN_sub hnd hlt
      have := hN (l.set (rowNoF 0 (csizes c) row) (sortN v)) (hl.put hs)
      simp [ix_nat h3, wf, hrow]
      simpa [List.map_set, dNats] using this
def F__law_outer : FT := fun ss k => ∃ (c : ClkL) (b : List (List Nat)) (p : Nat), ss = [.d (dClk c), .d (dBox b), .d (nI p)] ∧ (BxC c b) ∧ (p < c.persons.length) ∧ k (.d (nI (outerK c b p))) ss
theorem mono_F__law_outer : MonoF (F__law_outer) := by
  rintro ss k k' hmono ⟨c, b, p, hss, hb, hp, q⟩
  exact ⟨c, b, p, hss, hb, hp, hmono _ _ q⟩
@[simp] theorem c__law_outer {c : ClkL} {b : List (List Nat)} {p : Nat} {k : Sl → List Sl → Prop} : F__law_outer [.d (dClk c), .d (dBox b), .d (nI p)] k = ((BxC c b) ∧ (p < c.persons.length) ∧ (k (.d (nI (outerK c b p))) [.d (dClk c), .d (dBox b), .d (nI p)])) := by
  simp [F__law_outer, and_assoc]
/-- _law_outer: slots 0 clocks 1 box 2 person -/
def W__law_outer : ST := (sSeq (sIf (bBin eqD (eBin idxS (eBin idxS (eIdxV 0 (eC (.int 1))) (eVar 2)) (eC (.int 1))) (eC (.str "up"))) (sRet (eBin idxS (eIdxV 1 (eVar 2)) (eC (.int 0)))) sNext)
    (sRet (eBin idxS (eIdxV 1 (eVar 2)) (eNeg (eC (.int 1))))))
theorem ok__law_outer : BodyOk 3 (W__law_outer) (F__law_outer) := by
  rintro _ k ⟨c, b, p, rfl, hb, hp, q⟩
  obtain ⟨e1, e2, e3⟩ := hb.part hp
  obtain ⟨f1, P, f2, f3, f4, f5⟩ := csz_at hp
  unfold outerK at q
  cases hu : P.up with
  | true =>
    simp [f4, hu] at q
    simp [W__law_outer, entry, at_nat, f2, hu, e1, ix_head e2]
    simpa using q
  | false =>
    simp [f4, hu] at q
    simp [W__law_outer, entry, at_nat, f2, hu, e1, ix_last e2]
    simpa using q
def F__law_shows : FT := fun ss k => ∃ (c : ClkL) (b : List (List Nat)) (p : Nat) (row : List Nat), ss = [.d (dClk c), .d (dBox b), .d (nI p), .d (dNats row)] ∧ (WfC c) ∧ (BxC c b) ∧ (p < c.persons.length) ∧ (RowIn (csizes c) row) ∧ k (.d (.bool (showsB c b p row))) ss
theorem mono_F__law_shows : MonoF (F__law_shows) := by
  rintro ss k k' hmono ⟨c, b, p, row, hss, wf, hb, hp, hr, q⟩
  exact ⟨c, b, p, row, hss, wf, hb, hp, hr, hmono _ _ q⟩
@[simp] theorem c__law_shows {c : ClkL} {b : List (List Nat)} {p : Nat} {row : List Nat} {k : Sl → List Sl → Prop} : F__law_shows [.d (dClk c), .d (dBox b), .d (nI p), .d (dNats row)] k = ((WfC c) ∧ (BxC c b) ∧ (p < c.persons.length) ∧ (RowIn (csizes c) row) ∧ (k (.d (.bool (showsB c b p row))) [.d (dClk c), .d (dBox b), .d (nI p), .d (dNats row)])) := by
  simp [F__law_shows, and_assoc]
/-- _law_shows: slots 0 clocks 1 box 2 person 3 row 4 wins -/
def W__law_shows : ST := (sSeq (sSet 4 (eBin (inD false) (eVar 2) (eCall F__law_winners (.e (eVar 0) :: (.e (eVar 3) :: [])))))
    (sSeq (sIf (bBin neD (eIdxV 3 (eVar 2)) (eCall F__law_outer (.e (eVar 0) :: (.e (eVar 1) :: (.e (eVar 2) :: []))))) (sRet (eC (.bool false))) sNext)
    (sRet (eBin eqD (eVar 4) (eBin eqD (eBin idxS (eBin idxS (eIdxV 0 (eC (.int 1))) (eVar 2)) (eC (.int 1))) (eC (.str "up")))))))
theorem ok__law_shows : BodyOk 5 (W__law_shows) (F__law_shows) := by
  rintro _ k ⟨c, b, p, row, rfl, wf, hb, hp, hr, q⟩
  obtain ⟨r, f4, f5⟩ := hr.at (csz_at hp).1
  obtain ⟨f1, P, f2, f3, g4, g5⟩ := csz_at hp
  obtain ⟨_, f6⟩ := List.getElem?_eq_some_iff.mp f2
  unfold showsB at q
  by_cases z : r = outerK c b p
  · simp [f4, z] at q
    simp [W__law_shows, entry, f4, z, wf, hb, hp, hr, at_nat, f2, f6]
    rw [g4] at q
    simpa using q
  · simp [f4, z] at q
    simp [W__law_shows, entry, f4, z, wf, hb, hp, hr]
    simpa using q
def F__law_question : FT := fun ss k => ∃ (c : ClkL) (b : List (List Nat)) (p : Nat), ss = [.d (dClk c), .d (dBox b), .d (nI p)] ∧ (WfC c) ∧ (BxC c b) ∧ (p < c.persons.length) ∧ k (.d (dBoxO (clockParts c b p))) ss
theorem mono_F__law_question : MonoF (F__law_question) := by
  rintro ss k k' hmono ⟨c, b, p, hss, wf, hb, hp, q⟩
  exact ⟨c, b, p, hss, wf, hb, hp, hmono _ _ q⟩
@[simp] theorem c__law_question {c : ClkL} {b : List (List Nat)} {p : Nat} {k : Sl → List Sl → Prop} : F__law_question [.d (dClk c), .d (dBox b), .d (nI p)] k = ((WfC c) ∧ (BxC c b) ∧ (p < c.persons.length) ∧ (k (.d (dBoxO (clockParts c b p))) [.d (dClk c), .d (dBox b), .d (nI p)])) := by
  simp [F__law_question, and_assoc]
/-- _law_question: slots 0 clocks 1 box 2 person 3 kinds 4 row -/
def W__law_question : ST := (sSeq (sSet 3 (eIdxV 1 (eVar 2)))
    (sSeq (sIf (bBin ltD (eLenV 3) (eC (.int 2))) (sRet (eC .none)) sNext)
    (sSeq (sForW [4] (iSeq (eCall F__law_rows (.e (eVar 1) :: []))) (gN 4) (sIf (bTru (eCall F__law_shows (.e (eVar 0) :: (.e (eVar 1) :: (.e (eVar 2) :: (.e (eVar 4) :: [])))))) (sRet (eC .none)) sNext))
    (sSeq (sIf (bBin eqD (eBin idxS (eBin idxS (eIdxV 0 (eC (.int 1))) (eVar 2)) (eC (.int 1))) (eC (.str "up"))) (sRet (eTup (aCons (eSl (eVar 3) oNone (oSome (eC (.int 1)))) (aCons (eSl (eVar 3) (oSome (eC (.int 1))) oNone) aNil)))) sNext)
    (sRet (eTup (aCons (eSl (eVar 3) oNone (oSome (eNeg (eC (.int 1))))) (aCons (eSl (eVar 3) (oSome (eNeg (eC (.int 1)))) oNone) aNil))))))))
theorem ok__law_question : BodyOk 5 (W__law_question) (F__law_question) := by
  rintro _ k ⟨c, b, p, rfl, wf, hb, hp, q⟩
  obtain ⟨e1, e2, e3⟩ := hb.part hp
  obtain ⟨f1, P, f2, f3, f4, f5⟩ := csz_at hp
  unfold clockParts at q
  by_cases z : (partAt b p).length ≤ 1
  · simp [z] at q
    simp [W__law_question, entry, e1, show (partAt b p).length < 2 by omega]
    simpa [dBoxO] using q
  · simp [W__law_question, entry, e1, show ¬ (partAt b p).length < 2 by omega, hb.l4 wf]
    refine ⟨hb.l8 wf, ?_⟩
    rw [if_neg z] at q
    refine lw_find (c := fun row => if showsB c b p row = true then some () else none) (fun hn => ?_) (fun row hrow N hN hF => ?_)
    · have : (comb b).any (showsB c b p) = false := by
        rw [List.any_eq_false]
        intro x hx hz
        have := List.findSome?_eq_none_iff.mp hn x hx
        rw [if_pos hz] at this
        cases this
      rw [if_neg (by rw [this]; simp)] at q
      unfold outerPts at q
      rw [f4] at q
      cases hu : P.up with
      | true =>
        simp [hu] at q
        simp [at_nat, f2, hu, sl_n1, sl_f1]
        simpa [dBox, dBoxO] using q
      | false =>
        simp [hu] at q
        simp [at_nat, f2, hu, sl_m1, sl_l1]
        simpa [dBox, dBoxO] using q
    · cases z2 : showsB c b p row with
      | true =>
        have : (comb b).any (showsB c b p) = true := List.any_eq_true.mpr ⟨row, hrow, z2⟩
        rw [if_pos this] at q
        simp [wf, hb, hp, hb.row hrow, z2]
        exact q
      | false =>
        simp [wf, hb, hp, hb.row hrow, z2]
        exact hN (by simp [z2])
theorem unlike_all {c : ClkL} {b : List (List Nat)} : (unlikeW c b).isNone = (comb b).all fun row => decide (winAt c row = winAt c (firstRow b)) := by
  unfold unlikeW
  rw [Bool.eq_iff_iff, Option.isNone_iff_eq_none, List.findSome?_eq_none_iff, List.all_eq_true]
  refine forall_congr' fun row => forall_congr' fun _ => ?_
  by_cases z : winAt c row = winAt c (firstRow b) <;> simp [z]
def F__law_settled : FT := fun ss k => ∃ (c : ClkL) (b : List (List Nat)), ss = [.d (dClk c), .d (dBox b)] ∧ (WfC c) ∧ (BxC c b) ∧ k (.d (.bool (unlikeW c b).isNone)) ss
theorem mono_F__law_settled : MonoF (F__law_settled) := by
  rintro ss k k' hmono ⟨c, b, hss, wf, hb, q⟩
  exact ⟨c, b, hss, wf, hb, hmono _ _ q⟩
@[simp] theorem c__law_settled {c : ClkL} {b : List (List Nat)} {k : Sl → List Sl → Prop} : F__law_settled [.d (dClk c), .d (dBox b)] k = ((WfC c) ∧ (BxC c b) ∧ (k (.d (.bool (unlikeW c b).isNone)) [.d (dClk c), .d (dBox b)])) := by
  simp [F__law_settled, and_assoc]
/-- _law_settled: slots 0 clocks 1 box 2 rows 3 first 4 row -/
def W__law_settled : ST := (sSeq (sSet 2 (eCall F__law_rows (.e (eVar 1) :: [])))
    (sSeq (sSet 3 (eCall F__law_winners (.e (eVar 0) :: (.e (eIdxV 2 (eC (.int 0))) :: []))))
    (sRet (eCB allD (aCons (eLC (iSeq (eVar 2)) (gN 4) bYes (eBin eqD (eCall F__law_winners (.e (eVar 0) :: (.e (eVar 4) :: []))) (eVar 3)) [4]) aNil)))))
theorem ok__law_settled : BodyOk 5 (W__law_settled) (F__law_settled) := by
  rintro _ k ⟨c, b, rfl, wf, hb, q⟩
  obtain ⟨f1, f2⟩ := first_at hb.ne
  simp [W__law_settled, entry, hb.l4 wf]
  refine ⟨hb.l8 wf, ?_⟩
  simp [f1, wf, hb.row f2]
  refine lc_mapA (fun row => PyData.bool (decide (winAt c row = winAt c (firstRow b)))) (by simp) (fun row hrow N M hN => ?_) ?_
  · simp [wf, hb.row hrow]
    exact hN
  · rw [unlike_all] at q
    simpa [Function.comp_def] using q
/-! ### drawn tables -/
theorem sides_eq : ([.str "up", .str "down"] : List D) = [true, false].map fun u => PyData.str (sideS u) := rfl
def F__law_some : FT := fun ss k => ∃ (n : Nat), ss = [.drw true, .d (nI n)] ∧ (n ≤ 8) ∧ ∀ ws : List Nat, ws.Sublist (List.range n) → k (.d (dNats ws)) ss
theorem mono_F__law_some : MonoF (F__law_some) := by
  rintro ss k k' hmono ⟨n, hss, hn, q⟩
  refine ⟨n, hss, hn, ?_⟩
  intros; apply hmono; apply q <;> assumption
@[simp] theorem c__law_some {n : Nat} {k : Sl → List Sl → Prop} : F__law_some [.drw true, .d (nI n)] k = ((n ≤ 8) ∧ (∀ ws : List Nat, ws.Sublist (List.range n) → k (.d (dNats ws)) [.drw true, .d (nI n)])) := by
  simp [F__law_some, and_assoc]
theorem one_shl {n : Nat} (h : n ≤ 8) : shlD (.int 1) (.int (n : Int)) = some (.d (.int (2 ^ n))) ∧ (0 : Int) < 2 ^ n ∧ (2 : Int) ^ n < 1073741824 := by
  have h2 : (2 : Int) ^ n ≤ 2 ^ 8 := by
    have : (2 : Nat) ^ n ≤ 2 ^ 8 := Nat.pow_le_pow_right (by omega) h
    exact_mod_cast this
  refine ⟨?_, Int.pow_pos (by omega), by omega⟩
  rw [r_shl (by omega) (by omega) (by decide), Int.one_mul, Int.toNat_natCast]
/-- _law_some: slots 0 d 1 many 2 mask 3 person -/
def W__law_some : ST := (sSeq (sSet 2 (eCall F__law_draw (.r 0 :: (.e (eBin shlD (eC (.int 1)) (eVar 1)) :: []))))
    (sRet (eCB tupD (aCons (eLC (iRg1 (eVar 1)) (gN 3) (bTru (eBin bandD (eBin shrD (eVar 2) (eVar 3)) (eC (.int 1)))) (eVar 3) [3]) aNil))))
theorem ok__law_some : BodyOk 4 (W__law_some) (F__law_some) := by
  rintro _ k ⟨n, rfl, hn, q⟩
  simp [W__law_some, entry, (one_shl hn).1, (one_shl hn).2.1, (one_shl hn).2.2]
  intro j hj
  simp only [rgD_nat, rgB_nat (show n ≤ 16777216 by omega), true_and]
  refine lc_sub (g := nI) (by simp) (fun x hx N M h1 h2 => ?_) (fun m hm => ?_)
  · have hsh : shrD (.int (j : Int)) (.int (x : Int)) = some (.d (.int ((j : Int) / 2 ^ x))) := by
      unfold shrD intOp
      simp
    simp [hsh, truD]
    split
    · exact h2
    · exact h1
  · have := q m hm
    simpa [dNats] using this
end Dl

set_option Elab.async false
set_option linter.all false
set_option maxRecDepth 100000
set_option autoImplicit false
set_option maxHeartbeats 2000000
namespace Dl
open PySem PySem.Spec PyProof.Rows L2

/-! ### sizes of hearings -/
theorem leaves_pre (p : List Nat) (ns : List NodeL) : (leavesN (preN p ns)).length = (leavesN ns).length := by
  have e : (isEndN ∘ fun n : NodeL => (p ++ n.1, n.2)) = isEndN := rfl
  unfold leavesN preN
  rw [List.filter_map, List.length_map, e]
theorem leaves_kids (rows : List (List Nat × D × List NodeL)) : (leavesN (kidsN rows)).length = (rows.map fun r => (leavesN r.2.2).length).sum := by
  have key : ∀ (rows : List (List Nat × D × List NodeL)) (k : Nat), (leavesN ((rows.zipIdx k).flatMap fun r => preN [r.2] r.1.2.2)).length = (rows.map fun r => (leavesN r.2.2).length).sum := by
    intro rows
    induction rows with
    | nil => intro k; rfl
    | cons r rows ih =>
      intro k
      rw [List.zipIdx_cons, List.flatMap_cons, List.map_cons, List.sum_cons, ← ih (k + 1)]
      have e : ∀ a b : List NodeL, leavesN (a ++ b) = leavesN a ++ leavesN b := fun a b => List.filter_append _ _
      rw [e, List.length_append, leaves_pre]
  exact key rows 0
theorem prod_set : ∀ {ms : List Nat} {p m x : Nat}, ms[p]? = some m → prodN (ms.set p x) * m = prodN ms * x
  | [], _, _, _, h => by simp at h
  | a :: ms, 0, m, x, h => by
    simp at h
    subst h
    simp only [List.set_cons_zero, prodN]
    rw [Nat.mul_comm x, Nat.mul_assoc, Nat.mul_comm x, ← Nat.mul_assoc, Nat.mul_comm (prodN ms)]
  | a :: ms, p + 1, m, x, h => by
    have := prod_set (ms := ms) (p := p) (m := m) (x := x) (by simpa using h)
    simp only [List.set_cons_succ, prodN]
    rw [Nat.mul_assoc, this, Nat.mul_assoc]
theorem prodN_pos : ∀ {l : List Nat}, (∀ m ∈ l, 0 < m) → 0 < prodN l
  | [], _ => Nat.one_pos
  | a :: l, h => Nat.mul_pos (h a List.mem_cons_self) (prodN_pos fun x hx => h x (List.mem_cons_of_mem _ hx))
theorem sum_le_of {α : Type} {f g : α → Nat} : ∀ {l : List α}, (∀ x ∈ l, f x ≤ g x) → (l.map f).sum ≤ (l.map g).sum
  | [], _ => Nat.le_refl _
  | x :: l, h => by
    have h1 := sum_le_of fun y hy => h y (List.mem_cons_of_mem x hy)
    have h2 := h x List.mem_cons_self
    simp only [List.map_cons, List.sum_cons]
    omega
theorem sum_mul {α : Type} {f : α → Nat} {c : Nat} : ∀ {l : List α}, (l.map fun x => c * f x).sum = c * (l.map f).sum
  | [] => by simp
  | x :: l => by
    simp only [List.map_cons, List.sum_cons]
    rw [sum_mul, Nat.mul_add]
theorem sum_mulr {α : Type} {f : α → Nat} {c : Nat} {l : List α} : (l.map fun x => f x * c).sum = (l.map f).sum * c := by
  rw [Nat.mul_comm, ← sum_mul]
  congr 2
  funext x
  exact Nat.mul_comm _ _
theorem hear_leaves {b : List (List Nat)} {t : D} {ns : List NodeL} (h : IsHear b t ns) : (∀ q ∈ b, q ≠ []) → (leavesN ns).length ≤ prodN (b.map (·.length)) := by
  induction h with
  | leaf b =>
    intro hne
    have : 0 < prodN (b.map (·.length)) := prodN_pos fun m hm => by
      obtain ⟨q, hq, rfl⟩ := List.mem_map.mp hm
      exact List.length_pos_iff.mpr (hne q hq)
    show 1 ≤ _
    omega
  | ask b p part rows hp hs hr ih =>
    intro hne
    rw [ask_leaves, leaves_kids]
    have hm : (b.map (·.length))[p]? = some part.length := by rw [List.getElem?_map, hp]; rfl
    have h2 : 2 ≤ part.length := by
      have h1 : (rows.map (·.1)).length ≤ (rows.map (·.1)).flatten.length := by
        have : ∀ l : List (List Nat), (∀ s ∈ l, s ≠ []) → l.length ≤ l.flatten.length := by
          intro l
          induction l with
          | nil => intro _; simp
          | cons s l ih =>
            intro h
            have h1 := ih fun x hx => h x (List.mem_cons_of_mem _ hx)
            have h2 := List.length_pos_iff.mpr (h s List.mem_cons_self)
            simp only [List.flatten_cons, List.length_append, List.length_cons]
            omega
        exact this _ hs.ne
      have h3 := hs.perm.length_eq
      have h4 := hs.two
      omega
    have h1 : (rows.map fun r => (leavesN r.2.2).length * part.length).sum ≤ (rows.map fun r => prodN (b.map (·.length)) * r.1.length).sum := by
      refine sum_le_of fun r hrm => ?_
      have h3 := ih r hrm fun q hq => by
        rcases List.mem_or_eq_of_mem_set hq with z | z
        · exact hne q z
        · subst z
          exact hs.ne _ (List.mem_map_of_mem hrm)
      rw [List.map_set] at h3
      have h4 := prod_set (x := r.1.length) hm
      calc (leavesN r.2.2).length * part.length ≤ prodN ((b.map (·.length)).set p r.1.length) * part.length := Nat.mul_le_mul_right _ h3
        _ = _ := h4
    rw [sum_mulr, sum_mul] at h1
    have h5 : (rows.map fun r => r.1.length).sum = part.length := by
      rw [← hs.perm.length_eq, List.length_flatten, List.map_map]
      rfl
    rw [h5] at h1
    exact Nat.le_of_mul_le_mul_right h1 (by omega)
theorem hear_size {b : List (List Nat)} {t : D} {ns : List NodeL} (h : IsHear b t ns) (hne : ∀ q ∈ b, q ≠ []) {n : Nat} (hn : prodN (b.map (·.length)) ≤ n) : ns.length ≤ 2 * n := by
  have h1 := hear_len h
  have h2 := hear_leaves h hne
  omega
/-! ### drawn tables -/
def F__law_clock_persons : FT := fun ss k => ∃ (ms : List Nat), ss = [.drw true, .d (dNats ms)] ∧ (SizesOk ms) ∧ ∀ ps : List ClkP, ps.map (·.worths.length) = ms → k (.d (.tuple (ps.map dClkP))) ss
theorem mono_F__law_clock_persons : MonoF (F__law_clock_persons) := by
  rintro ss k k' hmono ⟨ms, hss, hm, q⟩
  refine ⟨ms, hss, hm, ?_⟩
  intros; apply hmono; apply q <;> assumption
@[simp] theorem c__law_clock_persons {ms : List Nat} {k : Sl → List Sl → Prop} : F__law_clock_persons [.drw true, .d (dNats ms)] k = ((SizesOk ms) ∧ (∀ ps : List ClkP, ps.map (·.worths.length) = ms → k (.d (.tuple (ps.map dClkP))) [.drw true, .d (dNats ms)])) := by
  simp [F__law_clock_persons, and_assoc]
/-- _law_clock_persons: slots 0 d 1 sizes 2 names 3 is_great 4 found 5 many 6 side 7 worth 8 gap 9 worths 10 k -/
def W__law_clock_persons : ST := (sSeq (sSet 2 (eCall F__law_pool []))
    (sSeq (sSet 3 (eBin eqD (eCall F__law_draw (.r 0 :: (.e (eC (.int 5)) :: []))) (eC (.int 3))))
    (sSeq (sSet 4 (eLst aNil))
    (sSeq (sForW [5, 6, 7, 8, 9, 10] (iSeq (eVar 1)) (gN 5) (sSeq (sSet 6 (eCall F__law_pick (.r 0 :: (.e (eLst (aCons (eC (.str "up")) (aCons (eC (.str "down")) aNil))) :: []))))
    (sSeq (sSet 7 (eBin subD (eCall F__law_draw (.r 0 :: (.e (eC (.int 9)) :: []))) (eC (.int 6))))
    (sSeq (sSet 8 (eC (.int 3)))
    (sSeq (sIf (bTruV 3) (sSeq (sSet 7 (eBin subD (eC (.int 0)) (eC (.int 1000000))))
    (sSet 8 (eC (.int 285714)))) sNext)
    (sSeq (sSet 9 (eLst aNil))
    (sSeq (sForW [10] (iRg1 (eVar 5)) (gN 10) (sSeq (sExpr (eApp 9 (eVar 7)))
    (sSet 7 (eBin addD (eBin addD (eVar 7) (eC (.int 1))) (eCall F__law_draw (.r 0 :: (.e (eVar 8) :: [])))))))
    (sSeq (sIf (bBin eqD (eCall F__law_draw (.r 0 :: (.e (eC (.int 3)) :: []))) (eC (.int 1))) (sSet 9 (eLC (iRg1 (eVar 5)) (gN 10) bYes (eBin subD (eC (.int 0)) (eIdxV 9 (eBin subD (eBin subD (eVar 5) (eC (.int 1))) (eVar 10)))) [10])) sNext)
    (sExpr (eApp 4 (eTup (aCons (eCall F__law_pop (.r 0 :: (.r 2 :: []))) (aCons (eVar 6) (aCons (eCB tupD (aCons (eVar 9) aNil)) aNil))))))))))))))
    (sRet (eCB tupD (aCons (eVar 4) aNil)))))))
theorem pick_map {α : Type} {k : Sl → List Sl → Prop} {f : α → D} {l : List α} (h0 : l ≠ []) (hl : l.length ≤ 100000) (q : ∀ x ∈ l, k (.d (f x)) [.drw true, .d (.list (l.map f))]) : F__law_pick [.drw true, .d (.list (l.map f))] k := by
  simp
  have := List.length_pos_iff.mpr h0
  exact ⟨by omega, by omega, q⟩
theorem ok__law_clock_persons : BodyOk 11 (W__law_clock_persons) (F__law_clock_persons) := by
  rintro _ k ⟨ms, rfl, hm, q⟩
  have hml := hm.len
  simp [W__law_clock_persons, entry]
  intro j0 hj0
  generalize decide ((j0 : Int) = 3) = great
  refine lw_nd (β := List ClkP × List Str) (fun s => [.drw true, .d (dNats ms), .own false (s.2.map .str), .d (.bool great), .own false (s.1.map dClkP), .non, .non, .non, .non, .non, .non])
    (fun pre s => s.1.map (·.worths.length) = pre ∧ s.2.length + s.1.length = 65) ([], pool) rfl ⟨rfl, by rw [pool_len]; rfl⟩ (fun s ⟨h1, h2⟩ => ?_) (fun pre m post e s ⟨h1, h2⟩ N hN => ?_)
  · simp
    exact q s.1 h1
  obtain ⟨A, l⟩ := s
  have hAl : A.length < 4 := by
    have e1 := congrArg List.length e
    have e2 := congrArg List.length h1
    simp at e1 e2
    omega
  have hm8 := hm.each m (by rw [e]; simp)
  simp [-c__law_pick]
  rw [sides_eq]
  refine pick_map (by simp) (by simp) fun u _ => ?_
  simp
  intro j1 hj1
  have fin : ∀ (gap : Int), 0 < gap → gap < 1073741824 → ∀ w0 : Int, True := fun _ _ _ _ => trivial
  have hlp : 0 < l.length ∧ l.length < 1073741824 := by simp at h2; omega
  split
  all_goals
    simp [rgD_nat, rgB_nat (show m ≤ 16777216 by omega)]
    refine lw_nd (β := List Int × Int) (l := List.range m) (f := nI) (fun s => [.drw true, .d (dNats ms), .own false (l.map .str), .d (.bool great), .own false (A.map dClkP), .d (nI m), .d (.str (sideS u)), .d (.int s.2), _, .own false (s.1.map .int), .non])
      (fun pre s => s.1.length = pre.length) ([], _) rfl rfl (fun s hs => ?_) (fun pre k post e2 s hs N2 hN2 => ?_)
    · obtain ⟨ws, w⟩ := s
      have hws : ws.length = m := by simpa using hs
      simp
      intro j2 hj2
      have last : ∀ ws2 : List Int, ws2.length = m → ∀ (j : Nat) (x : Str), l[j]? = some x → N [.drw true, .d (dNats ms), .own false ((l.map PyData.str).eraseIdx j), .d (.bool great), .own false (A.map dClkP ++ [.tuple [.str x, .str (sideS u), dInts ws2]]), .non, .non, .non, .non, .non, .non] := by
        intro ws2 hw2 j x hx
        have hj := (List.getElem?_eq_some_iff.mp hx).1
        rw [erase_map]
        have h3 := hN (A ++ [⟨x, u, ws2⟩], l.eraseIdx j) ⟨by simp [h1, hw2], by
          have := List.length_eraseIdx_of_lt hj
          simp at h2 ⊢
          omega⟩
        simpa [dClkP] using h3
      split
      · simp only [rgD_nat, rgB_nat (show m ≤ 16777216 by omega), true_and]
        refine lc_mapA (fun k : Nat => PyData.int (0 - (ws[m - 1 - k]?).getD 0)) (by simp) (fun k hk N' M hN' => ?_) ?_
        · have hk' := List.mem_range.mp hk
          have e3 : (m : Int) - 1 - (k : Int) = ((m - 1 - k : Nat) : Int) := by omega
          simp [e3, at_nat, show m - 1 - k < ws.length by omega] at hN' ⊢
          exact hN'
        · have e4 : (List.range m).map (fun k : Nat => PyData.int (0 - (ws[m - 1 - k]?).getD 0)) = ((List.range m).map fun k : Nat => 0 - (ws[m - 1 - k]?).getD 0).map .int := by simp [Function.comp_def]
          rw [List.nil_append, e4]
          have e5 : ((List.range m).map fun k : Nat => 0 - (ws[m - 1 - k]?).getD 0).length = m := by simp
          generalize ((List.range m).map fun k : Nat => 0 - (ws[m - 1 - k]?).getD 0) = ws2 at e5
          simp [hlp]
          refine fun j y hy => ⟨by omega, ?_⟩
          exact last ws2 e5 j y hy
      · simp [hlp]
        refine fun j y hy => ⟨by omega, ?_⟩
        exact last ws hws j y hy
    · obtain ⟨ws, w⟩ := s
      have e3 := congrArg List.length e2
      simp at e3 hs
      simp
      refine ⟨by omega, fun j hj => ?_⟩
      have := hN2 (ws ++ [w], w + 1 + j) (by simp [hs])
      simpa using this
def F__law_wide_sizes : FT := fun ss k => ss = [.drw true] ∧ ∀ ms : List Nat, SizesOk ms → prodN ms ≤ 256 → k (.d (dNats ms)) ss
theorem mono_F__law_wide_sizes : MonoF (F__law_wide_sizes) := by
  rintro ss k k' hmono ⟨hss, q⟩
  refine ⟨hss, ?_⟩
  intros; apply hmono; apply q <;> assumption
@[simp] theorem c__law_wide_sizes  {k : Sl → List Sl → Prop} : F__law_wide_sizes [.drw true] k = ((∀ ms : List Nat, SizesOk ms → prodN ms ≤ 256 → k (.d (dNats ms)) [.drw true])) := by
  simp [F__law_wide_sizes, and_assoc]
def wides : List (List Nat) := [[4, 4, 4, 4], [8, 8, 4], [2, 8, 8, 2], [7, 6, 6], [8, 2, 4, 4], [4, 8, 8]]
theorem wides_ok : ∀ ms ∈ wides, SizesOk ms ∧ prodN ms ≤ 256 := by
  intro ms hms
  simp only [wides, List.mem_cons, List.mem_nil_iff, or_false] at hms
  rcases hms with rfl | rfl | rfl | rfl | rfl | rfl <;> exact ⟨⟨by decide, by decide⟩, by decide⟩
/-- _law_wide_sizes: slots 0 d -/
def W__law_wide_sizes : ST := (sSeq (sIf (bTru (eCall F__law_rare (.r 0 :: (.e (eC (.int 30)) :: [])))) (sRet (eCall F__law_pick (.r 0 :: (.e (eKL [.tuple [.int 4, .int 4, .int 4, .int 4], .tuple [.int 8, .int 8, .int 4], .tuple [.int 2, .int 8, .int 8, .int 2], .tuple [.int 7, .int 6, .int 6], .tuple [.int 8, .int 2, .int 4, .int 4], .tuple [.int 4, .int 8, .int 8]]) :: [])))) sNext)
    (sRet (eCall F__law_sizes (.r 0 :: (.e (eC (.int 64)) :: [])))))
theorem ok__law_wide_sizes : BodyOk 1 (W__law_wide_sizes) (F__law_wide_sizes) := by
  rintro _ k ⟨rfl, q⟩
  simp [W__law_wide_sizes, entry, -c__law_pick]
  refine ⟨fun ms h1 h2 => q ms h1 (by omega), ?_⟩
  refine pick_map (f := dNats) (l := wides) (by simp [wides]) (by simp [wides]) fun ms hms => ?_
  obtain ⟨h1, h2⟩ := wides_ok ms hms
  exact q ms h1 h2
/-- a box inside a box -/
def SubBox (a b : List (List Nat)) : Prop := a.length = b.length ∧ ∀ (i : Nat) (s p : List Nat), a[i]? = some s → b[i]? = some p → s ≠ [] ∧ s.Sublist p
theorem SubBox.snoc {a b : List (List Nat)} {s p : List Nat} (h : SubBox a b) (hs : s ≠ []) (hp : s.Sublist p) : SubBox (a ++ [s]) (b ++ [p]) := by
  refine ⟨by simp [h.1], fun i x y e1 e2 => ?_⟩
  have hl := h.1
  by_cases hi : i < a.length
  · rw [List.getElem?_append_left hi] at e1
    rw [List.getElem?_append_left (by omega)] at e2
    exact h.2 i x y e1 e2
  · have hi2 := (List.getElem?_eq_some_iff.mp e1).1
    simp at hi2
    have : i = a.length := by omega
    subst this
    rw [List.getElem?_append_right (Nat.le_refl _), Nat.sub_self] at e1
    rw [hl, List.getElem?_append_right (Nat.le_refl _), Nat.sub_self] at e2
    cases e1
    cases e2
    exact ⟨hs, hp⟩
theorem BxC.sub {c : ClkL} {a b : List (List Nat)} (hb : BxC c b) (h : SubBox a b) : BxC c a := by
  refine ⟨h.1.trans hb.len, fun i s e => ?_⟩
  have hi : i < b.length := by rw [← h.1]; exact (List.getElem?_eq_some_iff.mp e).1
  have e2 := List.getElem?_eq_getElem hi
  obtain ⟨h1, h2⟩ := h.2 i s _ e e2
  exact ⟨h1, h2.trans (hb.each i _ e2).2⟩
theorem BxC.whole {c : ClkL} (wf : WfC c) : BxC c (ranges (csizes c)) := by
  refine ⟨by simp [ranges, csizes], fun i s e => ?_⟩
  have hi := (List.getElem?_eq_some_iff.mp e).1
  have hi2 : i < c.persons.length := by simpa [ranges, csizes] using hi
  unfold ranges at e
  rw [List.getElem?_map, (csz_at hi2).1] at e
  cases e
  have h1 := wf.sz _ (List.mem_of_getElem? (csz_at hi2).1)
  refine ⟨?_, List.Sublist.refl _⟩
  intro z
  have := congrArg List.length z
  simp at this
  omega
def F__law_drawn_box : FT := fun ss k => ∃ (b : List (List Nat)), ss = [.drw true, .d (dBox b)] ∧ (b.length ≤ 1000) ∧ (∀ p ∈ b, p ≠ [] ∧ p.length ≤ 1000) ∧ ∀ a, SubBox a b → k (.d (dBox a)) ss
theorem mono_F__law_drawn_box : MonoF (F__law_drawn_box) := by
  rintro ss k k' hmono ⟨b, hss, h4, h8, q⟩
  refine ⟨b, hss, h4, h8, ?_⟩
  intros; apply hmono; apply q <;> assumption
@[simp] theorem c__law_drawn_box {b : List (List Nat)} {k : Sl → List Sl → Prop} : F__law_drawn_box [.drw true, .d (dBox b)] k = (b.length ≤ 1000 ∧ (∀ p ∈ b, p ≠ [] ∧ p.length ≤ 1000) ∧ ∀ a, SubBox a b → k (.d (dBox a)) [.drw true, .d (dBox b)]) := by
  simp [F__law_drawn_box]
/-- _law_drawn_box: slots 0 d 1 box 2 found 3 share 4 some 5 kind -/
def W__law_drawn_box : ST := (sSeq (sSet 2 (eLst aNil))
    (sSeq (sForW [3, 4, 5] (iSeq (eVar 1)) (gN 3) (sSeq (sSet 4 (eCB tupD (aCons (eLC (iSeq (eVar 3)) (gN 5) (bBin gtD (eCall F__law_draw (.r 0 :: (.e (eC (.int 3)) :: []))) (eC (.int 0))) (eVar 5) [5]) aNil)))
    (sSeq (sIf (bBin eqD (eLenV 4) (eC (.int 0))) (sSet 4 (eTup (aCons (eCall F__law_pick (.r 0 :: (.e (eVar 3) :: []))) aNil))) sNext)
    (sExpr (eApp 2 (eVar 4))))))
    (sRet (eCB tupD (aCons (eVar 2) aNil)))))
theorem ok__law_drawn_box : BodyOk 6 (W__law_drawn_box) (F__law_drawn_box) := by
  rintro _ k ⟨b, rfl, h4, h8, q⟩
  simp [W__law_drawn_box, entry]
  refine lw_nd (fun a : List (List Nat) => [.drw true, .d (dBox b), .own false (a.map dNats), .non, .non, .non]) (fun pre a => SubBox a pre) [] rfl ⟨rfl, fun i s p e => by simp at e⟩ (fun a ha => ?_) (fun pre p post e a ha N hN => ?_)
  · simp
    exact q a ha
  · obtain ⟨hp, hpl⟩ := h8 p (by rw [e]; simp)
    have hal := ha.1
    have hel := congrArg List.length e
    simp at hel
    simp
    refine lc_sub (g := nI) (by simp) (fun x hx N' M h1 h2 => ?_) (fun m hm => ?_)
    · simp
      intro j hj
      by_cases z : 0 < j
      · simp [z]
        exact h1
      · simp [show ¬ 0 < j from z]
        exact h2
    · cases m with
      | nil =>
        simp
        have := List.length_pos_iff.mpr hp
        refine ⟨by omega, by omega, fun x hx => ⟨by omega, ?_⟩⟩
        have := hN (a ++ [[x]]) (ha.snoc (by simp) (List.singleton_sublist.mpr hx))
        simpa [dNats] using this
      | cons x m =>
        have e3 : ¬ ((m.length : Int) + 1 = 0) := by omega
        simp [e3]
        refine ⟨by omega, ?_⟩
        have := hN (a ++ [x :: m]) (ha.snoc (by simp) hm)
        simpa [dNats] using this
end Dl

set_option Elab.async false
set_option linter.all false
set_option maxRecDepth 100000
set_option autoImplicit false
set_option maxHeartbeats 2000000
namespace Dl
open PySem PySem.Spec PyProof.Rows L2

theorem sides_map (ps : List ClkP) : ps.map (fun P => PyData.str (sideS P.up)) = (ps.map (·.up)).map fun u => PyData.str (sideS u) := by simp
theorem boxes_map (ps : List ClkP) : PyData.tuple (ps.map fun P => dNats (List.range P.worths.length)) = dBox (ranges (ps.map (·.worths.length))) := by simp [dBox, ranges, Function.comp_def]
theorem wfc_of {ps : List ClkP} {ms : List Nat} {ws : List (List Nat)} (hm : SizesOk ms) (hp : ps.map (·.worths.length) = ms) (hl : ws.length = prodN ms) (h256 : prodN ms ≤ 256) (hw : ∀ w ∈ ws, w.Sublist (List.range ps.length)) : WfC ⟨ps, ws⟩ := by
  have e1 : ps.length = ms.length := by rw [← hp, List.length_map]
  refine ⟨by show 1 ≤ ps.length ∧ ps.length ≤ 4; have := hm.len; omega, fun P hP => hm.each _ (by rw [← hp]; exact List.mem_map_of_mem hP), ⟨?_, by show ws.length ≤ 256; omega⟩, hw⟩
  show ws.length = prodN (ps.map (·.worths.length))
  rw [hp]
  exact hl
theorem comb_ranges_len (ms : List Nat) : (comb (ranges ms)).length = prodN ms := by
  have h := comb_len [] (ranges ms)
  rw [List.nil_append, comb_nil, List.length_singleton, Nat.one_mul] at h
  simpa [ranges, Function.comp_def] using h
theorem rg4 {ms : List Nat} (hm : SizesOk ms) : (ranges ms).length ≤ 4 := by
  have := hm.len
  simp [ranges]
  omega
theorem rg8 {ms : List Nat} (hm : SizesOk ms) : ∀ p ∈ ranges ms, p.length ≤ 8 := by
  intro p hp
  obtain ⟨m, h, rfl⟩ := List.mem_map.mp hp
  simpa using (hm.each m h).2
theorem rg_ne {ms : List Nat} (hm : SizesOk ms) : ∀ p ∈ ranges ms, p ≠ [] := by
  intro p hp
  obtain ⟨m, h, rfl⟩ := List.mem_map.mp hp
  have := (hm.each m h).1
  intro z
  have := congrArg List.length z
  simp at this
  omega
def F__law_scattered : FT := fun ss k => ∃ (ps : List ClkP) (ms : List Nat), ss = [.drw true, .d (.tuple (ps.map dClkP))] ∧ (SizesOk ms) ∧ (ps.map (·.worths.length) = ms) ∧ (prodN ms ≤ 256) ∧ ∀ c : ClkL, WfC c → c.persons = ps → k (.d (dClk c)) ss
theorem mono_F__law_scattered : MonoF (F__law_scattered) := by
  rintro ss k k' hmono ⟨ps, ms, hss, hm, hp, h256, q⟩
  refine ⟨ps, ms, hss, hm, hp, h256, ?_⟩
  intros; apply hmono; apply q <;> assumption
/-- _law_scattered: slots 0 d 1 persons 2 box 3 told 4 last 5 row 6 person -/
def W__law_scattered : ST := (sSeq (sSet 2 (eCB tupD (aCons (eLC (iSeq (eVar 1)) (gN 6) bYes (eTupRg (eCB lenD (aCons (eIdxV 6 (eC (.int 2))) aNil))) [6]) aNil)))
    (sSeq (sSet 3 (eLst aNil))
    (sSeq (sSet 4 (eCall F__law_some (.r 0 :: (.e (eLenV 1) :: []))))
    (sSeq (sForW [5] (iSeq (eCall F__law_rows (.e (eVar 2) :: []))) (gN 5) (sSeq (sIf (bBin gtD (eCall F__law_draw (.r 0 :: (.e (eC (.int 3)) :: []))) (eC (.int 0))) (sSet 4 (eCall F__law_some (.r 0 :: (.e (eLenV 1) :: [])))) sNext)
    (sExpr (eApp 3 (eVar 4)))))
    (sRet (eTup (aCons (eC (.str "clocks")) (aCons (eVar 1) (aCons (eCB tupD (aCons (eVar 3) aNil)) aNil)))))))))
theorem ok__law_scattered : BodyOk 7 (W__law_scattered) (F__law_scattered) := by
  rintro _ k ⟨ps, ms, rfl, hm, hp, h256, q⟩
  simp [W__law_scattered, entry]
  have e1 : ps.length = ms.length := by rw [← hp, List.length_map]
  have hml := hm.len
  have hcl := comb_ranges_len ms
  refine lc_mapA (fun P => dNats (List.range P.worths.length)) (by simp) (fun P hP N M hN => ?_) ?_
  · have := hm.each _ (show P.worths.length ∈ ms by rw [← hp]; exact List.mem_map_of_mem hP)
    simp [rgD_nat, rgB_nat (show P.worths.length ≤ 16777216 by omega)]
    exact hN
  rw [List.nil_append]
  simp
  rw [boxes_map, hp]
  refine ⟨by omega, fun w0 hw0 => ?_⟩
  simp [rg4 hm]
  refine ⟨rg8 hm, ?_⟩
  refine lw_nd (β := List (List Nat) × List Nat) (fun s => [.drw true, .d (.tuple (ps.map dClkP)), .d (dBox (ranges ms)), .own false (s.1.map dNats), .d (dNats s.2), .non, .non]) (fun pre s => s.1.length = pre.length ∧ (∀ w ∈ s.1, w.Sublist (List.range ps.length)) ∧ s.2.Sublist (List.range ps.length)) ([], w0) rfl ⟨rfl, fun w hw => (by cases hw), by simpa using hw0⟩ (fun s ⟨h1, h2, h3⟩ => ?_) (fun pre row post e s ⟨h1, h2, h3⟩ N hN => ?_)
  · simp [fold_clk]
    exact q ⟨ps, s.1⟩ (wfc_of hm hp (by rw [h1, hcl]) h256 h2) rfl
  · obtain ⟨A, last⟩ := s
    have hel := congrArg List.length e
    simp at hel h1
    simp
    intro j hj
    have fin : ∀ w : List Nat, w.Sublist (List.range ps.length) → A.length < 16777216 ∧ N [.drw true, .d (.tuple (ps.map dClkP)), .d (dBox (ranges ms)), .own false (A.map dNats ++ [dNats w]), .d (dNats w), .non, .non] := fun w hw => by
      have := hN (A ++ [w], w) ⟨by simp [h1], fun x hx => by
        rcases List.mem_append.mp hx with hx | hx
        · exact h2 x hx
        · rw [List.mem_singleton.mp hx]; exact hw, hw⟩
      exact ⟨by omega, by simpa using this⟩
    split
    · refine ⟨by omega, fun w hw => ?_⟩
      simpa using fin w hw
    · simpa using fin last h3
/-! ### hearings by clock questions -/
theorem sum_set : ∀ {l : List Nat} {p m x : Nat}, l[p]? = some m → (l.set p x).sum + m = l.sum + x
  | [], _, _, _, h => by simp at h
  | a :: l, 0, m, x, h => by
    simp at h
    subst h
    simp
    omega
  | a :: l, p + 1, m, x, h => by
    have := sum_set (l := l) (p := p) (m := m) (x := x) (by simpa using h)
    simp only [List.set_cons_succ, List.sum_cons]
    omega
theorem parts_up {l : List Nat} (h : 1 < l.length) : PartsOf l [l.take 1, l.drop 1] := by
  refine ⟨by simp, fun s hs => ?_, List.Perm.of_eq ?_⟩
  · rcases List.mem_cons.mp hs with rfl | hs
    · exact List.ne_nil_of_length_pos (by rw [List.length_take]; omega)
    · rw [List.mem_singleton.mp hs]
      exact List.ne_nil_of_length_pos (by rw [List.length_drop]; omega)
  · show l.take 1 ++ (l.drop 1 ++ []) = l
    rw [List.append_nil, List.take_append_drop]
theorem parts_down {l : List Nat} (h : 1 < l.length) : PartsOf l [l.dropLast, l.drop (l.length - 1)] := by
  refine ⟨by simp, fun s hs => ?_, List.Perm.of_eq ?_⟩
  · rcases List.mem_cons.mp hs with rfl | hs
    · exact List.ne_nil_of_length_pos (by rw [List.length_dropLast]; omega)
    · rw [List.mem_singleton.mp hs]
      exact List.ne_nil_of_length_pos (by rw [List.length_drop]; omega)
  · show l.dropLast ++ (l.drop (l.length - 1) ++ []) = l
    rw [List.append_nil, List.dropLast_eq_take, List.take_append_drop]
def F__law_clock_shape (n : Nat) : FT := fun ss k => ∃ (b : List (List Nat)) (us : List Bool) (stop : Int), ss = [.drw true, .d (dBox b), .d (.list (us.map fun u => .str (sideS u))), .d (.int stop)] ∧ (BoxOk b) ∧ (us.length = b.length) ∧ (0 < stop ∧ stop < 1073741824) ∧ ((b.map (·.length)).sum < n) ∧ (n ≤ 100) ∧ ∀ t ns, IsHear b t ns → k (.d t) ss
theorem mono_F__law_clock_shape (n : Nat) : MonoF (F__law_clock_shape n) := by
  rintro ss k k' hmono ⟨b, us, stop, hss, hb, hu, hs, hn, hn2, q⟩
  refine ⟨b, us, stop, hss, hb, hu, hs, hn, hn2, ?_⟩
  intros; apply hmono; apply q <;> assumption
theorem no__law_clock_shape (ss : List Sl) (k : Sl → List Sl → Prop) : ¬ F__law_clock_shape 0 ss k := fun ⟨a, b, c, d, e, f, g, h, i, q⟩ => by omega
/-- _law_clock_shape: slots 0 d 1 box 2 sides 3 stop 4 able 5 person 6 parts 7 rows 8 kinds -/
def W__law_clock_shape (n : Nat) : ST := (sSeq (sSet 4 (eLC (iRg1 (eLenV 1)) (gN 5) (bBin gtD (eCB lenD (aCons (eIdxV 1 (eVar 5)) aNil)) (eC (.int 1))) (eVar 5) [5]))
    (sSeq (sIf ((bOr (bNot (bTruV 4)) (bBin eqD (eCall F__law_draw (.r 0 :: (.e (eVar 3) :: []))) (eC (.int 1))))) (sRet (eTup (aCons (eC (.str "end")) aNil))) sNext)
    (sSeq (sSet 5 (eCall F__law_pick (.r 0 :: (.e (eVar 4) :: []))))
    (sSeq (sSet 6 (eTup (aCons (eSl (eIdxV 1 (eVar 5)) oNone (oSome (eC (.int 1)))) (aCons (eSl (eIdxV 1 (eVar 5)) (oSome (eC (.int 1))) oNone) aNil))))
    (sSeq (sIf (bBin eqD (eIdxV 2 (eVar 5)) (eC (.str "down"))) (sSet 6 (eTup (aCons (eSl (eIdxV 1 (eVar 5)) oNone (oSome (eNeg (eC (.int 1))))) (aCons (eSl (eIdxV 1 (eVar 5)) (oSome (eNeg (eC (.int 1)))) oNone) aNil)))) sNext)
    (sSeq (sSet 7 (eLC (iSeq (eVar 6)) (gN 8) bYes (eTup (aCons (eVar 8) (aCons (eCall (F__law_clock_shape n) (.r 0 :: (.e (eCall F__law_narrowed (.e (eVar 1) :: (.e (eVar 5) :: (.e (eVar 8) :: [])))) :: (.e (eVar 2) :: (.e (eVar 3) :: []))))) aNil))) [8]))
    (sRet (eTup (aCons (eC (.str "ask")) (aCons (eVar 5) (aCons (eCB tupD (aCons (eVar 7) aNil)) aNil)))))))))))
theorem ok__law_clock_shape (n : Nat) : BodyOk 9 (W__law_clock_shape n) (F__law_clock_shape (n + 1)) := by
  rintro _ k ⟨b, us, stop, rfl, hb, hu, hs, hn, hn2, q⟩
  simp [W__law_clock_shape, entry]
  obtain ⟨hs1, hs2⟩ := hs
  have hb4 := hb.len
  simp only [rgD_nat, rgB_nat (show b.length ≤ 16777216 by omega), true_and]
  refine lc_filA (fun p => decide (1 < (partAt b p).length)) nI (by simp) (fun p hp N M h1 h2 => ?_) ?_
  · have hp' := List.mem_range.mp hp
    have e := List.getElem?_eq_getElem hp'
    have e2 : partAt b p = b[p] := by
      unfold partAt
      rw [e]
      rfl
    rw [e2] at h1 h2
    by_cases z : 1 < b[p].length
    · simp [hp', z]
      exact h1 (by simp [z])
    · simp [hp', z]
      exact h2 (by simp [z])
  rw [List.nil_append]
  have hA : ∀ p ∈ (List.range b.length).filter (fun p => decide (1 < (partAt b p).length)), p < b.length ∧ 1 < (partAt b p).length := fun p hp => by
    have := List.mem_filter.mp hp
    exact ⟨List.mem_range.mp this.1, by simpa using this.2⟩
  have hAl : ((List.range b.length).filter (fun p => decide (1 < (partAt b p).length))).length ≤ b.length := by
    refine Nat.le_trans (List.length_filter_le _ _) ?_
    simp
  generalize (List.range b.length).filter (fun p => decide (1 < (partAt b p).length)) = able at hA hAl
  have leaf : ∀ s : List Sl, s = [.drw true, .d (dBox b), .d (.list (us.map fun u => .str (sideS u))), .d (.int stop)] → k (.d (.tuple [.str "end"])) s := fun s e => by
    subst e
    exact q dEndH _ (IsHear.leaf b)
  by_cases hab : able = []
  · subst hab
    simp [truD]
    exact leaf _ rfl
  have habl := List.length_pos_iff.mpr hab
  simp [truD, hab, hs1, hs2]
  intro j hj
  split
  · exact leaf _ rfl
  refine ⟨habl, by omega, fun p hp => ?_⟩
  obtain ⟨hp1, hp2⟩ := hA p hp
  have e := List.getElem?_eq_getElem hp1
  have e2 : partAt b p = b[p] := by
    unfold partAt
    rw [e]
    rfl
  obtain ⟨u, hu1⟩ : ∃ u, us[p]? = some u := ⟨_, List.getElem?_eq_getElem (by omega)⟩
  rw [← e2] at e
  have rest : ∀ (x y : List Nat) (kk : List D → Rho → Prop), PartsOf (partAt b p) [x, y] → (∀ rows : List (List Nat × D × List NodeL), rows.map (·.1) = [x, y] → (∀ r ∈ rows, IsHear (b.set p r.1) r.2.1 r.2.2) → kk (rows.map fun r => .tuple [dNats r.1, r.2.1]) [.drw true, .d (dBox b), .d (.list (us.map fun u => .str (sideS u))), .d (.int stop), .d (.list (able.map nI)), .d (nI p), .d (.tuple [dNats x, dNats y]), .non, .non]) →
      lcW false (gN 8) bYes (eTup (aCons (eVar 8) (aCons (eCall (F__law_clock_shape n) (.r 0 :: (.e (eCall F__law_narrowed (.e (eVar 1) :: (.e (eVar 5) :: (.e (eVar 8) :: [])))) :: (.e (eVar 2) :: (.e (eVar 3) :: []))))) aNil))) [8] [dNats x, dNats y] []
        [.drw true, .d (dBox b), .d (.list (us.map fun u => .str (sideS u))), .d (.int stop), .d (.list (able.map nI)), .d (nI p), .d (.tuple [dNats x, dNats y]), .non, .non] kk := by
    intro x y kk hpt hE
    refine lc_nd (f := dNats) (l := [x, y]) (fun pre (rows : List (List Nat × D × List NodeL)) => rows.map (·.1) = pre ∧ ∀ r ∈ rows, IsHear (b.set p r.1) r.2.1 r.2.2) (fun r => .tuple [dNats r.1, r.2.1]) (by simp) ⟨rfl, fun r hr => by cases hr⟩ (fun pre z post e3 A ⟨h1, h2⟩ N M hN hM => ?_) (fun A ⟨h1, h2⟩ => ?_)
    · have hz : z ∈ [x, y] := by rw [e3]; simp
      obtain ⟨⟨hzl, hzn⟩, hzs⟩ := hpt.sub hz
      have hz0 := hpt.ne z hz
      have hzlt : z.length < (partAt b p).length := by
        have h3 := hpt.perm.length_eq
        have hx0 := List.length_pos_iff.mpr (hpt.ne x (by simp))
        have hy0 := List.length_pos_iff.mpr (hpt.ne y (by simp))
        simp at h3
        simp at hz
        rcases hz with rfl | rfl <;> omega
      have hsum := sum_set (l := b.map (·.length)) (p := p) (m := (partAt b p).length) (x := z.length) (by rw [List.getElem?_map, e]; rfl)
      simp [hp1, show b.length ≤ 1000 by omega]
      refine ⟨b.set p z, us, stop, rfl, hb.set e (List.length_pos_iff.mpr hz0) hzl hzn, by simp [hu], ⟨hs1, hs2⟩, ?_, by omega, fun t ns ht => ?_⟩
      · rw [List.map_set]
        omega
      · simp
        exact hN (z, t, ns) ⟨by simp [h1], fun r hr => by
          rcases List.mem_append.mp hr with hr | hr
          · exact h2 r hr
          · rw [List.mem_singleton.mp hr]; exact ht⟩
    · exact hE A h1 h2
  have fin : ∀ (x y : List Nat) (rows : List (List Nat × D × List NodeL)), PartsOf (partAt b p) [x, y] → rows.map (·.1) = [x, y] → (∀ r ∈ rows, IsHear (b.set p r.1) r.2.1 r.2.2) → k (.d (.tuple [.str "ask", nI p, .tuple (rows.map fun r => .tuple [dNats r.1, r.2.1])])) [.drw true, .d (dBox b), .d (.list (us.map fun u => .str (sideS u))), .d (.int stop)] := by
    intro x y rows hpt h1 h2
    exact q (dAsk p rows) _ (IsHear.ask b p (partAt b p) rows e (by rw [h1]; exact hpt) h2)
  simp [e, sl_n1, sl_f1, at_nat, hu1]
  cases u with
  | true =>
    have pu := parts_up hp2
    rw [List.drop_one] at pu
    simp
    refine rest _ _ _ pu fun rows h1 h2 => ?_
    simp
    exact fin _ _ rows pu h1 h2
  | false =>
    simp [e, sl_m1, sl_l1]
    refine rest _ _ _ (parts_down hp2) fun rows h1 h2 => ?_
    simp
    exact fin _ _ rows (parts_down hp2) h1 h2

/-! ### winners at the leaves -/
theorem walk_step {b' : List (List Nat)} {node : D} {ns' : List NodeL} {a : Nat} {path : List Nat} {bx : List (List Nat)} (h : IsHear b' node ns') (hm : (a :: path, bx, dEndH) ∈ ns') :
    ∃ (p : Nat) (rows : List (List Nat × D × List NodeL)) (r : List Nat × D × List NodeL), node = dAsk p rows ∧ p < b'.length ∧ rows[a]? = some r ∧ IsHear (b'.set p r.1) r.2.1 r.2.2 ∧ (path, bx, dEndH) ∈ r.2.2 := by
  cases h with
  | leaf => simp at hm
  | ask _ p part rows hp hs hr =>
    have hm2 : (a :: path, bx, dEndH) ∈ kidsN rows := by simpa using hm
    obtain ⟨a', r, m, g1, g2, g3⟩ := kids_mem.mp hm2
    have ea : a = a' ∧ path = m.1 ∧ (bx, dEndH) = m.2 := by simpa [and_assoc] using g3
    obtain ⟨rfl, ea1, ea2⟩ := ea
    have em : m = (path, bx, dEndH) := by rw [ea1, ea2]
    subst em
    exact ⟨p, rows, r, rfl, (List.getElem?_eq_some_iff.mp hp).1, g1, hr r (List.mem_of_getElem? g1), g2⟩
def F__law_leaf_winners : FT := fun ss k => ∃ (b : List (List Nat)) (t : D) (ns : List NodeL) (path : List Nat) (bx : List (List Nat)) (us : List Bool), ss = [.drw true, .d (t), .d (dNats path), .d (.list (us.map fun u => .str (sideS u)))] ∧ (IsHear b t ns) ∧ ((path, bx, dEndH) ∈ ns) ∧ (b.length = us.length) ∧ (path.length ≤ 100000) ∧ (us.length ≤ 8) ∧ ∀ ws : List Nat, ws.Sublist (List.range us.length) → k (.d (dNats ws)) ss
theorem mono_F__law_leaf_winners : MonoF (F__law_leaf_winners) := by
  rintro ss k k' hmono ⟨b, t, ns, path, bx, us, hss, ht, hl, hb, hpl, h8, q⟩
  refine ⟨b, t, ns, path, bx, us, hss, ht, hl, hb, hpl, h8, ?_⟩
  intros; apply hmono; apply q <;> assumption
theorem len__law_leaf_winners (ss : List Sl) (k : Sl → List Sl → Prop) (h : F__law_leaf_winners ss k) : ss.length = 4 := by
  obtain ⟨_, _, _, _, _, _, rfl, _⟩ := h
  rfl
/-- _law_leaf_winners: slots 0 d 1 hearing 2 path 3 sides 4 must 5 node 6 at 7 found 8 person 9 wins -/
def W__law_leaf_winners : ST := (sSeq (sSet 4 eNewK)
    (sSeq (sSet 5 (eVar 1))
    (sSeq (sForW [6] (iSeq (eVar 2)) (gN 6) (sSeq (sIf ((bAnd (bBin eqD (eIdxV 3 (eIdxV 5 (eC (.int 1)))) (eC (.str "up"))) (bBin eqD (eVar 6) (eC (.int 0))))) (sPutK 4 (eIdxV 5 (eC (.int 1))) (eC (.bool false))) sNext)
    (sSeq (sIf ((bAnd (bBin eqD (eIdxV 3 (eIdxV 5 (eC (.int 1)))) (eC (.str "down"))) (bBin eqD (eVar 6) (eC (.int 1))))) (sPutK 4 (eIdxV 5 (eC (.int 1))) (eC (.bool true))) sNext)
    (sSet 5 (eBin idxS (eBin idxS (eIdxV 5 (eC (.int 2))) (eVar 6)) (eC (.int 1)))))))
    (sSeq (sSet 7 (eLst aNil))
    (sSeq (sForW [8, 9] (iRg1 (eLenV 3)) (gN 8) (sSeq (sSet 9 (eBin eqD (eCall F__law_draw (.r 0 :: (.e (eC (.int 2)) :: []))) (eC (.int 1))))
    (sSeq (sIf (bInK false (eVar 8) 4) (sSet 9 (eGetK 4 (eVar 8))) sNext)
    (sIf (bTruV 9) (sExpr (eApp 7 (eVar 8))) sNext))))
    (sRet (eCB tupD (aCons (eVar 7) aNil))))))))
theorem ok__law_leaf_winners : BodyOk 10 (W__law_leaf_winners) (F__law_leaf_winners) := by
  rintro _ k ⟨b, t, ns, path, bx, us, rfl, ht, hl, hb, hpl, h8, q⟩
  simp [W__law_leaf_winners, entry]
  refine lw_nd (β := List Key × List D × D) (fun s => [.drw true, .d t, .d (dNats path), .d (.list (us.map fun u => .str (sideS u))), .ownK s.1 s.2.1, .d s.2.2, .non, .non, .non, .non])
    (fun pre s => s.1.length = s.2.1.length ∧ s.1.length ≤ 2 * pre.length ∧ (∀ d ∈ s.2.1, ∃ v : Bool, d = .bool v) ∧ ∃ (b' : List (List Nat)) (ns' : List NodeL), IsHear b' s.2.2 ns' ∧ (path.drop pre.length, bx, dEndH) ∈ ns' ∧ b'.length = us.length)
    ([], [], t) rfl ⟨rfl, Nat.zero_le _, fun d hd => (by cases hd), b, ns, ht, hl, hb⟩ (fun s ⟨h1, h2, h3, _⟩ => ?_) (fun pre a post e s ⟨h1, h2, h3, b', ns', h4, h5, h6⟩ N hN => ?_)
  · obtain ⟨ks, ds, node⟩ := s
    simp [rgD_nat, rgB_nat (show us.length ≤ 16777216 by omega)]
    refine lw_nd (fun ws : List Nat => [.drw true, .d t, .d (dNats path), .d (.list (us.map fun u => .str (sideS u))), .ownK ks ds, .d node, .non, .own false (ws.map nI), .non, .non]) (fun pre ws => ws.Sublist pre) [] rfl (List.Sublist.refl _) (fun ws hws => ?_) (fun pre x post e ws hws N hN => ?_)
    · have := q ws hws
      simpa [dNats] using this
    · have hwl := hws.length_le
      have hel := congrArg List.length e
      simp at hel
      simp
      intro j hj
      have fin : ∀ v : Bool, if v = true then ws.length < 16777216 ∧ N [.drw true, .d t, .d (dNats path), .d (.list (us.map fun u => .str (sideS u))), .ownK ks ds, .d node, .non, .own false (ws.map nI ++ [nI x]), .non, .non] else N [.drw true, .d t, .d (dNats path), .d (.list (us.map fun u => .str (sideS u))), .ownK ks ds, .d node, .non, .own false (ws.map nI), .non, .non] := by
        intro v
        cases v with
        | true =>
          have := hN (ws ++ [x]) (hws.append (List.Sublist.refl _))
          exact ⟨by omega, by simpa using this⟩
        | false => exact hN ws (hws.trans (List.sublist_append_left _ _))
      refine ⟨ks, ds, .inl x, ⟨h1, Or.inl rfl⟩, rfl, ?_⟩
      cases hh : hasK ks (.inl (x : Int)) with
      | false =>
        simp [truD]
        simpa using fin (decide ((j : Int) = 1))
      | true =>
        have hs := isSome_atK (q := .inl (x : Int)) (ks := ks) (vs := ds) h1.symm
        rw [hh] at hs
        obtain ⟨z, hz⟩ := Option.isSome_iff_exists.mp hs
        obtain ⟨v, rfl⟩ := h3 z (atK_mem hz)
        simp
        refine ⟨ks, ds, .inl x, .bool v, ⟨h1, Or.inl rfl⟩, rfl, hz, ?_⟩
        simp [truD]
        simpa using fin v
  · obtain ⟨ks, ds, node⟩ := s
    have ed : path.drop pre.length = a :: path.drop (pre.length + 1) := by
      rw [e]
      simp
    rw [ed] at h5
    obtain ⟨p, rows, r, rfl, hp, hra, hr, hm⟩ := walk_step h4 h5
    obtain ⟨u, hu⟩ : ∃ u, us[p]? = some u := ⟨_, List.getElem?_eq_getElem (by have h6' : b'.length = us.length := h6; omega)⟩
    have hel := congrArg List.length e
    simp at hel h1 h2
    have hgo : ∀ ks' ds', ks'.length = ds'.length → ks'.length ≤ ks.length + 2 → (∀ d ∈ ds', ∃ v : Bool, d = .bool v) → N [.drw true, .d t, .d (dNats path), .d (.list (us.map fun u => .str (sideS u))), .ownK ks' ds', .d r.2.1, .non, .non, .non, .non] := fun ks' ds' g1 g2 g3 =>
      hN (ks', ds', r.2.1) ⟨g1, by simp; omega, g3, b'.set p r.1, r.2.2, hr, by simpa using hm, by simpa using h6⟩
    have hput : ∀ (v : Bool), N [.drw true, .d t, .d (dNats path), .d (.list (us.map fun u => .str (sideS u))), .ownK (putKK ks (.inl p)) (putKV ks ds (.inl p) (.bool v)), .d r.2.1, .non, .non, .non, .non] := fun v =>
      hgo _ _ (putKV_len h1.symm).symm (by have := putKK_le (ks := ks) (q := .inl (p : Int)); omega) (putKV_all h3 ⟨v, rfl⟩)
    have hnone := hgo ks ds h1 (by omega) h3
    cases u with
    | true =>
      by_cases a0 : a = 0
      · subst a0
        simp [ix_ask1, ix_ask2, dRowH, at_nat, hu, hra]
        exact ⟨.inl p, rfl, by omega, hput false⟩
      · simp [ix_ask1, ix_ask2, dRowH, at_nat, hu, hra, a0]
        exact hnone
    | false =>
      by_cases a1 : a = 1
      · subst a1
        simp [ix_ask1, ix_ask2, dRowH, at_nat, hu, hra]
        exact ⟨.inl p, rfl, by omega, hput true⟩
      · have a1' : ¬ ((a : Int) = 1) := by omega
        simp [ix_ask1, ix_ask2, dRowH, at_nat, hu, hra, a1']
        exact hnone
end Dl

set_option Elab.async false
set_option linter.all false
set_option maxRecDepth 100000
set_option autoImplicit false
set_option maxHeartbeats 2000000
namespace Dl
open PySem PySem.Spec PyProof.Rows L2

@[simp] theorem gT_leaf {n : NodeL} {i j : Nat} {kg : Rho → Prop} {ρ : Rho} : gT 2 (gsC (gN i) (gsC (gN j) gsN)) (dLeaf n) ρ kg = kg ((ρ.set i (.d (dNats n.1))).set j (.d (dBox n.2.1))) := by simp [dLeaf]
theorem leaf_mem {b : List (List Nat)} {t : D} {ns : List NodeL} (h : IsHear b t ns) {n : NodeL} (hn : n ∈ leavesN ns) : (n.1, n.2.1, dEndH) ∈ ns := by
  obtain ⟨h1, h2⟩ := List.mem_filter.mp hn
  obtain ⟨p, bx, d⟩ := n
  rcases hear_node h _ h1 with e | ⟨p', rows, e⟩
  · have : d = dEndH := e
    subst this
    exact h1
  · have : d = dAsk p' rows := e
    subst this
    cases h2
theorem leaf_in {ns : List NodeL} {p : List Nat} {bx : List (List Nat)} (h : (p, bx, dEndH) ∈ ns) : (p, bx, dEndH) ∈ leavesN ns := List.mem_filter.mpr ⟨h, rfl⟩
theorem path_len {b : List (List Nat)} {t : D} {ns : List NodeL} (h : IsHear b t ns) : ∀ n ∈ ns, n.1.length < ns.length := by
  induction h with
  | leaf b =>
    intro n hn
    have : n = ([], b, dEndH) := by simpa using hn
    subst this
    simp
  | ask b p part rows hp hs hr ih =>
    intro n hn
    rcases List.mem_cons.mp hn with rfl | hn
    · simp
    · obtain ⟨a, r, m, g1, g2, rfl⟩ := kids_mem.mp hn
      have h1 := ih r (List.mem_of_getElem? g1) m g2
      have h2 := kid_len g1
      simp
      omega
theorem atT_mem {α : Type} {q : List Key} {v : α} : ∀ {ks : List (List Key)} {vs : List α}, atT ks vs q = some v → v ∈ vs := by
  intro ks vs h
  unfold atT at h
  obtain ⟨kv, h1, h2⟩ := map_some h
  rw [← h2]
  exact (List.of_mem_zip (List.mem_of_find?_eq_some h1)).2
theorem sum_le8 : ∀ {l : List Nat}, (∀ m ∈ l, m ≤ 8) → l.sum ≤ 8 * l.length
  | [], _ => by simp
  | x :: l, h => by
    have h1 := sum_le8 fun y hy => h y (List.mem_cons_of_mem x hy)
    have h2 := h x List.mem_cons_self
    simp only [List.sum_cons, List.length_cons]
    omega
def F__law_built : FT := fun ss k => ∃ (ps : List ClkP) (ms : List Nat) (t : D) (ns : List NodeL), ss = [.drw true, .d (.tuple (ps.map dClkP)), .d (t)] ∧ (SizesOk ms) ∧ (ps.map (·.worths.length) = ms) ∧ (prodN ms ≤ 256) ∧ (IsHear (ranges ms) t ns) ∧ ∀ c : ClkL, WfC c → c.persons = ps → k (.d (dClk c)) ss
theorem mono_F__law_built : MonoF (F__law_built) := by
  rintro ss k k' hmono ⟨ps, ms, t, ns, hss, hm, hp, h256, ht, q⟩
  refine ⟨ps, ms, t, ns, hss, hm, hp, h256, ht, ?_⟩
  intros; apply hmono; apply q <;> assumption
/-- _law_built: slots 0 d 1 persons 2 hearing 3 sides 4 box 5 told 6 path 7 leaf 8 person 9 row -/
def W__law_built : ST := (sSeq (sSet 3 (eLC (iSeq (eVar 1)) (gN 8) bYes (eIdxV 8 (eC (.int 1))) [8]))
    (sSeq (sSet 4 (eCB tupD (aCons (eLC (iSeq (eVar 1)) (gN 8) bYes (eTupRg (eCB lenD (aCons (eIdxV 8 (eC (.int 2))) aNil))) [8]) aNil)))
    (sSeq (sSet 5 (eNewT))
    (sSeq (sForW [6, 7] (iSeq (eCall F__law_leaves (.e (eVar 4) :: (.e (eVar 2) :: [])))) (gT 2 (gsC (gN 6) (gsC (gN 7) gsN))) (sPutT 5 (eVar 6) (eCall F__law_leaf_winners (.r 0 :: (.e (eVar 2) :: (.e (eVar 6) :: (.e (eVar 3) :: [])))))))
    (sRet (eTup (aCons (eC (.str "clocks")) (aCons (eVar 1) (aCons (eCB tupD (aCons (eLC (iSeq (eCall F__law_rows (.e (eVar 4) :: []))) (gN 9) bYes (eGetT 5 (eBin idxS (eCall F__law_run (.e (eVar 2) :: (.e (eVar 9) :: []))) (eC (.int 1)))) [9]) aNil)) aNil)))))))))
theorem ok__law_built : BodyOk 10 (W__law_built) (F__law_built) := by
  rintro _ k ⟨ps, ms, t, ns, rfl, hm, hp, h256, ht, q⟩
  simp [W__law_built, entry]
  have e1 : ps.length = ms.length := by rw [← hp, List.length_map]
  have hml := hm.len
  have hcl := comb_ranges_len ms
  have hbx := ranges_ok hm
  have hsz := hear_size ht (rg_ne hm) (n := 256) (by simpa [ranges, Function.comp_def] using h256)
  refine lc_mapA (fun P => PyData.str (sideS P.up)) (by simp) (fun P hP N M hN => ?_) ?_
  · simp
    exact hN
  rw [List.nil_append, sides_map]
  simp
  refine lc_mapA (fun P => dNats (List.range P.worths.length)) (by simp) (fun P hP N M hN => ?_) ?_
  · have := hm.each _ (show P.worths.length ∈ ms by rw [← hp]; exact List.mem_map_of_mem hP)
    simp [rgD_nat, rgB_nat (show P.worths.length ≤ 16777216 by omega)]
    exact hN
  rw [List.nil_append]
  simp
  rw [boxes_map, hp]
  refine ⟨ranges ms, t, ns, rfl, ht, hbx, by omega, ?_⟩
  simp
  have hS : ∀ (l : List ClkP), (l.map ((fun u => PyData.str (sideS u)) ∘ fun P => P.up)) = (l.map (·.up)).map fun u => PyData.str (sideS u) := fun l => by simp
  refine lw_nd (β := List (List Key) × List D × Sl) (fun s => [.drw true, .d (.tuple (ps.map dClkP)), .d t, s.2.2, .d (dBox (ranges ms)), .ownT s.1 s.2.1, .non, .non, .non, .non])
    (fun pre s => s.1.length = s.2.1.length ∧ s.1.length ≤ pre.length ∧ (∀ d ∈ s.2.1, ∃ w : List Nat, d = dNats w ∧ w.Sublist (List.range ps.length)) ∧ (∀ n ∈ pre, ∃ z, atT s.1 s.2.1 (rowKey n.1) = some z) ∧
      (s.2.2 = .own false ((ps.map (·.up)).map fun u => PyData.str (sideS u)) ∨ s.2.2 = .d (.list ((ps.map (·.up)).map fun u => PyData.str (sideS u)))))
    ([], [], .own false ((ps.map (·.up)).map fun u => PyData.str (sideS u))) (by simp) ⟨rfl, Nat.zero_le _, fun d hd => (by cases hd), fun n hn => (by cases hn), Or.inl rfl⟩ (fun s ⟨h1, h2, h3, h4, h5⟩ => ?_) (fun pre n post e s ⟨h1, h2, h3, h4, h5⟩ N hN => ?_)
  · obtain ⟨ks, ds, s3⟩ := s
    simp [rg4 hm]
    refine ⟨rg8 hm, ?_⟩
    refine lc_nd (fun pre (A : List (List Nat)) => A.length = pre.length ∧ ∀ w ∈ A, w.Sublist (List.range ps.length)) dNats (by simp) ⟨rfl, fun w hw => (by cases hw)⟩ (fun pre row post e A ⟨g1, g2⟩ N M hN hM => ?_) (fun A ⟨g1, g2⟩ => ?_)
    · have hro : RowOf (ranges ms) row := mem_comb.mp (by rw [e]; simp)
      simp
      refine ⟨ranges ms, t, ns, row, rfl, ht, hbx, by omega, hro, fun path bx ans hpa hrb => ?_⟩
      obtain ⟨z, hz⟩ := h4 _ (leaf_in hpa)
      obtain ⟨w, rfl, hw⟩ := h3 z (atT_mem hz)
      simp
      refine ⟨ks, ds, ⟨h1, Or.inl rfl⟩, rowKey path, rowKey_d path, dNats w, hz, ?_⟩
      exact hN w ⟨by simp [g1], fun x hx => by
        rcases List.mem_append.mp hx with hx | hx
        · exact g2 x hx
        · rw [List.mem_singleton.mp hx]; exact hw⟩
    · simp [fold_clk]
      exact q ⟨ps, A⟩ (wfc_of hm hp (by rw [g1, hcl]) h256 g2) rfl
  · obtain ⟨ks, ds, s3⟩ := s
    have hnm := leaf_mem ht (n := n) (by rw [e]; simp)
    have hpl := path_len ht _ hnm
    have hll : (leavesN ns).length ≤ ns.length := List.length_filter_le _ _
    have hel := congrArg List.length e
    simp at hel hpl h1 h2
    have go : ∀ w : List Nat, w.Sublist (List.range ps.length) → N [.drw true, .d (.tuple (ps.map dClkP)), .d t, .d (.list ((ps.map (·.up)).map fun u => PyData.str (sideS u))), .d (dBox (ranges ms)), .ownT (putTK ks (rowKey n.1)) (putTV ks ds (rowKey n.1) (dNats w)), .non, .non, .non, .non] := fun w hw =>
      hN (_, _, _) ⟨(putTV_len h1.symm).symm, Nat.le_trans putTK_le (by rw [List.length_append]; simp; omega), putTV_all h3 ⟨w, rfl, hw⟩, fun m hm => by
        show ∃ z, atT (putTK ks (rowKey n.1)) (putTV ks ds (rowKey n.1) (dNats w)) (rowKey m.1) = some z
        rw [at_putT h1.symm]
        by_cases z : rowKey m.1 = rowKey n.1
        · exact ⟨dNats w, if_pos z⟩
        · rw [if_neg z]
          rcases List.mem_append.mp hm with hm | hm
          · exact h4 m hm
          · rw [List.mem_singleton.mp hm] at z
            exact absurd rfl z, Or.inr rfl⟩
    rcases h5 with h5 | h5 <;>
    · have h5' : s3 = _ := h5
      subst h5'
      simp
      refine ⟨ranges ms, t, ns, n.1, n.2.1, ps.map (·.up), by simp, ht, hnm, by simp [ranges, e1], by omega, by simp; omega, fun w hw => ?_⟩
      simp
      refine ⟨rowKey n.1, rowKey_d n.1, by omega, ?_⟩
      simpa using go w (by simpa using hw)
def F__law_clocks : FT := fun ss k => ∃ (ms : List Nat), ss = [.drw true, .d (dNats ms)] ∧ (SizesOk ms) ∧ (prodN ms ≤ 256) ∧ ∀ (c : ClkL) (t : D) (ns : List NodeL), WfC c → csizes c = ms → IsHear (ranges ms) t ns → k (.d (.tuple [dClk c, t])) ss
theorem mono_F__law_clocks : MonoF (F__law_clocks) := by
  rintro ss k k' hmono ⟨ms, hss, hm, h256, q⟩
  refine ⟨ms, hss, hm, h256, ?_⟩
  intros; apply hmono; apply q <;> assumption
@[simp] theorem c__law_clocks {ms : List Nat} {k : Sl → List Sl → Prop} : F__law_clocks [.drw true, .d (dNats ms)] k = (SizesOk ms ∧ prodN ms ≤ 256 ∧ ∀ (c : ClkL) (t : D) (ns : List NodeL), WfC c → csizes c = ms → IsHear (ranges ms) t ns → k (.d (.tuple [dClk c, t])) [.drw true, .d (dNats ms)]) := by
  simp [F__law_clocks]
/-- _law_clocks: slots 0 d 1 sizes 2 persons 3 box 4 hearing 5 way 6 clocks 7 k 8 row 9 person 10 many -/
def W__law_clocks : ST := (sSeq (sSet 2 (eCall F__law_clock_persons (.r 0 :: (.e (eVar 1) :: []))))
    (sSeq (sSet 3 (eCB tupD (aCons (eLC (iSeq (eVar 1)) (gN 10) bYes (eTupRg (eVar 10)) [10]) aNil)))
    (sSeq (sSet 4 (eCall (F__law_clock_shape 40) (.r 0 :: (.e (eVar 3) :: (.e (eLC (iSeq (eVar 2)) (gN 9) bYes (eIdxV 9 (eC (.int 1))) [9]) :: (.e (eCall F__law_pick (.r 0 :: (.e (eLst (aCons (eC (.int 9)) (aCons (eC (.int 3)) (aCons (eC (.int 20)) (aCons (eC (.int 5)) aNil))))) :: []))) :: []))))))
    (sSeq (sSet 5 (eCall F__law_draw (.r 0 :: (.e (eC (.int 6)) :: []))))
    (sSeq (sIf (bBin eqD (eVar 5) (eC (.int 1))) (sRet (eTup (aCons (eCall F__law_scattered (.r 0 :: (.e (eVar 2) :: []))) (aCons (eVar 4) aNil)))) sNext)
    (sSeq (sSet 6 (eCall F__law_built (.r 0 :: (.e (eVar 2) :: (.e (eVar 4) :: [])))))
    (sSeq (sForW [7, 8, 9, 10] (iRg1 (eCB maxD (aCons (eC (.int 0)) (aCons (eBin subD (eVar 5) (eC (.int 3))) aNil)))) (gN 7) (sSeq (sSet 8 (eCB tupD (aCons (eLC (iSeq (eVar 1)) (gN 10) bYes (eCall F__law_draw (.r 0 :: (.e (eVar 10) :: []))) [10]) aNil)))
    (sSeq (sSet 9 (eCall F__law_draw (.r 0 :: (.e (eLenV 1) :: []))))
    (sSet 6 (eCall F__law_put_wins (.e (eVar 6) :: (.e (eLst (aCons (eVar 8) aNil)) :: (.e (eVar 9) :: (.e (eBin (inD true) (eVar 9) (eCall F__law_winners (.e (eVar 6) :: (.e (eVar 8) :: [])))) :: [])))))))))
    (sRet (eTup (aCons (eVar 6) (aCons (eVar 4) aNil)))))))))))
theorem stops_eq : ([.int 9, .int 3, .int 20, .int 5] : List D) = [9, 3, 20, 5].map PyData.int := rfl
theorem ok__law_clocks : BodyOk 11 (W__law_clocks) (F__law_clocks) := by
  rintro _ k ⟨ms, rfl, hm, h256, q⟩
  have hml := hm.len
  have hbx := ranges_ok hm
  simp [W__law_clocks, entry, hm, -c__law_pick]
  intro ps hps
  have e1 : ps.length = ms.length := by rw [← hps, List.length_map]
  refine lc_mapA (fun n => dNats (List.range n)) (by simp) (fun n hn N M hN => ?_) ?_
  · have := hm.each n hn
    simp [rgD_nat, rgB_nat (show n ≤ 16777216 by omega)]
    exact hN
  have eb : PyData.tuple (ms.map fun n => dNats (List.range n)) = dBox (ranges ms) := by simp [dBox, ranges, Function.comp_def]
  rw [List.nil_append]
  simp [-c__law_pick]
  rw [eb]
  refine lc_mapA (fun P => PyData.str (sideS P.up)) (by simp) (fun P hP N M hN => ?_) ?_
  · simp
    exact hN
  rw [List.nil_append, sides_map]
  simp [-c__law_pick]
  rw [stops_eq]
  refine pick_map (by simp) (by simp) fun stop hstop => ?_
  have hst : 0 < stop ∧ stop < 1073741824 := by
    simp at hstop
    omega
  simp
  refine ⟨ranges ms, ps.map (·.up), stop, by simp, hbx, by simp [ranges, e1], hst, ?_, by omega, fun t ns ht => ?_⟩
  · have h1 : ((ranges ms).map (·.length)).sum ≤ 8 * ((ranges ms).map (·.length)).length := sum_le8 fun m hm2 => by
      simp [ranges] at hm2
      exact (hm.each m hm2).2
    simp [ranges] at h1 ⊢
    omega
  simp
  intro j hj
  by_cases z : (j : Int) = 1
  · simp [z]
    refine ⟨ps, ms, rfl, hm, hps, h256, fun c wf hc => ?_⟩
    simp
    exact q c t ns wf (by unfold csizes; rw [hc]; exact hps) ht
  · simp [z]
    refine ⟨ps, ms, t, ns, rfl, hm, hps, h256, ht, fun c wf hc => ?_⟩
    have em : (if 3 < (j : Int) then (j : Int) - 3 else 0) = ((j - 3 : Nat) : Int) := by split <;> omega
    simp
    rw [em]
    simp only [rgD_nat, rgB_nat (show j - 3 ≤ 16777216 by omega), true_and]
    refine lw_nd (fun c : ClkL => [.drw true, .d (dNats ms), .d (.tuple (ps.map dClkP)), .d (dBox (ranges ms)), .d t, .d (nI j), .d (dClk c), .non, .non, .non, .non]) (fun _ c => WfC c ∧ c.persons = ps) c rfl ⟨wf, hc⟩ (fun c ⟨h1, h2⟩ => ?_) (fun pre k post e c ⟨h1, h2⟩ N hN => ?_)
    · simp
      exact q c t ns h1 (by unfold csizes; rw [h2]; exact hps) ht
    · have hcs : csizes c = ms := by unfold csizes; rw [h2]; exact hps
      simp
      refine lc_nd (fun pre (A : List Nat) => RowIn pre A) nI (by simp) trivial (fun pre m post e A hA N M hN hM => ?_) (fun row hrow => ?_)
      · have := hm.each m (by rw [e]; simp)
        simp
        refine ⟨by omega, by omega, fun x hx => hN x (hA.snoc (by omega))⟩
      · have hrow2 : RowIn (csizes c) row := by rw [hcs]; exact hrow
        have et : PyData.tuple (row.map nI) = dNats row := rfl
        simp
        rw [et]
        refine ⟨by omega, by omega, fun x hx => ?_⟩
        simp [h1, hrow2]
        refine ⟨c, [row], x, _, rfl, h1, fun r hr => by rw [List.mem_singleton.mp hr]; exact hrow2, by rw [h2]; omega, fun c' wf' hc' => ?_⟩
        simp
        exact hN c' ⟨wf', hc'.trans h2⟩
end Dl

set_option Elab.async false
set_option linter.all false
set_option maxRecDepth 100000
set_option autoImplicit false
set_option maxHeartbeats 2000000
namespace Dl
open PySem PySem.Spec PyProof.Rows L2

theorem lw_idD {G : GT} {W : ST} {E : EndD} {ds : List D} {ρ : Rho} (h0 : E.nx ρ) (hs : ∀ d ∈ ds, ∀ (N : Rho → Prop), N ρ → G d ρ fun ρ1 => W { nx := N, rt := E.rt, bk := E.nx, ct := N } ρ1) : loopW G W E ds ρ := by
  have := lw_id (l := ds) (f := id) h0 hs
  rwa [List.map_id] at this
theorem csz_of {c c' : ClkL} (h : c'.persons = c.persons) (p : Nat) : csz c' p = csz c p := by unfold csz; rw [h]
theorem csizes_of {c c' : ClkL} (h : c'.persons = c.persons) : csizes c' = csizes c := by unfold csizes; rw [h]
theorem BxC.of {c c' : ClkL} {b : List (List Nat)} (hb : BxC c b) (h : c'.persons = c.persons) : BxC c' b := ⟨by rw [hb.len, h], fun i s e => by rw [csz_of h]; exact hb.each i s e⟩
theorem BxC.set {c : ClkL} {b : List (List Nat)} (hb : BxC c b) {p : Nat} {s : List Nat} (h0 : s ≠ []) (hs : s.Sublist (List.range (csz c p))) : BxC c (b.set p s) := by
  refine ⟨by rw [List.length_set]; exact hb.len, fun i x e => ?_⟩
  by_cases hi : i = p
  · subst hi
    have hl := (List.getElem?_eq_some_iff.mp e).1
    rw [List.length_set] at hl
    rw [List.getElem?_set_self hl] at e
    cases e
    exact ⟨h0, hs⟩
  · rw [List.getElem?_set_ne (Ne.symm hi)] at e
    exact hb.each i x e
theorem parts_le {c : ClkL} {b : List (List Nat)} (wf : WfC c) (hb : BxC c b) {p : Nat} (hp : p < c.persons.length) : ∀ q ∈ outerPts c (partAt b p) p, q.length ≤ 8 := by
  have h1 := (hb.part hp).2.2.length_le
  rw [List.length_range] at h1
  have h8 := wf.csz_le p
  intro q hq
  unfold outerPts at hq
  split at hq
  all_goals
    simp only [List.mem_cons, List.mem_nil_iff, or_false] at hq
    rcases hq with rfl | rfl
  · rw [List.length_take]; omega
  · rw [List.length_drop]; omega
  · rw [List.length_dropLast]; omega
  · rw [List.length_drop]; omega
theorem sm_parts {c : ClkL} {b : List (List Nat)} {p : Nat} : smD (dBoxO (clockParts c b p)) = true := by
  cases clockParts c b p with
  | none => rfl
  | some x => exact sm_box x
theorem sz_parts {c : ClkL} {b : List (List Nat)} (wf : WfC c) (hb : BxC c b) {p : Nat} (hp : p < c.persons.length) : szD (dBoxO (clockParts c b p)) ≤ 1000000 := by
  unfold clockParts
  split
  · simp [dBoxO, szD]
  · split
    · simp [dBoxO, szD]
    · have := sz_dBox (n := 2) (c := 8) (b := outerPts c (partAt b p) p) (by unfold outerPts; split <;> simp) (parts_le wf hb hp)
      simp only [dBoxO]
      omega
def F__law_agrees : FT := fun ss k => ∃ (c : ClkL) (b : List (List Nat)), ss = [.d (dClk c), .d (dBox b)] ∧ (WfC c) ∧ (BxC c b) ∧ k (.d (.bool true)) ss
theorem mono_F__law_agrees : MonoF (F__law_agrees) := by
  rintro ss k k' hmono ⟨c, b, hss, wf, hb, q⟩
  exact ⟨c, b, hss, wf, hb, hmono _ _ q⟩
@[simp] theorem c__law_agrees {c : ClkL} {b : List (List Nat)} {k : Sl → List Sl → Prop} : F__law_agrees [.d (dClk c), .d (dBox b)] k = ((WfC c) ∧ (BxC c b) ∧ (k (.d (.bool true)) [.d (dClk c), .d (dBox b)])) := by
  simp [F__law_agrees, and_assoc]
/-- _law_agrees: slots 0 clocks 1 box 2 person -/
def W__law_agrees : ST := (sSeq (sIf (bNot (bTru (eCall F__law_bool (.e (eCall F_is_settled (.e (eVar 0) :: (.e (eVar 1) :: []))) :: (.e (eCall F__law_settled (.e (eVar 0) :: (.e (eVar 1) :: []))) :: []))))) (sRet (eC (.bool false))) sNext)
    (sSeq (sForW [2] (iRg1 (eLenV 1)) (gN 2) (sIf (bNot (bTru (eCall F__law_same (.e (eCall F_clock_parts (.e (eVar 0) :: (.e (eVar 1) :: (.e (eVar 2) :: [])))) :: (.e (eCall F__law_question (.e (eVar 0) :: (.e (eVar 1) :: (.e (eVar 2) :: [])))) :: []))))) (sRet (eC (.bool false))) sNext))
    (sRet (eC (.bool true)))))
theorem ok__law_agrees : BodyOk 3 (W__law_agrees) (F__law_agrees) := by
  rintro _ k ⟨c, b, rfl, wf, hb, q⟩
  simp [W__law_agrees, entry, wf, hb]
  have hl := hb.len
  have hnp := wf.np
  simp only [rgD_nat, rgB_nat (show b.length ≤ 16777216 by omega), true_and]
  refine lw_id ?_ fun p hp N hN => ?_
  · simp
    exact q
  · have hp' : p < c.persons.length := by rw [← hl]; exact List.mem_range.mp hp
    simp [wf, hb, hp', sm_parts, sz_parts wf hb hp']
    exact hN
theorem hfresh {c : ClkL} {b : List (List Nat)} (wf : WfC c) (hb : BxC c b) : (comb b).length ≤ 4096 ∧ comb b ≠ [] := ⟨comb_le_box (hb.l4 wf) (hb.l8 wf), fun z => by
  have := (first_at hb.ne).2
  rw [z] at this
  cases this⟩
def F__law_settled_tables : FT := fun ss k => ∃ (c : ClkL) (b : List (List Nat)), ss = [.drw true, .d (dClk c), .d (dBox b)] ∧ (WfC c) ∧ (BxC c b) ∧ ∀ cs : List ClkL, (∀ x ∈ cs, WfC x ∧ x.persons = c.persons) → k (.own false (cs.map dClk)) ss
theorem mono_F__law_settled_tables : MonoF (F__law_settled_tables) := by
  rintro ss k k' hmono ⟨c, b, hss, wf, hb, q⟩
  refine ⟨c, b, hss, wf, hb, ?_⟩
  intros; apply hmono; apply q <;> assumption
@[simp] theorem c__law_settled_tables {c : ClkL} {b : List (List Nat)} {k : Sl → List Sl → Prop} : F__law_settled_tables [.drw true, .d (dClk c), .d (dBox b)] k = ((WfC c) ∧ (BxC c b) ∧ (∀ cs : List ClkL, (∀ x ∈ cs, WfC x ∧ x.persons = c.persons) → k (.own false (cs.map dClk)) [.drw true, .d (dClk c), .d (dBox b)])) := by
  simp [F__law_settled_tables, and_assoc]
/-- _law_settled_tables: slots 0 d 1 clocks 2 box 3 rows 4 alike 5 changed 6 elsewhere 7 beside -/
def W__law_settled_tables : ST := (sSeq (sSet 3 (eCall F__law_rows (.e (eVar 2) :: [])))
    (sSeq (sSet 4 (eCall F__law_put_winners (.e (eVar 1) :: (.e (eVar 3) :: (.e (eCall F__law_some (.r 0 :: (.e (eLenV 2) :: []))) :: [])))))
    (sSeq (sSet 5 (eCall F__law_put_winners (.e (eVar 4) :: (.e (eLst (aCons (eCall F__law_pick (.r 0 :: (.e (eVar 3) :: []))) aNil)) :: (.e (eCall F__law_some (.r 0 :: (.e (eLenV 2) :: []))) :: [])))))
    (sSeq (sSet 6 (eCall F__law_pick (.r 0 :: (.e (eCall F__law_rows (.e (eCall F__law_table_box (.e (eVar 1) :: [])) :: [])) :: []))))
    (sSeq (sSet 7 (eVar 4))
    (sSeq (sIf (bBin (inD true) (eVar 6) (eVar 3)) (sSet 7 (eCall F__law_put_winners (.e (eVar 4) :: (.e (eLst (aCons (eVar 6) aNil)) :: (.e (eCall F__law_some (.r 0 :: (.e (eLenV 2) :: []))) :: []))))) sNext)
    (sRet (eLst (aCons (eVar 4) (aCons (eVar 5) (aCons (eVar 7) aNil)))))))))))
theorem pick_rows {k : Sl → List Sl → Prop} {l : List (List Nat)} (h0 : l ≠ []) (hl : l.length ≤ 100000) (q : ∀ x ∈ l, k (.d (dNats x)) [.drw true, .d (.list (l.map dNats))]) : F__law_pick [.drw true, .d (.list (l.map dNats))] k := pick_map h0 hl q
theorem ok__law_settled_tables : BodyOk 8 (W__law_settled_tables) (F__law_settled_tables) := by
  rintro _ k ⟨c, b, rfl, wf, hb, q⟩
  obtain ⟨h1, h2⟩ := hfresh wf hb
  have hl := hb.len
  have hnp := wf.np
  obtain ⟨h3, h4⟩ := hfresh wf (BxC.whole wf)
  have hw4 := (BxC.whole wf).l4 wf
  simp [W__law_settled_tables, entry, hb.l4 wf, show b.length ≤ 8 by omega, -c__law_pick]
  refine ⟨hb.l8 wf, fun w hw => ?_⟩
  refine ⟨c, comb b, w, rfl, wf, fun row hr => hb.row hr, by rw [← hl]; exact hw, fun c1 wf1 e1 => ?_⟩
  simp [-c__law_pick]
  refine pick_rows h2 (by omega) fun row hr => ?_
  simp [show b.length ≤ 8 by omega, -c__law_pick]
  intro w2 hw2
  refine ⟨c1, [row], w2, rfl, wf1, fun r hr' => ?_, by rw [e1, ← hl]; exact hw2, fun c2 wf2 e2 => ?_⟩
  · rw [List.mem_singleton.mp hr', csizes_of e1]
    exact hb.row hr
  simp [wf, hw4, -c__law_pick]
  refine ⟨(BxC.whole wf).l8 wf, ?_⟩
  refine pick_rows h4 (by omega) fun els hels => ?_
  have hels2 : RowIn (csizes c1) els := by rw [csizes_of e1]; exact (BxC.whole wf).row hels
  have fin : ∀ c3 : ClkL, WfC c3 → c3.persons = c.persons → k (.own false [dClk c1, dClk c2, dClk c3]) [.drw true, .d (dClk c), .d (dBox b)] := fun c3 wf3 e3 =>
    q [c1, c2, c3] fun x hx => by
      simp only [List.mem_cons, List.mem_nil_iff, or_false] at hx
      rcases hx with rfl | rfl | rfl
      · exact ⟨wf1, e1⟩
      · exact ⟨wf2, e2.trans e1⟩
      · exact ⟨wf3, e3⟩
  simp [show b.length ≤ 8 by omega]
  split
  · exact fin c1 wf1 e1
  · intro w3 hw3
    refine ⟨c1, [els], w3, rfl, wf1, fun r hr' => ?_, by rw [e1, ← hl]; exact hw3, fun c3 wf3 e3 => ?_⟩
    · rw [List.mem_singleton.mp hr']
      exact hels2
    · simp
      exact fin c3 wf3 (e3.trans e1)
theorem rowOf_put : ∀ {b : List (List Nat)} {row : List Nat} {p x : Nat} {part : List Nat}, RowOf b row → b[p]? = some part → x ∈ part → RowOf b (row.set p x)
  | [], _, _, _, _, _, h, _ => by simp at h
  | _ :: _, [], _, _, _, h, _, _ => h.elim
  | q :: b, r :: row, 0, x, part, h, e, hx => by
    simp at e
    subst e
    exact ⟨hx, h.2⟩
  | q :: b, r :: row, p + 1, x, part, h, e, hx => ⟨h.1, rowOf_put (p := p) h.2 (by simpa using e) hx⟩
theorem row_with {c : ClkL} {b : List (List Nat)} (hb : BxC c b) {p x : Nat} {part : List Nat} (e : b[p]? = some part) (hx : x ∈ part) : ∃ row ∈ comb b, row[p]? = some x := by
  obtain ⟨row, hr⟩ := rowOf_ex hb.ne
  refine ⟨row.set p x, mem_comb.mpr (rowOf_put hr e hx), ?_⟩
  rw [List.getElem?_set_self]
  have h1 := comb_rows (mem_comb.mpr hr)
  have h2 := (List.getElem?_eq_some_iff.mp e).1
  omega
theorem outer_mem {c : ClkL} {b : List (List Nat)} (hb : BxC c b) {p : Nat} (hp : p < c.persons.length) : outerK c b p ∈ partAt b p := by
  have h := (hb.part hp).2.1
  unfold outerK
  split
  · cases e : partAt b p with
    | nil => exact absurd e h
    | cons x l => simp
  · rcases List.eq_nil_or_concat (partAt b p) with e | ⟨l, x, e⟩
    · exact absurd e h
    · rw [e]
      simp
def F__law_asked_tables : FT := fun ss k => ∃ (c : ClkL) (b : List (List Nat)) (p : Nat), ss = [.drw true, .d (dClk c), .d (dBox b), .d (nI p)] ∧ (WfC c) ∧ (BxC c b) ∧ (p < c.persons.length) ∧ (2 ≤ (partAt b p).length) ∧ ∀ cs : List ClkL, (∀ x ∈ cs, WfC x ∧ x.persons = c.persons) → k (.own false (cs.map dClk)) ss
theorem mono_F__law_asked_tables : MonoF (F__law_asked_tables) := by
  rintro ss k k' hmono ⟨c, b, p, hss, wf, hb, hp, h2, q⟩
  refine ⟨c, b, p, hss, wf, hb, hp, h2, ?_⟩
  intros; apply hmono; apply q <;> assumption
@[simp] theorem c__law_asked_tables {c : ClkL} {b : List (List Nat)} {p : Nat} {k : Sl → List Sl → Prop} : F__law_asked_tables [.drw true, .d (dClk c), .d (dBox b), .d (nI p)] k = ((WfC c) ∧ (BxC c b) ∧ (p < c.persons.length) ∧ (2 ≤ (partAt b p).length) ∧ (∀ cs : List ClkL, (∀ x ∈ cs, WfC x ∧ x.persons = c.persons) → k (.own false (cs.map dClk)) [.drw true, .d (dClk c), .d (dBox b), .d (nI p)])) := by
  simp [F__law_asked_tables, and_assoc]
/-- _law_asked_tables: slots 0 d 1 clocks 2 box 3 person 4 outer 5 wins 6 there 7 elsewhere 8 able 9 spoilt 10 row 11 beside 12 other 13 mixed -/
def W__law_asked_tables : ST := (sSeq (sSet 4 (eCall F__law_outer (.e (eVar 1) :: (.e (eVar 2) :: (.e (eVar 3) :: [])))))
    (sSeq (sSet 5 (eBin eqD (eBin idxS (eBin idxS (eIdxV 1 (eC (.int 1))) (eVar 3)) (eC (.int 1))) (eC (.str "down"))))
    (sSeq (sSet 6 (eLC (iSeq (eCall F__law_rows (.e (eVar 2) :: []))) (gN 10) (bBin eqD (eIdxV 10 (eVar 3)) (eVar 4)) (eVar 10) [10]))
    (sSeq (sSet 7 (eLC (iSeq (eCall F__law_rows (.e (eCall F__law_table_box (.e (eVar 1) :: [])) :: []))) (gN 10) (bBin neD (eIdxV 10 (eVar 3)) (eVar 4)) (eVar 10) [10]))
    (sSeq (sSet 8 (eCall F__law_put_wins (.e (eVar 1) :: (.e (eVar 6) :: (.e (eVar 3) :: (.e (eVar 5) :: []))))))
    (sSeq (sSet 9 (eCall F__law_put_wins (.e (eVar 8) :: (.e (eLst (aCons (eCall F__law_pick (.r 0 :: (.e (eVar 6) :: []))) aNil)) :: (.e (eVar 3) :: (.e (eNot (eVar 5)) :: []))))))
    (sSeq (sSet 10 (eCall F__law_pick (.r 0 :: (.e (eVar 7) :: []))))
    (sSeq (sSet 11 (eCall F__law_put_wins (.e (eVar 8) :: (.e (eLst (aCons (eVar 10) aNil)) :: (.e (eVar 3) :: (.e (eBin (inD true) (eVar 3) (eCall F__law_winners (.e (eVar 8) :: (.e (eVar 10) :: [])))) :: []))))))
    (sSeq (sSet 12 (eCall F__law_draw (.r 0 :: (.e (eLenV 2) :: []))))
    (sSeq (sSet 10 (eCall F__law_pick (.r 0 :: (.e (eVar 6) :: []))))
    (sSeq (sSet 13 (eVar 8))
    (sSeq (sIf (bBin neD (eVar 12) (eVar 3)) (sSet 13 (eCall F__law_put_wins (.e (eVar 8) :: (.e (eLst (aCons (eVar 10) aNil)) :: (.e (eVar 12) :: (.e (eBin (inD true) (eVar 12) (eCall F__law_winners (.e (eVar 8) :: (.e (eVar 10) :: [])))) :: [])))))) sNext)
    (sRet (eLst (aCons (eVar 8) (aCons (eVar 9) (aCons (eVar 11) (aCons (eVar 13) (aCons (eVar 8) aNil)))))))))))))))))))
theorem ok__law_asked_tables : BodyOk 14 (W__law_asked_tables) (F__law_asked_tables) := by
  rintro _ k ⟨c, b, p, rfl, wf, hb, hp, h2, q⟩
  obtain ⟨h1, h1'⟩ := hfresh wf hb
  have hl := hb.len
  have hnp := wf.np
  have hW := BxC.whole wf
  obtain ⟨h3, h4⟩ := hfresh wf hW
  have hw4 := hW.l4 wf
  obtain ⟨f1, P, f2, f3, f4, f5⟩ := csz_at hp
  obtain ⟨e1, e2, e3⟩ := hb.part hp
  obtain ⟨_, f6⟩ := List.getElem?_eq_some_iff.mp f2
  have hrw : (ranges (csizes c))[p]? = some (List.range (csz c p)) := by
    unfold ranges
    rw [List.getElem?_map, f1]
    rfl
  -- rows that show, rows elsewhere
  obtain ⟨r0, hr0, hr0'⟩ := row_with hb e1 (outer_mem hb hp)
  have hnd : (partAt b p).Nodup := e3.nodup List.nodup_range
  obtain ⟨y, hy, hyn⟩ : ∃ y ∈ partAt b p, y ≠ outerK c b p := by
    have : ¬ ∀ y ∈ partAt b p, y = outerK c b p := fun hall => by
      have h5 : (partAt b p).Sublist [outerK c b p] ∨ True := Or.inr trivial
      have h6 : (partAt b p) = List.replicate (partAt b p).length (outerK c b p) := List.eq_replicate_iff.mpr ⟨rfl, hall⟩
      rw [h6] at hnd
      have := List.nodup_iff_count.mp hnd (outerK c b p)
      simp at this
      omega
    have h7 := Classical.not_forall.mp this
    obtain ⟨y, hy⟩ := h7
    have h8 := Classical.not_imp.mp hy
    exact ⟨y, h8.1, h8.2⟩
  obtain ⟨r1, hr1, hr1'⟩ := row_with hW hrw (e3.subset hy)
  simp [W__law_asked_tables, entry, hb, hp, hb.l4 wf, at_nat, f2, f6, -c__law_pick]
  refine ⟨hb.l8 wf, ?_⟩
  refine lc_filA (fun row => decide (row[p]? = some (outerK c b p))) dNats (by simp) (fun row hrow N M g1 g2 => ?_) ?_
  · obtain ⟨r, g3, g4⟩ := (hb.row hrow).at f1
    by_cases z : r = outerK c b p
    · simp [g3, z]
      exact g1 (by simp [g3, z])
    · simp [g3, z]
      exact g2 (by simp [g3, z])
  rw [List.nil_append]
  have hT : ∀ row ∈ (comb b).filter (fun row => decide (row[p]? = some (outerK c b p))), row ∈ comb b := fun row hr => (List.mem_filter.mp hr).1
  have hT0 : (comb b).filter (fun row => decide (row[p]? = some (outerK c b p))) ≠ [] := fun z => by
    have : r0 ∈ (comb b).filter (fun row => decide (row[p]? = some (outerK c b p))) := List.mem_filter.mpr ⟨hr0, by simpa using hr0'⟩
    rw [z] at this
    cases this
  have hTl : ((comb b).filter (fun row => decide (row[p]? = some (outerK c b p)))).length ≤ 4096 := Nat.le_trans (List.length_filter_le _ _) h1
  generalize (comb b).filter (fun row => decide (row[p]? = some (outerK c b p))) = there at hT hT0 hTl
  simp [wf, hw4, -c__law_pick]
  refine ⟨hW.l8 wf, ?_⟩
  refine lc_filA (fun row => decide (row[p]? ≠ some (outerK c b p))) dNats (by simp) (fun row hrow N M g1 g2 => ?_) ?_
  · obtain ⟨r, g3, g4⟩ := (hW.row hrow).at f1
    by_cases z : r = outerK c b p
    · simp [g3, z]
      exact g2 (by simp [g3, z])
    · simp [g3, z]
      exact g1 (by simp [g3, z])
  rw [List.nil_append]
  have hE : ∀ row ∈ (comb (ranges (csizes c))).filter (fun row => decide (row[p]? ≠ some (outerK c b p))), row ∈ comb (ranges (csizes c)) := fun row hr => (List.mem_filter.mp hr).1
  have hE0 : (comb (ranges (csizes c))).filter (fun row => decide (row[p]? ≠ some (outerK c b p))) ≠ [] := fun z => by
    have : r1 ∈ (comb (ranges (csizes c))).filter (fun row => decide (row[p]? ≠ some (outerK c b p))) := List.mem_filter.mpr ⟨hr1, by rw [hr1']; simpa using hyn⟩
    rw [z] at this
    cases this
  have hEl : ((comb (ranges (csizes c))).filter (fun row => decide (row[p]? ≠ some (outerK c b p)))).length ≤ 4096 := Nat.le_trans (List.length_filter_le _ _) h3
  generalize (comb (ranges (csizes c))).filter (fun row => decide (row[p]? ≠ some (outerK c b p))) = els at hE hE0 hEl
  simp [-c__law_pick]
  refine ⟨c, there, p, _, rfl, wf, fun row hr => hb.row (hT row hr), hp, fun c1 wf1 p1 => ?_⟩
  have z1 := csizes_of p1
  simp [-c__law_pick]
  refine pick_rows hT0 (by omega) fun ra hra => ?_
  simp [-c__law_pick]
  refine ⟨c1, [ra], p, _, rfl, wf1, fun r hr => by rw [List.mem_singleton.mp hr, z1]; exact hb.row (hT ra hra), by rw [p1]; exact hp, fun c2 wf2 p2 => ?_⟩
  simp [-c__law_pick]
  refine pick_rows hE0 (by omega) fun rb hrb => ?_
  have hrb2 : RowIn (csizes c1) rb := by rw [z1]; exact hW.row (hE rb hrb)
  simp [wf1, hrb2, -c__law_pick]
  refine ⟨c1, [rb], p, _, rfl, wf1, fun r hr => by rw [List.mem_singleton.mp hr]; exact hrb2, by rw [p1]; exact hp, fun c3 wf3 p3 => ?_⟩
  simp [-c__law_pick]
  refine ⟨by omega, by omega, fun o ho => ?_⟩
  refine pick_rows hT0 (by omega) fun rc hrc => ?_
  have hrc2 : RowIn (csizes c1) rc := by rw [z1]; exact hb.row (hT rc hrc)
  have fin : ∀ c4 : ClkL, WfC c4 → c4.persons = c.persons → k (.own false [dClk c1, dClk c2, dClk c3, dClk c4, dClk c1]) [.drw true, .d (dClk c), .d (dBox b), .d (nI p)] := fun c4 wf4 p4 =>
    q [c1, c2, c3, c4, c1] fun x hx => by
      simp only [List.mem_cons, List.mem_nil_iff, or_false] at hx
      rcases hx with rfl | rfl | rfl | rfl | rfl
      · exact ⟨wf1, p1⟩
      · exact ⟨wf2, p2.trans p1⟩
      · exact ⟨wf3, p3.trans p1⟩
      · exact ⟨wf4, p4⟩
      · exact ⟨wf1, p1⟩
  simp
  by_cases z : o = p
  · subst z
    simp
    exact fin c1 wf1 p1
  · simp [z, wf1, hrc2]
    refine ⟨c1, [rc], o, _, rfl, wf1, fun r hr => by rw [List.mem_singleton.mp hr]; exact hrc2, by rw [p1]; omega, fun c4 wf4 p4 => ?_⟩
    simp
    exact fin c4 wf4 (p4.trans p1)
/-- law: slots 0 script 1 d 2 clocks 3 box 4 inner 5 alone 6 here 7 table 8 able 9 person 10 kinds -/
def W_law : ST := (sSeq (sSet 1 (eCall F__law_begin (.r 0 :: [])))
    (sSeq (sSet 2 (eBin idxS (eCall F__law_clocks (.r 1 :: (.e (eCall F__law_wide_sizes (.r 1 :: [])) :: []))) (eC (.int 0))))
    (sSeq (sSet 3 (eCall F__law_table_box (.e (eVar 2) :: [])))
    (sSeq (sIf (bNot (bTru (eCall F__law_same (.e (eCall F_clock_whole (.e (eVar 2) :: [])) :: (.e (eVar 3) :: []))))) (sRet (eC (.bool false))) sNext)
    (sSeq (sSet 4 (eCall F__law_drawn_box (.r 1 :: (.e (eVar 3) :: []))))
    (sSeq (sSet 5 (eCB tupD (aCons (eLC (iSeq (eVar 4)) (gN 10) bYes (eTup (aCons (eCall F__law_pick (.r 1 :: (.e (eVar 10) :: []))) aNil)) [10]) aNil)))
    (sSeq (sForW [6] (iSeq (eLst (aCons (eVar 3) (aCons (eVar 4) (aCons (eVar 5) (aCons (eVar 3) aNil)))))) (gN 6) (sIf (bNot (bTru (eCall F__law_agrees (.e (eVar 2) :: (.e (eVar 6) :: []))))) (sRet (eC (.bool false))) sNext))
    (sSeq (sForW [7] (iSeq (eCall F__law_settled_tables (.r 1 :: (.e (eVar 2) :: (.e (eVar 4) :: []))))) (gN 7) (sIf (bNot (bTru (eCall F__law_agrees (.e (eVar 7) :: (.e (eVar 4) :: []))))) (sRet (eC (.bool false))) sNext))
    (sSeq (sSet 8 (eLC (iRg1 (eLenV 3)) (gN 9) (bBin gtD (eCB lenD (aCons (eIdxV 3 (eVar 9)) aNil)) (eC (.int 1))) (eVar 9) [9]))
    (sSeq (sIf (bNot (bTruV 8)) (sRet (eCall F__law_agrees (.e (eVar 2) :: (.e (eVar 3) :: [])))) sNext)
    (sSeq (sSet 9 (eCall F__law_pick (.r 1 :: (.e (eVar 8) :: []))))
    (sSeq (sIf (bBin ltD (eCB lenD (aCons (eIdxV 4 (eVar 9)) aNil)) (eC (.int 2))) (sSet 4 (eCall F__law_narrowed (.e (eVar 4) :: (.e (eVar 9) :: (.e (eIdxV 3 (eVar 9)) :: []))))) sNext)
    (sSeq (sForW [7] (iSeq (eCall F__law_asked_tables (.r 1 :: (.e (eVar 2) :: (.e (eVar 4) :: (.e (eVar 9) :: [])))))) (gN 7) (sIf (bNot (bTru (eCall F__law_agrees (.e (eVar 7) :: (.e (eVar 4) :: []))))) (sRet (eC (.bool false))) sNext))
    (sRet (eCall F__law_agrees (.e (eVar 2) :: (.e (eVar 4) :: [])))))))))))))))))
theorem agrees_any {c : ClkL} {b : List (List Nat)} (wf : WfC c) (hb : BxC c b) : True := trivial
theorem ok_law : BodyOk 11 W_law lawF := by
  rintro _ k ⟨ns, rfl, hn, q⟩
  simp [W_law, entry, hn]
  intro ms hm h256
  refine ⟨hm, h256, fun c t nds wf hcs ht => ?_⟩
  have hW := BxC.whole wf
  have hnp := wf.np
  have hw4 := hW.l4 wf
  have hw8 := hW.l8 wf
  have hsz := sz_dBox (n := 4) (c := 8) hw4 hw8
  have hrl : (ranges (csizes c)).length = c.persons.length := by simp [ranges, csizes]
  simp [show idxD (.tuple [dClk c, t]) (.int 0) = some (dClk c) from rfl, wf, sm_box, show szD (dBox (ranges (csizes c))) ≤ 1000000 by omega, show (ranges (csizes c)).length ≤ 1000 by omega]
  refine ⟨fun p hp => ⟨hW.ne p hp, by have := hw8 p hp; omega⟩, fun inner hin => ?_⟩
  have hI := hW.sub hin
  have hIl : inner.length = c.persons.length := hI.len
  refine lc_nd (fun pre (A : List (List Nat)) => SubBox A pre) dNats (by simp) ⟨rfl, fun i s p e => by simp at e⟩ (fun pre part post e A hA N M hN hM => ?_) (fun alone hal => ?_)
  · have hpm : part ∈ inner := by rw [e]; simp
    have hp0 := hI.ne part hpm
    have hp8 := hI.l8 wf part hpm
    have := List.length_pos_iff.mpr hp0
    simp
    exact ⟨by omega, by omega, fun x hx => hN [x] (hA.snoc (by simp) (List.singleton_sublist.mpr hx))⟩
  have hA := hI.sub hal
  have ea : PyData.tuple (alone.map dNats) = dBox alone := rfl
  simp
  rw [ea]
  refine lw_idD ?_ fun d hd N hN => ?_
  rotate_left
  · obtain ⟨x, hx, rfl⟩ : ∃ x, BxC c x ∧ d = dBox x := by
      simp at hd
      rcases hd with rfl | rfl | rfl | rfl
      · exact ⟨_, hW, rfl⟩
      · exact ⟨_, hI, rfl⟩
      · exact ⟨_, hA, rfl⟩
      · exact ⟨_, hW, rfl⟩
    simp [wf, hx]
    exact hN
  simp [wf, hI]
  intro cs hcs2
  refine lw_id ?_ fun c' hc' N hN => ?_
  rotate_left
  · obtain ⟨g1, g2⟩ := hcs2 c' hc'
    simp [g1, hI.of g2]
    exact hN
  simp only [x_seq]
  simp [hrl]
  simp only [rgD_nat, rgB_nat (show c.persons.length ≤ 16777216 by omega), true_and]
  refine lc_filA (fun p => decide (1 < csz c p)) nI (by simp) (fun p hp N M h1 h2 => ?_) ?_
  · have hp' := List.mem_range.mp hp
    have hr : (ranges (csizes c))[p]? = some (List.range (csz c p)) := by
      unfold ranges
      rw [List.getElem?_map, (csz_at hp').1]
      rfl
    by_cases z : 1 < csz c p
    · simp [hr, z]
      exact h1 (by simp [z])
    · simp [hr, z]
      exact h2 (by simp [z])
  rw [List.nil_append]
  have hAb : ∀ p ∈ (List.range c.persons.length).filter (fun p => decide (1 < csz c p)), p < c.persons.length ∧ 1 < csz c p := fun p hp => by
    have := List.mem_filter.mp hp
    exact ⟨List.mem_range.mp this.1, by simpa using this.2⟩
  have hAl : ((List.range c.persons.length).filter (fun p => decide (1 < csz c p))).length ≤ c.persons.length := by
    refine Nat.le_trans (List.length_filter_le _ _) ?_
    simp
  generalize (List.range c.persons.length).filter (fun p => decide (1 < csz c p)) = able at hAb hAl
  by_cases hab : able = []
  · subst hab
    simp [truD, wf, hW]
    exact q _
  have habl := List.length_pos_iff.mpr hab
  simp [truD, hab, wf]
  refine ⟨habl, by omega, fun p hp => ?_⟩
  obtain ⟨hp1, hp2⟩ := hAb p hp
  obtain ⟨g1, g2, g3⟩ := hI.part hp1
  have hr : (ranges (csizes c))[p]? = some (List.range (csz c p)) := by
    unfold ranges
    rw [List.getElem?_map, (csz_at hp1).1]
    rfl
  simp [g1]
  have fin : ∀ b' : List (List Nat), BxC c b' → 2 ≤ (partAt b' p).length → ∀ (s : List Sl) (kk : Rho → Prop), True := fun _ _ _ _ _ => trivial
  by_cases z : (partAt inner p).length < 2
  · have hB : BxC c (inner.set p (List.range (csz c p))) := hI.set (fun y => by
      have := congrArg List.length y
      simp at this
      omega) (List.Sublist.refl _)
    have hB2 : partAt (inner.set p (List.range (csz c p))) p = List.range (csz c p) := by
      unfold partAt
      rw [List.getElem?_set_self (by omega)]
      rfl
    simp [z, hr, show p < inner.length by omega, show inner.length ≤ 1000 by omega, wf, hB, hp1, hB2]
    refine ⟨by omega, fun cs hcs3 => ?_⟩
    refine lw_id ?_ fun c' hc' N hN => ?_
    · simp [wf, hB]
      exact q _
    · obtain ⟨g1, g2⟩ := hcs3 c' hc'
      simp [g1, hB.of g2]
      exact hN
  · simp [z, wf, hI, hp1]
    refine ⟨by omega, fun cs hcs3 => ?_⟩
    refine lw_id ?_ fun c' hc' N hN => ?_
    · simp [wf, hI]
      exact q _
    · obtain ⟨g1, g2⟩ := hcs3 c' hc'
      simp [g1, hI.of g2]
      exact hN
end Dl

set_option Elab.async false
set_option linter.all false
set_option maxRecDepth 100000
set_option autoImplicit false
set_option maxHeartbeats 4000000
namespace Dl
open PySem PySem.Spec PyProof.Rows L2
def top (i : Nat) : Stmt := PySem.Challenge.pw_plainhearing_k86_clock_parts.main.body.getD i (.Pass ⟨0, 0, 0, 0⟩)
abbrev F_law : FT := lawF
theorem sc_combined : FnScope ["parts", "rows", "part", "row", "thing"] ["parts"] (defScope (top 1)) := ⟨rfl, rfl, rfl, by decide +kernel, rfl, by decide +kernel, by decide +kernel⟩
theorem has_combined {P : Program} {w : World} {K : PySem.W.Frag} {mg : Str → Option Value} {base : Heap} {f : Addr} {fd : FuncData} (D0 : FunD K "combined" "combined" (defArgs (top 1)) (defBody (top 1)) (defScope (top 1)) [] [] f fd) (hm : mg "combined" = some (.ref f)) (n_tuple : mg "tuple" = none) (ok : BodyOk 5 W_combined F_combined) : Has P w K mg base "combined" 1 ["parts"] F_combined :=
  has_of D0 hm (fun _ _ _ _ _ _ us hl => match us, hl with | [_], _ => rfl) sc_combined rfl (by intro ss k h; unfold F_combined at h; (repeat (obtain ⟨_, h⟩ := h)); subst_vars; rfl) (fun cdv A out st H E C hr gd => by
    have sc := sc_combined
    have hp := PassesOwn.never (M := model P w) (A := A.deeper (envOfC "combined" (defScope (top 1)) st.heap.objs.size f cdv)) (env := envOfC "combined" (defScope (top 1)) st.heap.objs.size f cdv)
    exact (dss_cons (ds_set (i := 1) sc.nd (de_lst (da_cons (de_tup da_nil) da_nil)))
    (dss_cons (ds_for hp rfl (di_seq (de_var (i := 0))) (dg_name (i := 2) sc.nd) (dss_one (ds_setLc2 (i := 1) (own := [("row", 3), ("thing", 4)]) (vs1 := [4]) rfl sc.nd (sw_true rfl rfl rfl (by kernel_rfl)) (di_seq (de_var (i := 1))) (blkOk_by (own := [("row", 3), ("thing", 4)]) (by kernel_rfl)) (by simp) (by simp) (by simp) (fun _ _ _ _ _ _ => (dg_name (i := 3) sc.nd)) (fun _ _ _ _ _ _ => dts_nil) (fun _ _ _ _ _ _ => (di_seq (de_var (i := 2)))) (fun _ _ _ _ _ _ => (dg_name (i := 4) sc.nd)) (fun _ _ _ _ _ _ => dts_nil) (fun _ _ _ _ _ _ => (de_bin opD_add (de_var (i := 3)) (de_tup (da_cons (de_var (i := 4)) da_nil)))))))
    (dss_one (ds_ret (de_callTy callD_tuple n_tuple (da_cons (de_var (i := 1)) da_nil))))))) ok
theorem sc_rows_of : FnScope ["box"] ["box"] (defScope (top 2)) := ⟨rfl, rfl, rfl, by decide +kernel, rfl, by decide +kernel, by decide +kernel⟩
theorem has_rows_of {P : Program} {w : World} {K : PySem.W.Frag} {mg : Str → Option Value} {base : Heap} {f : Addr} {fd : FuncData} (D0 : FunD K "rows_of" "rows_of" (defArgs (top 2)) (defBody (top 2)) (defScope (top 2)) [] [] f fd) (hm : mg "rows_of" = some (.ref f)) (h_combined : Has P w K mg base "combined" 1 ["parts"] F_combined) (ok : BodyOk 1 W_rows_of F_rows_of) : Has P w K mg base "rows_of" 2 ["box"] F_rows_of :=
  has_of D0 hm (fun _ _ _ _ _ _ us hl => match us, hl with | [_], _ => rfl) sc_rows_of rfl (by intro ss k h; unfold F_rows_of at h; (repeat (obtain ⟨_, h⟩ := h)); subst_vars; rfl) (fun cdv A out st H E C hr gd => by
    have sc := sc_rows_of
    have hp := PassesOwn.never (M := model P w) (A := A.deeper (envOfC "rows_of" (defScope (top 2)) st.heap.objs.size f cdv)) (env := envOfC "rows_of" (defScope (top 2)) st.heap.objs.size f cdv)
    exact (dss_one (ds_ret (de_hcall h_combined mono_F_combined (hr.mono (by decide)) gd (dar_e (de_var (i := 0)) dar_nil))))) ok
theorem sc_person_count : FnScope ["clocks"] ["clocks"] (defScope (top 5)) := ⟨rfl, rfl, rfl, by decide +kernel, rfl, by decide +kernel, by decide +kernel⟩
theorem has_person_count {P : Program} {w : World} {K : PySem.W.Frag} {mg : Str → Option Value} {base : Heap} {f : Addr} {fd : FuncData} (D0 : FunD K "person_count" "person_count" (defArgs (top 5)) (defBody (top 5)) (defScope (top 5)) [] [] f fd) (hm : mg "person_count" = some (.ref f)) (n_len : mg "len" = none) (ok : BodyOk 1 W_person_count F_person_count) : Has P w K mg base "person_count" 1 ["clocks"] F_person_count :=
  has_of D0 hm (fun _ _ _ _ _ _ us hl => match us, hl with | [_], _ => rfl) sc_person_count rfl (by intro ss k h; unfold F_person_count at h; (repeat (obtain ⟨_, h⟩ := h)); subst_vars; rfl) (fun cdv A out st H E C hr gd => by
    have sc := sc_person_count
    have hp := PassesOwn.never (M := model P w) (A := A.deeper (envOfC "person_count" (defScope (top 5)) st.heap.objs.size f cdv)) (env := envOfC "person_count" (defScope (top 5)) st.heap.objs.size f cdv)
    exact (dss_one (ds_ret (de_callB callD_len n_len (da_cons (de_idxV (i := 0) (de_int)) da_nil))))) ok
theorem sc_is_rising : FnScope ["clocks", "person"] ["clocks", "person"] (defScope (top 6)) := ⟨rfl, rfl, rfl, by decide +kernel, rfl, by decide +kernel, by decide +kernel⟩
theorem has_is_rising {P : Program} {w : World} {K : PySem.W.Frag} {mg : Str → Option Value} {base : Heap} {f : Addr} {fd : FuncData} (D0 : FunD K "is_rising" "is_rising" (defArgs (top 6)) (defBody (top 6)) (defScope (top 6)) [] [] f fd) (hm : mg "is_rising" = some (.ref f)) (g_UP : ∃ u, mg "UP" = some u ∧ RelV (V.str "up") u) (ok : BodyOk 2 W_is_rising F_is_rising) : Has P w K mg base "is_rising" 1 ["clocks", "person"] F_is_rising :=
  has_of D0 hm (fun _ _ _ _ _ _ us hl => match us, hl with | [_, _], _ => rfl) sc_is_rising rfl (by intro ss k h; unfold F_is_rising at h; (repeat (obtain ⟨_, h⟩ := h)); subst_vars; rfl) (fun cdv A out st H E C hr gd => by
    have sc := sc_is_rising
    have hp := PassesOwn.never (M := model P w) (A := A.deeper (envOfC "is_rising" (defScope (top 6)) st.heap.objs.size f cdv)) (env := envOfC "is_rising" (defScope (top 6)) st.heap.objs.size f cdv)
    exact (dss_one (ds_ret (de_cmp (opD_eq (room_u hr)) (de_idx (de_idx (de_idxV (i := 0) (de_int)) (de_var (i := 1))) (de_int)) (de_globS g_UP))))) ok
theorem sc_ck_worths_of : FnScope ["clocks", "person"] ["clocks", "person"] (defScope (top 7)) := ⟨rfl, rfl, rfl, by decide +kernel, rfl, by decide +kernel, by decide +kernel⟩
theorem has_ck_worths_of {P : Program} {w : World} {K : PySem.W.Frag} {mg : Str → Option Value} {base : Heap} {f : Addr} {fd : FuncData} (D0 : FunD K "worths_of" "worths_of" (defArgs (top 7)) (defBody (top 7)) (defScope (top 7)) [] [] f fd) (hm : mg "worths_of" = some (.ref f))  (ok : BodyOk 2 W_ck_worths_of F_ck_worths_of) : Has P w K mg base "worths_of" 1 ["clocks", "person"] F_ck_worths_of :=
  has_of D0 hm (fun _ _ _ _ _ _ us hl => match us, hl with | [_, _], _ => rfl) sc_ck_worths_of rfl (by intro ss k h; unfold F_ck_worths_of at h; (repeat (obtain ⟨_, h⟩ := h)); subst_vars; rfl) (fun cdv A out st H E C hr gd => by
    have sc := sc_ck_worths_of
    have hp := PassesOwn.never (M := model P w) (A := A.deeper (envOfC "worths_of" (defScope (top 7)) st.heap.objs.size f cdv)) (env := envOfC "worths_of" (defScope (top 7)) st.heap.objs.size f cdv)
    exact (dss_one (ds_ret (de_idx (de_idx (de_idxV (i := 0) (de_int)) (de_var (i := 1))) (de_int))))) ok
theorem sc_table_sizes : FnScope ["clocks", "person"] ["clocks"] (defScope (top 8)) := ⟨rfl, rfl, rfl, by decide +kernel, rfl, by decide +kernel, by decide +kernel⟩
theorem has_table_sizes {P : Program} {w : World} {K : PySem.W.Frag} {mg : Str → Option Value} {base : Heap} {f : Addr} {fd : FuncData} (D0 : FunD K "table_sizes" "table_sizes" (defArgs (top 8)) (defBody (top 8)) (defScope (top 8)) [] [] f fd) (hm : mg "table_sizes" = some (.ref f)) (h_person_count : Has P w K mg base "person_count" 1 ["clocks"] F_person_count) (h_worths_of : Has P w K mg base "worths_of" 1 ["clocks", "person"] F_ck_worths_of) (n_len : mg "len" = none) (n_range : mg "range" = none) (n_tuple : mg "tuple" = none) (ok : BodyOk 2 W_table_sizes F_table_sizes) : Has P w K mg base "table_sizes" 2 ["clocks"] F_table_sizes :=
  has_of D0 hm (fun _ _ _ _ _ _ us hl => match us, hl with | [_], _ => rfl) sc_table_sizes rfl (by intro ss k h; unfold F_table_sizes at h; (repeat (obtain ⟨_, h⟩ := h)); subst_vars; rfl) (fun cdv A out st H E C hr gd => by
    have sc := sc_table_sizes
    have hp := PassesOwn.never (M := model P w) (A := A.deeper (envOfC "table_sizes" (defScope (top 8)) st.heap.objs.size f cdv)) (env := envOfC "table_sizes" (defScope (top 8)) st.heap.objs.size f cdv)
    exact (dss_one (ds_ret (de_callTy callD_tuple n_tuple (da_cons (de_lc (own := [("person", 1)]) rfl sc.nd (di_range1 n_range (de_hcall h_person_count mono_F_person_count (hr.mono (by decide)) gd (dar_e (de_var (i := 0)) dar_nil))) (blkOk_by (own := [("person", 1)]) (by kernel_rfl)) (by simp) (fun _ _ _ _ _ _ => (dg_name (i := 1) sc.nd)) (fun _ _ _ _ _ _ => dts_nil) (fun _ _ _ _ _ _ => (de_callB callD_len n_len (da_cons (de_hcall h_worths_of mono_F_ck_worths_of (hr.mono (by decide)) gd (dar_e (de_var (i := 0)) (dar_e (de_var (i := 1)) dar_nil))) da_nil)))) da_nil))))) ok
theorem sc_table_place : FnScope ["clocks", "row", "place", "person"] ["clocks", "row"] (defScope (top 9)) := ⟨rfl, rfl, rfl, by decide +kernel, rfl, by decide +kernel, by decide +kernel⟩
theorem has_table_place {P : Program} {w : World} {K : PySem.W.Frag} {mg : Str → Option Value} {base : Heap} {f : Addr} {fd : FuncData} (D0 : FunD K "table_place" "table_place" (defArgs (top 9)) (defBody (top 9)) (defScope (top 9)) [] [] f fd) (hm : mg "table_place" = some (.ref f)) (h_person_count : Has P w K mg base "person_count" 1 ["clocks"] F_person_count) (h_worths_of : Has P w K mg base "worths_of" 1 ["clocks", "person"] F_ck_worths_of) (n_len : mg "len" = none) (n_range : mg "range" = none) (ok : BodyOk 4 W_table_place F_table_place) : Has P w K mg base "table_place" 2 ["clocks", "row"] F_table_place :=
  has_of D0 hm (fun _ _ _ _ _ _ us hl => match us, hl with | [_, _], _ => rfl) sc_table_place rfl (by intro ss k h; unfold F_table_place at h; (repeat (obtain ⟨_, h⟩ := h)); subst_vars; rfl) (fun cdv A out st H E C hr gd => by
    have sc := sc_table_place
    have hp := PassesOwn.never (M := model P w) (A := A.deeper (envOfC "table_place" (defScope (top 9)) st.heap.objs.size f cdv)) (env := envOfC "table_place" (defScope (top 9)) st.heap.objs.size f cdv)
    exact (dss_cons (ds_set (i := 2) sc.nd (de_int))
    (dss_cons (ds_forW (js := [3]) hp rfl (di_range1 n_range (de_hcall h_person_count mono_F_person_count (hr.mono (by decide)) gd (dar_e (de_var (i := 0)) dar_nil))) (dg_name (i := 3) sc.nd) (dss_one (ds_set (i := 2) sc.nd (de_bin opD_add (de_bin opD_mul (de_var (i := 2)) (de_callB callD_len n_len (da_cons (de_hcall h_worths_of mono_F_ck_worths_of (hr.mono (by decide)) gd (dar_e (de_var (i := 0)) (dar_e (de_var (i := 3)) dar_nil))) da_nil))) (de_idxV (i := 1) (de_var (i := 3)))))))
    (dss_one (ds_ret (de_var (i := 2))))))) ok
theorem sc_winners_at : FnScope ["clocks", "row"] ["clocks", "row"] (defScope (top 10)) := ⟨rfl, rfl, rfl, by decide +kernel, rfl, by decide +kernel, by decide +kernel⟩
theorem has_winners_at {P : Program} {w : World} {K : PySem.W.Frag} {mg : Str → Option Value} {base : Heap} {f : Addr} {fd : FuncData} (D0 : FunD K "winners_at" "winners_at" (defArgs (top 10)) (defBody (top 10)) (defScope (top 10)) [] [] f fd) (hm : mg "winners_at" = some (.ref f)) (h_table_place : Has P w K mg base "table_place" 2 ["clocks", "row"] F_table_place) (ok : BodyOk 2 W_winners_at F_winners_at) : Has P w K mg base "winners_at" 3 ["clocks", "row"] F_winners_at :=
  has_of D0 hm (fun _ _ _ _ _ _ us hl => match us, hl with | [_, _], _ => rfl) sc_winners_at rfl (by intro ss k h; unfold F_winners_at at h; (repeat (obtain ⟨_, h⟩ := h)); subst_vars; rfl) (fun cdv A out st H E C hr gd => by
    have sc := sc_winners_at
    have hp := PassesOwn.never (M := model P w) (A := A.deeper (envOfC "winners_at" (defScope (top 10)) st.heap.objs.size f cdv)) (env := envOfC "winners_at" (defScope (top 10)) st.heap.objs.size f cdv)
    exact (dss_one (ds_ret (de_idx (de_idxV (i := 0) (de_int)) (de_hcall h_table_place mono_F_table_place (hr.mono (by decide)) gd (dar_e (de_var (i := 0)) (dar_e (de_var (i := 1)) dar_nil))))))) ok
theorem sc_wins_at : FnScope ["clocks", "row", "person"] ["clocks", "row", "person"] (defScope (top 11)) := ⟨rfl, rfl, rfl, by decide +kernel, rfl, by decide +kernel, by decide +kernel⟩
theorem has_wins_at {P : Program} {w : World} {K : PySem.W.Frag} {mg : Str → Option Value} {base : Heap} {f : Addr} {fd : FuncData} (D0 : FunD K "wins_at" "wins_at" (defArgs (top 11)) (defBody (top 11)) (defScope (top 11)) [] [] f fd) (hm : mg "wins_at" = some (.ref f)) (h_winners_at : Has P w K mg base "winners_at" 3 ["clocks", "row"] F_winners_at) (ok : BodyOk 3 W_wins_at F_wins_at) : Has P w K mg base "wins_at" 4 ["clocks", "row", "person"] F_wins_at :=
  has_of D0 hm (fun _ _ _ _ _ _ us hl => match us, hl with | [_, _, _], _ => rfl) sc_wins_at rfl (by intro ss k h; unfold F_wins_at at h; (repeat (obtain ⟨_, h⟩ := h)); subst_vars; rfl) (fun cdv A out st H E C hr gd => by
    have sc := sc_wins_at
    have hp := PassesOwn.never (M := model P w) (A := A.deeper (envOfC "wins_at" (defScope (top 11)) st.heap.objs.size f cdv)) (env := envOfC "wins_at" (defScope (top 11)) st.heap.objs.size f cdv)
    exact (dss_one (ds_ret (de_cmp (opD_in (room_u65 hr)) (de_var (i := 2)) (de_hcall h_winners_at mono_F_winners_at (hr.mono (by decide)) gd (dar_e (de_var (i := 0)) (dar_e (de_var (i := 1)) dar_nil))))))) ok
theorem sc_clock_whole : FnScope ["clocks", "many"] ["clocks"] (defScope (top 13)) := ⟨rfl, rfl, rfl, by decide +kernel, rfl, by decide +kernel, by decide +kernel⟩
theorem has_clock_whole {P : Program} {w : World} {K : PySem.W.Frag} {mg : Str → Option Value} {base : Heap} {f : Addr} {fd : FuncData} (D0 : FunD K "clock_whole" "clock_whole" (defArgs (top 13)) (defBody (top 13)) (defScope (top 13)) [] [] f fd) (hm : mg "clock_whole" = some (.ref f)) (h_table_sizes : Has P w K mg base "table_sizes" 2 ["clocks"] F_table_sizes) (n_range : mg "range" = none) (n_tuple : mg "tuple" = none) (ok : BodyOk 2 W_clock_whole F_clock_whole) : Has P w K mg base "clock_whole" 3 ["clocks"] F_clock_whole :=
  has_of D0 hm (fun _ _ _ _ _ _ us hl => match us, hl with | [_], _ => rfl) sc_clock_whole rfl (by intro ss k h; unfold F_clock_whole at h; (repeat (obtain ⟨_, h⟩ := h)); subst_vars; rfl) (fun cdv A out st H E C hr gd => by
    have sc := sc_clock_whole
    have hp := PassesOwn.never (M := model P w) (A := A.deeper (envOfC "clock_whole" (defScope (top 13)) st.heap.objs.size f cdv)) (env := envOfC "clock_whole" (defScope (top 13)) st.heap.objs.size f cdv)
    exact (dss_one (ds_ret (de_callTy callD_tuple n_tuple (da_cons (de_lc (own := [("many", 1)]) rfl sc.nd (di_seq (de_hcall h_table_sizes mono_F_table_sizes (hr.mono (by decide)) gd (dar_e (de_var (i := 0)) dar_nil))) (blkOk_by (own := [("many", 1)]) (by kernel_rfl)) (by simp) (fun _ _ _ _ _ _ => (dg_name (i := 1) sc.nd)) (fun _ _ _ _ _ _ => dts_nil) (fun _ _ _ _ _ _ => (de_tupRg rfl n_tuple n_range (de_var (i := 1))))) da_nil))))) ok
theorem sc_unlike_winners : FnScope ["clocks", "box", "rows", "first", "row"] ["clocks", "box"] (defScope (top 14)) := ⟨rfl, rfl, rfl, by decide +kernel, rfl, by decide +kernel, by decide +kernel⟩
theorem has_unlike_winners {P : Program} {w : World} {K : PySem.W.Frag} {mg : Str → Option Value} {base : Heap} {f : Addr} {fd : FuncData} (D0 : FunD K "unlike_winners" "unlike_winners" (defArgs (top 14)) (defBody (top 14)) (defScope (top 14)) [] [] f fd) (hm : mg "unlike_winners" = some (.ref f)) (h_rows_of : Has P w K mg base "rows_of" 2 ["box"] F_rows_of) (h_winners_at : Has P w K mg base "winners_at" 3 ["clocks", "row"] F_winners_at) (ok : BodyOk 5 W_unlike_winners F_unlike_winners) : Has P w K mg base "unlike_winners" 4 ["clocks", "box"] F_unlike_winners :=
  has_of D0 hm (fun _ _ _ _ _ _ us hl => match us, hl with | [_, _], _ => rfl) sc_unlike_winners rfl (by intro ss k h; unfold F_unlike_winners at h; (repeat (obtain ⟨_, h⟩ := h)); subst_vars; rfl) (fun cdv A out st H E C hr gd => by
    have sc := sc_unlike_winners
    have hp := PassesOwn.never (M := model P w) (A := A.deeper (envOfC "unlike_winners" (defScope (top 14)) st.heap.objs.size f cdv)) (env := envOfC "unlike_winners" (defScope (top 14)) st.heap.objs.size f cdv)
    exact (dss_cons (ds_set (i := 2) sc.nd (de_hcall h_rows_of mono_F_rows_of (hr.mono (by decide)) gd (dar_e (de_var (i := 1)) dar_nil)))
    (dss_cons (ds_set (i := 3) sc.nd (de_hcall h_winners_at mono_F_winners_at (hr.mono (by decide)) gd (dar_e (de_var (i := 0)) (dar_e (de_idxV (i := 2) (de_int)) dar_nil))))
    (dss_cons (ds_forW (js := [4]) hp rfl (di_seq (de_var (i := 2))) (dg_name (i := 4) sc.nd) (dss_one (ds_if (dt_cmp (opD_ne (room_u hr)) (de_hcall h_winners_at mono_F_winners_at (hr.mono (by decide)) gd (dar_e (de_var (i := 0)) (dar_e (de_var (i := 4)) dar_nil))) (de_var (i := 3))) (dss_one (ds_ret (de_tup (da_cons (de_idxV (i := 2) (de_int)) (da_cons (de_var (i := 4)) da_nil))))) dss_nil)))
    (dss_one (ds_ret (de_non))))))) ok
theorem sc_is_settled : FnScope ["clocks", "box"] ["clocks", "box"] (defScope (top 15)) := ⟨rfl, rfl, rfl, by decide +kernel, rfl, by decide +kernel, by decide +kernel⟩
theorem has_is_settled {P : Program} {w : World} {K : PySem.W.Frag} {mg : Str → Option Value} {base : Heap} {f : Addr} {fd : FuncData} (D0 : FunD K "is_settled" "is_settled" (defArgs (top 15)) (defBody (top 15)) (defScope (top 15)) [] [] f fd) (hm : mg "is_settled" = some (.ref f)) (h_unlike_winners : Has P w K mg base "unlike_winners" 4 ["clocks", "box"] F_unlike_winners) (ok : BodyOk 2 W_is_settled F_is_settled) : Has P w K mg base "is_settled" 5 ["clocks", "box"] F_is_settled :=
  has_of D0 hm (fun _ _ _ _ _ _ us hl => match us, hl with | [_, _], _ => rfl) sc_is_settled rfl (by intro ss k h; unfold F_is_settled at h; (repeat (obtain ⟨_, h⟩ := h)); subst_vars; rfl) (fun cdv A out st H E C hr gd => by
    have sc := sc_is_settled
    have hp := PassesOwn.never (M := model P w) (A := A.deeper (envOfC "is_settled" (defScope (top 15)) st.heap.objs.size f cdv)) (env := envOfC "is_settled" (defScope (top 15)) st.heap.objs.size f cdv)
    exact (dss_one (ds_ret (de_isN (de_hcall h_unlike_winners mono_F_unlike_winners (hr.mono (by decide)) gd (dar_e (de_var (i := 0)) (dar_e (de_var (i := 1)) dar_nil))))))) ok
theorem sc_outer_kind : FnScope ["clocks", "box", "person"] ["clocks", "box", "person"] (defScope (top 16)) := ⟨rfl, rfl, rfl, by decide +kernel, rfl, by decide +kernel, by decide +kernel⟩
theorem has_outer_kind {P : Program} {w : World} {K : PySem.W.Frag} {mg : Str → Option Value} {base : Heap} {f : Addr} {fd : FuncData} (D0 : FunD K "outer_kind" "outer_kind" (defArgs (top 16)) (defBody (top 16)) (defScope (top 16)) [] [] f fd) (hm : mg "outer_kind" = some (.ref f)) (h_is_rising : Has P w K mg base "is_rising" 1 ["clocks", "person"] F_is_rising) (ok : BodyOk 3 W_outer_kind F_outer_kind) : Has P w K mg base "outer_kind" 2 ["clocks", "box", "person"] F_outer_kind :=
  has_of D0 hm (fun _ _ _ _ _ _ us hl => match us, hl with | [_, _, _], _ => rfl) sc_outer_kind rfl (by intro ss k h; unfold F_outer_kind at h; (repeat (obtain ⟨_, h⟩ := h)); subst_vars; rfl) (fun cdv A out st H E C hr gd => by
    have sc := sc_outer_kind
    have hp := PassesOwn.never (M := model P w) (A := A.deeper (envOfC "outer_kind" (defScope (top 16)) st.heap.objs.size f cdv)) (env := envOfC "outer_kind" (defScope (top 16)) st.heap.objs.size f cdv)
    exact (dss_cons (ds_if (dt_tru (de_hcall h_is_rising mono_F_is_rising (hr.mono (by decide)) gd (dar_e (de_var (i := 0)) (dar_e (de_var (i := 2)) dar_nil)))) (dss_one (ds_ret (de_idx (de_idxV (i := 1) (de_var (i := 2))) (de_int)))) dss_nil)
    (dss_one (ds_ret (de_idx (de_idxV (i := 1) (de_var (i := 2))) (de_neg (de_int))))))) ok
theorem sc_outer_parts : FnScope ["clocks", "box", "person", "kinds"] ["clocks", "box", "person"] (defScope (top 17)) := ⟨rfl, rfl, rfl, by decide +kernel, rfl, by decide +kernel, by decide +kernel⟩
theorem has_outer_parts {P : Program} {w : World} {K : PySem.W.Frag} {mg : Str → Option Value} {base : Heap} {f : Addr} {fd : FuncData} (D0 : FunD K "outer_parts" "outer_parts" (defArgs (top 17)) (defBody (top 17)) (defScope (top 17)) [] [] f fd) (hm : mg "outer_parts" = some (.ref f)) (h_is_rising : Has P w K mg base "is_rising" 1 ["clocks", "person"] F_is_rising) (ok : BodyOk 4 W_outer_parts F_outer_parts) : Has P w K mg base "outer_parts" 2 ["clocks", "box", "person"] F_outer_parts :=
  has_of D0 hm (fun _ _ _ _ _ _ us hl => match us, hl with | [_, _, _], _ => rfl) sc_outer_parts rfl (by intro ss k h; unfold F_outer_parts at h; (repeat (obtain ⟨_, h⟩ := h)); subst_vars; rfl) (fun cdv A out st H E C hr gd => by
    have sc := sc_outer_parts
    have hp := PassesOwn.never (M := model P w) (A := A.deeper (envOfC "outer_parts" (defScope (top 17)) st.heap.objs.size f cdv)) (env := envOfC "outer_parts" (defScope (top 17)) st.heap.objs.size f cdv)
    exact (dss_cons (ds_set (i := 3) sc.nd (de_idxV (i := 1) (de_var (i := 2))))
    (dss_cons (ds_if (dt_tru (de_hcall h_is_rising mono_F_is_rising (hr.mono (by decide)) gd (dar_e (de_var (i := 0)) (dar_e (de_var (i := 2)) dar_nil)))) (dss_one (ds_ret (de_tup (da_cons (de_slice (de_var (i := 3)) do_none (do_some (de_int))) (da_cons (de_slice (de_var (i := 3)) (do_some (de_int)) do_none) da_nil))))) dss_nil)
    (dss_one (ds_ret (de_tup (da_cons (de_slice (de_var (i := 3)) do_none (do_some (de_neg (de_int)))) (da_cons (de_slice (de_var (i := 3)) (do_some (de_neg (de_int))) do_none) da_nil)))))))) ok
theorem sc_is_against : FnScope ["clocks", "row", "person"] ["clocks", "row", "person"] (defScope (top 18)) := ⟨rfl, rfl, rfl, by decide +kernel, rfl, by decide +kernel, by decide +kernel⟩
theorem has_is_against {P : Program} {w : World} {K : PySem.W.Frag} {mg : Str → Option Value} {base : Heap} {f : Addr} {fd : FuncData} (D0 : FunD K "is_against" "is_against" (defArgs (top 18)) (defBody (top 18)) (defScope (top 18)) [] [] f fd) (hm : mg "is_against" = some (.ref f)) (h_is_rising : Has P w K mg base "is_rising" 1 ["clocks", "person"] F_is_rising) (h_wins_at : Has P w K mg base "wins_at" 4 ["clocks", "row", "person"] F_wins_at) (ok : BodyOk 3 W_is_against F_is_against) : Has P w K mg base "is_against" 5 ["clocks", "row", "person"] F_is_against :=
  has_of D0 hm (fun _ _ _ _ _ _ us hl => match us, hl with | [_, _, _], _ => rfl) sc_is_against rfl (by intro ss k h; unfold F_is_against at h; (repeat (obtain ⟨_, h⟩ := h)); subst_vars; rfl) (fun cdv A out st H E C hr gd => by
    have sc := sc_is_against
    have hp := PassesOwn.never (M := model P w) (A := A.deeper (envOfC "is_against" (defScope (top 18)) st.heap.objs.size f cdv)) (env := envOfC "is_against" (defScope (top 18)) st.heap.objs.size f cdv)
    exact (dss_cons (ds_if (dt_tru (de_hcall h_is_rising mono_F_is_rising (hr.mono (by decide)) gd (dar_e (de_var (i := 0)) (dar_e (de_var (i := 2)) dar_nil)))) (dss_one (ds_ret (de_hcall h_wins_at mono_F_wins_at (hr.mono (by decide)) gd (dar_e (de_var (i := 0)) (dar_e (de_var (i := 1)) (dar_e (de_var (i := 2)) dar_nil)))))) dss_nil)
    (dss_one (ds_ret (de_not (de_hcall h_wins_at mono_F_wins_at (hr.mono (by decide)) gd (dar_e (de_var (i := 0)) (dar_e (de_var (i := 1)) (dar_e (de_var (i := 2)) dar_nil))))))))) ok
theorem sc_is_showing : FnScope ["clocks", "box", "person", "row"] ["clocks", "box", "person", "row"] (defScope (top 19)) := ⟨rfl, rfl, rfl, by decide +kernel, rfl, by decide +kernel, by decide +kernel⟩
theorem has_is_showing {P : Program} {w : World} {K : PySem.W.Frag} {mg : Str → Option Value} {base : Heap} {f : Addr} {fd : FuncData} (D0 : FunD K "is_showing" "is_showing" (defArgs (top 19)) (defBody (top 19)) (defScope (top 19)) [] [] f fd) (hm : mg "is_showing" = some (.ref f)) (h_is_against : Has P w K mg base "is_against" 5 ["clocks", "row", "person"] F_is_against) (h_outer_kind : Has P w K mg base "outer_kind" 2 ["clocks", "box", "person"] F_outer_kind) (ok : BodyOk 4 W_is_showing F_is_showing) : Has P w K mg base "is_showing" 6 ["clocks", "box", "person", "row"] F_is_showing :=
  has_of D0 hm (fun _ _ _ _ _ _ us hl => match us, hl with | [_, _, _, _], _ => rfl) sc_is_showing rfl (by intro ss k h; unfold F_is_showing at h; (repeat (obtain ⟨_, h⟩ := h)); subst_vars; rfl) (fun cdv A out st H E C hr gd => by
    have sc := sc_is_showing
    have hp := PassesOwn.never (M := model P w) (A := A.deeper (envOfC "is_showing" (defScope (top 19)) st.heap.objs.size f cdv)) (env := envOfC "is_showing" (defScope (top 19)) st.heap.objs.size f cdv)
    exact (dss_one (ds_ret ((de_and (de_cmp (opD_eq (room_u hr)) (de_idxV (i := 3) (de_var (i := 2))) (de_hcall h_outer_kind mono_F_outer_kind (hr.mono (by decide)) gd (dar_e (de_var (i := 0)) (dar_e (de_var (i := 1)) (dar_e (de_var (i := 2)) dar_nil))))) (de_one (de_hcall h_is_against mono_F_is_against (hr.mono (by decide)) gd (dar_e (de_var (i := 0)) (dar_e (de_var (i := 3)) (dar_e (de_var (i := 2)) dar_nil)))))))))) ok
theorem sc_showing_row : FnScope ["clocks", "box", "person", "row"] ["clocks", "box", "person"] (defScope (top 20)) := ⟨rfl, rfl, rfl, by decide +kernel, rfl, by decide +kernel, by decide +kernel⟩
theorem has_showing_row {P : Program} {w : World} {K : PySem.W.Frag} {mg : Str → Option Value} {base : Heap} {f : Addr} {fd : FuncData} (D0 : FunD K "showing_row" "showing_row" (defArgs (top 20)) (defBody (top 20)) (defScope (top 20)) [] [] f fd) (hm : mg "showing_row" = some (.ref f)) (h_is_showing : Has P w K mg base "is_showing" 6 ["clocks", "box", "person", "row"] F_is_showing) (h_rows_of : Has P w K mg base "rows_of" 2 ["box"] F_rows_of) (ok : BodyOk 4 W_showing_row F_showing_row) : Has P w K mg base "showing_row" 7 ["clocks", "box", "person"] F_showing_row :=
  has_of D0 hm (fun _ _ _ _ _ _ us hl => match us, hl with | [_, _, _], _ => rfl) sc_showing_row rfl (by intro ss k h; unfold F_showing_row at h; (repeat (obtain ⟨_, h⟩ := h)); subst_vars; rfl) (fun cdv A out st H E C hr gd => by
    have sc := sc_showing_row
    have hp := PassesOwn.never (M := model P w) (A := A.deeper (envOfC "showing_row" (defScope (top 20)) st.heap.objs.size f cdv)) (env := envOfC "showing_row" (defScope (top 20)) st.heap.objs.size f cdv)
    exact (dss_cons (ds_forW (js := [3]) hp rfl (di_seq (de_hcall h_rows_of mono_F_rows_of (hr.mono (by decide)) gd (dar_e (de_var (i := 1)) dar_nil))) (dg_name (i := 3) sc.nd) (dss_one (ds_if (dt_tru (de_hcall h_is_showing mono_F_is_showing (hr.mono (by decide)) gd (dar_e (de_var (i := 0)) (dar_e (de_var (i := 1)) (dar_e (de_var (i := 2)) (dar_e (de_var (i := 3)) dar_nil)))))) (dss_one (ds_ret (de_var (i := 3)))) dss_nil)))
    (dss_one (ds_ret (de_non))))) ok
theorem sc_has_choice : FnScope ["box", "person"] ["box", "person"] (defScope (top 21)) := ⟨rfl, rfl, rfl, by decide +kernel, rfl, by decide +kernel, by decide +kernel⟩
theorem has_has_choice {P : Program} {w : World} {K : PySem.W.Frag} {mg : Str → Option Value} {base : Heap} {f : Addr} {fd : FuncData} (D0 : FunD K "has_choice" "has_choice" (defArgs (top 21)) (defBody (top 21)) (defScope (top 21)) [] [] f fd) (hm : mg "has_choice" = some (.ref f)) (n_len : mg "len" = none) (ok : BodyOk 2 W_has_choice F_has_choice) : Has P w K mg base "has_choice" 1 ["box", "person"] F_has_choice :=
  has_of D0 hm (fun _ _ _ _ _ _ us hl => match us, hl with | [_, _], _ => rfl) sc_has_choice rfl (by intro ss k h; unfold F_has_choice at h; (repeat (obtain ⟨_, h⟩ := h)); subst_vars; rfl) (fun cdv A out st H E C hr gd => by
    have sc := sc_has_choice
    have hp := PassesOwn.never (M := model P w) (A := A.deeper (envOfC "has_choice" (defScope (top 21)) st.heap.objs.size f cdv)) (env := envOfC "has_choice" (defScope (top 21)) st.heap.objs.size f cdv)
    exact (dss_one (ds_ret (de_cmp opD_gt (de_callB callD_len n_len (da_cons (de_idxV (i := 0) (de_var (i := 1))) da_nil)) (de_int))))) ok
theorem sc_clock_parts : FnScope ["clocks", "box", "person"] ["clocks", "box", "person"] (defScope (top 22)) := ⟨rfl, rfl, rfl, by decide +kernel, rfl, by decide +kernel, by decide +kernel⟩
theorem has_clock_parts {P : Program} {w : World} {K : PySem.W.Frag} {mg : Str → Option Value} {base : Heap} {f : Addr} {fd : FuncData} (D0 : FunD K "clock_parts" "clock_parts" (defArgs (top 22)) (defBody (top 22)) (defScope (top 22)) [] [] f fd) (hm : mg "clock_parts" = some (.ref f)) (h_has_choice : Has P w K mg base "has_choice" 1 ["box", "person"] F_has_choice) (h_outer_parts : Has P w K mg base "outer_parts" 2 ["clocks", "box", "person"] F_outer_parts) (h_showing_row : Has P w K mg base "showing_row" 7 ["clocks", "box", "person"] F_showing_row) (ok : BodyOk 3 W_clock_parts F_clock_parts) : Has P w K mg base "clock_parts" 8 ["clocks", "box", "person"] F_clock_parts :=
  has_of D0 hm (fun _ _ _ _ _ _ us hl => match us, hl with | [_, _, _], _ => rfl) sc_clock_parts rfl (by intro ss k h; unfold F_clock_parts at h; (repeat (obtain ⟨_, h⟩ := h)); subst_vars; rfl) (fun cdv A out st H E C hr gd => by
    have sc := sc_clock_parts
    have hp := PassesOwn.never (M := model P w) (A := A.deeper (envOfC "clock_parts" (defScope (top 22)) st.heap.objs.size f cdv)) (env := envOfC "clock_parts" (defScope (top 22)) st.heap.objs.size f cdv)
    exact (dss_cons (ds_if (dt_not (dt_tru (de_hcall h_has_choice mono_F_has_choice (hr.mono (by decide)) gd (dar_e (de_var (i := 1)) (dar_e (de_var (i := 2)) dar_nil))))) (dss_one (ds_ret (de_non))) dss_nil)
    (dss_cons (ds_if (dt_notN (de_hcall h_showing_row mono_F_showing_row (hr.mono (by decide)) gd (dar_e (de_var (i := 0)) (dar_e (de_var (i := 1)) (dar_e (de_var (i := 2)) dar_nil))))) (dss_one (ds_ret (de_non))) dss_nil)
    (dss_one (ds_ret (de_hcall h_outer_parts mono_F_outer_parts (hr.mono (by decide)) gd (dar_e (de_var (i := 0)) (dar_e (de_var (i := 1)) (dar_e (de_var (i := 2)) dar_nil))))))))) ok
theorem sc__law_begin : FnScope ["script", "cell"] ["script"] (defScope (top 24)) := ⟨rfl, rfl, rfl, by decide +kernel, rfl, by decide +kernel, by decide +kernel⟩
theorem has__law_begin {P : Program} {w : World} {K : PySem.W.Frag} {mg : Str → Option Value} {base : Heap} {f : Addr} {fd : FuncData} (D0 : FunD K "_law_begin" "_law_begin" (defArgs (top 24)) (defBody (top 24)) (defScope (top 24)) [] [] f fd) (hm : mg "_law_begin" = some (.ref f)) (n_int : mg "int" = none) (ok : BodyOk 2 W__law_begin F__law_begin) : Has P w K mg base "_law_begin" 1 ["script"] F__law_begin :=
  has_of D0 hm (fun _ _ _ _ _ _ us hl => match us, hl with | [_], _ => rfl) sc__law_begin rfl (by intro ss k h; unfold F__law_begin at h; (repeat (obtain ⟨_, h⟩ := h)); subst_vars; rfl) (fun cdv A out st H E C hr gd => by
    have sc := sc__law_begin
    have hp := PassesOwn.never (M := model P w) (A := A.deeper (envOfC "_law_begin" (defScope (top 24)) st.heap.objs.size f cdv)) (env := envOfC "_law_begin" (defScope (top 24)) st.heap.objs.size f cdv)
    exact (dss_draws (dss_one (ds_ret (de_lst (da_cons (de_lc (own := [("cell", 1)]) rfl sc.nd (di_scr (i := 0)) (blkOk_by (own := [("cell", 1)]) (by kernel_rfl)) (by simp) (fun _ _ _ _ _ _ => (dg_name (i := 1) sc.nd)) (fun _ _ _ _ _ _ => dts_nil) (fun _ _ _ _ _ _ => (de_callTy callD_int n_int (da_cons (de_var (i := 1)) da_nil)))) (da_cons (de_int) (da_cons (de_int) (da_cons (de_int) da_nil))))))))) ok
theorem sc__law_draw : FnScope ["d", "many", "found", "size", "cell"] ["d", "many"] (defScope (top 25)) := ⟨rfl, rfl, rfl, by decide +kernel, rfl, by decide +kernel, by decide +kernel⟩
theorem has__law_draw {P : Program} {w : World} {K : PySem.W.Frag} {mg : Str → Option Value} {base : Heap} {f : Addr} {fd : FuncData} (D0 : FunD K "_law_draw" "_law_draw" (defArgs (top 25)) (defBody (top 25)) (defScope (top 25)) [] [] f fd) (hm : mg "_law_draw" = some (.ref f)) (n_abs : mg "abs" = none) (n_int : mg "int" = none) (n_len : mg "len" = none) (ok : BodyOk 5 W__law_draw F__law_draw) : Has P w K mg base "_law_draw" 1 ["d", "many"] F__law_draw :=
  has_of D0 hm (fun _ _ _ _ _ _ us hl => match us, hl with | [_, _], _ => rfl) sc__law_draw rfl (by intro ss k h; unfold F__law_draw at h; (repeat (obtain ⟨_, h⟩ := h)); subst_vars; rfl) (fun cdv A out st H E C hr gd => by
    have sc := sc__law_draw
    have hp := PassesOwn.never (M := model P w) (A := A.deeper (envOfC "_law_draw" (defScope (top 25)) st.heap.objs.size f cdv)) (env := envOfC "_law_draw" (defScope (top 25)) st.heap.objs.size f cdv)
    exact (dss_open (i := 0) (dss_cons (ds_if (dt_cmp opD_gt (de_idxV (i := 0) (de_int)) (de_int)) (dss_cons (ds_set (i := 2) sc.nd (de_idxV (i := 0) (de_int)))
    (dss_cons (ds_putL (i := 0) (de_int) (de_bin opD_fdiv (de_var (i := 2)) (de_var (i := 1))))
    (dss_one (ds_ret (de_bin opD_mod (de_callTy callD_int n_int (da_cons (de_var (i := 2)) da_nil)) (de_var (i := 1))))))) dss_nil)
    (dss_cons (ds_set (i := 3) sc.nd (de_int))
    (dss_cons (ds_if (dt_cmp opD_lt (de_idxV (i := 0) (de_int)) (de_callB callD_len n_len (da_cons (de_idxV (i := 0) (de_int)) da_nil))) (dss_cons (ds_set (i := 4) sc.nd (de_idx (de_idxV (i := 0) (de_int)) (de_idxV (i := 0) (de_int))))
    (dss_one (ds_set (i := 3) sc.nd (de_bin opD_add (de_bin opD_mul (de_int) (de_callB callD_abs n_abs (da_cons (de_var (i := 4)) da_nil))) (de_callTy callD_int n_int (da_cons (de_cmp opD_lt (de_var (i := 4)) (de_int)) da_nil)))))) dss_nil)
    (dss_cons (ds_augL (i := 0) (de_int) (de_int))
    (dss_cons (ds_if (dt_cmp opD_ge (de_var (i := 3)) (de_bin opD_mul (de_int) (de_bin opD_pow (de_int) (de_int)))) (dss_cons (ds_set (i := 2) sc.nd (de_bin opD_mod (de_callTy callD_int n_int (da_cons (de_bin opD_fdiv (de_var (i := 3)) (de_int)) da_nil)) (de_bin opD_shl (de_int) (de_int))))
    (dss_cons (ds_putL (i := 0) (de_int) (de_bin opD_fdiv (de_var (i := 2)) (de_var (i := 1))))
    (dss_one (ds_ret (de_bin opD_mod (de_callTy callD_int n_int (da_cons (de_var (i := 2)) da_nil)) (de_var (i := 1))))))) dss_nil)
    (dss_cons (ds_putL (i := 0) (de_int) (de_bin opD_mod (de_callTy callD_int n_int (da_cons (de_bin opD_add (de_bin opD_add (de_bin opD_add (de_bin opD_mul (de_idxV (i := 0) (de_int)) (de_int)) (de_bin opD_mul (de_bin opD_mod (de_callTy callD_int n_int (da_cons (de_var (i := 3)) da_nil)) (de_int)) (de_int))) (de_bin opD_mul (de_idxV (i := 0) (de_int)) (de_int))) (de_int)) da_nil)) (de_int)))
    (dss_one (ds_ret (de_bin opD_mod (de_callTy callD_int n_int (da_cons (de_bin opD_fdiv (de_idxV (i := 0) (de_int)) (de_int)) da_nil)) (de_var (i := 1))))))))))))) ok
theorem sc__law_pick : FnScope ["d", "row"] ["d", "row"] (defScope (top 26)) := ⟨rfl, rfl, rfl, by decide +kernel, rfl, by decide +kernel, by decide +kernel⟩
theorem has__law_pick {P : Program} {w : World} {K : PySem.W.Frag} {mg : Str → Option Value} {base : Heap} {f : Addr} {fd : FuncData} (D0 : FunD K "_law_pick" "_law_pick" (defArgs (top 26)) (defBody (top 26)) (defScope (top 26)) [] [] f fd) (hm : mg "_law_pick" = some (.ref f)) (h__law_draw : Has P w K mg base "_law_draw" 1 ["d", "many"] F__law_draw) (n_len : mg "len" = none) (ok : BodyOk 2 W__law_pick F__law_pick) : Has P w K mg base "_law_pick" 2 ["d", "row"] F__law_pick :=
  has_of D0 hm (fun _ _ _ _ _ _ us hl => match us, hl with | [_, _], _ => rfl) sc__law_pick rfl (by intro ss k h; unfold F__law_pick at h; (repeat (obtain ⟨_, h⟩ := h)); subst_vars; rfl) (fun cdv A out st H E C hr gd => by
    have sc := sc__law_pick
    have hp := PassesOwn.never (M := model P w) (A := A.deeper (envOfC "_law_pick" (defScope (top 26)) st.heap.objs.size f cdv)) (env := envOfC "_law_pick" (defScope (top 26)) st.heap.objs.size f cdv)
    exact (dss_one (ds_ret (de_idxV (i := 1) (de_hcall h__law_draw mono_F__law_draw (hr.mono (by decide)) gd (dar_r (i := 0) (dar_e (de_lenV (i := 1) n_len) dar_nil))))))) ok
theorem sc__law_pop : FnScope ["d", "row"] ["d", "row"] (defScope (top 27)) := ⟨rfl, rfl, rfl, by decide +kernel, rfl, by decide +kernel, by decide +kernel⟩
theorem has__law_pop {P : Program} {w : World} {K : PySem.W.Frag} {mg : Str → Option Value} {base : Heap} {f : Addr} {fd : FuncData} (D0 : FunD K "_law_pop" "_law_pop" (defArgs (top 27)) (defBody (top 27)) (defScope (top 27)) [] [] f fd) (hm : mg "_law_pop" = some (.ref f)) (h__law_draw : Has P w K mg base "_law_draw" 1 ["d", "many"] F__law_draw) (n_len : mg "len" = none) (ok : BodyOk 2 W__law_pop F__law_pop) : Has P w K mg base "_law_pop" 2 ["d", "row"] F__law_pop :=
  has_of D0 hm (fun _ _ _ _ _ _ us hl => match us, hl with | [_, _], _ => rfl) sc__law_pop rfl (by intro ss k h; unfold F__law_pop at h; (repeat (obtain ⟨_, h⟩ := h)); subst_vars; rfl) (fun cdv A out st H E C hr gd => by
    have sc := sc__law_pop
    have hp := PassesOwn.never (M := model P w) (A := A.deeper (envOfC "_law_pop" (defScope (top 27)) st.heap.objs.size f cdv)) (env := envOfC "_law_pop" (defScope (top 27)) st.heap.objs.size f cdv)
    exact (dss_one (ds_ret (de_popAt (i := 1) (de_hcall h__law_draw mono_F__law_draw (hr.mono (by decide)) gd (dar_r (i := 0) (dar_e (de_lenV (i := 1) n_len) dar_nil))))))) ok
theorem sc__law_rare : FnScope ["d", "many"] ["d", "many"] (defScope (top 28)) := ⟨rfl, rfl, rfl, by decide +kernel, rfl, by decide +kernel, by decide +kernel⟩
theorem has__law_rare {P : Program} {w : World} {K : PySem.W.Frag} {mg : Str → Option Value} {base : Heap} {f : Addr} {fd : FuncData} (D0 : FunD K "_law_rare" "_law_rare" (defArgs (top 28)) (defBody (top 28)) (defScope (top 28)) [] [] f fd) (hm : mg "_law_rare" = some (.ref f)) (h__law_draw : Has P w K mg base "_law_draw" 1 ["d", "many"] F__law_draw) (ok : BodyOk 2 W__law_rare F__law_rare) : Has P w K mg base "_law_rare" 2 ["d", "many"] F__law_rare :=
  has_of D0 hm (fun _ _ _ _ _ _ us hl => match us, hl with | [_, _], _ => rfl) sc__law_rare rfl (by intro ss k h; unfold F__law_rare at h; (repeat (obtain ⟨_, h⟩ := h)); subst_vars; rfl) (fun cdv A out st H E C hr gd => by
    have sc := sc__law_rare
    have hp := PassesOwn.never (M := model P w) (A := A.deeper (envOfC "_law_rare" (defScope (top 28)) st.heap.objs.size f cdv)) (env := envOfC "_law_rare" (defScope (top 28)) st.heap.objs.size f cdv)
    exact (dss_one (ds_ret (de_cmp (opD_eq (room_u hr)) (de_hcall h__law_draw mono_F__law_draw (hr.mono (by decide)) gd (dar_r (i := 0) (dar_e (de_var (i := 1)) dar_nil))) (de_bin opD_fdiv (de_var (i := 1)) (de_int)))))) ok
theorem sc__law_pool : FnScope ["text"] [] (defScope (top 29)) := ⟨rfl, rfl, rfl, by decide +kernel, rfl, by decide +kernel, by decide +kernel⟩
theorem has__law_pool {P : Program} {w : World} {K : PySem.W.Frag} {mg : Str → Option Value} {base : Heap} {f : Addr} {fd : FuncData} (D0 : FunD K "_law_pool" "_law_pool" (defArgs (top 29)) (defBody (top 29)) (defScope (top 29)) [] [] f fd) (hm : mg "_law_pool" = some (.ref f))  (ok : BodyOk 1 W__law_pool F__law_pool) : Has P w K mg base "_law_pool" 1 [] F__law_pool :=
  has_of D0 hm (fun _ _ _ _ _ _ us hl => match us, hl with | [], _ => rfl) sc__law_pool rfl (by intro ss k h; unfold F__law_pool at h; (repeat (obtain ⟨_, h⟩ := h)); subst_vars; rfl) (fun cdv A out st H E C hr gd => by
    have sc := sc__law_pool
    have hp := PassesOwn.never (M := model P w) (A := A.deeper (envOfC "_law_pool" (defScope (top 29)) st.heap.objs.size f cdv)) (env := envOfC "_law_pool" (defScope (top 29)) st.heap.objs.size f cdv)
    exact (dss_cons (ds_set (i := 0) sc.nd (de_str))
    (dss_cons (ds_set (i := 0) sc.nd (de_bin opD_add (de_var (i := 0)) (de_str)))
    (dss_one (ds_ret (de_split (de_bin opD_add (de_var (i := 0)) (de_str)) (de_str))))))) ok
theorem sc__law_is_int : FnScope ["thing"] ["thing"] (defScope (top 30)) := ⟨rfl, rfl, rfl, by decide +kernel, rfl, by decide +kernel, by decide +kernel⟩
theorem has__law_is_int {P : Program} {w : World} {K : PySem.W.Frag} {mg : Str → Option Value} {base : Heap} {f : Addr} {fd : FuncData} (D0 : FunD K "_law_is_int" "_law_is_int" (defArgs (top 30)) (defBody (top 30)) (defScope (top 30)) [] [] f fd) (hm : mg "_law_is_int" = some (.ref f)) (n_bool : mg "bool" = none) (n_int : mg "int" = none) (n_isinstance : mg "isinstance" = none) (ok : BodyOk 1 W__law_is_int F__law_is_int) : Has P w K mg base "_law_is_int" 1 ["thing"] F__law_is_int :=
  has_of D0 hm (fun _ _ _ _ _ _ us hl => match us, hl with | [_], _ => rfl) sc__law_is_int rfl (by intro ss k h; unfold F__law_is_int at h; (repeat (obtain ⟨_, h⟩ := h)); subst_vars; rfl) (fun cdv A out st H E C hr gd => by
    have sc := sc__law_is_int
    have hp := PassesOwn.never (M := model P w) (A := A.deeper (envOfC "_law_is_int" (defScope (top 30)) st.heap.objs.size f cdv)) (env := envOfC "_law_is_int" (defScope (top 30)) st.heap.objs.size f cdv)
    exact (dss_one (ds_ret ((de_and (de_isi n_isinstance n_int (de_var (i := 0))) (de_one (de_not (de_isi n_isinstance n_bool (de_var (i := 0)))))))))) ok
theorem sc__law_sizes : FnScope ["d", "limit", "menu", "found", "sizes", "rows", "many"] ["d", "limit"] (defScope (top 31)) := ⟨rfl, rfl, rfl, by decide +kernel, rfl, by decide +kernel, by decide +kernel⟩
theorem has__law_sizes {P : Program} {w : World} {K : PySem.W.Frag} {mg : Str → Option Value} {base : Heap} {f : Addr} {fd : FuncData} (D0 : FunD K "_law_sizes" "_law_sizes" (defArgs (top 31)) (defBody (top 31)) (defScope (top 31)) [] [] f fd) (hm : mg "_law_sizes" = some (.ref f)) (h__law_pick : Has P w K mg base "_law_pick" 2 ["d", "row"] F__law_pick) (ok : BodyOk 7 W__law_sizes F__law_sizes) : Has P w K mg base "_law_sizes" 3 ["d", "limit"] F__law_sizes :=
  has_of D0 hm (fun _ _ _ _ _ _ us hl => match us, hl with | [_, _], _ => rfl) sc__law_sizes rfl (by intro ss k h; unfold F__law_sizes at h; (repeat (obtain ⟨_, h⟩ := h)); subst_vars; rfl) (fun cdv A out st H E C hr gd => by
    have sc := sc__law_sizes
    have hp := PassesOwn.never (M := model P w) (A := A.deeper (envOfC "_law_sizes" (defScope (top 31)) st.heap.objs.size f cdv)) (env := envOfC "_law_sizes" (defScope (top 31)) st.heap.objs.size f cdv)
    exact (dss_cons (ds_set (i := 2) sc.nd (de_kl (de_lst (da_cons (de_tup (da_cons (de_int) (da_cons (de_int) da_nil))) (da_cons (de_tup (da_cons (de_int) (da_cons (de_int) da_nil))) (da_cons (de_tup (da_cons (de_int) (da_cons (de_int) (da_cons (de_int) da_nil)))) (da_cons (de_tup (da_cons (de_int) (da_cons (de_int) da_nil))) (da_cons (de_tup (da_cons (de_int) (da_cons (de_int) da_nil))) (da_cons (de_tup (da_cons (de_int) (da_cons (de_int) da_nil))) (da_cons (de_tup (da_cons (de_int) (da_cons (de_int) (da_cons (de_int) da_nil)))) (da_cons (de_tup (da_cons (de_int) (da_cons (de_int) da_nil))) (da_cons (de_tup (da_cons (de_int) da_nil)) (da_cons (de_tup (da_cons (de_int) (da_cons (de_int) (da_cons (de_int) da_nil)))) (da_cons (de_tup (da_cons (de_int) da_nil)) (da_cons (de_tup (da_cons (de_int) (da_cons (de_int) da_nil))) da_nil))))))))))))) (by intro ρ k q; (repeat (refine ⟨(by decide), ?_⟩)); exact q)))
    (dss_cons (ds_set (i := 2) sc.nd (de_bin opD_add (de_var (i := 2)) (de_kl (de_lst (da_cons (de_tup (da_cons (de_int) (da_cons (de_int) da_nil))) (da_cons (de_tup (da_cons (de_int) (da_cons (de_int) (da_cons (de_int) da_nil)))) (da_cons (de_tup (da_cons (de_int) (da_cons (de_int) da_nil))) (da_cons (de_tup (da_cons (de_int) (da_cons (de_int) (da_cons (de_int) (da_cons (de_int) da_nil))))) (da_cons (de_tup (da_cons (de_int) (da_cons (de_int) da_nil))) (da_cons (de_tup (da_cons (de_int) (da_cons (de_int) (da_cons (de_int) da_nil)))) (da_cons (de_tup (da_cons (de_int) (da_cons (de_int) da_nil))) (da_cons (de_tup (da_cons (de_int) (da_cons (de_int) da_nil))) (da_cons (de_tup (da_cons (de_int) (da_cons (de_int) (da_cons (de_int) (da_cons (de_int) da_nil))))) da_nil)))))))))) (by intro ρ k q; (repeat (refine ⟨(by decide), ?_⟩)); exact q))))
    (dss_cons (ds_set (i := 2) sc.nd (de_bin opD_add (de_var (i := 2)) (de_kl (de_lst (da_cons (de_tup (da_cons (de_int) (da_cons (de_int) (da_cons (de_int) da_nil)))) (da_cons (de_tup (da_cons (de_int) (da_cons (de_int) (da_cons (de_int) da_nil)))) (da_cons (de_tup (da_cons (de_int) (da_cons (de_int) da_nil))) (da_cons (de_tup (da_cons (de_int) (da_cons (de_int) (da_cons (de_int) da_nil)))) (da_cons (de_tup (da_cons (de_int) (da_cons (de_int) da_nil))) (da_cons (de_tup (da_cons (de_int) (da_cons (de_int) (da_cons (de_int) (da_cons (de_int) da_nil))))) (da_cons (de_tup (da_cons (de_int) (da_cons (de_int) da_nil))) (da_cons (de_tup (da_cons (de_int) (da_cons (de_int) (da_cons (de_int) da_nil)))) (da_cons (de_tup (da_cons (de_int) (da_cons (de_int) da_nil))) (da_cons (de_tup (da_cons (de_int) (da_cons (de_int) (da_cons (de_int) da_nil)))) da_nil))))))))))) (by intro ρ k q; (repeat (refine ⟨(by decide), ?_⟩)); exact q))))
    (dss_cons (ds_set (i := 3) sc.nd (de_lst da_nil))
    (dss_cons (ds_for hp rfl (di_seq (de_var (i := 2))) (dg_name (i := 4) sc.nd) (dss_cons (ds_set (i := 5) sc.nd (de_int))
    (dss_cons (ds_for hp rfl (di_seq (de_var (i := 4))) (dg_name (i := 6) sc.nd) (dss_one (ds_set (i := 5) sc.nd (de_bin opD_mul (de_var (i := 5)) (de_var (i := 6))))))
    (dss_one (ds_if (dt_cmp opD_le (de_var (i := 5)) (de_var (i := 1))) (dss_one (ds_expr (de_append (i := 3) (de_var (i := 4))))) dss_nil)))))
    (dss_one (ds_ret (de_hcall h__law_pick mono_F__law_pick (hr.mono (by decide)) gd (dar_r (i := 0) (dar_e (de_var (i := 3)) dar_nil))))))))))) ok
theorem sc__law_rows : FnScope ["box", "rows", "share", "longer", "row", "kind"] ["box"] (defScope (top 32)) := ⟨rfl, rfl, rfl, by decide +kernel, rfl, by decide +kernel, by decide +kernel⟩
theorem has__law_rows {P : Program} {w : World} {K : PySem.W.Frag} {mg : Str → Option Value} {base : Heap} {f : Addr} {fd : FuncData} (D0 : FunD K "_law_rows" "_law_rows" (defArgs (top 32)) (defBody (top 32)) (defScope (top 32)) [] [] f fd) (hm : mg "_law_rows" = some (.ref f))  (ok : BodyOk 6 W__law_rows F__law_rows) : Has P w K mg base "_law_rows" 1 ["box"] F__law_rows :=
  has_of D0 hm (fun _ _ _ _ _ _ us hl => match us, hl with | [_], _ => rfl) sc__law_rows rfl (by intro ss k h; unfold F__law_rows at h; (repeat (obtain ⟨_, h⟩ := h)); subst_vars; rfl) (fun cdv A out st H E C hr gd => by
    have sc := sc__law_rows
    have hp := PassesOwn.never (M := model P w) (A := A.deeper (envOfC "_law_rows" (defScope (top 32)) st.heap.objs.size f cdv)) (env := envOfC "_law_rows" (defScope (top 32)) st.heap.objs.size f cdv)
    exact (dss_cons (ds_set (i := 1) sc.nd (de_lst (da_cons (de_tup da_nil) da_nil)))
    (dss_cons (ds_for hp rfl (di_seq (de_var (i := 0))) (dg_name (i := 2) sc.nd) (dss_cons (ds_set (i := 3) sc.nd (de_lst da_nil))
    (dss_cons (ds_for hp rfl (di_seq (de_var (i := 1))) (dg_name (i := 4) sc.nd) (dss_one (ds_expr (de_extend (i := 3) (de_lc (own := [("kind", 5)]) rfl sc.nd (di_seq (de_var (i := 2))) (blkOk_by (own := [("kind", 5)]) (by kernel_rfl)) (by simp) (fun _ _ _ _ _ _ => (dg_name (i := 5) sc.nd)) (fun _ _ _ _ _ _ => dts_nil) (fun _ _ _ _ _ _ => (de_bin opD_add (de_var (i := 4)) (de_tup (da_cons (de_var (i := 5)) da_nil)))))))))
    (dss_one (ds_set (i := 1) sc.nd (de_var (i := 3)))))))
    (dss_one (ds_ret (de_var (i := 1))))))) ok
theorem sc__law_narrowed : FnScope ["box", "person", "kinds"] ["box", "person", "kinds"] (defScope (top 33)) := ⟨rfl, rfl, rfl, by decide +kernel, rfl, by decide +kernel, by decide +kernel⟩
theorem has__law_narrowed {P : Program} {w : World} {K : PySem.W.Frag} {mg : Str → Option Value} {base : Heap} {f : Addr} {fd : FuncData} (D0 : FunD K "_law_narrowed" "_law_narrowed" (defArgs (top 33)) (defBody (top 33)) (defScope (top 33)) [] [] f fd) (hm : mg "_law_narrowed" = some (.ref f)) (n_tuple : mg "tuple" = none) (ok : BodyOk 3 W__law_narrowed F__law_narrowed) : Has P w K mg base "_law_narrowed" 1 ["box", "person", "kinds"] F__law_narrowed :=
  has_of D0 hm (fun _ _ _ _ _ _ us hl => match us, hl with | [_, _, _], _ => rfl) sc__law_narrowed rfl (by intro ss k h; unfold F__law_narrowed at h; (repeat (obtain ⟨_, h⟩ := h)); subst_vars; rfl) (fun cdv A out st H E C hr gd => by
    have sc := sc__law_narrowed
    have hp := PassesOwn.never (M := model P w) (A := A.deeper (envOfC "_law_narrowed" (defScope (top 33)) st.heap.objs.size f cdv)) (env := envOfC "_law_narrowed" (defScope (top 33)) st.heap.objs.size f cdv)
    exact (dss_one (ds_ret (de_bin opD_add (de_bin opD_add (de_callTy callD_tuple n_tuple (da_cons (de_slice (de_var (i := 0)) do_none (do_some (de_var (i := 1)))) da_nil)) (de_tup (da_cons (de_callTy callD_tuple n_tuple (da_cons (de_var (i := 2)) da_nil)) da_nil))) (de_callTy callD_tuple n_tuple (da_cons (de_slice (de_var (i := 0)) (do_some (de_bin opD_add (de_var (i := 1)) (de_int))) do_none) da_nil)))))) ok
theorem sc__law_nodes : FnScope ["box", "hearing", "found", "waiting", "path", "here", "node", "k", "kinds", "below"] ["box", "hearing"] (defScope (top 34)) := ⟨rfl, rfl, rfl, by decide +kernel, rfl, by decide +kernel, by decide +kernel⟩
theorem has__law_nodes {P : Program} {w : World} {K : PySem.W.Frag} {mg : Str → Option Value} {base : Heap} {f : Addr} {fd : FuncData} (D0 : FunD K "_law_nodes" "_law_nodes" (defArgs (top 34)) (defBody (top 34)) (defScope (top 34)) [] [] f fd) (hm : mg "_law_nodes" = some (.ref f)) (h__law_narrowed : Has P w K mg base "_law_narrowed" 1 ["box", "person", "kinds"] F__law_narrowed) (n_len : mg "len" = none) (n_range : mg "range" = none) (n_tuple : mg "tuple" = none) (ok : BodyOk 10 W__law_nodes F__law_nodes) : Has P w K mg base "_law_nodes" 2 ["box", "hearing"] F__law_nodes :=
  has_of D0 hm (fun _ _ _ _ _ _ us hl => match us, hl with | [_, _], _ => rfl) sc__law_nodes rfl (by intro ss k h; unfold F__law_nodes at h; (repeat (obtain ⟨_, h⟩ := h)); subst_vars; rfl) (fun cdv A out st H E C hr gd => by
    have sc := sc__law_nodes
    have hp := PassesOwn.never (M := model P w) (A := A.deeper (envOfC "_law_nodes" (defScope (top 34)) st.heap.objs.size f cdv)) (env := envOfC "_law_nodes" (defScope (top 34)) st.heap.objs.size f cdv)
    exact (dss_cons (ds_set (i := 2) sc.nd (de_lst da_nil))
    (dss_cons (ds_set (i := 3) sc.nd (de_lst (da_cons (de_tup (da_cons (de_tup da_nil) (da_cons (de_callTy callD_tuple n_tuple (da_cons (de_var (i := 0)) da_nil)) (da_cons (de_var (i := 1)) da_nil)))) da_nil)))
    (dss_cons (ds_while hp (dt_truV (i := 3)) (dss_cons (ds_asgT (de_pop (i := 3)) (dg_tup rfl (dgs_cons (dg_name (i := 4) sc.nd) (dgs_cons (dg_name (i := 5) sc.nd) (dgs_cons (dg_name (i := 6) sc.nd) dgs_nil)))))
    (dss_cons (ds_expr (de_append (i := 2) (de_tup (da_cons (de_var (i := 4)) (da_cons (de_var (i := 5)) (da_cons (de_var (i := 6)) da_nil))))))
    (dss_one (ds_if (dt_cmp (opD_eq (room_u hr)) (de_idxV (i := 6) (de_int)) (de_str)) (dss_one (ds_for hp rfl (di_rangeN n_range (de_bin opD_sub (de_callB callD_len n_len (da_cons (de_idxV (i := 6) (de_int)) da_nil)) (de_int)) (de_neg (de_int)) pe_m1) (dg_name (i := 7) sc.nd) (dss_cons (ds_asgT (de_idx (de_idxV (i := 6) (de_int)) (de_var (i := 7))) (dg_tup rfl (dgs_cons (dg_name (i := 8) sc.nd) (dgs_cons (dg_name (i := 9) sc.nd) dgs_nil))))
    (dss_one (ds_expr (de_append (i := 3) (de_tup (da_cons (de_bin opD_add (de_var (i := 4)) (de_tup (da_cons (de_var (i := 7)) da_nil))) (da_cons (de_hcall h__law_narrowed mono_F__law_narrowed (hr.mono (by decide)) gd (dar_e (de_var (i := 5)) (dar_e (de_idxV (i := 6) (de_int)) (dar_e (de_var (i := 8)) dar_nil)))) (da_cons (de_var (i := 9)) da_nil)))))))))) dss_nil)))))
    (dss_one (ds_ret (de_var (i := 2)))))))) ok
theorem sc__law_leaves : FnScope ["box", "hearing", "path", "here", "node"] ["box", "hearing"] (defScope (top 35)) := ⟨rfl, rfl, rfl, by decide +kernel, rfl, by decide +kernel, by decide +kernel⟩
theorem has__law_leaves {P : Program} {w : World} {K : PySem.W.Frag} {mg : Str → Option Value} {base : Heap} {f : Addr} {fd : FuncData} (D0 : FunD K "_law_leaves" "_law_leaves" (defArgs (top 35)) (defBody (top 35)) (defScope (top 35)) [] [] f fd) (hm : mg "_law_leaves" = some (.ref f)) (h__law_nodes : Has P w K mg base "_law_nodes" 2 ["box", "hearing"] F__law_nodes) (ok : BodyOk 5 W__law_leaves F__law_leaves) : Has P w K mg base "_law_leaves" 3 ["box", "hearing"] F__law_leaves :=
  has_of D0 hm (fun _ _ _ _ _ _ us hl => match us, hl with | [_, _], _ => rfl) sc__law_leaves rfl (by intro ss k h; unfold F__law_leaves at h; (repeat (obtain ⟨_, h⟩ := h)); subst_vars; rfl) (fun cdv A out st H E C hr gd => by
    have sc := sc__law_leaves
    have hp := PassesOwn.never (M := model P w) (A := A.deeper (envOfC "_law_leaves" (defScope (top 35)) st.heap.objs.size f cdv)) (env := envOfC "_law_leaves" (defScope (top 35)) st.heap.objs.size f cdv)
    exact (dss_one (ds_ret (de_lc (own := [("path", 2), ("here", 3), ("node", 4)]) rfl sc.nd (di_seq (de_hcall h__law_nodes mono_F__law_nodes (hr.mono (by decide)) gd (dar_e (de_var (i := 0)) (dar_e (de_var (i := 1)) dar_nil)))) (blkOk_by (own := [("path", 2), ("here", 3), ("node", 4)]) (by kernel_rfl)) (by simp) (fun _ _ _ _ _ _ => (dg_tup rfl (dgs_cons (dg_name (i := 2) sc.nd) (dgs_cons (dg_name (i := 3) sc.nd) (dgs_cons (dg_name (i := 4) sc.nd) dgs_nil))))) (fun _ _ _ _ _ _ => (dts_one (dt_cmp (opD_eq (room_u hr)) (de_idxV (i := 4) (de_int)) (de_str)))) (fun _ _ _ _ _ _ => (de_tup (da_cons (de_var (i := 2)) (da_cons (de_var (i := 3)) da_nil)))))))) ok
theorem sc__law_run : FnScope ["hearing", "row", "path", "answers", "node", "word", "at", "k"] ["hearing", "row"] (defScope (top 36)) := ⟨rfl, rfl, rfl, by decide +kernel, rfl, by decide +kernel, by decide +kernel⟩
theorem has__law_run {P : Program} {w : World} {K : PySem.W.Frag} {mg : Str → Option Value} {base : Heap} {f : Addr} {fd : FuncData} (D0 : FunD K "_law_run" "_law_run" (defArgs (top 36)) (defBody (top 36)) (defScope (top 36)) [] [] f fd) (hm : mg "_law_run" = some (.ref f)) (n_len : mg "len" = none) (n_range : mg "range" = none) (n_tuple : mg "tuple" = none) (ok : BodyOk 8 W__law_run F__law_run) : Has P w K mg base "_law_run" 1 ["hearing", "row"] F__law_run :=
  has_of D0 hm (fun _ _ _ _ _ _ us hl => match us, hl with | [_, _], _ => rfl) sc__law_run rfl (by intro ss k h; unfold F__law_run at h; (repeat (obtain ⟨_, h⟩ := h)); subst_vars; rfl) (fun cdv A out st H E C hr gd => by
    have sc := sc__law_run
    have hp := PassesOwn.never (M := model P w) (A := A.deeper (envOfC "_law_run" (defScope (top 36)) st.heap.objs.size f cdv)) (env := envOfC "_law_run" (defScope (top 36)) st.heap.objs.size f cdv)
    exact (dss_cons (ds_set (i := 2) sc.nd (de_tup da_nil))
    (dss_cons (ds_set (i := 3) sc.nd (de_lst da_nil))
    (dss_cons (ds_set (i := 4) sc.nd (de_var (i := 0)))
    (dss_cons (ds_while hp (dt_cmp (opD_eq (room_u hr)) (de_idxV (i := 4) (de_int)) (de_str)) (dss_cons (ds_set (i := 5) sc.nd (de_idxV (i := 1) (de_idxV (i := 4) (de_int))))
    (dss_cons (ds_set (i := 6) sc.nd (de_idx (de_lc (own := [("k", 7)]) rfl sc.nd (di_range1 n_range (de_callB callD_len n_len (da_cons (de_idxV (i := 4) (de_int)) da_nil))) (blkOk_by (own := [("k", 7)]) (by kernel_rfl)) (by simp) (fun _ _ _ _ _ _ => (dg_name (i := 7) sc.nd)) (fun _ _ _ _ _ _ => (dts_one (dt_cmp (opD_in (room_u65 hr)) (de_var (i := 5)) (de_idx (de_idx (de_idxV (i := 4) (de_int)) (de_var (i := 7))) (de_int))))) (fun _ _ _ _ _ _ => (de_var (i := 7)))) (de_int)))
    (dss_cons (ds_expr (de_append (i := 3) (de_tup (da_cons (de_idxV (i := 4) (de_int)) (da_cons (de_idx (de_idx (de_idxV (i := 4) (de_int)) (de_var (i := 6))) (de_int)) da_nil)))))
    (dss_cons (ds_set (i := 2) sc.nd (de_bin opD_add (de_var (i := 2)) (de_tup (da_cons (de_var (i := 6)) da_nil))))
    (dss_one (ds_set (i := 4) sc.nd (de_idx (de_idx (de_idxV (i := 4) (de_int)) (de_var (i := 6))) (de_int)))))))))
    (dss_one (ds_ret (de_tup (da_cons (de_callTy callD_tuple n_tuple (da_cons (de_var (i := 3)) da_nil)) (da_cons (de_var (i := 2)) da_nil)))))))))) ok
theorem sc__law_drawn_box : FnScope ["d", "box", "found", "share", "some", "kind"] ["d", "box"] (defScope (top 37)) := ⟨rfl, rfl, rfl, by decide +kernel, rfl, by decide +kernel, by decide +kernel⟩
theorem has__law_drawn_box {P : Program} {w : World} {K : PySem.W.Frag} {mg : Str → Option Value} {base : Heap} {f : Addr} {fd : FuncData} (D0 : FunD K "_law_drawn_box" "_law_drawn_box" (defArgs (top 37)) (defBody (top 37)) (defScope (top 37)) [] [] f fd) (hm : mg "_law_drawn_box" = some (.ref f)) (h__law_draw : Has P w K mg base "_law_draw" 1 ["d", "many"] F__law_draw) (h__law_pick : Has P w K mg base "_law_pick" 2 ["d", "row"] F__law_pick) (n_len : mg "len" = none) (n_tuple : mg "tuple" = none) (ok : BodyOk 6 W__law_drawn_box F__law_drawn_box) : Has P w K mg base "_law_drawn_box" 3 ["d", "box"] F__law_drawn_box :=
  has_of D0 hm (fun _ _ _ _ _ _ us hl => match us, hl with | [_, _], _ => rfl) sc__law_drawn_box rfl (by intro ss k h; unfold F__law_drawn_box at h; (repeat (obtain ⟨_, h⟩ := h)); subst_vars; rfl) (fun cdv A out st H E C hr gd => by
    have sc := sc__law_drawn_box
    have hp := PassesOwn.never (M := model P w) (A := A.deeper (envOfC "_law_drawn_box" (defScope (top 37)) st.heap.objs.size f cdv)) (env := envOfC "_law_drawn_box" (defScope (top 37)) st.heap.objs.size f cdv)
    exact (dss_cons (ds_set (i := 2) sc.nd (de_lst da_nil))
    (dss_cons (ds_forW (js := [3, 4, 5]) hp rfl (di_seq (de_var (i := 1))) (dg_name (i := 3) sc.nd) (dss_cons (ds_set (i := 4) sc.nd (de_callTy callD_tuple n_tuple (da_cons (de_lc (own := [("kind", 5)]) rfl sc.nd (di_seq (de_var (i := 3))) (blkOk_by (own := [("kind", 5)]) (by kernel_rfl)) (by simp) (fun _ _ _ _ _ _ => (dg_name (i := 5) sc.nd)) (fun _ _ _ _ _ _ => (dts_one (dt_cmp opD_gt (de_hcall h__law_draw mono_F__law_draw (hr.mono (by decide)) gd (dar_r (i := 0) (dar_e (de_int) dar_nil))) (de_int)))) (fun _ _ _ _ _ _ => (de_var (i := 5)))) da_nil)))
    (dss_cons (ds_if (dt_cmp (opD_eq (room_u hr)) (de_lenV (i := 4) n_len) (de_int)) (dss_one (ds_set (i := 4) sc.nd (de_tup (da_cons (de_hcall h__law_pick mono_F__law_pick (hr.mono (by decide)) gd (dar_r (i := 0) (dar_e (de_var (i := 3)) dar_nil))) da_nil)))) dss_nil)
    (dss_one (ds_expr (de_append (i := 2) (de_var (i := 4))))))))
    (dss_one (ds_ret (de_callTy callD_tuple n_tuple (da_cons (de_var (i := 2)) da_nil))))))) ok
theorem sc__law_bool : FnScope ["told", "due"] ["told", "due"] (defScope (top 38)) := ⟨rfl, rfl, rfl, by decide +kernel, rfl, by decide +kernel, by decide +kernel⟩
theorem has__law_bool {P : Program} {w : World} {K : PySem.W.Frag} {mg : Str → Option Value} {base : Heap} {f : Addr} {fd : FuncData} (D0 : FunD K "_law_bool" "_law_bool" (defArgs (top 38)) (defBody (top 38)) (defScope (top 38)) [] [] f fd) (hm : mg "_law_bool" = some (.ref f))  (ok : BodyOk 2 W__law_bool F__law_bool) : Has P w K mg base "_law_bool" 1 ["told", "due"] F__law_bool :=
  has_of D0 hm (fun _ _ _ _ _ _ us hl => match us, hl with | [_, _], _ => rfl) sc__law_bool rfl (by intro ss k h; unfold F__law_bool at h; (repeat (obtain ⟨_, h⟩ := h)); subst_vars; rfl) (fun cdv A out st H E C hr gd => by
    have sc := sc__law_bool
    have hp := PassesOwn.never (M := model P w) (A := A.deeper (envOfC "_law_bool" (defScope (top 38)) st.heap.objs.size f cdv)) (env := envOfC "_law_bool" (defScope (top 38)) st.heap.objs.size f cdv)
    exact (dss_cons (ds_if (dt_truV (i := 1)) (dss_one (ds_ret (de_isB (de_var (i := 0))))) dss_nil)
    (dss_one (ds_ret (de_isB (de_var (i := 0))))))) ok
theorem sc__law_same : FnScope ["told", "due", "waiting", "one", "other", "k"] ["told", "due"] (defScope (top 39)) := ⟨rfl, rfl, rfl, by decide +kernel, rfl, by decide +kernel, by decide +kernel⟩
theorem has__law_same {P : Program} {w : World} {K : PySem.W.Frag} {mg : Str → Option Value} {base : Heap} {f : Addr} {fd : FuncData} (D0 : FunD K "_law_same" "_law_same" (defArgs (top 39)) (defBody (top 39)) (defScope (top 39)) [] [] f fd) (hm : mg "_law_same" = some (.ref f)) (h__law_is_int : Has P w K mg base "_law_is_int" 1 ["thing"] F__law_is_int) (n_isinstance : mg "isinstance" = none) (n_len : mg "len" = none) (n_range : mg "range" = none) (n_str : mg "str" = none) (n_tuple : mg "tuple" = none) (ok : BodyOk 6 W__law_same F__law_same) : Has P w K mg base "_law_same" 2 ["told", "due"] F__law_same :=
  has_of D0 hm (fun _ _ _ _ _ _ us hl => match us, hl with | [_, _], _ => rfl) sc__law_same rfl (by intro ss k h; unfold F__law_same at h; (repeat (obtain ⟨_, h⟩ := h)); subst_vars; rfl) (fun cdv A out st H E C hr gd => by
    have sc := sc__law_same
    have hp := PassesOwn.never (M := model P w) (A := A.deeper (envOfC "_law_same" (defScope (top 39)) st.heap.objs.size f cdv)) (env := envOfC "_law_same" (defScope (top 39)) st.heap.objs.size f cdv)
    exact (dss_cons (ds_set (i := 2) sc.nd (de_lst (da_cons (de_tup (da_cons (de_var (i := 0)) (da_cons (de_var (i := 1)) da_nil))) da_nil)))
    (dss_cons (ds_whileW (js := [3, 4, 5]) hp (dt_truV (i := 2)) (dss_cons (ds_asgT (de_pop (i := 2)) (dg_tup rfl (dgs_cons (dg_name (i := 3) sc.nd) (dgs_cons (dg_name (i := 4) sc.nd) dgs_nil))))
    (dss_one (ds_if (dt_tru (de_isi n_isinstance n_tuple (de_var (i := 4)))) (dss_cons (ds_if ((dw_or (dt_not (dt_tru (de_isi n_isinstance n_tuple (de_var (i := 3))))) (dw_or1 (dt_cmp (opD_ne (room_u hr)) (de_lenV (i := 3) n_len) (de_lenV (i := 4) n_len)))).dt) (dss_one (ds_ret (de_bl))) dss_nil)
    (dss_one (ds_expr (de_extend (i := 2) (de_lc (own := [("k", 5)]) rfl sc.nd (di_range1 n_range (de_lenV (i := 4) n_len)) (blkOk_by (own := [("k", 5)]) (by kernel_rfl)) (by simp) (fun _ _ _ _ _ _ => (dg_name (i := 5) sc.nd)) (fun _ _ _ _ _ _ => dts_nil) (fun _ _ _ _ _ _ => (de_tup (da_cons (de_idxV (i := 3) (de_var (i := 5))) (da_cons (de_idxV (i := 4) (de_var (i := 5))) da_nil))))))))) (dss_one (ds_if (dt_tru (de_isi n_isinstance n_str (de_var (i := 4)))) (dss_one (ds_if ((dw_or (dt_not (dt_tru (de_isi n_isinstance n_str (de_var (i := 3))))) (dw_or1 (dt_cmp (opD_ne (room_u hr)) (de_var (i := 3)) (de_var (i := 4))))).dt) (dss_one (ds_ret (de_bl))) dss_nil)) (dss_one (ds_if (dt_isN (de_var (i := 4))) (dss_one (ds_if (dt_notN (de_var (i := 3))) (dss_one (ds_ret (de_bl))) dss_nil)) (dss_one (ds_if ((dw_or (dt_not (dt_tru (de_hcall h__law_is_int mono_F__law_is_int (hr.mono (by decide)) gd (dar_e (de_var (i := 3)) dar_nil)))) (dw_or1 (dt_cmp (opD_ne (room_u hr)) (de_var (i := 3)) (de_var (i := 4))))).dt) (dss_one (ds_ret (de_bl))) dss_nil))))))))))
    (dss_one (ds_ret (de_bl)))))) ok
theorem sc__law_table_box : FnScope ["clocks", "person"] ["clocks"] (defScope (top 40)) := ⟨rfl, rfl, rfl, by decide +kernel, rfl, by decide +kernel, by decide +kernel⟩
theorem has__law_table_box {P : Program} {w : World} {K : PySem.W.Frag} {mg : Str → Option Value} {base : Heap} {f : Addr} {fd : FuncData} (D0 : FunD K "_law_table_box" "_law_table_box" (defArgs (top 40)) (defBody (top 40)) (defScope (top 40)) [] [] f fd) (hm : mg "_law_table_box" = some (.ref f)) (n_len : mg "len" = none) (n_range : mg "range" = none) (n_tuple : mg "tuple" = none) (ok : BodyOk 2 W__law_table_box F__law_table_box) : Has P w K mg base "_law_table_box" 1 ["clocks"] F__law_table_box :=
  has_of D0 hm (fun _ _ _ _ _ _ us hl => match us, hl with | [_], _ => rfl) sc__law_table_box rfl (by intro ss k h; unfold F__law_table_box at h; (repeat (obtain ⟨_, h⟩ := h)); subst_vars; rfl) (fun cdv A out st H E C hr gd => by
    have sc := sc__law_table_box
    have hp := PassesOwn.never (M := model P w) (A := A.deeper (envOfC "_law_table_box" (defScope (top 40)) st.heap.objs.size f cdv)) (env := envOfC "_law_table_box" (defScope (top 40)) st.heap.objs.size f cdv)
    exact (dss_one (ds_ret (de_callTy callD_tuple n_tuple (da_cons (de_lc (own := [("person", 1)]) rfl sc.nd (di_seq (de_idxV (i := 0) (de_int))) (blkOk_by (own := [("person", 1)]) (by kernel_rfl)) (by simp) (fun _ _ _ _ _ _ => (dg_name (i := 1) sc.nd)) (fun _ _ _ _ _ _ => dts_nil) (fun _ _ _ _ _ _ => (de_tupRg rfl n_tuple n_range (de_callB callD_len n_len (da_cons (de_idxV (i := 1) (de_int)) da_nil))))) da_nil))))) ok
theorem sc__law_place : FnScope ["clocks", "row", "place", "person"] ["clocks", "row"] (defScope (top 41)) := ⟨rfl, rfl, rfl, by decide +kernel, rfl, by decide +kernel, by decide +kernel⟩
theorem has__law_place {P : Program} {w : World} {K : PySem.W.Frag} {mg : Str → Option Value} {base : Heap} {f : Addr} {fd : FuncData} (D0 : FunD K "_law_place" "_law_place" (defArgs (top 41)) (defBody (top 41)) (defScope (top 41)) [] [] f fd) (hm : mg "_law_place" = some (.ref f)) (n_len : mg "len" = none) (n_range : mg "range" = none) (ok : BodyOk 4 W__law_place F__law_place) : Has P w K mg base "_law_place" 1 ["clocks", "row"] F__law_place :=
  has_of D0 hm (fun _ _ _ _ _ _ us hl => match us, hl with | [_, _], _ => rfl) sc__law_place rfl (by intro ss k h; unfold F__law_place at h; (repeat (obtain ⟨_, h⟩ := h)); subst_vars; rfl) (fun cdv A out st H E C hr gd => by
    have sc := sc__law_place
    have hp := PassesOwn.never (M := model P w) (A := A.deeper (envOfC "_law_place" (defScope (top 41)) st.heap.objs.size f cdv)) (env := envOfC "_law_place" (defScope (top 41)) st.heap.objs.size f cdv)
    exact (dss_cons (ds_set (i := 2) sc.nd (de_int))
    (dss_cons (ds_forW (js := [3]) hp rfl (di_range1 n_range (de_lenV (i := 1) n_len)) (dg_name (i := 3) sc.nd) (dss_one (ds_set (i := 2) sc.nd (de_bin opD_add (de_bin opD_mul (de_var (i := 2)) (de_callB callD_len n_len (da_cons (de_idx (de_idx (de_idxV (i := 0) (de_int)) (de_var (i := 3))) (de_int)) da_nil))) (de_idxV (i := 1) (de_var (i := 3)))))))
    (dss_one (ds_ret (de_var (i := 2))))))) ok
theorem sc__law_winners : FnScope ["clocks", "row"] ["clocks", "row"] (defScope (top 42)) := ⟨rfl, rfl, rfl, by decide +kernel, rfl, by decide +kernel, by decide +kernel⟩
theorem has__law_winners {P : Program} {w : World} {K : PySem.W.Frag} {mg : Str → Option Value} {base : Heap} {f : Addr} {fd : FuncData} (D0 : FunD K "_law_winners" "_law_winners" (defArgs (top 42)) (defBody (top 42)) (defScope (top 42)) [] [] f fd) (hm : mg "_law_winners" = some (.ref f)) (h__law_place : Has P w K mg base "_law_place" 1 ["clocks", "row"] F__law_place) (ok : BodyOk 2 W__law_winners F__law_winners) : Has P w K mg base "_law_winners" 2 ["clocks", "row"] F__law_winners :=
  has_of D0 hm (fun _ _ _ _ _ _ us hl => match us, hl with | [_, _], _ => rfl) sc__law_winners rfl (by intro ss k h; unfold F__law_winners at h; (repeat (obtain ⟨_, h⟩ := h)); subst_vars; rfl) (fun cdv A out st H E C hr gd => by
    have sc := sc__law_winners
    have hp := PassesOwn.never (M := model P w) (A := A.deeper (envOfC "_law_winners" (defScope (top 42)) st.heap.objs.size f cdv)) (env := envOfC "_law_winners" (defScope (top 42)) st.heap.objs.size f cdv)
    exact (dss_one (ds_ret (de_idx (de_idxV (i := 0) (de_int)) (de_hcall h__law_place mono_F__law_place (hr.mono (by decide)) gd (dar_e (de_var (i := 0)) (dar_e (de_var (i := 1)) dar_nil))))))) ok
theorem sc__law_put_winners : FnScope ["clocks", "rows", "winners", "told", "row"] ["clocks", "rows", "winners"] (defScope (top 43)) := ⟨rfl, rfl, rfl, by decide +kernel, rfl, by decide +kernel, by decide +kernel⟩
theorem has__law_put_winners {P : Program} {w : World} {K : PySem.W.Frag} {mg : Str → Option Value} {base : Heap} {f : Addr} {fd : FuncData} (D0 : FunD K "_law_put_winners" "_law_put_winners" (defArgs (top 43)) (defBody (top 43)) (defScope (top 43)) [] [] f fd) (hm : mg "_law_put_winners" = some (.ref f)) (h__law_place : Has P w K mg base "_law_place" 1 ["clocks", "row"] F__law_place) (n_list : mg "list" = none) (n_tuple : mg "tuple" = none) (ok : BodyOk 5 W__law_put_winners F__law_put_winners) : Has P w K mg base "_law_put_winners" 2 ["clocks", "rows", "winners"] F__law_put_winners :=
  has_of D0 hm (fun _ _ _ _ _ _ us hl => match us, hl with | [_, _, _], _ => rfl) sc__law_put_winners rfl (by intro ss k h; unfold F__law_put_winners at h; (repeat (obtain ⟨_, h⟩ := h)); subst_vars; rfl) (fun cdv A out st H E C hr gd => by
    have sc := sc__law_put_winners
    have hp := PassesOwn.never (M := model P w) (A := A.deeper (envOfC "_law_put_winners" (defScope (top 43)) st.heap.objs.size f cdv)) (env := envOfC "_law_put_winners" (defScope (top 43)) st.heap.objs.size f cdv)
    exact (dss_cons (ds_set (i := 3) sc.nd (de_callTy callD_list n_list (da_cons (de_idxV (i := 0) (de_int)) da_nil)))
    (dss_cons (ds_forW (js := [4]) hp rfl (di_seq (de_var (i := 1))) (dg_name (i := 4) sc.nd) (dss_one (ds_putL (i := 3) (de_hcall h__law_place mono_F__law_place (hr.mono (by decide)) gd (dar_e (de_var (i := 0)) (dar_e (de_var (i := 4)) dar_nil))) (de_var (i := 2)))))
    (dss_one (ds_ret (de_tup (da_cons (de_str) (da_cons (de_idxV (i := 0) (de_int)) (da_cons (de_callTy callD_tuple n_tuple (da_cons (de_var (i := 3)) da_nil)) da_nil))))))))) ok
theorem sc__law_put_wins : FnScope ["clocks", "rows", "person", "wins", "told", "row", "place", "others", "other"] ["clocks", "rows", "person", "wins"] (defScope (top 44)) := ⟨rfl, rfl, rfl, by decide +kernel, rfl, by decide +kernel, by decide +kernel⟩
theorem has__law_put_wins {P : Program} {w : World} {K : PySem.W.Frag} {mg : Str → Option Value} {base : Heap} {f : Addr} {fd : FuncData} (D0 : FunD K "_law_put_wins" "_law_put_wins" (defArgs (top 44)) (defBody (top 44)) (defScope (top 44)) [] [] f fd) (hm : mg "_law_put_wins" = some (.ref f)) (h__law_place : Has P w K mg base "_law_place" 1 ["clocks", "row"] F__law_place) (n_list : mg "list" = none) (n_sorted : mg "sorted" = none) (n_tuple : mg "tuple" = none) (ok : BodyOk 9 W__law_put_wins F__law_put_wins) : Has P w K mg base "_law_put_wins" 2 ["clocks", "rows", "person", "wins"] F__law_put_wins :=
  has_of D0 hm (fun _ _ _ _ _ _ us hl => match us, hl with | [_, _, _, _], _ => rfl) sc__law_put_wins rfl (by intro ss k h; unfold F__law_put_wins at h; (repeat (obtain ⟨_, h⟩ := h)); subst_vars; rfl) (fun cdv A out st H E C hr gd => by
    have sc := sc__law_put_wins
    have hp := PassesOwn.never (M := model P w) (A := A.deeper (envOfC "_law_put_wins" (defScope (top 44)) st.heap.objs.size f cdv)) (env := envOfC "_law_put_wins" (defScope (top 44)) st.heap.objs.size f cdv)
    exact (dss_cons (ds_set (i := 4) sc.nd (de_callTy callD_list n_list (da_cons (de_idxV (i := 0) (de_int)) da_nil)))
    (dss_cons (ds_forW (js := [5, 6, 7, 8]) hp rfl (di_seq (de_var (i := 1))) (dg_name (i := 5) sc.nd) (dss_cons (ds_set (i := 6) sc.nd (de_hcall h__law_place mono_F__law_place (hr.mono (by decide)) gd (dar_e (de_var (i := 0)) (dar_e (de_var (i := 5)) dar_nil))))
    (dss_cons (ds_setLc (i := 7) (own := [("other", 8)]) rfl sc.nd (sw_true rfl rfl rfl (by kernel_rfl)) (di_seq (de_idxV (i := 4) (de_var (i := 6)))) (blkOk_by (own := [("other", 8)]) (by kernel_rfl)) (by simp) (fun _ _ _ _ _ _ => (dg_name (i := 8) sc.nd)) (fun _ _ _ _ _ _ => (dts_one (dt_cmp (opD_ne (room_u hr)) (de_var (i := 8)) (de_var (i := 2))))) (fun _ _ _ _ _ _ => (de_var (i := 8))))
    (dss_cons (ds_if (dt_truV (i := 3)) (dss_one (ds_expr (de_append (i := 7) (de_var (i := 2))))) dss_nil)
    (dss_one (ds_putL (i := 4) (de_var (i := 6)) (de_callTy callD_tuple n_tuple (da_cons (de_callB (callD_sorted (room_u110 hr)) n_sorted (da_cons (de_var (i := 7)) da_nil)) da_nil))))))))
    (dss_one (ds_ret (de_tup (da_cons (de_str) (da_cons (de_idxV (i := 0) (de_int)) (da_cons (de_callTy callD_tuple n_tuple (da_cons (de_var (i := 4)) da_nil)) da_nil))))))))) ok
theorem sc__law_outer : FnScope ["clocks", "box", "person"] ["clocks", "box", "person"] (defScope (top 45)) := ⟨rfl, rfl, rfl, by decide +kernel, rfl, by decide +kernel, by decide +kernel⟩
theorem has__law_outer {P : Program} {w : World} {K : PySem.W.Frag} {mg : Str → Option Value} {base : Heap} {f : Addr} {fd : FuncData} (D0 : FunD K "_law_outer" "_law_outer" (defArgs (top 45)) (defBody (top 45)) (defScope (top 45)) [] [] f fd) (hm : mg "_law_outer" = some (.ref f))  (ok : BodyOk 3 W__law_outer F__law_outer) : Has P w K mg base "_law_outer" 1 ["clocks", "box", "person"] F__law_outer :=
  has_of D0 hm (fun _ _ _ _ _ _ us hl => match us, hl with | [_, _, _], _ => rfl) sc__law_outer rfl (by intro ss k h; unfold F__law_outer at h; (repeat (obtain ⟨_, h⟩ := h)); subst_vars; rfl) (fun cdv A out st H E C hr gd => by
    have sc := sc__law_outer
    have hp := PassesOwn.never (M := model P w) (A := A.deeper (envOfC "_law_outer" (defScope (top 45)) st.heap.objs.size f cdv)) (env := envOfC "_law_outer" (defScope (top 45)) st.heap.objs.size f cdv)
    exact (dss_cons (ds_if (dt_cmp (opD_eq (room_u hr)) (de_idx (de_idx (de_idxV (i := 0) (de_int)) (de_var (i := 2))) (de_int)) (de_str)) (dss_one (ds_ret (de_idx (de_idxV (i := 1) (de_var (i := 2))) (de_int)))) dss_nil)
    (dss_one (ds_ret (de_idx (de_idxV (i := 1) (de_var (i := 2))) (de_neg (de_int))))))) ok
theorem sc__law_shows : FnScope ["clocks", "box", "person", "row", "wins"] ["clocks", "box", "person", "row"] (defScope (top 46)) := ⟨rfl, rfl, rfl, by decide +kernel, rfl, by decide +kernel, by decide +kernel⟩
theorem has__law_shows {P : Program} {w : World} {K : PySem.W.Frag} {mg : Str → Option Value} {base : Heap} {f : Addr} {fd : FuncData} (D0 : FunD K "_law_shows" "_law_shows" (defArgs (top 46)) (defBody (top 46)) (defScope (top 46)) [] [] f fd) (hm : mg "_law_shows" = some (.ref f)) (h__law_outer : Has P w K mg base "_law_outer" 1 ["clocks", "box", "person"] F__law_outer) (h__law_winners : Has P w K mg base "_law_winners" 2 ["clocks", "row"] F__law_winners) (ok : BodyOk 5 W__law_shows F__law_shows) : Has P w K mg base "_law_shows" 3 ["clocks", "box", "person", "row"] F__law_shows :=
  has_of D0 hm (fun _ _ _ _ _ _ us hl => match us, hl with | [_, _, _, _], _ => rfl) sc__law_shows rfl (by intro ss k h; unfold F__law_shows at h; (repeat (obtain ⟨_, h⟩ := h)); subst_vars; rfl) (fun cdv A out st H E C hr gd => by
    have sc := sc__law_shows
    have hp := PassesOwn.never (M := model P w) (A := A.deeper (envOfC "_law_shows" (defScope (top 46)) st.heap.objs.size f cdv)) (env := envOfC "_law_shows" (defScope (top 46)) st.heap.objs.size f cdv)
    exact (dss_cons (ds_set (i := 4) sc.nd (de_cmp (opD_in (room_u65 hr)) (de_var (i := 2)) (de_hcall h__law_winners mono_F__law_winners (hr.mono (by decide)) gd (dar_e (de_var (i := 0)) (dar_e (de_var (i := 3)) dar_nil)))))
    (dss_cons (ds_if (dt_cmp (opD_ne (room_u hr)) (de_idxV (i := 3) (de_var (i := 2))) (de_hcall h__law_outer mono_F__law_outer (hr.mono (by decide)) gd (dar_e (de_var (i := 0)) (dar_e (de_var (i := 1)) (dar_e (de_var (i := 2)) dar_nil))))) (dss_one (ds_ret (de_bl))) dss_nil)
    (dss_one (ds_ret (de_cmp (opD_eq (room_u hr)) (de_var (i := 4)) (de_cmp (opD_eq (room_u hr)) (de_idx (de_idx (de_idxV (i := 0) (de_int)) (de_var (i := 2))) (de_int)) (de_str)))))))) ok
theorem sc__law_question : FnScope ["clocks", "box", "person", "kinds", "row"] ["clocks", "box", "person"] (defScope (top 47)) := ⟨rfl, rfl, rfl, by decide +kernel, rfl, by decide +kernel, by decide +kernel⟩
theorem has__law_question {P : Program} {w : World} {K : PySem.W.Frag} {mg : Str → Option Value} {base : Heap} {f : Addr} {fd : FuncData} (D0 : FunD K "_law_question" "_law_question" (defArgs (top 47)) (defBody (top 47)) (defScope (top 47)) [] [] f fd) (hm : mg "_law_question" = some (.ref f)) (h__law_rows : Has P w K mg base "_law_rows" 1 ["box"] F__law_rows) (h__law_shows : Has P w K mg base "_law_shows" 3 ["clocks", "box", "person", "row"] F__law_shows) (n_len : mg "len" = none) (ok : BodyOk 5 W__law_question F__law_question) : Has P w K mg base "_law_question" 4 ["clocks", "box", "person"] F__law_question :=
  has_of D0 hm (fun _ _ _ _ _ _ us hl => match us, hl with | [_, _, _], _ => rfl) sc__law_question rfl (by intro ss k h; unfold F__law_question at h; (repeat (obtain ⟨_, h⟩ := h)); subst_vars; rfl) (fun cdv A out st H E C hr gd => by
    have sc := sc__law_question
    have hp := PassesOwn.never (M := model P w) (A := A.deeper (envOfC "_law_question" (defScope (top 47)) st.heap.objs.size f cdv)) (env := envOfC "_law_question" (defScope (top 47)) st.heap.objs.size f cdv)
    exact (dss_cons (ds_set (i := 3) sc.nd (de_idxV (i := 1) (de_var (i := 2))))
    (dss_cons (ds_if (dt_cmp opD_lt (de_lenV (i := 3) n_len) (de_int)) (dss_one (ds_ret (de_non))) dss_nil)
    (dss_cons (ds_forW (js := [4]) hp rfl (di_seq (de_hcall h__law_rows mono_F__law_rows (hr.mono (by decide)) gd (dar_e (de_var (i := 1)) dar_nil))) (dg_name (i := 4) sc.nd) (dss_one (ds_if (dt_tru (de_hcall h__law_shows mono_F__law_shows (hr.mono (by decide)) gd (dar_e (de_var (i := 0)) (dar_e (de_var (i := 1)) (dar_e (de_var (i := 2)) (dar_e (de_var (i := 4)) dar_nil)))))) (dss_one (ds_ret (de_non))) dss_nil)))
    (dss_cons (ds_if (dt_cmp (opD_eq (room_u hr)) (de_idx (de_idx (de_idxV (i := 0) (de_int)) (de_var (i := 2))) (de_int)) (de_str)) (dss_one (ds_ret (de_tup (da_cons (de_slice (de_var (i := 3)) do_none (do_some (de_int))) (da_cons (de_slice (de_var (i := 3)) (do_some (de_int)) do_none) da_nil))))) dss_nil)
    (dss_one (ds_ret (de_tup (da_cons (de_slice (de_var (i := 3)) do_none (do_some (de_neg (de_int)))) (da_cons (de_slice (de_var (i := 3)) (do_some (de_neg (de_int))) do_none) da_nil)))))))))) ok
theorem sc__law_settled : FnScope ["clocks", "box", "rows", "first", "row"] ["clocks", "box"] (defScope (top 48)) := ⟨rfl, rfl, rfl, by decide +kernel, rfl, by decide +kernel, by decide +kernel⟩
theorem has__law_settled {P : Program} {w : World} {K : PySem.W.Frag} {mg : Str → Option Value} {base : Heap} {f : Addr} {fd : FuncData} (D0 : FunD K "_law_settled" "_law_settled" (defArgs (top 48)) (defBody (top 48)) (defScope (top 48)) [] [] f fd) (hm : mg "_law_settled" = some (.ref f)) (h__law_rows : Has P w K mg base "_law_rows" 1 ["box"] F__law_rows) (h__law_winners : Has P w K mg base "_law_winners" 2 ["clocks", "row"] F__law_winners) (n_all : mg "all" = none) (ok : BodyOk 5 W__law_settled F__law_settled) : Has P w K mg base "_law_settled" 3 ["clocks", "box"] F__law_settled :=
  has_of D0 hm (fun _ _ _ _ _ _ us hl => match us, hl with | [_, _], _ => rfl) sc__law_settled rfl (by intro ss k h; unfold F__law_settled at h; (repeat (obtain ⟨_, h⟩ := h)); subst_vars; rfl) (fun cdv A out st H E C hr gd => by
    have sc := sc__law_settled
    have hp := PassesOwn.never (M := model P w) (A := A.deeper (envOfC "_law_settled" (defScope (top 48)) st.heap.objs.size f cdv)) (env := envOfC "_law_settled" (defScope (top 48)) st.heap.objs.size f cdv)
    exact (dss_cons (ds_set (i := 2) sc.nd (de_hcall h__law_rows mono_F__law_rows (hr.mono (by decide)) gd (dar_e (de_var (i := 1)) dar_nil)))
    (dss_cons (ds_set (i := 3) sc.nd (de_hcall h__law_winners mono_F__law_winners (hr.mono (by decide)) gd (dar_e (de_var (i := 0)) (dar_e (de_idxV (i := 2) (de_int)) dar_nil))))
    (dss_one (ds_ret (de_callB (callD_all rfl) n_all (da_cons (de_lc (own := [("row", 4)]) rfl sc.nd (di_seq (de_var (i := 2))) (blkOk_by (own := [("row", 4)]) (by kernel_rfl)) (by simp) (fun _ _ _ _ _ _ => (dg_name (i := 4) sc.nd)) (fun _ _ _ _ _ _ => dts_nil) (fun _ _ _ _ _ _ => (de_cmp (opD_eq (room_u hr)) (de_hcall h__law_winners mono_F__law_winners (hr.mono (by decide)) gd (dar_e (de_var (i := 0)) (dar_e (de_var (i := 4)) dar_nil))) (de_var (i := 3))))) da_nil))))))) ok
theorem sc__law_clock_persons : FnScope ["d", "sizes", "names", "is_great", "found", "many", "side", "worth", "gap", "worths", "k"] ["d", "sizes"] (defScope (top 49)) := ⟨rfl, rfl, rfl, by decide +kernel, rfl, by decide +kernel, by decide +kernel⟩
theorem has__law_clock_persons {P : Program} {w : World} {K : PySem.W.Frag} {mg : Str → Option Value} {base : Heap} {f : Addr} {fd : FuncData} (D0 : FunD K "_law_clock_persons" "_law_clock_persons" (defArgs (top 49)) (defBody (top 49)) (defScope (top 49)) [] [] f fd) (hm : mg "_law_clock_persons" = some (.ref f)) (h__law_draw : Has P w K mg base "_law_draw" 1 ["d", "many"] F__law_draw) (h__law_pick : Has P w K mg base "_law_pick" 2 ["d", "row"] F__law_pick) (h__law_pool : Has P w K mg base "_law_pool" 1 [] F__law_pool) (h__law_pop : Has P w K mg base "_law_pop" 2 ["d", "row"] F__law_pop) (n_range : mg "range" = none) (n_tuple : mg "tuple" = none) (ok : BodyOk 11 W__law_clock_persons F__law_clock_persons) : Has P w K mg base "_law_clock_persons" 3 ["d", "sizes"] F__law_clock_persons :=
  has_of D0 hm (fun _ _ _ _ _ _ us hl => match us, hl with | [_, _], _ => rfl) sc__law_clock_persons rfl (by intro ss k h; unfold F__law_clock_persons at h; (repeat (obtain ⟨_, h⟩ := h)); subst_vars; rfl) (fun cdv A out st H E C hr gd => by
    have sc := sc__law_clock_persons
    have hp := PassesOwn.never (M := model P w) (A := A.deeper (envOfC "_law_clock_persons" (defScope (top 49)) st.heap.objs.size f cdv)) (env := envOfC "_law_clock_persons" (defScope (top 49)) st.heap.objs.size f cdv)
    exact (dss_cons (ds_set (i := 2) sc.nd (de_hcall0 h__law_pool mono_F__law_pool (hr.mono (by decide)) gd))
    (dss_cons (ds_set (i := 3) sc.nd (de_cmp (opD_eq (room_u hr)) (de_hcall h__law_draw mono_F__law_draw (hr.mono (by decide)) gd (dar_r (i := 0) (dar_e (de_int) dar_nil))) (de_int)))
    (dss_cons (ds_set (i := 4) sc.nd (de_lst da_nil))
    (dss_cons (ds_forW (js := [5, 6, 7, 8, 9, 10]) hp rfl (di_seq (de_var (i := 1))) (dg_name (i := 5) sc.nd) (dss_cons (ds_set (i := 6) sc.nd (de_hcall h__law_pick mono_F__law_pick (hr.mono (by decide)) gd (dar_r (i := 0) (dar_e (de_lst (da_cons (de_str) (da_cons (de_str) da_nil))) dar_nil))))
    (dss_cons (ds_set (i := 7) sc.nd (de_bin opD_sub (de_hcall h__law_draw mono_F__law_draw (hr.mono (by decide)) gd (dar_r (i := 0) (dar_e (de_int) dar_nil))) (de_int)))
    (dss_cons (ds_set (i := 8) sc.nd (de_int))
    (dss_cons (ds_if (dt_truV (i := 3)) (dss_cons (ds_set (i := 7) sc.nd (de_bin opD_sub (de_int) (de_int)))
    (dss_one (ds_set (i := 8) sc.nd (de_int)))) dss_nil)
    (dss_cons (ds_set (i := 9) sc.nd (de_lst da_nil))
    (dss_cons (ds_forW (js := [10]) hp rfl (di_range1 n_range (de_var (i := 5))) (dg_name (i := 10) sc.nd) (dss_cons (ds_expr (de_append (i := 9) (de_var (i := 7))))
    (dss_one (ds_set (i := 7) sc.nd (de_bin opD_add (de_bin opD_add (de_var (i := 7)) (de_int)) (de_hcall h__law_draw mono_F__law_draw (hr.mono (by decide)) gd (dar_r (i := 0) (dar_e (de_var (i := 8)) dar_nil))))))))
    (dss_cons (ds_if (dt_cmp (opD_eq (room_u hr)) (de_hcall h__law_draw mono_F__law_draw (hr.mono (by decide)) gd (dar_r (i := 0) (dar_e (de_int) dar_nil))) (de_int)) (dss_one (ds_set (i := 9) sc.nd (de_lc (own := [("k", 10)]) rfl sc.nd (di_range1 n_range (de_var (i := 5))) (blkOk_by (own := [("k", 10)]) (by kernel_rfl)) (by simp) (fun _ _ _ _ _ _ => (dg_name (i := 10) sc.nd)) (fun _ _ _ _ _ _ => dts_nil) (fun _ _ _ _ _ _ => (de_bin opD_sub (de_int) (de_idxV (i := 9) (de_bin opD_sub (de_bin opD_sub (de_var (i := 5)) (de_int)) (de_var (i := 10))))))))) dss_nil)
    (dss_one (ds_expr (de_append (i := 4) (de_tup (da_cons (de_hcall h__law_pop mono_F__law_pop (hr.mono (by decide)) gd (dar_r (i := 0) (dar_r (i := 2) dar_nil))) (da_cons (de_var (i := 6)) (da_cons (de_callTy callD_tuple n_tuple (da_cons (de_var (i := 9)) da_nil)) da_nil)))))))))))))))
    (dss_one (ds_ret (de_callTy callD_tuple n_tuple (da_cons (de_var (i := 4)) da_nil))))))))) ok
theorem sc__law_clock_shape : FnScope ["d", "box", "sides", "stop", "able", "person", "parts", "rows", "kinds"] ["d", "box", "sides", "stop"] (defScope (top 50)) := ⟨rfl, rfl, rfl, by decide +kernel, rfl, by decide +kernel, by decide +kernel⟩
theorem has__law_clock_shape {P : Program} {w : World} {K : PySem.W.Frag} {mg : Str → Option Value} {base : Heap} {f : Addr} {fd : FuncData} (D0 : FunD K "_law_clock_shape" "_law_clock_shape" (defArgs (top 50)) (defBody (top 50)) (defScope (top 50)) [] [] f fd) (hm : mg "_law_clock_shape" = some (.ref f)) (h__law_draw : Has P w K mg base "_law_draw" 1 ["d", "many"] F__law_draw) (h__law_narrowed : Has P w K mg base "_law_narrowed" 1 ["box", "person", "kinds"] F__law_narrowed) (h__law_pick : Has P w K mg base "_law_pick" 2 ["d", "row"] F__law_pick) (n_len : mg "len" = none) (n_range : mg "range" = none) (n_tuple : mg "tuple" = none) (ok : ∀ n, BodyOk 9 (W__law_clock_shape n) (F__law_clock_shape (n + 1))) (no : ∀ ss k, ¬ F__law_clock_shape 0 ss k) : ∀ n, Has P w K mg base "_law_clock_shape" (2 + n) ["d", "box", "sides", "stop"] (F__law_clock_shape n)
  | 0 => has_none D0 hm (fun _ _ _ _ _ _ us hl => match us, hl with | [_, _, _, _], _ => rfl) no
  | n + 1 => by
    have h__law_clock_shape := has__law_clock_shape D0 hm h__law_draw h__law_narrowed h__law_pick n_len n_range n_tuple ok no n
    exact has_of D0 hm (fun _ _ _ _ _ _ us hl => match us, hl with | [_, _, _, _], _ => rfl) sc__law_clock_shape rfl (by intro ss k h; unfold F__law_clock_shape at h; (repeat (obtain ⟨_, h⟩ := h)); subst_vars; rfl) (fun cdv A out st H E C hr gd => by
    have sc := sc__law_clock_shape
    have hp := PassesOwn.never (M := model P w) (A := A.deeper (envOfC "_law_clock_shape" (defScope (top 50)) st.heap.objs.size f cdv)) (env := envOfC "_law_clock_shape" (defScope (top 50)) st.heap.objs.size f cdv)
    exact (dss_cons (ds_setLc (i := 4) (own := [("person", 5)]) rfl sc.nd (sw_true rfl rfl rfl (by kernel_rfl)) (di_range1 n_range (de_lenV (i := 1) n_len)) (blkOk_by (own := [("person", 5)]) (by kernel_rfl)) (by simp) (fun _ _ _ _ _ _ => (dg_name (i := 5) sc.nd)) (fun _ _ _ _ _ _ => (dts_one (dt_cmp opD_gt (de_callB callD_len n_len (da_cons (de_idxV (i := 1) (de_var (i := 5))) da_nil)) (de_int)))) (fun _ _ _ _ _ _ => (de_var (i := 5))))
    (dss_cons (ds_if ((dw_or (dt_not (dt_truV (i := 4))) (dw_or1 (dt_cmp (opD_eq (room_u hr)) (de_hcall h__law_draw mono_F__law_draw (hr.mono (by (try simp only [Nat.add_eq]); omega)) gd (dar_r (i := 0) (dar_e (de_var (i := 3)) dar_nil))) (de_int)))).dt) (dss_one (ds_ret (de_tup (da_cons (de_str) da_nil)))) dss_nil)
    (dss_cons (ds_set (i := 5) sc.nd (de_hcall h__law_pick mono_F__law_pick (hr.mono (by (try simp only [Nat.add_eq]); omega)) gd (dar_r (i := 0) (dar_e (de_var (i := 4)) dar_nil))))
    (dss_cons (ds_set (i := 6) sc.nd (de_tup (da_cons (de_slice (de_idxV (i := 1) (de_var (i := 5))) do_none (do_some (de_int))) (da_cons (de_slice (de_idxV (i := 1) (de_var (i := 5))) (do_some (de_int)) do_none) da_nil))))
    (dss_cons (ds_if (dt_cmp (opD_eq (room_u hr)) (de_idxV (i := 2) (de_var (i := 5))) (de_str)) (dss_one (ds_set (i := 6) sc.nd (de_tup (da_cons (de_slice (de_idxV (i := 1) (de_var (i := 5))) do_none (do_some (de_neg (de_int)))) (da_cons (de_slice (de_idxV (i := 1) (de_var (i := 5))) (do_some (de_neg (de_int))) do_none) da_nil))))) dss_nil)
    (dss_cons (ds_setLc (i := 7) (own := [("kinds", 8)]) rfl sc.nd (sw_true rfl rfl rfl (by kernel_rfl)) (di_seq (de_var (i := 6))) (blkOk_by (own := [("kinds", 8)]) (by kernel_rfl)) (by simp) (fun _ _ _ _ _ _ => (dg_name (i := 8) sc.nd)) (fun _ _ _ _ _ _ => dts_nil) (fun _ _ _ _ _ _ => (de_tup (da_cons (de_var (i := 8)) (da_cons (de_hcall h__law_clock_shape (mono_F__law_clock_shape _) (hr.mono (by (try simp only [Nat.add_eq]); omega)) gd (dar_r (i := 0) (dar_e (de_hcall h__law_narrowed mono_F__law_narrowed (hr.mono (by (try simp only [Nat.add_eq]); omega)) gd (dar_e (de_var (i := 1)) (dar_e (de_var (i := 5)) (dar_e (de_var (i := 8)) dar_nil)))) (dar_e (de_var (i := 2)) (dar_e (de_var (i := 3)) dar_nil))))) da_nil)))))
    (dss_one (ds_ret (de_tup (da_cons (de_str) (da_cons (de_var (i := 5)) (da_cons (de_callTy callD_tuple n_tuple (da_cons (de_var (i := 7)) da_nil)) da_nil))))))))))))) (ok n)
theorem sc__law_leaf_winners : FnScope ["d", "hearing", "path", "sides", "must", "node", "at", "found", "person", "wins"] ["d", "hearing", "path", "sides"] (defScope (top 51)) := ⟨rfl, rfl, rfl, by decide +kernel, rfl, by decide +kernel, by decide +kernel⟩
theorem has__law_leaf_winners {P : Program} {w : World} {K : PySem.W.Frag} {mg : Str → Option Value} {base : Heap} {f : Addr} {fd : FuncData} (D0 : FunD K "_law_leaf_winners" "_law_leaf_winners" (defArgs (top 51)) (defBody (top 51)) (defScope (top 51)) [] [] f fd) (hm : mg "_law_leaf_winners" = some (.ref f)) (h__law_draw : Has P w K mg base "_law_draw" 1 ["d", "many"] F__law_draw) (n_len : mg "len" = none) (n_range : mg "range" = none) (n_tuple : mg "tuple" = none) (ok : BodyOk 10 W__law_leaf_winners F__law_leaf_winners) : Has P w K mg base "_law_leaf_winners" 2 ["d", "hearing", "path", "sides"] F__law_leaf_winners :=
  has_of D0 hm (fun _ _ _ _ _ _ us hl => match us, hl with | [_, _, _, _], _ => rfl) sc__law_leaf_winners rfl (by intro ss k h; unfold F__law_leaf_winners at h; (repeat (obtain ⟨_, h⟩ := h)); subst_vars; rfl) (fun cdv A out st H E C hr gd => by
    have sc := sc__law_leaf_winners
    have hp := PassesOwn.never (M := model P w) (A := A.deeper (envOfC "_law_leaf_winners" (defScope (top 51)) st.heap.objs.size f cdv)) (env := envOfC "_law_leaf_winners" (defScope (top 51)) st.heap.objs.size f cdv)
    exact (dss_cons (ds_set (i := 4) sc.nd de_newK)
    (dss_cons (ds_set (i := 5) sc.nd (de_var (i := 1)))
    (dss_cons (ds_forW (js := [6]) hp rfl (di_seq (de_var (i := 2))) (dg_name (i := 6) sc.nd) (dss_cons (ds_if ((dw_and (dt_cmp (opD_eq (room_u hr)) (de_idxV (i := 3) (de_idxV (i := 5) (de_int))) (de_str)) (dw_and1 (dt_cmp (opD_eq (room_u hr)) (de_var (i := 6)) (de_int)))).dt) (dss_one (ds_putK (i := 4) (room_u1 hr) (de_idxV (i := 5) (de_int)) (de_bl))) dss_nil)
    (dss_cons (ds_if ((dw_and (dt_cmp (opD_eq (room_u hr)) (de_idxV (i := 3) (de_idxV (i := 5) (de_int))) (de_str)) (dw_and1 (dt_cmp (opD_eq (room_u hr)) (de_var (i := 6)) (de_int)))).dt) (dss_one (ds_putK (i := 4) (room_u1 hr) (de_idxV (i := 5) (de_int)) (de_bl))) dss_nil)
    (dss_one (ds_set (i := 5) sc.nd (de_idx (de_idx (de_idxV (i := 5) (de_int)) (de_var (i := 6))) (de_int)))))))
    (dss_cons (ds_set (i := 7) sc.nd (de_lst da_nil))
    (dss_cons (ds_forW (js := [8, 9]) hp rfl (di_range1 n_range (de_lenV (i := 3) n_len)) (dg_name (i := 8) sc.nd) (dss_cons (ds_set (i := 9) sc.nd (de_cmp (opD_eq (room_u hr)) (de_hcall h__law_draw mono_F__law_draw (hr.mono (by decide)) gd (dar_r (i := 0) (dar_e (de_int) dar_nil))) (de_int)))
    (dss_cons (ds_if (dt_inK (i := 4) (room_u1 hr) (de_var (i := 8))) (dss_one (ds_set (i := 9) sc.nd (de_getK (i := 4) (room_u1 hr) (de_var (i := 8))))) dss_nil)
    (dss_one (ds_if (dt_truV (i := 9)) (dss_one (ds_expr (de_append (i := 7) (de_var (i := 8))))) dss_nil)))))
    (dss_one (ds_ret (de_callTy callD_tuple n_tuple (da_cons (de_var (i := 7)) da_nil)))))))))) ok
theorem sc__law_built : FnScope ["d", "persons", "hearing", "sides", "box", "told", "path", "leaf", "person", "row"] ["d", "persons", "hearing"] (defScope (top 52)) := ⟨rfl, rfl, rfl, by decide +kernel, rfl, by decide +kernel, by decide +kernel⟩
theorem has__law_built {P : Program} {w : World} {K : PySem.W.Frag} {mg : Str → Option Value} {base : Heap} {f : Addr} {fd : FuncData} (D0 : FunD K "_law_built" "_law_built" (defArgs (top 52)) (defBody (top 52)) (defScope (top 52)) [] [] f fd) (hm : mg "_law_built" = some (.ref f)) (h__law_leaf_winners : Has P w K mg base "_law_leaf_winners" 2 ["d", "hearing", "path", "sides"] F__law_leaf_winners) (h__law_leaves : Has P w K mg base "_law_leaves" 3 ["box", "hearing"] F__law_leaves) (h__law_rows : Has P w K mg base "_law_rows" 1 ["box"] F__law_rows) (h__law_run : Has P w K mg base "_law_run" 1 ["hearing", "row"] F__law_run) (n_len : mg "len" = none) (n_range : mg "range" = none) (n_tuple : mg "tuple" = none) (ok : BodyOk 10 W__law_built F__law_built) : Has P w K mg base "_law_built" 4 ["d", "persons", "hearing"] F__law_built :=
  has_of D0 hm (fun _ _ _ _ _ _ us hl => match us, hl with | [_, _, _], _ => rfl) sc__law_built rfl (by intro ss k h; unfold F__law_built at h; (repeat (obtain ⟨_, h⟩ := h)); subst_vars; rfl) (fun cdv A out st H E C hr gd => by
    have sc := sc__law_built
    have hp := PassesOwn.never (M := model P w) (A := A.deeper (envOfC "_law_built" (defScope (top 52)) st.heap.objs.size f cdv)) (env := envOfC "_law_built" (defScope (top 52)) st.heap.objs.size f cdv)
    exact (dss_cons (ds_setLc (i := 3) (own := [("person", 8)]) rfl sc.nd (sw_true rfl rfl rfl (by kernel_rfl)) (di_seq (de_var (i := 1))) (blkOk_by (own := [("person", 8)]) (by kernel_rfl)) (by simp) (fun _ _ _ _ _ _ => (dg_name (i := 8) sc.nd)) (fun _ _ _ _ _ _ => dts_nil) (fun _ _ _ _ _ _ => (de_idxV (i := 8) (de_int))))
    (dss_cons (ds_set (i := 4) sc.nd (de_callTy callD_tuple n_tuple (da_cons (de_lc (own := [("person", 8)]) rfl sc.nd (di_seq (de_var (i := 1))) (blkOk_by (own := [("person", 8)]) (by kernel_rfl)) (by simp) (fun _ _ _ _ _ _ => (dg_name (i := 8) sc.nd)) (fun _ _ _ _ _ _ => dts_nil) (fun _ _ _ _ _ _ => (de_tupRg rfl n_tuple n_range (de_callB callD_len n_len (da_cons (de_idxV (i := 8) (de_int)) da_nil))))) da_nil)))
    (dss_cons (ds_set (i := 5) sc.nd (de_newT))
    (dss_cons (ds_forW (js := [6, 7]) hp rfl (di_seq (de_hcall h__law_leaves mono_F__law_leaves (hr.mono (by decide)) gd (dar_e (de_var (i := 4)) (dar_e (de_var (i := 2)) dar_nil)))) (dg_tup rfl (dgs_cons (dg_name (i := 6) sc.nd) (dgs_cons (dg_name (i := 7) sc.nd) dgs_nil))) (dss_one (ds_putT (i := 5) (room_u1 hr) (de_var (i := 6)) (de_hcall h__law_leaf_winners mono_F__law_leaf_winners (hr.mono (by decide)) gd (dar_r (i := 0) (dar_e (de_var (i := 2)) (dar_e (de_var (i := 6)) (dar_e (de_var (i := 3)) dar_nil))))))))
    (dss_one (ds_ret (de_tup (da_cons (de_str) (da_cons (de_var (i := 1)) (da_cons (de_callTy callD_tuple n_tuple (da_cons (de_lc (own := [("row", 9)]) rfl sc.nd (di_seq (de_hcall h__law_rows mono_F__law_rows (hr.mono (by decide)) gd (dar_e (de_var (i := 4)) dar_nil))) (blkOk_by (own := [("row", 9)]) (by kernel_rfl)) (by simp) (fun _ _ _ _ _ _ => (dg_name (i := 9) sc.nd)) (fun _ _ _ _ _ _ => dts_nil) (fun _ _ _ _ _ _ => (de_getT (i := 5) (room_u1 hr) (de_idx (de_hcall h__law_run mono_F__law_run (hr.mono (by decide)) gd (dar_e (de_var (i := 2)) (dar_e (de_var (i := 9)) dar_nil))) (de_int))))) da_nil)) da_nil))))))))))) ok
theorem sc__law_some : FnScope ["d", "many", "mask", "person"] ["d", "many"] (defScope (top 53)) := ⟨rfl, rfl, rfl, by decide +kernel, rfl, by decide +kernel, by decide +kernel⟩
theorem has__law_some {P : Program} {w : World} {K : PySem.W.Frag} {mg : Str → Option Value} {base : Heap} {f : Addr} {fd : FuncData} (D0 : FunD K "_law_some" "_law_some" (defArgs (top 53)) (defBody (top 53)) (defScope (top 53)) [] [] f fd) (hm : mg "_law_some" = some (.ref f)) (h__law_draw : Has P w K mg base "_law_draw" 1 ["d", "many"] F__law_draw) (n_range : mg "range" = none) (n_tuple : mg "tuple" = none) (ok : BodyOk 4 W__law_some F__law_some) : Has P w K mg base "_law_some" 2 ["d", "many"] F__law_some :=
  has_of D0 hm (fun _ _ _ _ _ _ us hl => match us, hl with | [_, _], _ => rfl) sc__law_some rfl (by intro ss k h; unfold F__law_some at h; (repeat (obtain ⟨_, h⟩ := h)); subst_vars; rfl) (fun cdv A out st H E C hr gd => by
    have sc := sc__law_some
    have hp := PassesOwn.never (M := model P w) (A := A.deeper (envOfC "_law_some" (defScope (top 53)) st.heap.objs.size f cdv)) (env := envOfC "_law_some" (defScope (top 53)) st.heap.objs.size f cdv)
    exact (dss_cons (ds_set (i := 2) sc.nd (de_hcall h__law_draw mono_F__law_draw (hr.mono (by decide)) gd (dar_r (i := 0) (dar_e (de_bin opD_shl (de_int) (de_var (i := 1))) dar_nil))))
    (dss_one (ds_ret (de_callTy callD_tuple n_tuple (da_cons (de_lc (own := [("person", 3)]) rfl sc.nd (di_range1 n_range (de_var (i := 1))) (blkOk_by (own := [("person", 3)]) (by kernel_rfl)) (by simp) (fun _ _ _ _ _ _ => (dg_name (i := 3) sc.nd)) (fun _ _ _ _ _ _ => (dts_one (dt_tru (de_bin opD_band (de_bin opD_shr (de_var (i := 2)) (de_var (i := 3))) (de_int))))) (fun _ _ _ _ _ _ => (de_var (i := 3)))) da_nil)))))) ok
theorem sc__law_scattered : FnScope ["d", "persons", "box", "told", "last", "row", "person"] ["d", "persons"] (defScope (top 54)) := ⟨rfl, rfl, rfl, by decide +kernel, rfl, by decide +kernel, by decide +kernel⟩
theorem has__law_scattered {P : Program} {w : World} {K : PySem.W.Frag} {mg : Str → Option Value} {base : Heap} {f : Addr} {fd : FuncData} (D0 : FunD K "_law_scattered" "_law_scattered" (defArgs (top 54)) (defBody (top 54)) (defScope (top 54)) [] [] f fd) (hm : mg "_law_scattered" = some (.ref f)) (h__law_draw : Has P w K mg base "_law_draw" 1 ["d", "many"] F__law_draw) (h__law_rows : Has P w K mg base "_law_rows" 1 ["box"] F__law_rows) (h__law_some : Has P w K mg base "_law_some" 2 ["d", "many"] F__law_some) (n_len : mg "len" = none) (n_range : mg "range" = none) (n_tuple : mg "tuple" = none) (ok : BodyOk 7 W__law_scattered F__law_scattered) : Has P w K mg base "_law_scattered" 3 ["d", "persons"] F__law_scattered :=
  has_of D0 hm (fun _ _ _ _ _ _ us hl => match us, hl with | [_, _], _ => rfl) sc__law_scattered rfl (by intro ss k h; unfold F__law_scattered at h; (repeat (obtain ⟨_, h⟩ := h)); subst_vars; rfl) (fun cdv A out st H E C hr gd => by
    have sc := sc__law_scattered
    have hp := PassesOwn.never (M := model P w) (A := A.deeper (envOfC "_law_scattered" (defScope (top 54)) st.heap.objs.size f cdv)) (env := envOfC "_law_scattered" (defScope (top 54)) st.heap.objs.size f cdv)
    exact (dss_cons (ds_set (i := 2) sc.nd (de_callTy callD_tuple n_tuple (da_cons (de_lc (own := [("person", 6)]) rfl sc.nd (di_seq (de_var (i := 1))) (blkOk_by (own := [("person", 6)]) (by kernel_rfl)) (by simp) (fun _ _ _ _ _ _ => (dg_name (i := 6) sc.nd)) (fun _ _ _ _ _ _ => dts_nil) (fun _ _ _ _ _ _ => (de_tupRg rfl n_tuple n_range (de_callB callD_len n_len (da_cons (de_idxV (i := 6) (de_int)) da_nil))))) da_nil)))
    (dss_cons (ds_set (i := 3) sc.nd (de_lst da_nil))
    (dss_cons (ds_set (i := 4) sc.nd (de_hcall h__law_some mono_F__law_some (hr.mono (by decide)) gd (dar_r (i := 0) (dar_e (de_lenV (i := 1) n_len) dar_nil))))
    (dss_cons (ds_forW (js := [5]) hp rfl (di_seq (de_hcall h__law_rows mono_F__law_rows (hr.mono (by decide)) gd (dar_e (de_var (i := 2)) dar_nil))) (dg_name (i := 5) sc.nd) (dss_cons (ds_if (dt_cmp opD_gt (de_hcall h__law_draw mono_F__law_draw (hr.mono (by decide)) gd (dar_r (i := 0) (dar_e (de_int) dar_nil))) (de_int)) (dss_one (ds_set (i := 4) sc.nd (de_hcall h__law_some mono_F__law_some (hr.mono (by decide)) gd (dar_r (i := 0) (dar_e (de_lenV (i := 1) n_len) dar_nil))))) dss_nil)
    (dss_one (ds_expr (de_append (i := 3) (de_var (i := 4)))))))
    (dss_one (ds_ret (de_tup (da_cons (de_str) (da_cons (de_var (i := 1)) (da_cons (de_callTy callD_tuple n_tuple (da_cons (de_var (i := 3)) da_nil)) da_nil))))))))))) ok
theorem sc__law_clocks : FnScope ["d", "sizes", "persons", "box", "hearing", "way", "clocks", "k", "row", "person", "many"] ["d", "sizes"] (defScope (top 55)) := ⟨rfl, rfl, rfl, by decide +kernel, rfl, by decide +kernel, by decide +kernel⟩
theorem has__law_clocks {P : Program} {w : World} {K : PySem.W.Frag} {mg : Str → Option Value} {base : Heap} {f : Addr} {fd : FuncData} (D0 : FunD K "_law_clocks" "_law_clocks" (defArgs (top 55)) (defBody (top 55)) (defScope (top 55)) [] [] f fd) (hm : mg "_law_clocks" = some (.ref f)) (h__law_built : Has P w K mg base "_law_built" 4 ["d", "persons", "hearing"] F__law_built) (h__law_clock_persons : Has P w K mg base "_law_clock_persons" 3 ["d", "sizes"] F__law_clock_persons) (h__law_clock_shape : Has P w K mg base "_law_clock_shape" 43 ["d", "box", "sides", "stop"] (F__law_clock_shape 40)) (h__law_draw : Has P w K mg base "_law_draw" 1 ["d", "many"] F__law_draw) (h__law_pick : Has P w K mg base "_law_pick" 2 ["d", "row"] F__law_pick) (h__law_put_wins : Has P w K mg base "_law_put_wins" 2 ["clocks", "rows", "person", "wins"] F__law_put_wins) (h__law_scattered : Has P w K mg base "_law_scattered" 3 ["d", "persons"] F__law_scattered) (h__law_winners : Has P w K mg base "_law_winners" 2 ["clocks", "row"] F__law_winners) (n_len : mg "len" = none) (n_max : mg "max" = none) (n_range : mg "range" = none) (n_tuple : mg "tuple" = none) (ok : BodyOk 11 W__law_clocks F__law_clocks) : Has P w K mg base "_law_clocks" 44 ["d", "sizes"] F__law_clocks :=
  has_of D0 hm (fun _ _ _ _ _ _ us hl => match us, hl with | [_, _], _ => rfl) sc__law_clocks rfl (by intro ss k h; unfold F__law_clocks at h; (repeat (obtain ⟨_, h⟩ := h)); subst_vars; rfl) (fun cdv A out st H E C hr gd => by
    have sc := sc__law_clocks
    have hp := PassesOwn.never (M := model P w) (A := A.deeper (envOfC "_law_clocks" (defScope (top 55)) st.heap.objs.size f cdv)) (env := envOfC "_law_clocks" (defScope (top 55)) st.heap.objs.size f cdv)
    exact (dss_cons (ds_set (i := 2) sc.nd (de_hcall h__law_clock_persons mono_F__law_clock_persons (hr.mono (by decide)) gd (dar_r (i := 0) (dar_e (de_var (i := 1)) dar_nil))))
    (dss_cons (ds_set (i := 3) sc.nd (de_callTy callD_tuple n_tuple (da_cons (de_lc (own := [("many", 10)]) rfl sc.nd (di_seq (de_var (i := 1))) (blkOk_by (own := [("many", 10)]) (by kernel_rfl)) (by simp) (fun _ _ _ _ _ _ => (dg_name (i := 10) sc.nd)) (fun _ _ _ _ _ _ => dts_nil) (fun _ _ _ _ _ _ => (de_tupRg rfl n_tuple n_range (de_var (i := 10))))) da_nil)))
    (dss_cons (ds_set (i := 4) sc.nd (de_hcall h__law_clock_shape (mono_F__law_clock_shape _) (hr.mono (by decide)) gd (dar_r (i := 0) (dar_e (de_var (i := 3)) (dar_e (de_lc (own := [("person", 9)]) rfl sc.nd (di_seq (de_var (i := 2))) (blkOk_by (own := [("person", 9)]) (by kernel_rfl)) (by simp) (fun _ _ _ _ _ _ => (dg_name (i := 9) sc.nd)) (fun _ _ _ _ _ _ => dts_nil) (fun _ _ _ _ _ _ => (de_idxV (i := 9) (de_int)))) (dar_e (de_hcall h__law_pick mono_F__law_pick (hr.mono (by decide)) gd (dar_r (i := 0) (dar_e (de_lst (da_cons (de_int) (da_cons (de_int) (da_cons (de_int) (da_cons (de_int) da_nil))))) dar_nil))) dar_nil))))))
    (dss_cons (ds_set (i := 5) sc.nd (de_hcall h__law_draw mono_F__law_draw (hr.mono (by decide)) gd (dar_r (i := 0) (dar_e (de_int) dar_nil))))
    (dss_cons (ds_if (dt_cmp (opD_eq (room_u hr)) (de_var (i := 5)) (de_int)) (dss_one (ds_ret (de_tup (da_cons (de_hcall h__law_scattered mono_F__law_scattered (hr.mono (by decide)) gd (dar_r (i := 0) (dar_e (de_var (i := 2)) dar_nil))) (da_cons (de_var (i := 4)) da_nil))))) dss_nil)
    (dss_cons (ds_set (i := 6) sc.nd (de_hcall h__law_built mono_F__law_built (hr.mono (by decide)) gd (dar_r (i := 0) (dar_e (de_var (i := 2)) (dar_e (de_var (i := 4)) dar_nil)))))
    (dss_cons (ds_forW (js := [7, 8, 9, 10]) hp rfl (di_range1 n_range (de_callB (callD_max rfl) n_max (da_cons (de_int) (da_cons (de_bin opD_sub (de_var (i := 5)) (de_int)) da_nil)))) (dg_name (i := 7) sc.nd) (dss_cons (ds_set (i := 8) sc.nd (de_callTy callD_tuple n_tuple (da_cons (de_lc (own := [("many", 10)]) rfl sc.nd (di_seq (de_var (i := 1))) (blkOk_by (own := [("many", 10)]) (by kernel_rfl)) (by simp) (fun _ _ _ _ _ _ => (dg_name (i := 10) sc.nd)) (fun _ _ _ _ _ _ => dts_nil) (fun _ _ _ _ _ _ => (de_hcall h__law_draw mono_F__law_draw (hr.mono (by decide)) gd (dar_r (i := 0) (dar_e (de_var (i := 10)) dar_nil))))) da_nil)))
    (dss_cons (ds_set (i := 9) sc.nd (de_hcall h__law_draw mono_F__law_draw (hr.mono (by decide)) gd (dar_r (i := 0) (dar_e (de_lenV (i := 1) n_len) dar_nil))))
    (dss_one (ds_set (i := 6) sc.nd (de_hcall h__law_put_wins mono_F__law_put_wins (hr.mono (by decide)) gd (dar_e (de_var (i := 6)) (dar_e (de_lst (da_cons (de_var (i := 8)) da_nil)) (dar_e (de_var (i := 9)) (dar_e (de_cmp (opD_notIn (room_u65 hr)) (de_var (i := 9)) (de_hcall h__law_winners mono_F__law_winners (hr.mono (by decide)) gd (dar_e (de_var (i := 6)) (dar_e (de_var (i := 8)) dar_nil)))) dar_nil))))))))))
    (dss_one (ds_ret (de_tup (da_cons (de_var (i := 6)) (da_cons (de_var (i := 4)) da_nil))))))))))))) ok
theorem sc__law_wide_sizes : FnScope ["d"] ["d"] (defScope (top 56)) := ⟨rfl, rfl, rfl, by decide +kernel, rfl, by decide +kernel, by decide +kernel⟩
theorem has__law_wide_sizes {P : Program} {w : World} {K : PySem.W.Frag} {mg : Str → Option Value} {base : Heap} {f : Addr} {fd : FuncData} (D0 : FunD K "_law_wide_sizes" "_law_wide_sizes" (defArgs (top 56)) (defBody (top 56)) (defScope (top 56)) [] [] f fd) (hm : mg "_law_wide_sizes" = some (.ref f)) (h__law_pick : Has P w K mg base "_law_pick" 2 ["d", "row"] F__law_pick) (h__law_rare : Has P w K mg base "_law_rare" 2 ["d", "many"] F__law_rare) (h__law_sizes : Has P w K mg base "_law_sizes" 3 ["d", "limit"] F__law_sizes) (ok : BodyOk 1 W__law_wide_sizes F__law_wide_sizes) : Has P w K mg base "_law_wide_sizes" 4 ["d"] F__law_wide_sizes :=
  has_of D0 hm (fun _ _ _ _ _ _ us hl => match us, hl with | [_], _ => rfl) sc__law_wide_sizes rfl (by intro ss k h; unfold F__law_wide_sizes at h; (repeat (obtain ⟨_, h⟩ := h)); subst_vars; rfl) (fun cdv A out st H E C hr gd => by
    have sc := sc__law_wide_sizes
    have hp := PassesOwn.never (M := model P w) (A := A.deeper (envOfC "_law_wide_sizes" (defScope (top 56)) st.heap.objs.size f cdv)) (env := envOfC "_law_wide_sizes" (defScope (top 56)) st.heap.objs.size f cdv)
    exact (dss_cons (ds_if (dt_tru (de_hcall h__law_rare mono_F__law_rare (hr.mono (by decide)) gd (dar_r (i := 0) (dar_e (de_int) dar_nil)))) (dss_one (ds_ret (de_hcall h__law_pick mono_F__law_pick (hr.mono (by decide)) gd (dar_r (i := 0) (dar_e (de_kl (de_lst (da_cons (de_tup (da_cons (de_int) (da_cons (de_int) (da_cons (de_int) (da_cons (de_int) da_nil))))) (da_cons (de_tup (da_cons (de_int) (da_cons (de_int) (da_cons (de_int) da_nil)))) (da_cons (de_tup (da_cons (de_int) (da_cons (de_int) (da_cons (de_int) (da_cons (de_int) da_nil))))) (da_cons (de_tup (da_cons (de_int) (da_cons (de_int) (da_cons (de_int) da_nil)))) (da_cons (de_tup (da_cons (de_int) (da_cons (de_int) (da_cons (de_int) (da_cons (de_int) da_nil))))) (da_cons (de_tup (da_cons (de_int) (da_cons (de_int) (da_cons (de_int) da_nil)))) da_nil))))))) (by intro ρ k q; (repeat (refine ⟨(by decide), ?_⟩)); exact q)) dar_nil))))) dss_nil)
    (dss_one (ds_ret (de_hcall h__law_sizes mono_F__law_sizes (hr.mono (by decide)) gd (dar_r (i := 0) (dar_e (de_int) dar_nil))))))) ok
theorem sc__law_agrees : FnScope ["clocks", "box", "person"] ["clocks", "box"] (defScope (top 57)) := ⟨rfl, rfl, rfl, by decide +kernel, rfl, by decide +kernel, by decide +kernel⟩
theorem has__law_agrees {P : Program} {w : World} {K : PySem.W.Frag} {mg : Str → Option Value} {base : Heap} {f : Addr} {fd : FuncData} (D0 : FunD K "_law_agrees" "_law_agrees" (defArgs (top 57)) (defBody (top 57)) (defScope (top 57)) [] [] f fd) (hm : mg "_law_agrees" = some (.ref f)) (h__law_bool : Has P w K mg base "_law_bool" 1 ["told", "due"] F__law_bool) (h__law_question : Has P w K mg base "_law_question" 4 ["clocks", "box", "person"] F__law_question) (h__law_same : Has P w K mg base "_law_same" 2 ["told", "due"] F__law_same) (h__law_settled : Has P w K mg base "_law_settled" 3 ["clocks", "box"] F__law_settled) (h_clock_parts : Has P w K mg base "clock_parts" 8 ["clocks", "box", "person"] F_clock_parts) (h_is_settled : Has P w K mg base "is_settled" 5 ["clocks", "box"] F_is_settled) (n_len : mg "len" = none) (n_range : mg "range" = none) (ok : BodyOk 3 W__law_agrees F__law_agrees) : Has P w K mg base "_law_agrees" 9 ["clocks", "box"] F__law_agrees :=
  has_of D0 hm (fun _ _ _ _ _ _ us hl => match us, hl with | [_, _], _ => rfl) sc__law_agrees rfl (by intro ss k h; unfold F__law_agrees at h; (repeat (obtain ⟨_, h⟩ := h)); subst_vars; rfl) (fun cdv A out st H E C hr gd => by
    have sc := sc__law_agrees
    have hp := PassesOwn.never (M := model P w) (A := A.deeper (envOfC "_law_agrees" (defScope (top 57)) st.heap.objs.size f cdv)) (env := envOfC "_law_agrees" (defScope (top 57)) st.heap.objs.size f cdv)
    exact (dss_cons (ds_if (dt_not (dt_tru (de_hcall h__law_bool mono_F__law_bool (hr.mono (by decide)) gd (dar_e (de_hcall h_is_settled mono_F_is_settled (hr.mono (by decide)) gd (dar_e (de_var (i := 0)) (dar_e (de_var (i := 1)) dar_nil))) (dar_e (de_hcall h__law_settled mono_F__law_settled (hr.mono (by decide)) gd (dar_e (de_var (i := 0)) (dar_e (de_var (i := 1)) dar_nil))) dar_nil))))) (dss_one (ds_ret (de_bl))) dss_nil)
    (dss_cons (ds_forW (js := [2]) hp rfl (di_range1 n_range (de_lenV (i := 1) n_len)) (dg_name (i := 2) sc.nd) (dss_one (ds_if (dt_not (dt_tru (de_hcall h__law_same mono_F__law_same (hr.mono (by decide)) gd (dar_e (de_hcall h_clock_parts mono_F_clock_parts (hr.mono (by decide)) gd (dar_e (de_var (i := 0)) (dar_e (de_var (i := 1)) (dar_e (de_var (i := 2)) dar_nil)))) (dar_e (de_hcall h__law_question mono_F__law_question (hr.mono (by decide)) gd (dar_e (de_var (i := 0)) (dar_e (de_var (i := 1)) (dar_e (de_var (i := 2)) dar_nil)))) dar_nil))))) (dss_one (ds_ret (de_bl))) dss_nil)))
    (dss_one (ds_ret (de_bl)))))) ok
theorem sc__law_settled_tables : FnScope ["d", "clocks", "box", "rows", "alike", "changed", "elsewhere", "beside"] ["d", "clocks", "box"] (defScope (top 58)) := ⟨rfl, rfl, rfl, by decide +kernel, rfl, by decide +kernel, by decide +kernel⟩
theorem has__law_settled_tables {P : Program} {w : World} {K : PySem.W.Frag} {mg : Str → Option Value} {base : Heap} {f : Addr} {fd : FuncData} (D0 : FunD K "_law_settled_tables" "_law_settled_tables" (defArgs (top 58)) (defBody (top 58)) (defScope (top 58)) [] [] f fd) (hm : mg "_law_settled_tables" = some (.ref f)) (h__law_pick : Has P w K mg base "_law_pick" 2 ["d", "row"] F__law_pick) (h__law_put_winners : Has P w K mg base "_law_put_winners" 2 ["clocks", "rows", "winners"] F__law_put_winners) (h__law_rows : Has P w K mg base "_law_rows" 1 ["box"] F__law_rows) (h__law_some : Has P w K mg base "_law_some" 2 ["d", "many"] F__law_some) (h__law_table_box : Has P w K mg base "_law_table_box" 1 ["clocks"] F__law_table_box) (n_len : mg "len" = none) (ok : BodyOk 8 W__law_settled_tables F__law_settled_tables) : Has P w K mg base "_law_settled_tables" 3 ["d", "clocks", "box"] F__law_settled_tables :=
  has_of D0 hm (fun _ _ _ _ _ _ us hl => match us, hl with | [_, _, _], _ => rfl) sc__law_settled_tables rfl (by intro ss k h; unfold F__law_settled_tables at h; (repeat (obtain ⟨_, h⟩ := h)); subst_vars; rfl) (fun cdv A out st H E C hr gd => by
    have sc := sc__law_settled_tables
    have hp := PassesOwn.never (M := model P w) (A := A.deeper (envOfC "_law_settled_tables" (defScope (top 58)) st.heap.objs.size f cdv)) (env := envOfC "_law_settled_tables" (defScope (top 58)) st.heap.objs.size f cdv)
    exact (dss_cons (ds_set (i := 3) sc.nd (de_hcall h__law_rows mono_F__law_rows (hr.mono (by decide)) gd (dar_e (de_var (i := 2)) dar_nil)))
    (dss_cons (ds_set (i := 4) sc.nd (de_hcall h__law_put_winners mono_F__law_put_winners (hr.mono (by decide)) gd (dar_e (de_var (i := 1)) (dar_e (de_var (i := 3)) (dar_e (de_hcall h__law_some mono_F__law_some (hr.mono (by decide)) gd (dar_r (i := 0) (dar_e (de_lenV (i := 2) n_len) dar_nil))) dar_nil)))))
    (dss_cons (ds_set (i := 5) sc.nd (de_hcall h__law_put_winners mono_F__law_put_winners (hr.mono (by decide)) gd (dar_e (de_var (i := 4)) (dar_e (de_lst (da_cons (de_hcall h__law_pick mono_F__law_pick (hr.mono (by decide)) gd (dar_r (i := 0) (dar_e (de_var (i := 3)) dar_nil))) da_nil)) (dar_e (de_hcall h__law_some mono_F__law_some (hr.mono (by decide)) gd (dar_r (i := 0) (dar_e (de_lenV (i := 2) n_len) dar_nil))) dar_nil)))))
    (dss_cons (ds_set (i := 6) sc.nd (de_hcall h__law_pick mono_F__law_pick (hr.mono (by decide)) gd (dar_r (i := 0) (dar_e (de_hcall h__law_rows mono_F__law_rows (hr.mono (by decide)) gd (dar_e (de_hcall h__law_table_box mono_F__law_table_box (hr.mono (by decide)) gd (dar_e (de_var (i := 1)) dar_nil)) dar_nil)) dar_nil))))
    (dss_cons (ds_set (i := 7) sc.nd (de_var (i := 4)))
    (dss_cons (ds_if (dt_cmp (opD_notIn (room_u65 hr)) (de_var (i := 6)) (de_var (i := 3))) (dss_one (ds_set (i := 7) sc.nd (de_hcall h__law_put_winners mono_F__law_put_winners (hr.mono (by decide)) gd (dar_e (de_var (i := 4)) (dar_e (de_lst (da_cons (de_var (i := 6)) da_nil)) (dar_e (de_hcall h__law_some mono_F__law_some (hr.mono (by decide)) gd (dar_r (i := 0) (dar_e (de_lenV (i := 2) n_len) dar_nil))) dar_nil)))))) dss_nil)
    (dss_one (ds_ret (de_lst (da_cons (de_var (i := 4)) (da_cons (de_var (i := 5)) (da_cons (de_var (i := 7)) da_nil))))))))))))) ok
theorem sc__law_asked_tables : FnScope ["d", "clocks", "box", "person", "outer", "wins", "there", "elsewhere", "able", "spoilt", "row", "beside", "other", "mixed"] ["d", "clocks", "box", "person"] (defScope (top 59)) := ⟨rfl, rfl, rfl, by decide +kernel, rfl, by decide +kernel, by decide +kernel⟩
theorem has__law_asked_tables {P : Program} {w : World} {K : PySem.W.Frag} {mg : Str → Option Value} {base : Heap} {f : Addr} {fd : FuncData} (D0 : FunD K "_law_asked_tables" "_law_asked_tables" (defArgs (top 59)) (defBody (top 59)) (defScope (top 59)) [] [] f fd) (hm : mg "_law_asked_tables" = some (.ref f)) (h__law_draw : Has P w K mg base "_law_draw" 1 ["d", "many"] F__law_draw) (h__law_outer : Has P w K mg base "_law_outer" 1 ["clocks", "box", "person"] F__law_outer) (h__law_pick : Has P w K mg base "_law_pick" 2 ["d", "row"] F__law_pick) (h__law_put_wins : Has P w K mg base "_law_put_wins" 2 ["clocks", "rows", "person", "wins"] F__law_put_wins) (h__law_rows : Has P w K mg base "_law_rows" 1 ["box"] F__law_rows) (h__law_table_box : Has P w K mg base "_law_table_box" 1 ["clocks"] F__law_table_box) (h__law_winners : Has P w K mg base "_law_winners" 2 ["clocks", "row"] F__law_winners) (n_len : mg "len" = none) (ok : BodyOk 14 W__law_asked_tables F__law_asked_tables) : Has P w K mg base "_law_asked_tables" 3 ["d", "clocks", "box", "person"] F__law_asked_tables :=
  has_of D0 hm (fun _ _ _ _ _ _ us hl => match us, hl with | [_, _, _, _], _ => rfl) sc__law_asked_tables rfl (by intro ss k h; unfold F__law_asked_tables at h; (repeat (obtain ⟨_, h⟩ := h)); subst_vars; rfl) (fun cdv A out st H E C hr gd => by
    have sc := sc__law_asked_tables
    have hp := PassesOwn.never (M := model P w) (A := A.deeper (envOfC "_law_asked_tables" (defScope (top 59)) st.heap.objs.size f cdv)) (env := envOfC "_law_asked_tables" (defScope (top 59)) st.heap.objs.size f cdv)
    exact (dss_cons (ds_set (i := 4) sc.nd (de_hcall h__law_outer mono_F__law_outer (hr.mono (by decide)) gd (dar_e (de_var (i := 1)) (dar_e (de_var (i := 2)) (dar_e (de_var (i := 3)) dar_nil)))))
    (dss_cons (ds_set (i := 5) sc.nd (de_cmp (opD_eq (room_u hr)) (de_idx (de_idx (de_idxV (i := 1) (de_int)) (de_var (i := 3))) (de_int)) (de_str)))
    (dss_cons (ds_setLc (i := 6) (own := [("row", 10)]) rfl sc.nd (sw_true rfl rfl rfl (by kernel_rfl)) (di_seq (de_hcall h__law_rows mono_F__law_rows (hr.mono (by decide)) gd (dar_e (de_var (i := 2)) dar_nil))) (blkOk_by (own := [("row", 10)]) (by kernel_rfl)) (by simp) (fun _ _ _ _ _ _ => (dg_name (i := 10) sc.nd)) (fun _ _ _ _ _ _ => (dts_one (dt_cmp (opD_eq (room_u hr)) (de_idxV (i := 10) (de_var (i := 3))) (de_var (i := 4))))) (fun _ _ _ _ _ _ => (de_var (i := 10))))
    (dss_cons (ds_setLc (i := 7) (own := [("row", 10)]) rfl sc.nd (sw_true rfl rfl rfl (by kernel_rfl)) (di_seq (de_hcall h__law_rows mono_F__law_rows (hr.mono (by decide)) gd (dar_e (de_hcall h__law_table_box mono_F__law_table_box (hr.mono (by decide)) gd (dar_e (de_var (i := 1)) dar_nil)) dar_nil))) (blkOk_by (own := [("row", 10)]) (by kernel_rfl)) (by simp) (fun _ _ _ _ _ _ => (dg_name (i := 10) sc.nd)) (fun _ _ _ _ _ _ => (dts_one (dt_cmp (opD_ne (room_u hr)) (de_idxV (i := 10) (de_var (i := 3))) (de_var (i := 4))))) (fun _ _ _ _ _ _ => (de_var (i := 10))))
    (dss_cons (ds_set (i := 8) sc.nd (de_hcall h__law_put_wins mono_F__law_put_wins (hr.mono (by decide)) gd (dar_e (de_var (i := 1)) (dar_e (de_var (i := 6)) (dar_e (de_var (i := 3)) (dar_e (de_var (i := 5)) dar_nil))))))
    (dss_cons (ds_set (i := 9) sc.nd (de_hcall h__law_put_wins mono_F__law_put_wins (hr.mono (by decide)) gd (dar_e (de_var (i := 8)) (dar_e (de_lst (da_cons (de_hcall h__law_pick mono_F__law_pick (hr.mono (by decide)) gd (dar_r (i := 0) (dar_e (de_var (i := 6)) dar_nil))) da_nil)) (dar_e (de_var (i := 3)) (dar_e (de_not (de_var (i := 5))) dar_nil))))))
    (dss_cons (ds_set (i := 10) sc.nd (de_hcall h__law_pick mono_F__law_pick (hr.mono (by decide)) gd (dar_r (i := 0) (dar_e (de_var (i := 7)) dar_nil))))
    (dss_cons (ds_set (i := 11) sc.nd (de_hcall h__law_put_wins mono_F__law_put_wins (hr.mono (by decide)) gd (dar_e (de_var (i := 8)) (dar_e (de_lst (da_cons (de_var (i := 10)) da_nil)) (dar_e (de_var (i := 3)) (dar_e (de_cmp (opD_notIn (room_u65 hr)) (de_var (i := 3)) (de_hcall h__law_winners mono_F__law_winners (hr.mono (by decide)) gd (dar_e (de_var (i := 8)) (dar_e (de_var (i := 10)) dar_nil)))) dar_nil))))))
    (dss_cons (ds_set (i := 12) sc.nd (de_hcall h__law_draw mono_F__law_draw (hr.mono (by decide)) gd (dar_r (i := 0) (dar_e (de_lenV (i := 2) n_len) dar_nil))))
    (dss_cons (ds_set (i := 10) sc.nd (de_hcall h__law_pick mono_F__law_pick (hr.mono (by decide)) gd (dar_r (i := 0) (dar_e (de_var (i := 6)) dar_nil))))
    (dss_cons (ds_set (i := 13) sc.nd (de_var (i := 8)))
    (dss_cons (ds_if (dt_cmp (opD_ne (room_u hr)) (de_var (i := 12)) (de_var (i := 3))) (dss_one (ds_set (i := 13) sc.nd (de_hcall h__law_put_wins mono_F__law_put_wins (hr.mono (by decide)) gd (dar_e (de_var (i := 8)) (dar_e (de_lst (da_cons (de_var (i := 10)) da_nil)) (dar_e (de_var (i := 12)) (dar_e (de_cmp (opD_notIn (room_u65 hr)) (de_var (i := 12)) (de_hcall h__law_winners mono_F__law_winners (hr.mono (by decide)) gd (dar_e (de_var (i := 8)) (dar_e (de_var (i := 10)) dar_nil)))) dar_nil))))))) dss_nil)
    (dss_one (ds_ret (de_lst (da_cons (de_var (i := 8)) (da_cons (de_var (i := 9)) (da_cons (de_var (i := 11)) (da_cons (de_var (i := 13)) (da_cons (de_var (i := 8)) da_nil))))))))))))))))))))) ok
theorem sc_law : FnScope ["script", "d", "clocks", "box", "inner", "alone", "here", "table", "able", "person", "kinds"] ["script"] (defScope (top 60)) := ⟨rfl, rfl, rfl, by decide +kernel, rfl, by decide +kernel, by decide +kernel⟩
theorem fng_law {P : Program} {w : World} {K : PySem.W.Frag} {mg : Str → Option Value} {base : Heap} {f : Addr} {fd : FuncData} (D0 : FunD K "law" "law" (defArgs (top 60)) (defBody (top 60)) (defScope (top 60)) [] [] f fd) (hm : mg "law" = some (.ref f)) (h__law_agrees : Has P w K mg base "_law_agrees" 9 ["clocks", "box"] F__law_agrees) (h__law_asked_tables : Has P w K mg base "_law_asked_tables" 3 ["d", "clocks", "box", "person"] F__law_asked_tables) (h__law_begin : Has P w K mg base "_law_begin" 1 ["script"] F__law_begin) (h__law_clocks : Has P w K mg base "_law_clocks" 44 ["d", "sizes"] F__law_clocks) (h__law_drawn_box : Has P w K mg base "_law_drawn_box" 3 ["d", "box"] F__law_drawn_box) (h__law_narrowed : Has P w K mg base "_law_narrowed" 1 ["box", "person", "kinds"] F__law_narrowed) (h__law_pick : Has P w K mg base "_law_pick" 2 ["d", "row"] F__law_pick) (h__law_same : Has P w K mg base "_law_same" 2 ["told", "due"] F__law_same) (h__law_settled_tables : Has P w K mg base "_law_settled_tables" 3 ["d", "clocks", "box"] F__law_settled_tables) (h__law_table_box : Has P w K mg base "_law_table_box" 1 ["clocks"] F__law_table_box) (h__law_wide_sizes : Has P w K mg base "_law_wide_sizes" 4 ["d"] F__law_wide_sizes) (h_clock_whole : Has P w K mg base "clock_whole" 3 ["clocks"] F_clock_whole) (n_len : mg "len" = none) (n_range : mg "range" = none) (n_tuple : mg "tuple" = none) (ok : BodyOk 11 W_law F_law) : FnG P w K mg base CX0 45 f fd ["script"] (spD K F_law) :=
  fn_ok D0 sc_law rfl (by intro ss k h; unfold F_law at h; (repeat (obtain ⟨_, h⟩ := h)); subst_vars; rfl) (fun cdv A out st H E C hr gd => by
    have sc := sc_law
    have hp := PassesOwn.never (M := model P w) (A := A.deeper (envOfC "law" (defScope (top 60)) st.heap.objs.size f cdv)) (env := envOfC "law" (defScope (top 60)) st.heap.objs.size f cdv)
    exact (dss_cons (ds_set (i := 1) sc.nd (de_hcall h__law_begin mono_F__law_begin (hr.mono (by decide)) gd (dar_r (i := 0) dar_nil)))
    (dss_cons (ds_set (i := 2) sc.nd (de_idx (de_hcall h__law_clocks mono_F__law_clocks (hr.mono (by decide)) gd (dar_r (i := 1) (dar_e (de_hcall h__law_wide_sizes mono_F__law_wide_sizes (hr.mono (by decide)) gd (dar_r (i := 1) dar_nil)) dar_nil))) (de_int)))
    (dss_cons (ds_set (i := 3) sc.nd (de_hcall h__law_table_box mono_F__law_table_box (hr.mono (by decide)) gd (dar_e (de_var (i := 2)) dar_nil)))
    (dss_cons (ds_if (dt_not (dt_tru (de_hcall h__law_same mono_F__law_same (hr.mono (by decide)) gd (dar_e (de_hcall h_clock_whole mono_F_clock_whole (hr.mono (by decide)) gd (dar_e (de_var (i := 2)) dar_nil)) (dar_e (de_var (i := 3)) dar_nil))))) (dss_one (ds_ret (de_bl))) dss_nil)
    (dss_cons (ds_set (i := 4) sc.nd (de_hcall h__law_drawn_box mono_F__law_drawn_box (hr.mono (by decide)) gd (dar_r (i := 1) (dar_e (de_var (i := 3)) dar_nil))))
    (dss_cons (ds_set (i := 5) sc.nd (de_callTy callD_tuple n_tuple (da_cons (de_lc (own := [("kinds", 10)]) rfl sc.nd (di_seq (de_var (i := 4))) (blkOk_by (own := [("kinds", 10)]) (by kernel_rfl)) (by simp) (fun _ _ _ _ _ _ => (dg_name (i := 10) sc.nd)) (fun _ _ _ _ _ _ => dts_nil) (fun _ _ _ _ _ _ => (de_tup (da_cons (de_hcall h__law_pick mono_F__law_pick (hr.mono (by decide)) gd (dar_r (i := 1) (dar_e (de_var (i := 10)) dar_nil))) da_nil)))) da_nil)))
    (dss_cons (ds_forW (js := [6]) hp rfl (di_seq (de_lst (da_cons (de_var (i := 3)) (da_cons (de_var (i := 4)) (da_cons (de_var (i := 5)) (da_cons (de_var (i := 3)) da_nil)))))) (dg_name (i := 6) sc.nd) (dss_one (ds_if (dt_not (dt_tru (de_hcall h__law_agrees mono_F__law_agrees (hr.mono (by decide)) gd (dar_e (de_var (i := 2)) (dar_e (de_var (i := 6)) dar_nil))))) (dss_one (ds_ret (de_bl))) dss_nil)))
    (dss_cons (ds_forW (js := [7]) hp rfl (di_seq (de_hcall h__law_settled_tables mono_F__law_settled_tables (hr.mono (by decide)) gd (dar_r (i := 1) (dar_e (de_var (i := 2)) (dar_e (de_var (i := 4)) dar_nil))))) (dg_name (i := 7) sc.nd) (dss_one (ds_if (dt_not (dt_tru (de_hcall h__law_agrees mono_F__law_agrees (hr.mono (by decide)) gd (dar_e (de_var (i := 7)) (dar_e (de_var (i := 4)) dar_nil))))) (dss_one (ds_ret (de_bl))) dss_nil)))
    (dss_cons (ds_setLc (i := 8) (own := [("person", 9)]) rfl sc.nd (sw_true rfl rfl rfl (by kernel_rfl)) (di_range1 n_range (de_lenV (i := 3) n_len)) (blkOk_by (own := [("person", 9)]) (by kernel_rfl)) (by simp) (fun _ _ _ _ _ _ => (dg_name (i := 9) sc.nd)) (fun _ _ _ _ _ _ => (dts_one (dt_cmp opD_gt (de_callB callD_len n_len (da_cons (de_idxV (i := 3) (de_var (i := 9))) da_nil)) (de_int)))) (fun _ _ _ _ _ _ => (de_var (i := 9))))
    (dss_cons (ds_if (dt_not (dt_truV (i := 8))) (dss_one (ds_ret (de_hcall h__law_agrees mono_F__law_agrees (hr.mono (by decide)) gd (dar_e (de_var (i := 2)) (dar_e (de_var (i := 3)) dar_nil))))) dss_nil)
    (dss_cons (ds_set (i := 9) sc.nd (de_hcall h__law_pick mono_F__law_pick (hr.mono (by decide)) gd (dar_r (i := 1) (dar_e (de_var (i := 8)) dar_nil))))
    (dss_cons (ds_if (dt_cmp opD_lt (de_callB callD_len n_len (da_cons (de_idxV (i := 4) (de_var (i := 9))) da_nil)) (de_int)) (dss_one (ds_set (i := 4) sc.nd (de_hcall h__law_narrowed mono_F__law_narrowed (hr.mono (by decide)) gd (dar_e (de_var (i := 4)) (dar_e (de_var (i := 9)) (dar_e (de_idxV (i := 3) (de_var (i := 9))) dar_nil)))))) dss_nil)
    (dss_cons (ds_forW (js := [7]) hp rfl (di_seq (de_hcall h__law_asked_tables mono_F__law_asked_tables (hr.mono (by decide)) gd (dar_r (i := 1) (dar_e (de_var (i := 2)) (dar_e (de_var (i := 4)) (dar_e (de_var (i := 9)) dar_nil)))))) (dg_name (i := 7) sc.nd) (dss_one (ds_if (dt_not (dt_tru (de_hcall h__law_agrees mono_F__law_agrees (hr.mono (by decide)) gd (dar_e (de_var (i := 7)) (dar_e (de_var (i := 4)) dar_nil))))) (dss_one (ds_ret (de_bl))) dss_nil)))
    (dss_one (ds_ret (de_hcall h__law_agrees mono_F__law_agrees (hr.mono (by decide)) gd (dar_e (de_var (i := 2)) (dar_e (de_var (i := 4)) dar_nil))))))))))))))))))) ok
end Dl

set_option Elab.async false
set_option linter.all false
set_option maxRecDepth 100000
set_option maxHeartbeats 0
namespace Dl
open PySem PySem.Spec PyProof.Rows L2
/-! ### the head -/
abbrev dOf (x : Str) (n : String) (st : Stmt) : He.DefD := ⟨(x, none), n, n, defArgs st, defBody st, defScope st, [], []⟩
def hfn : List He.DefD := [dOf "combined" "combined" (top 1), dOf "rows_of" "rows_of" (top 2), dOf "person_count" "person_count" (top 5), dOf "is_rising" "is_rising" (top 6), dOf "worths_of" "worths_of" (top 7), dOf "table_sizes" "table_sizes" (top 8), dOf "table_place" "table_place" (top 9), dOf "winners_at" "winners_at" (top 10), dOf "wins_at" "wins_at" (top 11), dOf "clock_whole" "clock_whole" (top 13), dOf "unlike_winners" "unlike_winners" (top 14), dOf "is_settled" "is_settled" (top 15), dOf "outer_kind" "outer_kind" (top 16), dOf "outer_parts" "outer_parts" (top 17), dOf "is_against" "is_against" (top 18), dOf "is_showing" "is_showing" (top 19), dOf "showing_row" "showing_row" (top 20), dOf "has_choice" "has_choice" (top 21), dOf "clock_parts" "clock_parts" (top 22), dOf "_law_begin" "_law_begin" (top 24), dOf "_law_draw" "_law_draw" (top 25), dOf "_law_pick" "_law_pick" (top 26), dOf "_law_pop" "_law_pop" (top 27), dOf "_law_rare" "_law_rare" (top 28), dOf "_law_pool" "_law_pool" (top 29), dOf "_law_is_int" "_law_is_int" (top 30), dOf "_law_sizes" "_law_sizes" (top 31), dOf "_law_rows" "_law_rows" (top 32), dOf "_law_narrowed" "_law_narrowed" (top 33), dOf "_law_nodes" "_law_nodes" (top 34), dOf "_law_leaves" "_law_leaves" (top 35), dOf "_law_run" "_law_run" (top 36), dOf "_law_drawn_box" "_law_drawn_box" (top 37), dOf "_law_bool" "_law_bool" (top 38), dOf "_law_same" "_law_same" (top 39), dOf "_law_table_box" "_law_table_box" (top 40), dOf "_law_place" "_law_place" (top 41), dOf "_law_winners" "_law_winners" (top 42), dOf "_law_put_winners" "_law_put_winners" (top 43), dOf "_law_put_wins" "_law_put_wins" (top 44), dOf "_law_outer" "_law_outer" (top 45), dOf "_law_shows" "_law_shows" (top 46), dOf "_law_question" "_law_question" (top 47), dOf "_law_settled" "_law_settled" (top 48), dOf "_law_clock_persons" "_law_clock_persons" (top 49), dOf "_law_clock_shape" "_law_clock_shape" (top 50), dOf "_law_leaf_winners" "_law_leaf_winners" (top 51), dOf "_law_built" "_law_built" (top 52), dOf "_law_some" "_law_some" (top 53), dOf "_law_scattered" "_law_scattered" (top 54), dOf "_law_clocks" "_law_clocks" (top 55), dOf "_law_wide_sizes" "_law_wide_sizes" (top 56), dOf "_law_agrees" "_law_agrees" (top 57), dOf "_law_settled_tables" "_law_settled_tables" (top 58), dOf "_law_asked_tables" "_law_asked_tables" (top 59), dOf "law" "law" (top 60)]
def hfa : List He.Fa := [.glo "combined", .glo "rows_of", .glo "person_count", .glo "is_rising", .glo "worths_of", .glo "table_sizes", .glo "table_place", .glo "winners_at", .glo "wins_at", .glo "clock_whole", .glo "unlike_winners", .glo "is_settled", .glo "outer_kind", .glo "outer_parts", .glo "is_against", .glo "is_showing", .glo "showing_row", .glo "has_choice", .glo "clock_parts", .glo "_law_begin", .glo "_law_draw", .glo "_law_pick", .glo "_law_pop", .glo "_law_rare", .glo "_law_pool", .glo "_law_is_int", .glo "_law_sizes", .glo "_law_rows", .glo "_law_narrowed", .glo "_law_nodes", .glo "_law_leaves", .glo "_law_run", .glo "_law_drawn_box", .glo "_law_bool", .glo "_law_same", .glo "_law_table_box", .glo "_law_place", .glo "_law_winners", .glo "_law_put_winners", .glo "_law_put_wins", .glo "_law_outer", .glo "_law_shows", .glo "_law_question", .glo "_law_settled", .glo "_law_clock_persons", .glo "_law_clock_shape", .glo "_law_leaf_winners", .glo "_law_built", .glo "_law_some", .glo "_law_scattered", .glo "_law_clocks", .glo "_law_wide_sizes", .glo "_law_agrees", .glo "_law_settled_tables", .glo "_law_asked_tables", .glo "law", .free "abs", .free "all", .free "bool", .free "int", .free "isinstance", .free "len", .free "list", .free "max", .free "range", .free "sorted", .free "str", .free "tuple", .str "UP" "up"]
abbrev HR : PySem.W.OpenRow := PySem.W.OpenLaw.row PySem.Challenge.rw_plainhearing_k86_clock_parts
abbrev hhk : PySem.W.Hook := He.hookD 4 hfa hfn
def hob (s : PySem.W.SharedT) : He.AlD := He.obsDG 4 hfa hfn (HandSHeadRun.getT s)
theorem hob_eq (s : PySem.W.SharedT) : hob s = hhk.obs s.abs := He.obsDG_eq (HandSHeadRun.getT_eq s)
def hloose : List PySem.Str := (["combined", "rows_of", "person_count", "is_rising", "worths_of", "table_sizes", "table_place", "winners_at", "wins_at", "clock_whole", "unlike_winners", "is_settled", "outer_kind", "outer_parts", "is_against", "is_showing", "showing_row", "has_choice", "clock_parts", "_law_begin", "_law_draw", "_law_pick", "_law_pop", "_law_rare", "_law_pool", "_law_is_int", "_law_sizes", "_law_rows", "_law_narrowed", "_law_nodes"] : List PySem.Str) ++ (["_law_leaves", "_law_run", "_law_drawn_box", "_law_bool", "_law_same", "_law_table_box", "_law_place", "_law_winners", "_law_put_winners", "_law_put_wins", "_law_outer", "_law_shows", "_law_question", "_law_settled", "_law_clock_persons", "_law_clock_shape", "_law_leaf_winners", "_law_built", "_law_some", "_law_scattered", "_law_clocks", "_law_wide_sizes", "_law_agrees", "_law_settled_tables", "_law_asked_tables", "UP"] : List PySem.Str)
theorem hrun (w : World) : HandSHeadRun.RunEq HR (PySem.W.view HR.prog [60]) hhk hob 4000 hloose w := by
  intro os
  kernel_rfl
theorem hfacts {P : Program} {w : World} {K : PySem.W.Frag} {h : Heap} {mg : Str → Option Value} {f : Addr} (X : K.In h) (G : h.Ns mainGlobals mg) (hlaw : mg ("law" : Str) = some (.ref f)) (c : He.SaysD hfa hfn K) :
    ∃ fd : FuncData, (∀ (s : Shared) (v : Value), BindsTo s fd ⟨[v], []⟩ [("script", v)]) ∧ ∀ base : Heap, K.In base → base.Ns mainGlobals mg → FnG P w K mg base CX0 45 f fd ["script"] (spD K lawF) := by
  obtain ⟨d_combined, D_combined⟩ := c.def_ 0 (d := dOf "combined" "combined" (top 1)) rfl
  obtain ⟨d_rows_of, D_rows_of⟩ := c.def_ 1 (d := dOf "rows_of" "rows_of" (top 2)) rfl
  obtain ⟨d_person_count, D_person_count⟩ := c.def_ 2 (d := dOf "person_count" "person_count" (top 5)) rfl
  obtain ⟨d_is_rising, D_is_rising⟩ := c.def_ 3 (d := dOf "is_rising" "is_rising" (top 6)) rfl
  obtain ⟨d_worths_of, D_worths_of⟩ := c.def_ 4 (d := dOf "worths_of" "worths_of" (top 7)) rfl
  obtain ⟨d_table_sizes, D_table_sizes⟩ := c.def_ 5 (d := dOf "table_sizes" "table_sizes" (top 8)) rfl
  obtain ⟨d_table_place, D_table_place⟩ := c.def_ 6 (d := dOf "table_place" "table_place" (top 9)) rfl
  obtain ⟨d_winners_at, D_winners_at⟩ := c.def_ 7 (d := dOf "winners_at" "winners_at" (top 10)) rfl
  obtain ⟨d_wins_at, D_wins_at⟩ := c.def_ 8 (d := dOf "wins_at" "wins_at" (top 11)) rfl
  obtain ⟨d_clock_whole, D_clock_whole⟩ := c.def_ 9 (d := dOf "clock_whole" "clock_whole" (top 13)) rfl
  obtain ⟨d_unlike_winners, D_unlike_winners⟩ := c.def_ 10 (d := dOf "unlike_winners" "unlike_winners" (top 14)) rfl
  obtain ⟨d_is_settled, D_is_settled⟩ := c.def_ 11 (d := dOf "is_settled" "is_settled" (top 15)) rfl
  obtain ⟨d_outer_kind, D_outer_kind⟩ := c.def_ 12 (d := dOf "outer_kind" "outer_kind" (top 16)) rfl
  obtain ⟨d_outer_parts, D_outer_parts⟩ := c.def_ 13 (d := dOf "outer_parts" "outer_parts" (top 17)) rfl
  obtain ⟨d_is_against, D_is_against⟩ := c.def_ 14 (d := dOf "is_against" "is_against" (top 18)) rfl
  obtain ⟨d_is_showing, D_is_showing⟩ := c.def_ 15 (d := dOf "is_showing" "is_showing" (top 19)) rfl
  obtain ⟨d_showing_row, D_showing_row⟩ := c.def_ 16 (d := dOf "showing_row" "showing_row" (top 20)) rfl
  obtain ⟨d_has_choice, D_has_choice⟩ := c.def_ 17 (d := dOf "has_choice" "has_choice" (top 21)) rfl
  obtain ⟨d_clock_parts, D_clock_parts⟩ := c.def_ 18 (d := dOf "clock_parts" "clock_parts" (top 22)) rfl
  obtain ⟨d__law_begin, D__law_begin⟩ := c.def_ 19 (d := dOf "_law_begin" "_law_begin" (top 24)) rfl
  obtain ⟨d__law_draw, D__law_draw⟩ := c.def_ 20 (d := dOf "_law_draw" "_law_draw" (top 25)) rfl
  obtain ⟨d__law_pick, D__law_pick⟩ := c.def_ 21 (d := dOf "_law_pick" "_law_pick" (top 26)) rfl
  obtain ⟨d__law_pop, D__law_pop⟩ := c.def_ 22 (d := dOf "_law_pop" "_law_pop" (top 27)) rfl
  obtain ⟨d__law_rare, D__law_rare⟩ := c.def_ 23 (d := dOf "_law_rare" "_law_rare" (top 28)) rfl
  obtain ⟨d__law_pool, D__law_pool⟩ := c.def_ 24 (d := dOf "_law_pool" "_law_pool" (top 29)) rfl
  obtain ⟨d__law_is_int, D__law_is_int⟩ := c.def_ 25 (d := dOf "_law_is_int" "_law_is_int" (top 30)) rfl
  obtain ⟨d__law_sizes, D__law_sizes⟩ := c.def_ 26 (d := dOf "_law_sizes" "_law_sizes" (top 31)) rfl
  obtain ⟨d__law_rows, D__law_rows⟩ := c.def_ 27 (d := dOf "_law_rows" "_law_rows" (top 32)) rfl
  obtain ⟨d__law_narrowed, D__law_narrowed⟩ := c.def_ 28 (d := dOf "_law_narrowed" "_law_narrowed" (top 33)) rfl
  obtain ⟨d__law_nodes, D__law_nodes⟩ := c.def_ 29 (d := dOf "_law_nodes" "_law_nodes" (top 34)) rfl
  obtain ⟨d__law_leaves, D__law_leaves⟩ := c.def_ 30 (d := dOf "_law_leaves" "_law_leaves" (top 35)) rfl
  obtain ⟨d__law_run, D__law_run⟩ := c.def_ 31 (d := dOf "_law_run" "_law_run" (top 36)) rfl
  obtain ⟨d__law_drawn_box, D__law_drawn_box⟩ := c.def_ 32 (d := dOf "_law_drawn_box" "_law_drawn_box" (top 37)) rfl
  obtain ⟨d__law_bool, D__law_bool⟩ := c.def_ 33 (d := dOf "_law_bool" "_law_bool" (top 38)) rfl
  obtain ⟨d__law_same, D__law_same⟩ := c.def_ 34 (d := dOf "_law_same" "_law_same" (top 39)) rfl
  obtain ⟨d__law_table_box, D__law_table_box⟩ := c.def_ 35 (d := dOf "_law_table_box" "_law_table_box" (top 40)) rfl
  obtain ⟨d__law_place, D__law_place⟩ := c.def_ 36 (d := dOf "_law_place" "_law_place" (top 41)) rfl
  obtain ⟨d__law_winners, D__law_winners⟩ := c.def_ 37 (d := dOf "_law_winners" "_law_winners" (top 42)) rfl
  obtain ⟨d__law_put_winners, D__law_put_winners⟩ := c.def_ 38 (d := dOf "_law_put_winners" "_law_put_winners" (top 43)) rfl
  obtain ⟨d__law_put_wins, D__law_put_wins⟩ := c.def_ 39 (d := dOf "_law_put_wins" "_law_put_wins" (top 44)) rfl
  obtain ⟨d__law_outer, D__law_outer⟩ := c.def_ 40 (d := dOf "_law_outer" "_law_outer" (top 45)) rfl
  obtain ⟨d__law_shows, D__law_shows⟩ := c.def_ 41 (d := dOf "_law_shows" "_law_shows" (top 46)) rfl
  obtain ⟨d__law_question, D__law_question⟩ := c.def_ 42 (d := dOf "_law_question" "_law_question" (top 47)) rfl
  obtain ⟨d__law_settled, D__law_settled⟩ := c.def_ 43 (d := dOf "_law_settled" "_law_settled" (top 48)) rfl
  obtain ⟨d__law_clock_persons, D__law_clock_persons⟩ := c.def_ 44 (d := dOf "_law_clock_persons" "_law_clock_persons" (top 49)) rfl
  obtain ⟨d__law_clock_shape, D__law_clock_shape⟩ := c.def_ 45 (d := dOf "_law_clock_shape" "_law_clock_shape" (top 50)) rfl
  obtain ⟨d__law_leaf_winners, D__law_leaf_winners⟩ := c.def_ 46 (d := dOf "_law_leaf_winners" "_law_leaf_winners" (top 51)) rfl
  obtain ⟨d__law_built, D__law_built⟩ := c.def_ 47 (d := dOf "_law_built" "_law_built" (top 52)) rfl
  obtain ⟨d__law_some, D__law_some⟩ := c.def_ 48 (d := dOf "_law_some" "_law_some" (top 53)) rfl
  obtain ⟨d__law_scattered, D__law_scattered⟩ := c.def_ 49 (d := dOf "_law_scattered" "_law_scattered" (top 54)) rfl
  obtain ⟨d__law_clocks, D__law_clocks⟩ := c.def_ 50 (d := dOf "_law_clocks" "_law_clocks" (top 55)) rfl
  obtain ⟨d__law_wide_sizes, D__law_wide_sizes⟩ := c.def_ 51 (d := dOf "_law_wide_sizes" "_law_wide_sizes" (top 56)) rfl
  obtain ⟨d__law_agrees, D__law_agrees⟩ := c.def_ 52 (d := dOf "_law_agrees" "_law_agrees" (top 57)) rfl
  obtain ⟨d__law_settled_tables, D__law_settled_tables⟩ := c.def_ 53 (d := dOf "_law_settled_tables" "_law_settled_tables" (top 58)) rfl
  obtain ⟨d__law_asked_tables, D__law_asked_tables⟩ := c.def_ 54 (d := dOf "_law_asked_tables" "_law_asked_tables" (top 59)) rfl
  obtain ⟨d_law, D_law⟩ := c.def_ 55 (d := dOf "law" "law" (top 60)) rfl
  have m_combined := He.glo_ok X G (c.fact 0 (f := .glo "combined") rfl)
  have m_rows_of := He.glo_ok X G (c.fact 1 (f := .glo "rows_of") rfl)
  have m_person_count := He.glo_ok X G (c.fact 2 (f := .glo "person_count") rfl)
  have m_is_rising := He.glo_ok X G (c.fact 3 (f := .glo "is_rising") rfl)
  have m_worths_of := He.glo_ok X G (c.fact 4 (f := .glo "worths_of") rfl)
  have m_table_sizes := He.glo_ok X G (c.fact 5 (f := .glo "table_sizes") rfl)
  have m_table_place := He.glo_ok X G (c.fact 6 (f := .glo "table_place") rfl)
  have m_winners_at := He.glo_ok X G (c.fact 7 (f := .glo "winners_at") rfl)
  have m_wins_at := He.glo_ok X G (c.fact 8 (f := .glo "wins_at") rfl)
  have m_clock_whole := He.glo_ok X G (c.fact 9 (f := .glo "clock_whole") rfl)
  have m_unlike_winners := He.glo_ok X G (c.fact 10 (f := .glo "unlike_winners") rfl)
  have m_is_settled := He.glo_ok X G (c.fact 11 (f := .glo "is_settled") rfl)
  have m_outer_kind := He.glo_ok X G (c.fact 12 (f := .glo "outer_kind") rfl)
  have m_outer_parts := He.glo_ok X G (c.fact 13 (f := .glo "outer_parts") rfl)
  have m_is_against := He.glo_ok X G (c.fact 14 (f := .glo "is_against") rfl)
  have m_is_showing := He.glo_ok X G (c.fact 15 (f := .glo "is_showing") rfl)
  have m_showing_row := He.glo_ok X G (c.fact 16 (f := .glo "showing_row") rfl)
  have m_has_choice := He.glo_ok X G (c.fact 17 (f := .glo "has_choice") rfl)
  have m_clock_parts := He.glo_ok X G (c.fact 18 (f := .glo "clock_parts") rfl)
  have m__law_begin := He.glo_ok X G (c.fact 19 (f := .glo "_law_begin") rfl)
  have m__law_draw := He.glo_ok X G (c.fact 20 (f := .glo "_law_draw") rfl)
  have m__law_pick := He.glo_ok X G (c.fact 21 (f := .glo "_law_pick") rfl)
  have m__law_pop := He.glo_ok X G (c.fact 22 (f := .glo "_law_pop") rfl)
  have m__law_rare := He.glo_ok X G (c.fact 23 (f := .glo "_law_rare") rfl)
  have m__law_pool := He.glo_ok X G (c.fact 24 (f := .glo "_law_pool") rfl)
  have m__law_is_int := He.glo_ok X G (c.fact 25 (f := .glo "_law_is_int") rfl)
  have m__law_sizes := He.glo_ok X G (c.fact 26 (f := .glo "_law_sizes") rfl)
  have m__law_rows := He.glo_ok X G (c.fact 27 (f := .glo "_law_rows") rfl)
  have m__law_narrowed := He.glo_ok X G (c.fact 28 (f := .glo "_law_narrowed") rfl)
  have m__law_nodes := He.glo_ok X G (c.fact 29 (f := .glo "_law_nodes") rfl)
  have m__law_leaves := He.glo_ok X G (c.fact 30 (f := .glo "_law_leaves") rfl)
  have m__law_run := He.glo_ok X G (c.fact 31 (f := .glo "_law_run") rfl)
  have m__law_drawn_box := He.glo_ok X G (c.fact 32 (f := .glo "_law_drawn_box") rfl)
  have m__law_bool := He.glo_ok X G (c.fact 33 (f := .glo "_law_bool") rfl)
  have m__law_same := He.glo_ok X G (c.fact 34 (f := .glo "_law_same") rfl)
  have m__law_table_box := He.glo_ok X G (c.fact 35 (f := .glo "_law_table_box") rfl)
  have m__law_place := He.glo_ok X G (c.fact 36 (f := .glo "_law_place") rfl)
  have m__law_winners := He.glo_ok X G (c.fact 37 (f := .glo "_law_winners") rfl)
  have m__law_put_winners := He.glo_ok X G (c.fact 38 (f := .glo "_law_put_winners") rfl)
  have m__law_put_wins := He.glo_ok X G (c.fact 39 (f := .glo "_law_put_wins") rfl)
  have m__law_outer := He.glo_ok X G (c.fact 40 (f := .glo "_law_outer") rfl)
  have m__law_shows := He.glo_ok X G (c.fact 41 (f := .glo "_law_shows") rfl)
  have m__law_question := He.glo_ok X G (c.fact 42 (f := .glo "_law_question") rfl)
  have m__law_settled := He.glo_ok X G (c.fact 43 (f := .glo "_law_settled") rfl)
  have m__law_clock_persons := He.glo_ok X G (c.fact 44 (f := .glo "_law_clock_persons") rfl)
  have m__law_clock_shape := He.glo_ok X G (c.fact 45 (f := .glo "_law_clock_shape") rfl)
  have m__law_leaf_winners := He.glo_ok X G (c.fact 46 (f := .glo "_law_leaf_winners") rfl)
  have m__law_built := He.glo_ok X G (c.fact 47 (f := .glo "_law_built") rfl)
  have m__law_some := He.glo_ok X G (c.fact 48 (f := .glo "_law_some") rfl)
  have m__law_scattered := He.glo_ok X G (c.fact 49 (f := .glo "_law_scattered") rfl)
  have m__law_clocks := He.glo_ok X G (c.fact 50 (f := .glo "_law_clocks") rfl)
  have m__law_wide_sizes := He.glo_ok X G (c.fact 51 (f := .glo "_law_wide_sizes") rfl)
  have m__law_agrees := He.glo_ok X G (c.fact 52 (f := .glo "_law_agrees") rfl)
  have m__law_settled_tables := He.glo_ok X G (c.fact 53 (f := .glo "_law_settled_tables") rfl)
  have m__law_asked_tables := He.glo_ok X G (c.fact 54 (f := .glo "_law_asked_tables") rfl)
  have m_law := He.glo_ok X G (c.fact 55 (f := .glo "law") rfl)
  have n_abs := He.free_ok X G (c.fact 56 (f := .free "abs") rfl)
  have n_all := He.free_ok X G (c.fact 57 (f := .free "all") rfl)
  have n_bool := He.free_ok X G (c.fact 58 (f := .free "bool") rfl)
  have n_int := He.free_ok X G (c.fact 59 (f := .free "int") rfl)
  have n_isinstance := He.free_ok X G (c.fact 60 (f := .free "isinstance") rfl)
  have n_len := He.free_ok X G (c.fact 61 (f := .free "len") rfl)
  have n_list := He.free_ok X G (c.fact 62 (f := .free "list") rfl)
  have n_max := He.free_ok X G (c.fact 63 (f := .free "max") rfl)
  have n_range := He.free_ok X G (c.fact 64 (f := .free "range") rfl)
  have n_sorted := He.free_ok X G (c.fact 65 (f := .free "sorted") rfl)
  have n_str := He.free_ok X G (c.fact 66 (f := .free "str") rfl)
  have n_tuple := He.free_ok X G (c.fact 67 (f := .free "tuple") rfl)
  obtain ⟨t_UP, e_UP⟩ := He.str_ok X G (c.fact 68 (f := .str "UP" "up") rfl)
  have g_UP : ∃ u, mg "UP" = some u ∧ RelV (V.str "up") u := ⟨_, e_UP, t_UP, rfl⟩
  have e := hlaw.symm.trans m_law
  cases e
  have b := FunD.bindsA (ps := ["script"]) D_law fun _ _ _ _ _ _ us hl => match us, hl with | [_], _ => rfl
  refine ⟨d_law, fun s v => b s [v] rfl, fun base _ _ => ?_⟩
  have h__law_bool := has__law_bool (P := P) (w := w) (base := base) D__law_bool m__law_bool  ok__law_bool
  have h__law_rows := has__law_rows (P := P) (w := w) (base := base) D__law_rows m__law_rows  ok__law_rows
  have h__law_outer := has__law_outer (P := P) (w := w) (base := base) D__law_outer m__law_outer  ok__law_outer
  have h__law_place := has__law_place (P := P) (w := w) (base := base) D__law_place m__law_place n_len n_range ok__law_place
  have h__law_winners := has__law_winners (P := P) (w := w) (base := base) D__law_winners m__law_winners h__law_place ok__law_winners
  have h__law_shows := has__law_shows (P := P) (w := w) (base := base) D__law_shows m__law_shows h__law_outer h__law_winners ok__law_shows
  have h__law_question := has__law_question (P := P) (w := w) (base := base) D__law_question m__law_question h__law_rows h__law_shows n_len ok__law_question
  have h__law_is_int := has__law_is_int (P := P) (w := w) (base := base) D__law_is_int m__law_is_int n_bool n_int n_isinstance ok__law_is_int
  have h__law_same := has__law_same (P := P) (w := w) (base := base) D__law_same m__law_same h__law_is_int n_isinstance n_len n_range n_str n_tuple ok__law_same
  have h__law_settled := has__law_settled (P := P) (w := w) (base := base) D__law_settled m__law_settled h__law_rows h__law_winners n_all ok__law_settled
  have h_has_choice := has_has_choice (P := P) (w := w) (base := base) D_has_choice m_has_choice n_len ok_has_choice
  have h_is_rising := has_is_rising (P := P) (w := w) (base := base) D_is_rising m_is_rising g_UP ok_is_rising
  have h_outer_parts := has_outer_parts (P := P) (w := w) (base := base) D_outer_parts m_outer_parts h_is_rising ok_outer_parts
  have h_person_count := has_person_count (P := P) (w := w) (base := base) D_person_count m_person_count n_len ok_person_count
  have h_worths_of := has_ck_worths_of (P := P) (w := w) (base := base) D_worths_of m_worths_of  ok_ck_worths_of
  have h_table_place := has_table_place (P := P) (w := w) (base := base) D_table_place m_table_place h_person_count h_worths_of n_len n_range ok_table_place
  have h_winners_at := has_winners_at (P := P) (w := w) (base := base) D_winners_at m_winners_at h_table_place ok_winners_at
  have h_wins_at := has_wins_at (P := P) (w := w) (base := base) D_wins_at m_wins_at h_winners_at ok_wins_at
  have h_is_against := has_is_against (P := P) (w := w) (base := base) D_is_against m_is_against h_is_rising h_wins_at ok_is_against
  have h_outer_kind := has_outer_kind (P := P) (w := w) (base := base) D_outer_kind m_outer_kind h_is_rising ok_outer_kind
  have h_is_showing := has_is_showing (P := P) (w := w) (base := base) D_is_showing m_is_showing h_is_against h_outer_kind ok_is_showing
  have h_combined := has_combined (P := P) (w := w) (base := base) D_combined m_combined n_tuple ok_combined
  have h_rows_of := has_rows_of (P := P) (w := w) (base := base) D_rows_of m_rows_of h_combined ok_rows_of
  have h_showing_row := has_showing_row (P := P) (w := w) (base := base) D_showing_row m_showing_row h_is_showing h_rows_of ok_showing_row
  have h_clock_parts := has_clock_parts (P := P) (w := w) (base := base) D_clock_parts m_clock_parts h_has_choice h_outer_parts h_showing_row ok_clock_parts
  have h_unlike_winners := has_unlike_winners (P := P) (w := w) (base := base) D_unlike_winners m_unlike_winners h_rows_of h_winners_at ok_unlike_winners
  have h_is_settled := has_is_settled (P := P) (w := w) (base := base) D_is_settled m_is_settled h_unlike_winners ok_is_settled
  have h__law_agrees := has__law_agrees (P := P) (w := w) (base := base) D__law_agrees m__law_agrees h__law_bool h__law_question h__law_same h__law_settled h_clock_parts h_is_settled n_len n_range ok__law_agrees
  have h__law_draw := has__law_draw (P := P) (w := w) (base := base) D__law_draw m__law_draw n_abs n_int n_len ok__law_draw
  have h__law_pick := has__law_pick (P := P) (w := w) (base := base) D__law_pick m__law_pick h__law_draw n_len ok__law_pick
  have h__law_put_wins := has__law_put_wins (P := P) (w := w) (base := base) D__law_put_wins m__law_put_wins h__law_place n_list n_sorted n_tuple ok__law_put_wins
  have h__law_table_box := has__law_table_box (P := P) (w := w) (base := base) D__law_table_box m__law_table_box n_len n_range n_tuple ok__law_table_box
  have h__law_asked_tables := has__law_asked_tables (P := P) (w := w) (base := base) D__law_asked_tables m__law_asked_tables h__law_draw h__law_outer h__law_pick h__law_put_wins h__law_rows h__law_table_box h__law_winners n_len ok__law_asked_tables
  have h__law_begin := has__law_begin (P := P) (w := w) (base := base) D__law_begin m__law_begin n_int ok__law_begin
  have h__law_leaf_winners := has__law_leaf_winners (P := P) (w := w) (base := base) D__law_leaf_winners m__law_leaf_winners h__law_draw n_len n_range n_tuple ok__law_leaf_winners
  have h__law_narrowed := has__law_narrowed (P := P) (w := w) (base := base) D__law_narrowed m__law_narrowed n_tuple ok__law_narrowed
  have h__law_nodes := has__law_nodes (P := P) (w := w) (base := base) D__law_nodes m__law_nodes h__law_narrowed n_len n_range n_tuple ok__law_nodes
  have h__law_leaves := has__law_leaves (P := P) (w := w) (base := base) D__law_leaves m__law_leaves h__law_nodes ok__law_leaves
  have h__law_run := has__law_run (P := P) (w := w) (base := base) D__law_run m__law_run n_len n_range n_tuple ok__law_run
  have h__law_built := has__law_built (P := P) (w := w) (base := base) D__law_built m__law_built h__law_leaf_winners h__law_leaves h__law_rows h__law_run n_len n_range n_tuple ok__law_built
  have h__law_pool := has__law_pool (P := P) (w := w) (base := base) D__law_pool m__law_pool  ok__law_pool
  have h__law_pop := has__law_pop (P := P) (w := w) (base := base) D__law_pop m__law_pop h__law_draw n_len ok__law_pop
  have h__law_clock_persons := has__law_clock_persons (P := P) (w := w) (base := base) D__law_clock_persons m__law_clock_persons h__law_draw h__law_pick h__law_pool h__law_pop n_range n_tuple ok__law_clock_persons
  have h__law_clock_shape := (has__law_clock_shape (P := P) (w := w) (base := base) D__law_clock_shape m__law_clock_shape h__law_draw h__law_narrowed h__law_pick n_len n_range n_tuple ok__law_clock_shape no__law_clock_shape 40).mono (k := 43) (by decide)
  have h__law_some := has__law_some (P := P) (w := w) (base := base) D__law_some m__law_some h__law_draw n_range n_tuple ok__law_some
  have h__law_scattered := has__law_scattered (P := P) (w := w) (base := base) D__law_scattered m__law_scattered h__law_draw h__law_rows h__law_some n_len n_range n_tuple ok__law_scattered
  have h__law_clocks := has__law_clocks (P := P) (w := w) (base := base) D__law_clocks m__law_clocks h__law_built h__law_clock_persons h__law_clock_shape h__law_draw h__law_pick h__law_put_wins h__law_scattered h__law_winners n_len n_max n_range n_tuple ok__law_clocks
  have h__law_drawn_box := has__law_drawn_box (P := P) (w := w) (base := base) D__law_drawn_box m__law_drawn_box h__law_draw h__law_pick n_len n_tuple ok__law_drawn_box
  have h__law_put_winners := has__law_put_winners (P := P) (w := w) (base := base) D__law_put_winners m__law_put_winners h__law_place n_list n_tuple ok__law_put_winners
  have h__law_settled_tables := has__law_settled_tables (P := P) (w := w) (base := base) D__law_settled_tables m__law_settled_tables h__law_pick h__law_put_winners h__law_rows h__law_some h__law_table_box n_len ok__law_settled_tables
  have h__law_rare := has__law_rare (P := P) (w := w) (base := base) D__law_rare m__law_rare h__law_draw ok__law_rare
  have h__law_sizes := has__law_sizes (P := P) (w := w) (base := base) D__law_sizes m__law_sizes h__law_pick ok__law_sizes
  have h__law_wide_sizes := has__law_wide_sizes (P := P) (w := w) (base := base) D__law_wide_sizes m__law_wide_sizes h__law_pick h__law_rare h__law_sizes ok__law_wide_sizes
  have h_table_sizes := has_table_sizes (P := P) (w := w) (base := base) D_table_sizes m_table_sizes h_person_count h_worths_of n_len n_range n_tuple ok_table_sizes
  have h_clock_whole := has_clock_whole (P := P) (w := w) (base := base) D_clock_whole m_clock_whole h_table_sizes n_range n_tuple ok_clock_whole
  exact fng_law D_law m_law h__law_agrees h__law_asked_tables h__law_begin h__law_clocks h__law_drawn_box h__law_narrowed h__law_pick h__law_same h__law_settled_tables h__law_table_box h__law_wide_sizes h_clock_whole n_len n_range n_tuple ok_law
end Dl
open PySem PySem.W PySem.Calls PyProof.Rows
theorem PySem.Challenge.cw_plainhearing_k86_clock_parts_holds : PySem.Challenge.rw_plainhearing_k86_clock_parts.Holds := by
  w_on; o_law
  refine HandSHeadRun.head_any (r := OpenLaw.row PySem.Challenge.rw_plainhearing_k86_clock_parts) (q := view (OpenLaw.row PySem.Challenge.rw_plainhearing_k86_clock_parts).prog [60]) (H := Dl.hhk) (ob := Dl.hob) (M := 4000) (loose := Dl.hloose) (d := HandSHeadRun.topDef (OpenLaw.row PySem.Challenge.rw_plainhearing_k86_clock_parts).prog 60) (kwd := []) Dl.hob_eq
    (by kernel_rfl) (fun s => by kernel_rfl) Dl.hrun (by kernel_rfl) (by kernel_rfl) (by kernel_rfl) (by rfl) (by first | assumption | decide +kernel) (by decide +kernel) ⟨rfl, rfl, rfl, rfl, rfl, by decide +kernel⟩ ?hw ?hc
  case hw => w_witness2
  case hc =>
    refine Dl.walkG (l := PySem.Challenge.rw_plainhearing_k86_clock_parts) (n := 63) (k := 45) (x := "script") (CX := L2.CX0) rfl (by decide) (by kernel_rfl) ⟨rfl, by decide, by decide⟩ ?F (fun _ _ _ _ z => z)
    intro w mg fa h Y G hmg0
    obtain ⟨K, KX, c⟩ := Y
    have hmg : mg ("law" : PySem.Str) = some (.ref fa) := by
      have e : (HandSHeadRun.topDef (OpenLaw.row PySem.Challenge.rw_plainhearing_k86_clock_parts).prog 60).name = ("law" : PySem.Str) := by kernel_rfl
      rw [← e]
      exact hmg0
    obtain ⟨fd, hb, hF⟩ := Dl.hfacts (P := (PySem.Challenge.rw_plainhearing_k86_clock_parts).prog) (w := w) KX G hmg c
    exact ⟨K, fd, Dl.spD K Dl.lawF, KX, hb, fun H a ns hl _ hS => Dl.law_sp hl hS, hF⟩

