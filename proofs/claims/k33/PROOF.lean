import PyProof.Rows.All
import Wide.All
import OpenK.AllK
import Wide.FinOn
import HandS.ForMost
import HandS.ForExc
import HandS.Defaults
import HandS.Walk
import HandS.Zip
import HandS.IsInst
import HandS.TupSets
import HandS.DictComp
import HandS.SetKeys
import HandS.Wide
import HandS.TupAny
import HandS.TryMany
import HandS.ExcInit
import HandS.RaiseMore
import HandS.MakeKw
import HandS.EndBits
import HandS.HeadEnd
import HandS.Style
import HandS.TupMul
import HandS.Deep
import HandS.TupLen
import HandS.SortInts
import KE.GoesZip
import KE.GoesEnum
import KE.GoesMore
import PyProof.EnumStmt
import PyProof.EnumMake
import PyProof.StrOps2
import KE.SortData
import PyProof.CallFns
import HandS.Evl
import HandS.TupLe
import PySem.Challenge.RW_bothplans_k33_whole_weighted_sums
import KE.KStateDown
import Lean
import HandS.Ends
import HandS.Words
import HandS.WordsExc
import HandS.Head0
import HandS.Head1
import HandS.Head2
import HandS.HeadHook1
import HandS.HeadHook2
section
set_option Elab.async false
set_option maxRecDepth 100000
/-! The data layer: values D, what stands for them in the abstract heap (RD), slots, configurations. -/
namespace DL
open PySem PySem.Spec PyProof.Rows L2

/-- a value of Python, as a tree -/
inductive D where
  | non | bl (b : Bool) | int (i : Int) | str (x : Str)
  | lst (xs : List D) | tup (xs : List D)
  | dK (ks : List Key) (ds : List D) | dT (ks : List (List Key)) (ds : List D)
  | ins (c : Str) (ns : List Str) (ds : List D)
  /-- a built-in class, an own one -/
  | ty (n : String) | cls (c : Str)
  /-- the script -/
  | scr (ns : List Int)

mutual
/-- v stands for d, all its parts in the heap F -/
def RD (K : PySem.W.Frag) (mg : Str → Option Value) (F : Hp) : D → V → Prop
  | .non, v => v = .non
  | .bl b, v => v = .bl b
  | .int i, v => v = .int i
  | .str x, v => v = .str x
  | .lst xs, v => ∃ a vs, v = .ref a ∧ F a = some (.lst vs) ∧ RDs K mg F xs vs
  | .tup xs, v => ∃ a vs, v = .ref a ∧ SqT K F a vs ∧ RDs K mg F xs vs
  | .dK ks ds, v => ∃ a vs, v = .ref a ∧ F a = some (.dK (ks.zip vs)) ∧ ks.length = vs.length ∧ RDs K mg F ds vs
  | .dT ks ds, v => ∃ a vs, v = .ref a ∧ F a = some (.dT (ks.zip vs)) ∧ ks.length = vs.length ∧ RDs K mg F ds vs
  | .ins c ns ds, v => ∃ a C dx vs, v = .ref a ∧ mg c = some (.ref C) ∧ F a = some (.ins C dx (ns.zip vs)) ∧ ns.length = vs.length ∧ RDs K mg F ds vs
  | .ty n, v => v = .ty n
  | .cls c, v => ∃ C, mg c = some (.ref C) ∧ v = .ref C
  | .scr ns, v => ∃ a, v = .ref a ∧ SqL K F a (ns.map V.int)
def RDs (K : PySem.W.Frag) (mg : Str → Option Value) (F : Hp) : List D → List V → Prop
  | [], vs => vs = []
  | d :: ds, vs => ∃ v r, vs = v :: r ∧ RD K mg F d v ∧ RDs K mg F ds r
end

section
variable {K : PySem.W.Frag} {mg : Str → Option Value} {F F' : Hp}
theorem sqT_mono {a : Addr} {xs : List V} (e : Same F F') (h : SqT K F a xs) : SqT K F' a xs := by
  rcases h with (h | ⟨o, h⟩) | h
  · exact .inl (.inl (e _ _ h))
  · exact .inl (.inr ⟨o, e _ _ h⟩)
  · exact .inr h
theorem sqL_mono {a : Addr} {xs : List V} (e : Same F F') (h : SqL K F a xs) : SqL K F' a xs := by
  rcases h with (h | ⟨o, h⟩) | h
  · exact .inl (.inl (e _ _ h))
  · exact .inl (.inr ⟨o, e _ _ h⟩)
  · exact .inr h
mutual
theorem RD.mono (e : Same F F') : ∀ {d : D} {v : V}, RD K mg F d v → RD K mg F' d v
  | .non, _, h => h
  | .bl _, _, h => h
  | .int _, _, h => h
  | .str _, _, h => h
  | .lst _, _, ⟨a, vs, h1, h2, h3⟩ => ⟨a, vs, h1, e _ _ h2, RDs.mono e h3⟩
  | .tup _, _, ⟨a, vs, h1, h2, h3⟩ => ⟨a, vs, h1, sqT_mono e h2, RDs.mono e h3⟩
  | .dK _ _, _, ⟨a, vs, h1, h2, h3, h4⟩ => ⟨a, vs, h1, e _ _ h2, h3, RDs.mono e h4⟩
  | .dT _ _, _, ⟨a, vs, h1, h2, h3, h4⟩ => ⟨a, vs, h1, e _ _ h2, h3, RDs.mono e h4⟩
  | .ins _ _ _, _, ⟨a, C, dx, vs, h1, h2, h3, h4, h6⟩ => ⟨a, C, dx, vs, h1, h2, e _ _ h3, h4, RDs.mono e h6⟩
  | .ty _, _, h => h
  | .cls _, _, h => h
  | .scr _, _, ⟨a, h1, h2⟩ => ⟨a, h1, sqL_mono e h2⟩
theorem RDs.mono (e : Same F F') : ∀ {ds : List D} {vs : List V}, RDs K mg F ds vs → RDs K mg F' ds vs
  | [], _, h => h
  | _ :: _, _, ⟨v, r, h1, h2, h3⟩ => ⟨v, r, h1, RD.mono e h2, RDs.mono e h3⟩
end
theorem RDs.length : ∀ {ds : List D} {vs : List V}, RDs K mg F ds vs → ds.length = vs.length
  | [], _, h => by cases h; rfl
  | _ :: ds, _, ⟨v, r, h1, _, h3⟩ => by
    subst h1
    simp [RDs.length h3]
theorem RDs.get : ∀ {ds : List D} {vs : List V} {i : Nat} {d : D}, RDs K mg F ds vs → ds[i]? = some d → ∃ v, vs[i]? = some v ∧ RD K mg F d v
  | [], _, _, _, _, e => by simp at e
  | _ :: _, _, 0, _, ⟨v, r, h1, h2, _⟩, e => by
    simp at e
    subst e
    subst h1
    exact ⟨v, rfl, h2⟩
  | _ :: _, _, i + 1, d, ⟨v, r, h1, _, h3⟩, e => by
    subst h1
    obtain ⟨w, e1, e2⟩ := RDs.get (i := i) (d := d) h3 (by simpa using e)
    exact ⟨w, by simpa using e1, e2⟩
theorem RDs.getV : ∀ {ds : List D} {vs : List V} {i : Nat} {v : V}, RDs K mg F ds vs → vs[i]? = some v → ∃ d, ds[i]? = some d ∧ RD K mg F d v := fun {ds vs i v} h e => by
  have hi : i < vs.length := (List.getElem?_eq_some_iff.mp e).1
  have hl := h.length
  obtain ⟨w, e1, e2⟩ := h.get (i := i) (d := ds[i]'(by omega)) (List.getElem?_eq_getElem _)
  rw [e] at e1
  cases e1
  exact ⟨_, List.getElem?_eq_getElem _, e2⟩
theorem RDs.app : ∀ {ds es : List D} {vs ws : List V}, RDs K mg F ds vs → RDs K mg F es ws → RDs K mg F (ds ++ es) (vs ++ ws)
  | [], _, _, _, h, k => by
    cases h
    exact k
  | _ :: _, _, _, _, ⟨v, r, h1, h2, h3⟩, k => by
    subst h1
    exact ⟨v, _, rfl, h2, RDs.app h3 k⟩
theorem RDs.one {d : D} {v : V} (h : RD K mg F d v) : RDs K mg F [d] [v] := ⟨v, [], rfl, h, rfl⟩
theorem RDs.cons {d : D} {v : V} {ds : List D} {vs : List V} (h : RD K mg F d v) (k : RDs K mg F ds vs) : RDs K mg F (d :: ds) (v :: vs) := ⟨v, vs, rfl, h, k⟩
theorem RDs.of_get : ∀ {ds : List D} {vs : List V}, ds.length = vs.length → (∀ (i : Nat) (d : D) (v : V), ds[i]? = some d → vs[i]? = some v → RD K mg F d v) → RDs K mg F ds vs
  | [], [], _, _ => rfl
  | [], _ :: _, h, _ => by simp at h
  | _ :: _, [], h, _ => by simp at h
  | d :: ds, v :: vs, h, k => ⟨v, vs, rfl, k 0 d v rfl rfl, RDs.of_get (by simpa using h) fun i d v e1 e2 => k (i + 1) d v (by simpa using e1) (by simpa using e2)⟩
theorem RDs.take {ds : List D} {vs : List V} (n : Nat) (h : RDs K mg F ds vs) : RDs K mg F (ds.take n) (vs.take n) := by
  refine RDs.of_get (by simp [h.length]) fun i d v e1 e2 => ?_
  rw [List.getElem?_take] at e1 e2
  split at e1
  · rename_i hi
    rw [if_pos hi] at e2
    obtain ⟨w, q1, q2⟩ := h.get e1
    rw [e2] at q1
    cases q1
    exact q2
  · cases e1
theorem RDs.drop {ds : List D} {vs : List V} (n : Nat) (h : RDs K mg F ds vs) : RDs K mg F (ds.drop n) (vs.drop n) := by
  refine RDs.of_get (by simp [h.length]) fun i d v e1 e2 => ?_
  rw [List.getElem?_drop] at e1 e2
  obtain ⟨w, q1, q2⟩ := h.get e1
  rw [e2] at q1
  cases q1
  exact q2
theorem RDs.ints (ns : List Int) : RDs K mg F (ns.map D.int) (ns.map V.int) := by
  induction ns with
  | nil => rfl
  | cons n ns ih => exact ⟨_, _, rfl, rfl, ih⟩
theorem RDs.of_ints : ∀ {ns : List Int} {vs : List V}, RDs K mg F (ns.map D.int) vs → vs = ns.map V.int
  | [], _, h => h
  | _ :: _, _, ⟨v, r, h1, h2, h3⟩ => by
    subst h1
    have e : v = V.int _ := h2
    rw [e, RDs.of_ints h3]
    rfl
end

/-! ### what a body owns -/
inductive Ow where
  | lst (xs : List D) | dK (ks : List Key) (ds : List D) | dT (ks : List (List Key)) (ds : List D)
  /-- the source of draws: great cells, a blend -/
  | deal (L : List Int) (b : Int)
  /-- an object in the making -/
  | obj (c : Str) (ns : List Str) (ds : List D)
inductive Sl where
  | no | va (d : D)
  /-- owned; handed in by the caller, or the body's own -/
  | ow (io : Bool) (o : Ow)
abbrev Env' := List Sl

/-- frozen part, heap, owned addresses -/
structure Cfg where
  F : Hp
  H : Hp
  O : Addr → Prop
/-- one state behind another -/
structure Ev (S S' : Cfg) : Prop where
  same : ∀ a o, S.H a = some o → ¬ S.O a → S'.H a = some o
  frz : Same S.F S'.F
  newF : ∀ a o, S.H a = some o → ¬ S.O a → S'.F a = S.F a
  own : ∀ p, S'.O p → S.O p ∨ S.H p = none
  there : ∀ a o, S.H a = some o → ∃ o', S'.H a = some o'
theorem Ev.refl (S : Cfg) : Ev S S := ⟨fun _ _ h _ => h, fun _ _ h => h, fun _ _ _ _ => rfl, fun _ h => .inl h, fun _ o h => ⟨o, h⟩⟩
theorem Ev.nil {S S' : Cfg} (e : Ev S S') {a : Addr} (h : S'.H a = none) : S.H a = none := by
  cases q : S.H a with
  | none => rfl
  | some o =>
    obtain ⟨o', z⟩ := e.there a o q
    rw [h] at z
    cases z
theorem Ev.trans {S S1 S2 : Cfg} (a : Ev S S1) (b : Ev S1 S2) : Ev S S2 := by
  have key : ∀ {c o}, S.H c = some o → ¬ S.O c → ¬ S1.O c := fun {c o} h n k => by
    rcases a.own c k with q | q
    · exact n q
    · rw [h] at q
      cases q
  refine ⟨fun c o h n => b.same c o (a.same c o h n) (key h n), fun c o h => b.frz c o (a.frz c o h), fun c o h n => (b.newF c o (a.same c o h n) (key h n)).trans (a.newF c o h n), fun p h => ?_, fun c o h => ?_⟩
  rotate_left
  · obtain ⟨o1, h1⟩ := a.there c o h
    exact b.there c o1 h1
  rcases b.own p h with q | q
  · exact a.own p q
  · cases e : S.H p with
    | none => exact .inr rfl
    | some o =>
      refine .inl (Classical.byContradiction fun n => ?_)
      have z := a.same p o e n
      rw [q] at z
      cases z

section
variable (K : PySem.W.Frag) (mg : Str → Option Value)
def OwR (S : Cfg) (v : V) : Ow → (Addr → Prop) → Prop
  | .lst xs, fp => ∃ p vs, v = .ref p ∧ S.H p = some (.lst vs) ∧ RDs K mg S.F xs vs ∧ fp p
  | .dK ks ds, fp => ∃ p vs, v = .ref p ∧ S.H p = some (.dK (ks.zip vs)) ∧ ks.length = vs.length ∧ RDs K mg S.F ds vs ∧ fp p
  | .dT ks ds, fp => ∃ p vs, v = .ref p ∧ S.H p = some (.dT (ks.zip vs)) ∧ ks.length = vs.length ∧ RDs K mg S.F ds vs ∧ fp p
  | .deal L b, fp => ∃ p q, v = .ref p ∧ S.H p = some (.lst [.ref q, .int b]) ∧ S.H q = some (.lst (L.map V.int)) ∧ p ≠ q ∧ fp p ∧ fp q
  | .obj c ns ds, fp => ∃ p C dx vs, v = .ref p ∧ mg c = some (.ref C) ∧ S.H p = some (.ins C dx (ns.zip vs)) ∧ ns.length = vs.length ∧ RDs K mg S.F ds vs ∧ fp p
def SlR (S : Cfg) (v : Option V) : Sl → (Addr → Prop) → Prop
  | .no, _ => True
  | .va d, _ => ∃ u, v = some u ∧ RD K mg S.F d u
  | .ow _ o, fp => ∃ u, v = some u ∧ OwR K mg S u o fp
/-- the slots σ in the configuration S stand for ρ; A: the arguments -/
structure Sat (A : List V) (S : Cfg) (σ : L2.St) (ρ : Env') : Prop where
  sub : Same S.F S.H
  ownF : ∀ p, S.O p → S.F p = none
  ownH : ∀ p, S.O p → ∃ o, S.H p = some o
  len : σ.length = ρ.length
  sl : ∃ fp : Nat → Addr → Prop, (∀ i s, ρ[i]? = some s → ∃ v, σ[i]? = some v ∧ SlR K mg S v s (fp i)) ∧ (∀ i p, fp i p → S.O p) ∧ (∀ i j p, fp i p → fp j p → i = j)
  io : ∀ (i : Nat) (o : Ow), ρ[i]? = some (Sl.ow true o) → ∃ v : V, σ[i]? = some (some v) ∧ A[i]? = some v
end

/-- grown by new objects alone -/
structure Gr (S S' : Cfg) : Prop where
  O : S'.O = S.O
  H : Same S.H S'.H
  F : Same S.F S'.F
  new : ∀ a o, S.H a = some o → S'.F a = S.F a
  sub : Same S'.F S'.H
section
variable {K : PySem.W.Frag} {mg : Str → Option Value} {A : List V} {S S' S'' : Cfg} {σ : L2.St} {ρ : Env'}
theorem Gr.refl (h : Same S.F S.H) : Gr S S := ⟨rfl, fun _ _ h => h, fun _ _ h => h, fun _ _ _ => rfl, h⟩
theorem Gr.trans (a : Gr S S') (b : Gr S' S'') : Gr S S'' :=
  ⟨b.O.trans a.O, fun c o h => b.H c o (a.H c o h), fun c o h => b.F c o (a.F c o h), fun c o h => (b.new c o (a.H c o h)).trans (a.new c o h), b.sub⟩
theorem Gr.ev (g : Gr S S') : Ev S S' := ⟨fun a o h _ => g.H a o h, g.F, fun a o h _ => g.new a o h, fun p h => .inl (by rw [← g.O]; exact h), fun a o h => ⟨o, g.H a o h⟩⟩
theorem OwR.grow {v : V} {o : Ow} {fp : Addr → Prop} (h : OwR K mg S v o fp) (hf : Same S.F S'.F) (hh : ∀ p o, fp p → S.H p = some o → S'.H p = some o) : OwR K mg S' v o fp := by
  cases o with
  | lst xs =>
    obtain ⟨p, vs, h1, h2, h3, h4⟩ := h
    exact ⟨p, vs, h1, hh _ _ h4 h2, h3.mono hf, h4⟩
  | dK ks ds =>
    obtain ⟨p, vs, h1, h2, h3, h4, h5⟩ := h
    exact ⟨p, vs, h1, hh _ _ h5 h2, h3, h4.mono hf, h5⟩
  | dT ks ds =>
    obtain ⟨p, vs, h1, h2, h3, h4, h5⟩ := h
    exact ⟨p, vs, h1, hh _ _ h5 h2, h3, h4.mono hf, h5⟩
  | deal L b =>
    obtain ⟨p, q, h1, h2, h3, h4, h5, h6⟩ := h
    exact ⟨p, q, h1, hh _ _ h5 h2, hh _ _ h6 h3, h4, h5, h6⟩
  | obj c ns ds =>
    obtain ⟨p, C, dx, vs, h1, h2, h3, h4, h5, h6⟩ := h
    exact ⟨p, C, dx, vs, h1, h2, hh _ _ h6 h3, h4, h5.mono hf, h6⟩
theorem SlR.grow {v : Option V} {s : Sl} {fp : Addr → Prop} (h : SlR K mg S v s fp) (hf : Same S.F S'.F) (hh : ∀ p o, fp p → S.H p = some o → S'.H p = some o) : SlR K mg S' v s fp := by
  cases s with
  | no => trivial
  | va d =>
    obtain ⟨u, h1, h2⟩ := h
    exact ⟨u, h1, h2.mono hf⟩
  | ow b o =>
    obtain ⟨u, h1, h2⟩ := h
    exact ⟨u, h1, h2.grow hf hh⟩
theorem Sat.gr (h : Sat K mg A S σ ρ) (g : Gr S S') : Sat K mg A S' σ ρ := by
  obtain ⟨fp, s1, s2, s3⟩ := h.sl
  refine ⟨g.sub, fun p q => ?_, fun p q => ?_, h.len, ⟨fp, fun i s e => ?_, fun i p q => by rw [g.O]; exact s2 i p q, s3⟩, h.io⟩
  · rw [g.O] at q
    obtain ⟨o, e⟩ := h.ownH p q
    rw [g.new p o e]
    exact h.ownF p q
  · rw [g.O] at q
    obtain ⟨o, e⟩ := h.ownH p q
    exact ⟨o, g.H _ _ e⟩
  · obtain ⟨v, e1, e2⟩ := s1 i s e
    exact ⟨v, e1, e2.grow g.F fun p o _ q => g.H p o q⟩
/-- a new frozen object -/
def Cfg.fz (S : Cfg) (p : Addr) (o : HO) : Cfg := ⟨upd S.F p o, upd S.H p o, S.O⟩
/-- a new object, not (yet) told of -/
def Cfg.raw (S : Cfg) (p : Addr) (o : HO) : Cfg := ⟨S.F, upd S.H p o, S.O⟩
theorem none_sub (h : Same S.F S.H) {p : Addr} (n : S.H p = none) : S.F p = none := h.free n
theorem same_upd {H : Hp} {p : Addr} {o : HO} (n : H p = none) : Same H (upd H p o) := fun a u e => by
  rw [upd_ne (ne_of_none e n)]
  exact e
theorem Gr.fz (h : Same S.F S.H) {p : Addr} {o : HO} (n : S.H p = none) : Gr S (S.fz p o) := by
  refine ⟨rfl, same_upd n, same_upd (none_sub h n), fun a u e => ?_, fun a u e => ?_⟩
  · show upd S.F p o a = S.F a
    rw [upd_ne (ne_of_none e n)]
  · show upd S.H p o a = some u
    have e' : upd S.F p o a = some u := e
    by_cases q : a = p
    · subst q
      rw [upd_same] at e' ⊢
      exact e'
    · rw [upd_ne q] at e' ⊢
      exact h a u e'
theorem Gr.raw (h : Same S.F S.H) {p : Addr} {o : HO} (n : S.H p = none) : Gr S (S.raw p o) := by
  refine ⟨rfl, same_upd n, fun _ _ e => e, fun a u e => rfl, fun a u e => ?_⟩
  exact same_upd n a u (h a u e)
theorem Sat.fz (h : Sat K mg A S σ ρ) {p : Addr} {o : HO} (n : S.H p = none) : Sat K mg A (S.fz p o) σ ρ := h.gr (.fz h.sub n)
end

/-! ### what a piece of code is worth -/
inductive Out (α : Type) where
  | ok (a : α) (ρ : Env')
  | err (c : Str) (d : D) (ρ : Env')
  | stuck
abbrev EM (α : Type) := Env' → Out α
def Out.bind {α β : Type} : Out α → (α → Env' → Out β) → Out β
  | .ok a ρ, f => f a ρ
  | .err c d ρ, _ => .err c d ρ
  | .stuck, _ => .stuck
def Out.lift {α : Type} (ρ : Env') : Option α → Out α
  | some a => .ok a ρ
  | none => .stuck

section
variable (K : PySem.W.Frag) (mg : Str → Option Value) (A : List V) (W : WX)
/-- an error lands with W -/
def PostX (S : Cfg) (c : Str) (d : D) (ρ' : Env') : Prop := ∀ S' σ' C cd v, mg c = some (.ref C) → Ev S S' → Sat K mg A S' σ' ρ' → S'.H cd = some (.xd [(("at" : Str), v)]) → RD K mg S'.F d v → W (.ref C) (some cd) σ' S'.H
def PostE (Q : VK) (S : Cfg) (σ : L2.St) : Out D → Prop
  | .ok d ρ' => ∀ S' v, Ev S S' → Sat K mg A S' σ ρ' → RD K mg S'.F d v → Q v S'.H
  | .err c d ρ' => PostX K mg A W S c d ρ'
  | .stuck => False
/-- the reading «worth f» -/
def tD (f : EM D) : TE := fun σ H Q => ∃ S ρ, S.H = H ∧ Sat K mg A S σ ρ ∧ PostE K mg A W Q S σ (f ρ)
def PostT (Q : Bool → Hp → Prop) (S : Cfg) (σ : L2.St) : Out Bool → Prop
  | .ok b ρ' => ∀ S', Ev S S' → Sat K mg A S' σ ρ' → Q b S'.H
  | .err c d ρ' => PostX K mg A W S c d ρ'
  | .stuck => False
def tT (f : EM Bool) : TT := fun σ H Q => ∃ S ρ, S.H = H ∧ Sat K mg A S σ ρ ∧ PostT K mg A W Q S σ (f ρ)
def PostA (Q : List V → Hp → Prop) (S : Cfg) (σ : L2.St) : Out (List D) → Prop
  | .ok ds ρ' => ∀ S' vs, Ev S S' → Sat K mg A S' σ ρ' → RDs K mg S'.F ds vs → Q vs S'.H
  | .err c d ρ' => PostX K mg A W S c d ρ'
  | .stuck => False
def tAr (f : EM (List D)) : TA := fun σ H Q => ∃ S ρ, S.H = H ∧ Sat K mg A S σ ρ ∧ PostA K mg A W Q S σ (f ρ)
inductive Fl where
  | nx (ρ : Env') | rt (d : D) (ρ : Env') | bk (ρ : Env') | ct (ρ : Env') | er (c : Str) (d : D) (ρ : Env') | stuck
abbrev SM := Env' → Fl
def PostS (D' : Ends) (S : Cfg) : Fl → Prop
  | .nx ρ' => ∀ S' σ', Ev S S' → Sat K mg A S' σ' ρ' → D'.nx σ' S'.H
  | .rt d ρ' => ∀ S' σ' v, Ev S S' → Sat K mg A S' σ' ρ' → RD K mg S'.F d v → D'.rt v S'.H
  | .bk ρ' => ∀ S' σ', Ev S S' → Sat K mg A S' σ' ρ' → D'.bk σ' S'.H
  | .ct ρ' => ∀ S' σ', Ev S S' → Sat K mg A S' σ' ρ' → D'.ct σ' S'.H
  | .er c d ρ' => PostX K mg A W S c d ρ'
  | .stuck => False
def tS (f : SM) : TS := fun D' σ H => ∃ S ρ, S.H = H ∧ Sat K mg A S σ ρ ∧ PostS K mg A W D' S (f ρ)
end

section
variable {K : PySem.W.Frag} {mg : Str → Option Value} {A : List V} {W : WX} {S S' : Cfg} {σ : L2.St} {ρ : Env'}
theorem PostX.ev {c : Str} {d : D} (h : PostX K mg A W S c d ρ) (e : Ev S S') : PostX K mg A W S' c d ρ := fun S2 σ2 C cd v hc e2 => h S2 σ2 C cd v hc (e.trans e2)
theorem PostE.ev {Q : VK} {r : Out D} (h : PostE K mg A W Q S σ r) (e : Ev S S') : PostE K mg A W Q S' σ r := by
  cases r with
  | ok d ρ' => exact fun S2 v e2 => h S2 v (e.trans e2)
  | err c d ρ' => exact PostX.ev h e
  | stuck => exact h
theorem PostT.ev {Q : Bool → Hp → Prop} {r : Out Bool} (h : PostT K mg A W Q S σ r) (e : Ev S S') : PostT K mg A W Q S' σ r := by
  cases r with
  | ok d ρ' => exact fun S2 e2 => h S2 (e.trans e2)
  | err c d ρ' => exact PostX.ev h e
  | stuck => exact h
theorem PostA.ev {Q : List V → Hp → Prop} {r : Out (List D)} (h : PostA K mg A W Q S σ r) (e : Ev S S') : PostA K mg A W Q S' σ r := by
  cases r with
  | ok d ρ' => exact fun S2 v e2 => h S2 v (e.trans e2)
  | err c d ρ' => exact PostX.ev h e
  | stuck => exact h
theorem PostS.ev {D' : Ends} {r : Fl} (h : PostS K mg A W D' S r) (e : Ev S S') : PostS K mg A W D' S' r := by
  cases r with
  | nx ρ' => exact fun S2 σ2 e2 => h S2 σ2 (e.trans e2)
  | rt d ρ' => exact fun S2 σ2 v e2 => h S2 σ2 v (e.trans e2)
  | bk ρ' => exact fun S2 σ2 e2 => h S2 σ2 (e.trans e2)
  | ct ρ' => exact fun S2 σ2 e2 => h S2 σ2 (e.trans e2)
  | er c d ρ' => exact PostX.ev h e
  | stuck => exact h
end

/-! ### weaker readings -/
section
variable {X : Cx}
theorem PE.imp {e : Expr} {t t' : TE} (h : PE X e t) (i : ∀ σ H Q, t' σ H Q → t σ H Q) : PE X e t' := ⟨fun pins s σ H Q I q => h.run pins s σ H Q I (i _ _ _ q)⟩
theorem PT.imp {e : Expr} {t t' : TT} (h : PT X e t) (i : ∀ σ H Q, t' σ H Q → t σ H Q) : PT X e t' := ⟨fun pins s σ H Q I q => h.run pins s σ H Q I (i _ _ _ q)⟩
theorem PA.imp {e : List Expr} {t t' : TA} (h : PA X e t) (i : ∀ σ H Q, t' σ H Q → t σ H Q) : PA X e t' := ⟨fun pos pins s σ H Q I q => h.run pos pins s σ H Q I (i _ _ _ q)⟩
theorem PS.imp {e : Stmt} {t t' : TS} (h : PS X e t) (i : ∀ D σ H, t' D σ H → t D σ H) : PS X e t' := ⟨fun pins s σ H D I q => h.run pins s σ H D I (i _ _ _ q)⟩
theorem PSs.imp {e : List Stmt} {t t' : TS} (h : PSs X e t) (i : ∀ D σ H, t' D σ H → t D σ H) : PSs X e t' := ⟨fun pins s σ H D I q => h.run pins s σ H D I (i _ _ _ q)⟩
abbrev PD (X : Cx) (A : List V) (W : WX) (e : Expr) (f : EM D) : Prop := PE X e (tD X.K X.mg A W f)
abbrev PTD (X : Cx) (A : List V) (W : WX) (e : Expr) (f : EM Bool) : Prop := PT X e (tT X.K X.mg A W f)
abbrev PAD (X : Cx) (A : List V) (W : WX) (e : List Expr) (f : EM (List D)) : Prop := PA X e (tAr X.K X.mg A W f)
abbrev PSD (X : Cx) (A : List V) (W : WX) (e : Stmt) (f : SM) : Prop := PS X e (tS X.K X.mg A W f)
abbrev PSsD (X : Cx) (A : List V) (W : WX) (e : List Stmt) (f : SM) : Prop := PSs X e (tS X.K X.mg A W f)
end
end DL
end

section
set_option Elab.async false
set_option maxRecDepth 100000
/-! Operands, variables, constants, operators. -/
namespace DL
open PySem PySem.Spec PyProof.Rows L2

/-- freeze an owned thing -/
def Ow.fz : Ow → Option D
  | .lst xs => some (.lst xs)
  | .dK ks ds => some (.dK ks ds)
  | .dT ks ds => some (.dT ks ds)
  | .deal _ _ => none
  | .obj c ns ds => some (.ins c ns ds)
/-- what is read of v at the moment: lists and dicts in the heap -/
def RB (K : PySem.W.Frag) (mg : Str → Option Value) (S : Cfg) : D → V → Prop
  | .lst xs, v => ∃ a vs, v = .ref a ∧ S.H a = some (.lst vs) ∧ RDs K mg S.F xs vs
  | .dK ks ds, v => ∃ a vs, v = .ref a ∧ S.H a = some (.dK (ks.zip vs)) ∧ ks.length = vs.length ∧ RDs K mg S.F ds vs
  | .dT ks ds, v => ∃ a vs, v = .ref a ∧ S.H a = some (.dT (ks.zip vs)) ∧ ks.length = vs.length ∧ RDs K mg S.F ds vs
  | .ins c ns ds, v => ∃ a C dx vs, v = .ref a ∧ mg c = some (.ref C) ∧ S.H a = some (.ins C dx (ns.zip vs)) ∧ ns.length = vs.length ∧ RDs K mg S.F ds vs
  | d, v => RD K mg S.F d v
section
variable {K : PySem.W.Frag} {mg : Str → Option Value} {A : List V} {W : WX} {S S' : Cfg} {σ : L2.St} {ρ : Env'}
theorem RD.rb (h : Same S.F S.H) {d : D} {v : V} (r : RD K mg S.F d v) : RB K mg S d v := by
  cases d with
  | lst xs =>
    obtain ⟨a, vs, h1, h2, h3⟩ := r
    exact ⟨a, vs, h1, h _ _ h2, h3⟩
  | dK ks ds =>
    obtain ⟨a, vs, h1, h2, h3⟩ := r
    exact ⟨a, vs, h1, h _ _ h2, h3⟩
  | dT ks ds =>
    obtain ⟨a, vs, h1, h2, h3⟩ := r
    exact ⟨a, vs, h1, h _ _ h2, h3⟩
  | ins c ns ds =>
    obtain ⟨a, C, dx, vs, h1, h2, h3, h4, h5⟩ := r
    exact ⟨a, C, dx, vs, h1, h2, h _ _ h3, h4, h5⟩
  | _ => exact r
theorem OwR.rb {v : V} {o : Ow} {d : D} {fp : Addr → Prop} (h : OwR K mg S v o fp) (e : o.fz = some d) : RB K mg S d v := by
  cases o with
  | lst xs =>
    cases e
    obtain ⟨p, vs, h1, h2, h3, h4⟩ := h
    exact ⟨p, vs, h1, h2, h3⟩
  | dK ks ds =>
    cases e
    obtain ⟨p, vs, h1, h2, h3, h4, h5⟩ := h
    exact ⟨p, vs, h1, h2, h3, h4⟩
  | dT ks ds =>
    cases e
    obtain ⟨p, vs, h1, h2, h3, h4, h5⟩ := h
    exact ⟨p, vs, h1, h2, h3, h4⟩
  | deal L b => cases e
  | obj c ns ds =>
    cases e
    obtain ⟨p, C, dx, vs, h1, h2, h3, h4, h5, h6⟩ := h
    exact ⟨p, C, dx, vs, h1, h2, h3, h4, h5⟩
theorem OwR.freeze {v : V} {o : Ow} {d : D} {fp : Addr → Prop} (h : OwR K mg S v o fp) (e : o.fz = some d) :
    ∃ p ho, v = .ref p ∧ S.H p = some ho ∧ fp p ∧ ∀ F', Same S.F F' → F' p = some ho → RD K mg F' d v := by
  cases o with
  | lst xs =>
    cases e
    obtain ⟨p, vs, h1, h2, h3, h4⟩ := h
    exact ⟨p, _, h1, h2, h4, fun F' k q => ⟨p, vs, h1, q, h3.mono k⟩⟩
  | dK ks ds =>
    cases e
    obtain ⟨p, vs, h1, h2, h3, h4, h5⟩ := h
    exact ⟨p, _, h1, h2, h5, fun F' k q => ⟨p, vs, h1, q, h3, h4.mono k⟩⟩
  | dT ks ds =>
    cases e
    obtain ⟨p, vs, h1, h2, h3, h4, h5⟩ := h
    exact ⟨p, _, h1, h2, h5, fun F' k q => ⟨p, vs, h1, q, h3, h4.mono k⟩⟩
  | deal L b => cases e
  | obj c ns ds =>
    cases e
    obtain ⟨p, C, dx, vs, h1, h2, h3, h4, h5, h6⟩ := h
    exact ⟨p, _, h1, h3, h6, fun F' k q => ⟨p, C, dx, vs, h1, h2, q, h4, h5.mono k⟩⟩
/-- the slot i is frozen -/
theorem Sat.freeze (s : Sat K mg A S σ ρ) {i : Nat} {o : Ow} {d : D} (hi : ρ[i]? = some (Sl.ow false o)) (e : o.fz = some d) :
    ∃ S' v, S'.H = S.H ∧ Ev S S' ∧ Sat K mg A S' σ (ρ.set i (.va d)) ∧ σ[i]? = some (some v) ∧ RD K mg S'.F d v := by
  obtain ⟨fp, s1, s2, s3⟩ := s.sl
  obtain ⟨v, e1, u, e2, r⟩ := s1 i _ hi
  subst e2
  obtain ⟨p, ho, hv, hp, hfp, k⟩ := r.freeze e
  have hO := s2 i p hfp
  have hF := s.ownF p hO
  have sF : Same S.F (upd S.F p ho) := same_upd hF
  refine ⟨⟨upd S.F p ho, S.H, fun a => S.O a ∧ a ≠ p⟩, u, rfl, ⟨fun a o h _ => h, sF, fun a o h n => ?_, fun q h => .inl h.1, fun a o h => ⟨o, h⟩⟩, ⟨fun a o h => ?_, fun q h => ?_, fun q h => s.ownH q h.1, by simp [s.len], ⟨fun j => if j = i then fun _ => False else fp j, fun j sl e => ?_, fun j q h => ?_, fun j l q h1 h2 => ?_⟩, fun j o e => ?_⟩, e1, k _ sF upd_same⟩
  · show upd S.F p ho a = S.F a
    exact upd_ne (fun z => n (by rw [z]; exact hO))
  · have h' : upd S.F p ho a = some o := h
    by_cases q : a = p
    · subst q
      rw [upd_same] at h'
      cases h'
      exact hp
    · rw [upd_ne q] at h'
      exact s.sub a o h'
  · show upd S.F p ho q = none
    rw [upd_ne h.2]
    exact s.ownF q h.1
  · by_cases hj : j = i
    · subst hj
      rw [List.getElem?_set_self (List.getElem?_eq_some_iff.mp hi).1] at e
      cases e
      exact ⟨_, e1, u, rfl, k _ sF upd_same⟩
    · rw [List.getElem?_set_ne (Ne.symm hj)] at e
      obtain ⟨w, q1, q2⟩ := s1 j sl e
      refine ⟨w, q1, ?_⟩
      show SlR K mg _ w sl (if j = i then fun _ => False else fp j)
      rw [if_neg hj]
      exact q2.grow sF fun _ _ _ z => z
  · by_cases hj : j = i
    · have h' : (if j = i then fun _ => False else fp j) q := h
      rw [if_pos hj] at h'
      exact h'.elim
    · have h' : (if j = i then fun _ => False else fp j) q := h
      rw [if_neg hj] at h'
      refine ⟨s2 j q h', fun z => hj (s3 j i p ?_ hfp)⟩
      rw [← z]
      exact h'
  · by_cases hj : j = i
    · have h' : (if j = i then fun _ => False else fp j) q := h1
      rw [if_pos hj] at h'
      exact h'.elim
    · by_cases hl : l = i
      · have h' : (if l = i then fun _ => False else fp l) q := h2
        rw [if_pos hl] at h'
        exact h'.elim
      · have h1' : (if j = i then fun _ => False else fp j) q := h1
        have h2' : (if l = i then fun _ => False else fp l) q := h2
        rw [if_neg hj] at h1'
        rw [if_neg hl] at h2'
        exact s3 j l q h1' h2'
  · by_cases hj : j = i
    · subst hj
      rw [List.getElem?_set_self (List.getElem?_eq_some_iff.mp hi).1] at e
      cases e
    · rw [List.getElem?_set_ne (Ne.symm hj)] at e
      exact s.io j o e

/-! ### sequencing -/
theorem tD_bind {β : Type} {P : Out β → Prop} {f : EM D} {g : D → Env' → Out β} {Q' : VK} (s : Sat K mg A S σ ρ) (hp : P ((f ρ).bind g)) (herr : ∀ c d ρ', P (.err c d ρ') → PostX K mg A W S c d ρ') (hst : ¬ P .stuck)
    (k : ∀ x ρ1 S1 v, P (g x ρ1) → Ev S S1 → Sat K mg A S1 σ ρ1 → RD K mg S1.F x v → Q' v S1.H) : tD K mg A W f σ S.H Q' := by
  refine ⟨S, ρ, rfl, s, ?_⟩
  cases e : f ρ with
  | ok x ρ1 =>
    rw [e] at hp
    exact fun S1 v ev s1 r => k x ρ1 S1 v hp ev s1 r
  | err c d ρ' =>
    rw [e] at hp
    exact herr c d ρ' hp
  | stuck =>
    rw [e] at hp
    exact hst hp
theorem tT_bind {β : Type} {P : Out β → Prop} {f : EM Bool} {g : Bool → Env' → Out β} {Q' : Bool → Hp → Prop} (s : Sat K mg A S σ ρ) (hp : P ((f ρ).bind g)) (herr : ∀ c d ρ', P (.err c d ρ') → PostX K mg A W S c d ρ') (hst : ¬ P .stuck)
    (k : ∀ x ρ1 S1, P (g x ρ1) → Ev S S1 → Sat K mg A S1 σ ρ1 → Q' x S1.H) : tT K mg A W f σ S.H Q' := by
  refine ⟨S, ρ, rfl, s, ?_⟩
  cases e : f ρ with
  | ok x ρ1 =>
    rw [e] at hp
    exact fun S1 ev s1 => k x ρ1 S1 hp ev s1
  | err c d ρ' =>
    rw [e] at hp
    exact herr c d ρ' hp
  | stuck =>
    rw [e] at hp
    exact hst hp
theorem tA_bind {β : Type} {P : Out β → Prop} {f : EM (List D)} {g : List D → Env' → Out β} {Q' : List V → Hp → Prop} (s : Sat K mg A S σ ρ) (hp : P ((f ρ).bind g)) (herr : ∀ c d ρ', P (.err c d ρ') → PostX K mg A W S c d ρ') (hst : ¬ P .stuck)
    (k : ∀ x ρ1 S1 vs, P (g x ρ1) → Ev S S1 → Sat K mg A S1 σ ρ1 → RDs K mg S1.F x vs → Q' vs S1.H) : tAr K mg A W f σ S.H Q' := by
  refine ⟨S, ρ, rfl, s, ?_⟩
  cases e : f ρ with
  | ok x ρ1 =>
    rw [e] at hp
    exact fun S1 v ev s1 r => k x ρ1 S1 v hp ev s1 r
  | err c d ρ' =>
    rw [e] at hp
    exact herr c d ρ' hp
  | stuck =>
    rw [e] at hp
    exact hst hp
def Out.fl {α : Type} : Out α → (α → Env' → Fl) → Fl
  | .ok a ρ, f => f a ρ
  | .err c d ρ, _ => .er c d ρ
  | .stuck, _ => .stuck
theorem tD_fl {D' : Ends} {f : EM D} {g : D → Env' → Fl} {Q' : VK} (s : Sat K mg A S σ ρ) (hp : PostS K mg A W D' S ((f ρ).fl g))
    (k : ∀ x ρ1 S1 v, PostS K mg A W D' S (g x ρ1) → Ev S S1 → Sat K mg A S1 σ ρ1 → RD K mg S1.F x v → Q' v S1.H) : tD K mg A W f σ S.H Q' := by
  refine ⟨S, ρ, rfl, s, ?_⟩
  cases e : f ρ with
  | ok x ρ1 =>
    rw [e] at hp
    exact fun S1 v ev s1 r => k x ρ1 S1 v hp ev s1 r
  | err c d ρ' =>
    rw [e] at hp
    exact hp
  | stuck =>
    rw [e] at hp
    exact hp
theorem tT_fl {D' : Ends} {f : EM Bool} {g : Bool → Env' → Fl} {Q' : Bool → Hp → Prop} (s : Sat K mg A S σ ρ) (hp : PostS K mg A W D' S ((f ρ).fl g))
    (k : ∀ x ρ1 S1, PostS K mg A W D' S (g x ρ1) → Ev S S1 → Sat K mg A S1 σ ρ1 → Q' x S1.H) : tT K mg A W f σ S.H Q' := by
  refine ⟨S, ρ, rfl, s, ?_⟩
  cases e : f ρ with
  | ok x ρ1 =>
    rw [e] at hp
    exact fun S1 ev s1 => k x ρ1 S1 hp ev s1
  | err c d ρ' =>
    rw [e] at hp
    exact hp
  | stuck =>
    rw [e] at hp
    exact hp
theorem PostE.err {Q : VK} {c : Str} {d : D} {ρ' : Env'} (h : PostE K mg A W Q S σ (.err c d ρ')) : PostX K mg A W S c d ρ' := h
theorem PostT.err {Q : Bool → Hp → Prop} {c : Str} {d : D} {ρ' : Env'} (h : PostT K mg A W Q S σ (.err c d ρ')) : PostX K mg A W S c d ρ' := h
theorem PostA.err {Q : List V → Hp → Prop} {c : Str} {d : D} {ρ' : Env'} (h : PostA K mg A W Q S σ (.err c d ρ')) : PostX K mg A W S c d ρ' := h
end

/-! ### names, constants -/
def eVar (i : Nat) : EM D := fun ρ => match ρ[i]? with
  | some (.va d) => .ok d ρ
  | some (.ow false o) => match o.fz with
    | some d => .ok d (ρ.set i (.va d))
    | none => .stuck
  | _ => .stuck
/-- what is read of slot i now -/
def peek (ρ : Env') (i : Nat) : Option D := match ρ[i]? with
  | some (.va d) => some d
  | some (.ow _ o) => o.fz
  | _ => none
def eC (d : D) : EM D := fun ρ => .ok d ρ
section
variable {X : Cx} {A : List V} {W : WX} {S S' : Cfg} {σ : L2.St} {ρ : Env'}
theorem Sat.va (s : Sat X.K X.mg A S σ ρ) {i : Nat} {d : D} (e : ρ[i]? = some (Sl.va d)) : ∃ v, σ[i]? = some (some v) ∧ RD X.K X.mg S.F d v := by
  obtain ⟨fp, s1, s2, s3⟩ := s.sl
  obtain ⟨v, e1, u, e2, r⟩ := s1 i _ e
  subst e2
  exact ⟨u, e1, r⟩
theorem Sat.peek (s : Sat X.K X.mg A S σ ρ) {i : Nat} {d : D} (e : peek ρ i = some d) : ∃ v, σ[i]? = some (some v) ∧ RB X.K X.mg S d v := by
  obtain ⟨fp, s1, s2, s3⟩ := s.sl
  unfold DL.peek at e
  split at e
  · rename_i h
    cases e
    obtain ⟨v, e1, r⟩ := s.va h
    exact ⟨v, e1, r.rb s.sub⟩
  · rename_i h
    obtain ⟨v, e1, u, e2, r⟩ := s1 i _ h
    subst e2
    exact ⟨u, e1, r.rb e⟩
  · cases e
theorem pd_var (i : Nat) {x : Str} {pos : Pos} (hN : X.N[i]? = some x := by rfl) (hv : Vis X.env.scope x := by first | exact Or.inl rfl | exact Or.inr (Or.inl rfl) | exact Or.inr (Or.inr rfl)) (hd : (x == ("__debug__" : Str)) = false := by decide)
    (hcd : (x == ("__classdict__" : Str)) = false := by decide) : PD X A W (.Name x pos) (eVar i) := by
  refine PE.imp (pe_var hN hv hd hcd) fun σ H Q h => ?_
  obtain ⟨S, ρ, rfl, s, h⟩ := h
  unfold eVar at h
  split at h
  · rename_i d e
    obtain ⟨v, e1, r⟩ := s.va e
    exact ⟨v, e1, h S v (Ev.refl S) s r⟩
  · rename_i o e
    cases q : o.fz with
    | none =>
      rw [q] at h
      exact h.elim
    | some d =>
      rw [q] at h
      obtain ⟨S', v, eH, ev, s', e1, r⟩ := s.freeze e q
      have z := h S' v ev s' r
      rw [eH] at z
      exact ⟨v, e1, z⟩
  · exact h.elim
theorem pd_C {d : D} {v : V} {e : Expr} (h : PE X e (tC v)) (r : ∀ F, RD X.K X.mg F d v) : PD X A W e (eC d) := by
  refine PE.imp h fun σ H Q q => ?_
  obtain ⟨S, ρ, rfl, s, q⟩ := q
  exact q S v (Ev.refl S) s (r _)
theorem pd_int {i j pos} : PD X A W (.Constant (.int i) j pos) (eC (.int i)) := pd_C pe_int fun _ => rfl
theorem pd_bl {b j pos} : PD X A W (.Constant (.bool b) j pos) (eC (.bl b)) := pd_C pe_bl fun _ => rfl
theorem pd_non {j pos} : PD X A W (.Constant .none j pos) (eC .non) := pd_C pe_non fun _ => rfl
theorem pd_str {x j pos} : PD X A W (.Constant (.str x) j pos) (eC (.str x)) := pd_C pe_str fun _ => rfl
end

/-! ### operands: evaluated, or borrowed from a slot and read at the very end -/
inductive Opd where
  | ev (f : EM D) | br (i : Nat)
  /-- handed in to be changed -/
  | io (i : Nat)
def Opd.go : Opd → EM D
  | .ev f => f
  | .br i => fun ρ => if (peek ρ i).isSome then .ok .non ρ else .stuck
  | .io i => fun ρ => match ρ[i]? with
    | some (.ow _ _) => .ok .non ρ
    | _ => .stuck
def Opd.rd (ρ : Env') : Opd → D → Option D
  | .ev _, d => some d
  | .br i, _ => peek ρ i
  | .io _, _ => none
def op1 (o : Opd) (k : D → Env' → Out D) : EM D := fun ρ => (o.go ρ).bind fun x ρ1 => (Out.lift ρ1 (o.rd ρ1 x)).bind k
def op2 (o o' : Opd) (k : D → D → Env' → Out D) : EM D := fun ρ => (o.go ρ).bind fun x ρ1 => (o'.go ρ1).bind fun y ρ2 => (Out.lift ρ2 (o.rd ρ2 x)).bind fun x ρ2 => (Out.lift ρ2 (o'.rd ρ2 y)).bind fun y ρ2 => k x y ρ2
section
variable (K : PySem.W.Frag) (mg : Str → Option Value) (A : List V) (W : WX)
def tOpd : Opd → TE
  | .ev f => tD K mg A W f
  | .br i => tVar i
  | .io i => tVar i
end
abbrev PO' (X : Cx) (A : List V) (W : WX) (e : Expr) (o : Opd) : Prop := PE X e (tOpd X.K X.mg A W o)
section
variable {X : Cx} {A : List V} {W : WX} {S S' : Cfg} {σ : L2.St} {ρ : Env'}
theorem po_ev {e : Expr} {f : EM D} (h : PD X A W e f) : PO' X A W e (.ev f) := h
theorem po_io (i : Nat) {x : Str} {pos : Pos} (hN : X.N[i]? = some x := by rfl) (hv : Vis X.env.scope x := by first | exact Or.inl rfl | exact Or.inr (Or.inl rfl) | exact Or.inr (Or.inr rfl)) (hd : (x == ("__debug__" : Str)) = false := by decide)
    (hcd : (x == ("__classdict__" : Str)) = false := by decide) : PO' X A W (.Name x pos) (.io i) := pe_var hN hv hd hcd
theorem po_br (i : Nat) {x : Str} {pos : Pos} (hN : X.N[i]? = some x := by rfl) (hv : Vis X.env.scope x := by first | exact Or.inl rfl | exact Or.inr (Or.inl rfl) | exact Or.inr (Or.inr rfl)) (hd : (x == ("__debug__" : Str)) = false := by decide)
    (hcd : (x == ("__classdict__" : Str)) = false := by decide) : PO' X A W (.Name x pos) (.br i) := pe_var hN hv hd hcd
/-- what is known of an operand's value behind its evaluation -/
def OpdOk (X : Cx) (A : List V) (S : Cfg) (σ : L2.St) (v : V) : Opd → D → Prop
  | .ev _, d => RD X.K X.mg S.F d v
  | .br i, _ => σ[i]? = some (some v)
  | .io i, _ => σ[i]? = some (some v)
theorem OpdOk.ev {v : V} {o : Opd} {d : D} (h : OpdOk X A S σ v o d) (e : Ev S S') : OpdOk X A S' σ v o d := by
  cases o with
  | ev f => exact RD.mono e.frz h
  | br i => exact h
  | io i => exact h
theorem OpdOk.rb {v : V} {o : Opd} {d d' : D} (h : OpdOk X A S σ v o d) (s : Sat X.K X.mg A S σ ρ) (e : o.rd ρ d = some d') : RB X.K X.mg S d' v := by
  cases o with
  | ev f =>
    cases e
    exact RD.rb s.sub h
  | br i =>
    obtain ⟨u, e1, r⟩ := s.peek e
    have h' : σ[i]? = some (some v) := h
    rw [h'] at e1
    cases e1
    exact r
  | io i => cases e
/-- an operand is evaluated -/
theorem opd_bind {β : Type} {P : Out β → Prop} {o : Opd} {g : D → Env' → Out β} {Q' : VK} (s : Sat X.K X.mg A S σ ρ) (hp : P ((o.go ρ).bind g)) (herr : ∀ c d ρ', P (.err c d ρ') → PostX X.K X.mg A W S c d ρ') (hst : ¬ P .stuck)
    (k : ∀ x ρ1 S1 v, P (g x ρ1) → Ev S S1 → Sat X.K X.mg A S1 σ ρ1 → OpdOk X A S1 σ v o x → Q' v S1.H) : tOpd X.K X.mg A W o σ S.H Q' := by
  cases o with
  | ev f => exact tD_bind s hp herr hst k
  | br i =>
    have hp' : P ((if (peek ρ i).isSome then Out.ok D.non ρ else Out.stuck).bind g) := hp
    cases q : peek ρ i with
    | none =>
      rw [q] at hp'
      exact (hst hp').elim
    | some d =>
      rw [q] at hp'
      obtain ⟨v, e, _⟩ := s.peek q
      exact ⟨v, e, k .non ρ S v hp' (Ev.refl S) s e⟩
  | io i =>
    have hp' : P ((match ρ[i]? with
      | some (.ow _ _) => Out.ok D.non ρ
      | _ => Out.stuck).bind g) := hp
    obtain ⟨fp, s1, s2, s3⟩ := s.sl
    cases q : ρ[i]? with
    | none =>
      rw [q] at hp'
      exact (hst hp').elim
    | some sl =>
      rw [q] at hp'
      cases sl with
      | no => exact (hst hp').elim
      | va d => exact (hst hp').elim
      | ow b o =>
        obtain ⟨v, e, u, e2, r⟩ := s1 i _ q
        subst e2
        exact ⟨u, e, k .non ρ S u hp' (Ev.refl S) s e⟩
end
end DL
end

section
set_option Elab.async false
set_option linter.all false
set_option maxRecDepth 100000
/-! Operators, tests, statements. -/
namespace DL
open PySem PySem.Spec PyProof.Rows L2

def VOp1 (X : Cx) (opf : D → Option D) (r : V → Hp → VK → Prop) : Prop :=
  ∀ (S : Cfg) (x z : D) (v : V) (Q : VK), Same S.F S.H → opf x = some z → RB X.K X.mg S x v → (∀ S' w, Gr S S' → RD X.K X.mg S'.F z w → Q w S'.H) → r v S.H Q
def VOp2 (X : Cx) (opf : D → D → Option D) (r : R2) : Prop :=
  ∀ (S : Cfg) (x y z : D) (v u : V) (Q : VK), Same S.F S.H → opf x y = some z → RB X.K X.mg S x v → RB X.K X.mg S y u → (∀ S' w, Gr S S' → RD X.K X.mg S'.F z w → Q w S'.H) → r v u S.H Q
def e1 (opf : D → Option D) (o : Opd) : EM D := op1 o fun x ρ => Out.lift ρ (opf x)
def e2 (opf : D → D → Option D) (o o' : Opd) : EM D := op2 o o' fun x y ρ => Out.lift ρ (opf x y)
def asB : D → Option Bool
  | .bl b => some b
  | _ => none
def eT (f : EM D) : EM Bool := fun ρ => (f ρ).bind fun d ρ => Out.lift ρ (asB d)

section
variable {X : Cx} {A : List V} {W : WX} {S S' : Cfg} {σ : L2.St} {ρ : Env'}
theorem op2_to {opf : D → D → Option D} {r : R2} {a b : Expr} {o o' : Opd} (hv : VOp2 X opf r) (σ : L2.St) (H : Hp) (Q : VK) (h : tD X.K X.mg A W (e2 opf o o') σ H Q) : tOp r (tOpd X.K X.mg A W o) (tOpd X.K X.mg A W o') σ H Q := by
  obtain ⟨S, ρ, rfl, s, h⟩ := h
  have h' : PostE X.K X.mg A W Q S σ ((o.go ρ).bind fun x ρ1 => (o'.go ρ1).bind fun y ρ2 => (Out.lift ρ2 (o.rd ρ2 x)).bind fun x ρ2 => (Out.lift ρ2 (o'.rd ρ2 y)).bind fun y ρ2 => Out.lift ρ2 (opf x y)) := h
  refine opd_bind (P := PostE X.K X.mg A W Q S σ) s h' (fun _ _ _ z => z) (fun z => z) fun x ρ1 S1 v hp1 ev1 s1 r1 => ?_
  refine opd_bind (P := PostE X.K X.mg A W Q S σ) s1 hp1 (fun _ _ _ z => PostX.ev z ev1) (fun z => z) fun y ρ2 S2 u hp2 ev2 s2 r2 => ?_
  have r1' := r1.ev ev2
  cases ex : o.rd ρ2 x with
  | none =>
    rw [ex] at hp2
    exact hp2.elim
  | some x' =>
    rw [ex] at hp2
    have hp4 : PostE X.K X.mg A W Q S σ ((Out.lift ρ2 (o'.rd ρ2 y)).bind fun y ρ2 => Out.lift ρ2 (opf x' y)) := hp2
    cases ey : o'.rd ρ2 y with
    | none =>
      rw [ey] at hp4
      exact hp4.elim
    | some y' =>
      rw [ey] at hp4
      have hp3 : PostE X.K X.mg A W Q S σ (Out.lift ρ2 (opf x' y')) := hp4
      cases ez : opf x' y' with
      | none =>
        rw [ez] at hp3
        exact hp3.elim
      | some z =>
        rw [ez] at hp3
        exact hv S2 x' y' z v u Q s2.sub ez (r1'.rb s2 ex) (r2.rb s2 ey) fun S3 w g r3 => hp3 S3 w ((ev1.trans ev2).trans g.ev) (s2.gr g) r3
theorem op1_to {opf : D → Option D} {r : V → Hp → VK → Prop} {a : Expr} {o : Opd} (hv : VOp1 X opf r) (σ : L2.St) (H : Hp) (Q : VK) (h : tD X.K X.mg A W (e1 opf o) σ H Q) : tUn r (tOpd X.K X.mg A W o) σ H Q := by
  obtain ⟨S, ρ, rfl, s, h⟩ := h
  have h' : PostE X.K X.mg A W Q S σ ((o.go ρ).bind fun x ρ1 => (Out.lift ρ1 (o.rd ρ1 x)).bind fun x ρ1 => Out.lift ρ1 (opf x)) := h
  refine opd_bind (P := PostE X.K X.mg A W Q S σ) s h' (fun _ _ _ z => z) (fun z => z) fun x ρ1 S1 v hp1 ev1 s1 r1 => ?_
  cases ex : o.rd ρ1 x with
  | none =>
    rw [ex] at hp1
    exact hp1.elim
  | some x' =>
    rw [ex] at hp1
    have hp3 : PostE X.K X.mg A W Q S σ (Out.lift ρ1 (opf x')) := hp1
    cases ez : opf x' with
    | none =>
      rw [ez] at hp3
      exact hp3.elim
    | some z =>
      rw [ez] at hp3
      exact hv S1 x' z v Q s1.sub ez (r1.rb s1 ex) fun S3 w g r3 => hp3 S3 w (ev1.trans g.ev) (s1.gr g) r3
theorem pd_bin {op : Operator} {r : R2} {opf : D → D → Option D} {a b : Expr} {o o' : Opd} {pos : Pos} (ho : OpR X (binaryOp op) r) (hv : VOp2 X opf r) (ha : PO' X A W a o) (hb : PO' X A W b o') : PD X A W (.BinOp a op b pos) (e2 opf o o') :=
  PE.imp (pe_op ho ha hb) (op2_to (a := a) (b := b) hv)
theorem pd_un {op : UnaryOp} {r : V → Hp → VK → Prop} {opf : D → Option D} {a : Expr} {o : Opd} {pos : Pos} (ho : UnR X (unaryOp op) r) (hv : VOp1 X opf r) (ha : PO' X A W a o) : PD X A W (.UnaryOp op a pos) (e1 opf o) :=
  PE.imp (pe_un ho ha) (op1_to (a := a) hv)
theorem pd_cmp {op : CmpOp} {r : R2} {opf : D → D → Option D} {a b : Expr} {o o' : Opd} {pos : Pos} (ho : OpR X (compareOp op) r) (hv : VOp2 X opf r) (ha : PO' X A W a o) (hb : PO' X A W b o') (hm : behindInMarks op b = false) :
    PD X A W (.Compare a [op] [b] pos) (e2 opf o o') := PE.imp (pe_cmpR ho ha hb hm) (op2_to (a := a) (b := b) hv)
theorem pd_sub {r : R2} {opf : D → D → Option D} {a b : Expr} {o o' : Opd} {pos : Pos} (hr : IxR X r) (hv : VOp2 X opf r) (ha : PO' X A W a o) (hb : PO' X A W b o') (hs : PlainIx b) : PD X A W (.Subscript a b pos) (e2 opf o o') :=
  PE.imp (pe_ix hr ha hb hs) (op2_to (a := a) (b := b) hv)
/-! ### tests -/
theorem eT_test (f : EM D) (σ : L2.St) (H : Hp) (Q : Bool → Hp → Prop) (h : tT X.K X.mg A W (eT f) σ H Q) : tD X.K X.mg A W f σ H fun x H1 => ∃ c, x = .bl c ∧ Q c H1 := by
  obtain ⟨S, ρ, rfl, s, h⟩ := h
  refine tD_bind (P := PostT X.K X.mg A W Q S σ) s h (fun _ _ _ z => z) (fun z => z) fun x ρ1 S1 v hp1 ev1 s1 r1 => ?_
  cases x with
  | bl b => exact ⟨b, r1, hp1 S1 ev1 s1⟩
  | _ => exact hp1.elim
theorem ptd_cmp {op : CmpOp} {r : R2} {opf : D → D → Option D} {a b : Expr} {o o' : Opd} {pos : Pos} (ho : OpR X (compareOp op) r) (hv : VOp2 X opf r) (ha : PO' X A W a o) (hb : PO' X A W b o') (hm : behindInMarks op b = false) :
    PTD X A W (.Compare a [op] [b] pos) (eT (e2 opf o o')) := PT.imp (pt_cmpR ho ha hb hm) fun σ H Q h => op2_to (a := a) (b := b) hv σ H _ (eT_test _ σ H Q h)
theorem ptd_val {e : Expr} {f : EM D} (h : PD X A W e f) (he : ∀ whole, isTrue e X.env whole = (do let v ← whole; standAt e.pos; holding [v] (truthy v)) := by intro _; rfl) : PTD X A W e (eT f) :=
  PT.imp (pt_val h he) fun σ H Q h => eT_test _ σ H Q h
def tAndB (f g : EM Bool) : EM Bool := fun ρ => (f ρ).bind fun c ρ1 => if c = true then g ρ1 else .ok false ρ1
def tOrB (f g : EM Bool) : EM Bool := fun ρ => (f ρ).bind fun c ρ1 => if c = true then .ok true ρ1 else g ρ1
def tNotB (f : EM Bool) : EM Bool := fun ρ => (f ρ).bind fun c ρ1 => .ok (!c) ρ1
abbrev PWD (X : Cx) (A : List V) (W : WX) (e : Expr) (f : EM Bool) : Prop := PW X e (tT X.K X.mg A W f)
theorem PW.imp {e : Expr} {t t' : TT} (h : PW X e t) (i : ∀ σ H Q, t' σ H Q → t σ H Q) : PW X e t' := ⟨fun whole pins s σ H Q I q => h.run whole pins s σ H Q I (i _ _ _ q)⟩
theorem pwd_and1 {a : Expr} {f : EM Bool} {pos : Pos} (h : PTD X A W a f) : PWD X A W (.BoolOp .And [a] pos) f := pw_and1 h
theorem pwd_or1 {a : Expr} {f : EM Bool} {pos : Pos} (h : PTD X A W a f) : PWD X A W (.BoolOp .Or [a] pos) f := pw_or1 h
theorem pwd_and {a b : Expr} {rest : List Expr} {f g : EM Bool} {pos : Pos} (ha : PTD X A W a f) (hb : PWD X A W (.BoolOp .And (b :: rest) pos) g) : PWD X A W (.BoolOp .And (a :: b :: rest) pos) (tAndB f g) :=
  PW.imp (pw_and ha hb) fun σ H Q h => by
    obtain ⟨S, ρ, rfl, s, h⟩ := h
    refine tT_bind (P := PostT X.K X.mg A W Q S σ) s h (fun _ _ _ z => z) (fun z => z) fun c ρ1 S1 hp1 ev1 s1 => ?_
    cases c with
    | true => exact iteT ⟨S1, ρ1, rfl, s1, PostT.ev (show PostT X.K X.mg A W Q S σ (g ρ1) from hp1) ev1⟩
    | false => exact iteF ((show PostT X.K X.mg A W Q S σ (.ok false ρ1) from hp1) S1 ev1 s1)
theorem pwd_or {a b : Expr} {rest : List Expr} {f g : EM Bool} {pos : Pos} (ha : PTD X A W a f) (hb : PWD X A W (.BoolOp .Or (b :: rest) pos) g) : PWD X A W (.BoolOp .Or (a :: b :: rest) pos) (tOrB f g) :=
  PW.imp (pw_or ha hb) fun σ H Q h => by
    obtain ⟨S, ρ, rfl, s, h⟩ := h
    refine tT_bind (P := PostT X.K X.mg A W Q S σ) s h (fun _ _ _ z => z) (fun z => z) fun c ρ1 S1 hp1 ev1 s1 => ?_
    cases c with
    | false => exact iteF ⟨S1, ρ1, rfl, s1, PostT.ev (show PostT X.K X.mg A W Q S σ (g ρ1) from hp1) ev1⟩
    | true => exact iteT ((show PostT X.K X.mg A W Q S σ (.ok true ρ1) from hp1) S1 ev1 s1)
theorem ptd_w {e : Expr} {f : EM Bool} (h : PWD X A W e f) : PTD X A W e f := h.pt
theorem ptd_not {a : Expr} {f : EM Bool} {pos : Pos} (ha : PTD X A W a f) : PTD X A W (.UnaryOp .Not a pos) (tNotB f) := PT.imp (pt_not ha) fun σ H Q h => by
  obtain ⟨S, ρ, rfl, s, h⟩ := h
  exact tT_bind (P := PostT X.K X.mg A W Q S σ) s h (fun _ _ _ z => z) (fun z => z) fun c ρ1 S1 hp1 ev1 s1 => hp1 S1 ev1 s1
/-! ### and, or, not as values; if as a value -/
def eAnd (f g : EM D) : EM D := fun ρ => (f ρ).bind fun x ρ1 => match x with
  | .bl true => g ρ1
  | .bl false => .ok (.bl false) ρ1
  | _ => .stuck
def eOr (f g : EM D) : EM D := fun ρ => (f ρ).bind fun x ρ1 => match x with
  | .bl true => .ok (.bl true) ρ1
  | .bl false => g ρ1
  | _ => .stuck
def eNot (f : EM D) : EM D := fun ρ => (f ρ).bind fun x ρ1 => match x with
  | .bl b => .ok (.bl (!b)) ρ1
  | _ => .stuck
def eIf (c : EM Bool) (f g : EM D) : EM D := fun ρ => (c ρ).bind fun b ρ1 => if b = true then f ρ1 else g ρ1
theorem pd_one {op} {a : Expr} {f : EM D} {pos : Pos} (h : PD X A W a f) : PD X A W (.BoolOp op [a] pos) f := pe_one h
theorem pd_and {a b : Expr} {rest : List Expr} {f g : EM D} {pos : Pos} (ha : PD X A W a f) (hb : PD X A W (.BoolOp .And (b :: rest) pos) g) : PD X A W (.BoolOp .And (a :: b :: rest) pos) (eAnd f g) :=
  PE.imp (pe_and ha hb) fun σ H Q h => by
    obtain ⟨S, ρ, rfl, s, h⟩ := h
    refine tD_bind (P := PostE X.K X.mg A W Q S σ) s h (fun _ _ _ z => z) (fun z => z) fun x ρ1 S1 v hp1 ev1 s1 r1 => ?_
    cases x with
    | bl b => cases b with
      | true => exact ⟨true, r1, iteT ⟨S1, ρ1, rfl, s1, PostE.ev (show PostE X.K X.mg A W Q S σ (g ρ1) from hp1) ev1⟩⟩
      | false => exact ⟨false, r1, iteF ((show PostE X.K X.mg A W Q S σ (.ok (.bl false) ρ1) from hp1) S1 _ ev1 s1 rfl)⟩
    | _ => exact hp1.elim
theorem pd_or {a b : Expr} {rest : List Expr} {f g : EM D} {pos : Pos} (ha : PD X A W a f) (hb : PD X A W (.BoolOp .Or (b :: rest) pos) g) : PD X A W (.BoolOp .Or (a :: b :: rest) pos) (eOr f g) :=
  PE.imp (pe_or ha hb) fun σ H Q h => by
    obtain ⟨S, ρ, rfl, s, h⟩ := h
    refine tD_bind (P := PostE X.K X.mg A W Q S σ) s h (fun _ _ _ z => z) (fun z => z) fun x ρ1 S1 v hp1 ev1 s1 r1 => ?_
    cases x with
    | bl b => cases b with
      | false => exact ⟨false, r1, iteF ⟨S1, ρ1, rfl, s1, PostE.ev (show PostE X.K X.mg A W Q S σ (g ρ1) from hp1) ev1⟩⟩
      | true => exact ⟨true, r1, iteT ((show PostE X.K X.mg A W Q S σ (.ok (.bl true) ρ1) from hp1) S1 _ ev1 s1 rfl)⟩
    | _ => exact hp1.elim
theorem pd_not {a : Expr} {f : EM D} {pos : Pos} (ha : PD X A W a f) : PD X A W (.UnaryOp .Not a pos) (eNot f) :=
  PE.imp (pe_not ha) fun σ H Q h => by
    obtain ⟨S, ρ, rfl, s, h⟩ := h
    refine tD_bind (P := PostE X.K X.mg A W Q S σ) s h (fun _ _ _ z => z) (fun z => z) fun x ρ1 S1 v hp1 ev1 s1 r1 => ?_
    cases x with
    | bl b => exact ⟨b, r1, (show PostE X.K X.mg A W Q S σ (.ok (.bl (!b)) ρ1) from hp1) S1 _ ev1 s1 rfl⟩
    | _ => exact hp1.elim
theorem pd_if {c a b : Expr} {t : EM Bool} {f g : EM D} {pos : Pos} (hc : PTD X A W c t) (ha : PD X A W a f) (hb : PD X A W b g) : PD X A W (.IfExp c a b pos) (eIf t f g) :=
  PE.imp (pe_ifExp hc ha hb) fun σ H Q h => by
    obtain ⟨S, ρ, rfl, s, h⟩ := h
    refine tT_bind (P := PostE X.K X.mg A W Q S σ) s h (fun _ _ _ z => z) (fun z => z) fun c ρ1 S1 hp1 ev1 s1 => ?_
    cases c with
    | true => exact iteT ⟨S1, ρ1, rfl, s1, PostE.ev (show PostE X.K X.mg A W Q S σ (f ρ1) from hp1) ev1⟩
    | false => exact iteF ⟨S1, ρ1, rfl, s1, PostE.ev (show PostE X.K X.mg A W Q S σ (g ρ1) from hp1) ev1⟩
/-! ### statements -/
def sNx : SM := fun ρ => .nx ρ
def sSeq (f g : SM) : SM := fun ρ => match f ρ with
  | .nx ρ1 => g ρ1
  | r => r
def sRet (f : EM D) : SM := fun ρ => (f ρ).fl fun d ρ1 => .rt d ρ1
def sDrop (f : EM D) : SM := fun ρ => (f ρ).fl fun _ ρ1 => .nx ρ1
def sIf (c : EM Bool) (f g : SM) : SM := fun ρ => (c ρ).fl fun b ρ1 => if b = true then f ρ1 else g ρ1
/-- slot i holds no thing of the caller's -/
def isIo : Option Sl → Bool
  | some (.ow true _) => true
  | _ => false
def putSl (ρ : Env') (i : Nat) (s : Sl) : Fl := if isIo ρ[i]? = true then .stuck else .nx (ρ.set i s)
def sSet (i : Nat) (f : EM D) : SM := fun ρ => (f ρ).fl fun d ρ1 => putSl ρ1 i (.va d)
theorem psd_nil : PSsD X A W [] sNx := PSs.imp pss_nil fun D σ H h => by
  obtain ⟨S, ρ, rfl, s, h⟩ := h
  exact h S σ (Ev.refl S) s
theorem psd_cons {st : Stmt} {rest : List Stmt} {f g : SM} (h1 : PSD X A W st f) (h2 : PSsD X A W rest g) : PSsD X A W (st :: rest) (sSeq f g) := PSs.imp (pss_cons h1 h2) fun D σ H h => by
  obtain ⟨S, ρ, rfl, s, h⟩ := h
  refine ⟨S, ρ, rfl, s, ?_⟩
  have h' : PostS X.K X.mg A W D S (match f ρ with
    | .nx ρ1 => g ρ1
    | r => r) := h
  cases e : f ρ with
  | nx ρ1 =>
    rw [e] at h'
    exact fun S' σ' ev s' => ⟨S', ρ1, rfl, s', PostS.ev h' ev⟩
  | rt d ρ1 => rw [e] at h'; exact h'
  | bk ρ1 => rw [e] at h'; exact h'
  | ct ρ1 => rw [e] at h'; exact h'
  | er c d ρ1 => rw [e] at h'; exact h'
  | stuck => rw [e] at h'; exact h'
theorem psd_one {st : Stmt} {f : SM} (h1 : PSD X A W st f) : PSsD X A W [st] f := pss_one h1
theorem psd_pass {pos : Pos} : PSD X A W (.Pass pos) sNx := PS.imp ps_pass fun D σ H h => by
  obtain ⟨S, ρ, rfl, s, h⟩ := h
  exact h S σ (Ev.refl S) s
theorem psd_doc {x j pos pos'} : PSD X A W (.Expr (.Constant (.str x) j pos) pos') sNx := PS.imp ps_doc fun D σ H h => by
  obtain ⟨S, ρ, rfl, s, h⟩ := h
  exact h S σ (Ev.refl S) s
theorem psd_cont {pos : Pos} : PSD X A W (.Continue pos) (fun ρ => .ct ρ) := PS.imp ps_continue fun D σ H h => by
  obtain ⟨S, ρ, rfl, s, h⟩ := h
  exact h S σ (Ev.refl S) s
theorem psd_break {pos : Pos} : PSD X A W (.Break pos) (fun ρ => .bk ρ) := PS.imp ps_break fun D σ H h => by
  obtain ⟨S, ρ, rfl, s, h⟩ := h
  exact h S σ (Ev.refl S) s
theorem psd_never {st : Stmt} : PSD X A W st (fun _ => .stuck) := PS.imp ps_never fun D σ H h => by
  obtain ⟨S, ρ, rfl, s, h⟩ := h
  exact h.elim
theorem psd_ret {e : Expr} {f : EM D} {pos : Pos} (he : PD X A W e f) : PSD X A W (.Return (some e) pos) (sRet f) := PS.imp (ps_ret he) fun D σ H h => by
  obtain ⟨S, ρ, rfl, s, h⟩ := h
  exact tD_fl s h fun x ρ1 S1 v hp ev s1 r => hp S1 σ v ev s1 r
theorem psd_retN {pos : Pos} : PSD X A W (.Return none pos) (fun ρ => .rt .non ρ) := PS.imp ps_retN fun D σ H h => by
  obtain ⟨S, ρ, rfl, s, h⟩ := h
  exact h S σ .non (Ev.refl S) s rfl
theorem psd_expr {e : Expr} {f : EM D} {pos : Pos} (he : PD X A W e f) (hs : swapsWith e none pos.line X.env = pure false := by rfl) : PSD X A W (.Expr e pos) (sDrop f) := PS.imp (ps_expr he hs) fun D σ H h => by
  obtain ⟨S, ρ, rfl, s, h⟩ := h
  exact tD_fl s h fun x ρ1 S1 v hp ev s1 r => hp S1 σ ev s1
theorem psd_if {c : Expr} {a b : List Stmt} {t : EM Bool} {f g : SM} {pos : Pos} (hc : PTD X A W c t) (ha : PSsD X A W a f) (hb : PSsD X A W b g) : PSD X A W (.If c a b pos) (sIf t f g) := PS.imp (ps_if hc ha hb) fun D σ H h => by
  obtain ⟨S, ρ, rfl, s, h⟩ := h
  refine tT_fl s h fun b ρ1 S1 hp ev s1 => ?_
  cases b with
  | true => exact iteT ⟨S1, ρ1, rfl, s1, PostS.ev (show PostS X.K X.mg A W D S (f ρ1) from hp) ev⟩
  | false => exact iteF ⟨S1, ρ1, rfl, s1, PostS.ev (show PostS X.K X.mg A W D S (g ρ1) from hp) ev⟩
/-- slot i stored anew -/
theorem Sat.put {K : PySem.W.Frag} {mg : Str → Option Value} (s : Sat K mg A S σ ρ) {i : Nat} {sl : Sl} {v : Option V} {fpi : Addr → Prop} (hio : isIo ρ[i]? = false) (hn : isIo (some sl) = false) (r : SlR K mg S v sl fpi) (hO : ∀ p, fpi p → S.O p)
    (hd : ∀ fp : Nat → Addr → Prop, (∀ i s, ρ[i]? = some s → ∃ v, σ[i]? = some v ∧ SlR K mg S v s (fp i)) → (∀ i p, fp i p → S.O p) → ∀ j p, j ≠ i → fpi p → fp j p → False) : Sat K mg A S (σ.set i v) (ρ.set i sl) := by
  obtain ⟨fp, s1, s2, s3⟩ := s.sl
  have hdis := hd fp s1 s2
  refine ⟨s.sub, s.ownF, s.ownH, by simp [s.len], ⟨fun j => if j = i then fpi else fp j, fun j sl' e => ?_, fun j q h => ?_, fun j l q h1 h2 => ?_⟩, fun j o e => ?_⟩
  · by_cases hj : j = i
    · subst hj
      have hlt : j < ρ.length := by
        have := (List.getElem?_eq_some_iff.mp e).1
        simpa using this
      rw [List.getElem?_set_self hlt] at e
      cases e
      exact ⟨v, List.getElem?_set_self (by rw [s.len]; exact hlt), by
        show SlR K mg S v sl (if j = j then fpi else fp j)
        rw [if_pos rfl]
        exact r⟩
    · rw [List.getElem?_set_ne (Ne.symm hj)] at e
      obtain ⟨w, q1, q2⟩ := s1 j sl' e
      exact ⟨w, by rw [List.getElem?_set_ne (Ne.symm hj)]; exact q1, by
        show SlR K mg S w sl' (if j = i then fpi else fp j)
        rw [if_neg hj]
        exact q2⟩
  · by_cases hj : j = i
    · have h' : (if j = i then fpi else fp j) q := h
      rw [if_pos hj] at h'
      exact hO q h'
    · have h' : (if j = i then fpi else fp j) q := h
      rw [if_neg hj] at h'
      exact s2 j q h'
  · have h1' : (if j = i then fpi else fp j) q := h1
    have h2' : (if l = i then fpi else fp l) q := h2
    by_cases hj : j = i
    · by_cases hl : l = i
      · rw [hj, hl]
      · rw [if_pos hj] at h1'
        rw [if_neg hl] at h2'
        exact (hdis l q hl h1' h2').elim
    · rw [if_neg hj] at h1'
      by_cases hl : l = i
      · rw [if_pos hl] at h2'
        exact (hdis j q hj h2' h1').elim
      · rw [if_neg hl] at h2'
        exact s3 j l q h1' h2'
  · by_cases hj : j = i
    · subst hj
      have hlt : j < ρ.length := by
        have := (List.getElem?_eq_some_iff.mp e).1
        simpa using this
      rw [List.getElem?_set_self hlt] at e
      cases e
      cases hn
    · rw [List.getElem?_set_ne (Ne.symm hj)] at e ⊢
      exact s.io j o e
theorem Sat.setVa {K : PySem.W.Frag} {mg : Str → Option Value} (s : Sat K mg A S σ ρ) {i : Nat} {d : D} {v : V} (hio : isIo ρ[i]? = false) (r : RD K mg S.F d v) : Sat K mg A S (σ.set i (some v)) (ρ.set i (.va d)) :=
  s.put (fpi := fun _ => False) hio rfl ⟨v, rfl, r⟩ (fun _ z => z.elim) fun _ _ _ _ _ _ z => z.elim
theorem putSl_ok {D' : Ends} {i : Nat} {sl : Sl} (h : PostS X.K X.mg A W D' S (putSl ρ i sl)) : isIo ρ[i]? = false ∧ PostS X.K X.mg A W D' S (.nx (ρ.set i sl)) := by
  unfold putSl at h
  cases e : isIo ρ[i]? with
  | true =>
    rw [e] at h
    exact h.elim
  | false =>
    rw [e] at h
    exact ⟨rfl, h⟩
theorem psd_set (i : Nat) {x : Str} {e : Expr} {f : EM D} {pos pos' : Pos} (hN : X.N.Nodup) (he : PD X A W e f) (hi : X.N[i]? = some x := by rfl) (hx : Loc X.env.scope x := by first | exact Or.inl rfl | exact Or.inr rfl) (hs : swapsWith e (some (.Name x pos')) pos.line X.env = pure false := by rfl)
    (hf : X.fn x = true ∨ X.env.scope.names.lookup x = some .local := by first | exact .inl rfl | exact .inr rfl | assumption) : PSD X A W (.Assign [.Name x pos'] e pos) (sSet i f) := PS.imp (ps_set hN hi hx he hs hf) fun D σ H h => by
  obtain ⟨S, ρ, rfl, s, h⟩ := h
  refine tD_fl s h fun x ρ1 S1 v hp ev s1 r => ?_
  obtain ⟨h1, h2⟩ := putSl_ok hp
  exact h2 S1 _ ev (s1.setVa h1 r)
end
end DL
end

section
set_option Elab.async false
set_option linter.all false
set_option maxRecDepth 100000
/-! Promises that know that no repr is under way. -/
namespace DL
open PySem PySem.Spec PyProof.Rows L2
/-- a promise kept wherever no guard stands in the stack -/
structure FnG (P : Program) (w : World) (K : PySem.W.Frag) (mg : Str → Option Value) (base : Heap) (k : Nat) (f : Addr) (fd : FuncData) (ps : List Str) (sp : Sp) : Prop where
  len : ∀ vs H Q E, sp vs H Q E → vs.length = ps.length
  run : ∀ (B : Around) (fr : List Env) (t : Shared) (H : Hp) (gs : Args) (us : List Value) (vs : List V) (Q : VK) (E : XK), Room k B → B.guards = some [] → Env0 P w K mg base B fr t H → BindsTo t fd gs (ps.zip us) → Vals vs us → sp vs H Q E →
    codeAny (model P w) B (.call (.ref f) gs) (CR (L2.CX P w) fr P w H t Q E) t
theorem FnG.mono {P : Program} {w : World} {K : PySem.W.Frag} {mg : Str → Option Value} {base : Heap} {j k : Nat} {f : Addr} {fd : FuncData} {ps : List Str} {sp : Sp} (F : FnG P w K mg base j f fd ps sp) (h : j ≤ k) : FnG P w K mg base k f fd ps sp :=
  ⟨F.len, fun B fr t H gs us vs Q E hr => F.run B fr t H gs us vs Q E (hr.mono h)⟩
theorem FnG.imp {P : Program} {w : World} {K : PySem.W.Frag} {mg : Str → Option Value} {base : Heap} {k : Nat} {f : Addr} {fd : FuncData} {ps : List Str} {sp sp' : Sp} (F : FnG P w K mg base k f fd ps sp) (h : ∀ vs H Q E, sp' vs H Q E → sp vs H Q E) : FnG P w K mg base k f fd ps sp' :=
  ⟨fun vs H Q E q => F.len vs H Q E (h _ _ _ _ q), fun B fr t H gs us vs Q E hr hgd he hb hv hs => F.run B fr t H gs us vs Q E hr hgd he hb hv (h _ _ _ _ hs)⟩
theorem FnG.of {P : Program} {w : World} {K : PySem.W.Frag} {mg : Str → Option Value} {base : Heap} {k : Nat} {f : Addr} {fd : FuncData} {ps : List Str} {sp : Sp} (F : FnOk P w K mg base (L2.CX P w) k f fd ps sp) : FnG P w K mg base k f fd ps sp :=
  ⟨F.len, fun B fr t H gs us vs Q E hr _ => F.run B fr t H gs us vs Q E hr⟩
section
variable {P : Program} {w : World} {K : PySem.W.Frag} {mg : Str → Option Value} {base : Heap}
theorem deeper_guards {B : Around} {env : Env} : (B.deeper env).guards = B.guards := rfl
/-- the rule for a def's body -/
theorem fnG_of {k : Nat} {f : Addr} {name qual : Str} {params : Arguments} {body : List Stmt} {scope : Scope} {v1 v2 v3 v4 cdv v5 v6 : Value} {an od : Option Addr} {sl : Array (Option Value)} {N ps : List Str} {sp : Sp}
    (hK : K.lookup f = some ⟨v6, od, .func (PySem.W.fnOf name qual params body scope v1 v2 v3 v4 an cdv v5), sl⟩) (hC : PySem.W.codeIn K cdv qual = true) (S : FnScope N ps scope) (hlen : ∀ vs H Q E, sp vs H Q E → vs.length = ps.length)
    (hB : ∀ (B : Around) (fr : List Env) (t : Shared) (H : Hp) (vs : List V) (Q : VK) (E : XK), Room k (B.deeper (envOfC qual scope t.heap.objs.size f cdv)) → (B.deeper (envOfC qual scope t.heap.objs.size f cdv)).guards = some [] → sp vs H Q E →
      ∃ tr, PSs (cxOf (L2.CX P w) P w K mg base N qual scope f cdv B fr t H E) body tr ∧ tr { nx := fun _ H' => Q .non H', rt := Q } (start N vs) H) : FnG P w K mg base (k + 1) f (PySem.W.fnOf name qual params body scope v1 v2 v3 v4 an cdv v5) ps sp := by
  refine ⟨hlen, fun B fr t H gs us vs Q E room hgd ground bnd rel hs => ?_⟩
  have len1 := hlen _ _ _ _ hs
  have inK : K.In t.heap := ground.mod.kin.keeps fun c o z => (ground.bs c o z).1
  have nolim : t.heap.NoLimit := ground.mod.nolimit.keeps fun c o z => (ground.bs c o z).1
  have kinds : ∀ y ∈ ps.zip us, scope.names.lookup y.1 = some .local ∨ (scope.names.lookup y.1 = some .cell ∧ ((cellsFrom (t.heap.objs.size + 1) scope.names []).lookup y.1).isSome = true) := by
    rintro ⟨n, v⟩ hy
    rcases S.par n (List.of_mem_zip hy).1 with z | z
    · exact Or.inl z
    · exact Or.inr ⟨z, PySem.W.cellsFrom_some _ _ _ (Or.inl z)⟩
  refine codeAny_call_function room.depth (inK _ _ hK) rfl S.co S.gen rfl (PySem.W.codeRec_of inK hC) (bnd _ _ _ _ ?_)
  refine wpAny_newFunctionEnv_cells S.kind kinds fun env he t1 ic => ?_
  subst he
  refine ⟨nolim.keeps ic.toInCall.keep, codeAny_func ?_⟩
  obtain ⟨tr, htr, hq⟩ := hB B fr t H vs Q E (room.deeper _) hgd hs
  have J0 : Inv (cxOf (L2.CX P w) P w K mg base N qual scope f cdv B fr t H E) [] (start N vs) H t1 := inv_start S room.hd ground len1 rel ic
  refine wpAny_mono (htr.run [] t1 (start N vs) H _ J0 hq) (fun fl t' z => ?_) fun _ _ z => z
  have done : ∀ {τ : L2.St} {H' : Hp} {v : V} {u : Value}, Inv (cxOf (L2.CX P w) P w K mg base N qual scope f cdv B fr t H E) [] τ H' t' → RelV v u → Q v H' → CE fr P w H t Q u t' := by
    intro τ H' v u J r z
    exact ⟨v, H', J.os, J.bare, J.base, J.hok, r, z⟩
  cases fl with
  | ret u => exact let ⟨_, _, _, J, r, z'⟩ := z; done J r z'
  | next => exact let ⟨_, _, J, z'⟩ := z; done (v := V.non) (u := Value.none) J rfl z'
  | brk => exact let ⟨_, _, _, z'⟩ := z; False.elim z'
  | cont => exact let ⟨_, _, _, z'⟩ := z; False.elim z'
/-- FunD's rule -/
theorem FunD.okG {x qual : Str} {params : Arguments} {body : List Stmt} {scope : Scope} {dvs : List V} {kws : List (Str × V)} {f : Addr} {fd : FuncData} {N ps : List Str} {k : Nat} {sp : Sp} (F : FunD K x qual params body scope dvs kws f fd) (S : FnScope N ps scope) (hlen : ∀ vs H Q E, sp vs H Q E → vs.length = ps.length)
    (hB : ∀ (cdv : Value) (B : Around) (fr : List Env) (t : Shared) (H : Hp) (vs : List V) (Q : VK) (E : XK), Room k (B.deeper (envOfC qual scope t.heap.objs.size f cdv)) → (B.deeper (envOfC qual scope t.heap.objs.size f cdv)).guards = some [] → sp vs H Q E →
      ∃ tr, PSs (cxOf (L2.CX P w) P w K mg base N qual scope f cdv B fr t H E) body tr ∧ tr { nx := fun _ H' => Q .non H', rt := Q } (start N vs) H) : FnG P w K mg base (k + 1) f fd ps sp := by
  obtain ⟨_, _, _, _, _, _, _, _, _, _, rfl, hk, hc, _, _⟩ := F.ex
  exact fnG_of hk hc S hlen (hB _)
end
section
variable {X : Cx} {k : Nat} {f C : Addr} {fd : FuncData} {ps : List Str} {sp : Sp} {E : L2.St → XK} {x m : Str} {p pos apos : Pos} {e o : Expr} {es : List Expr} {ta : TE} {t : TA}
theorem run_fnG {pins : List (Addr × Obj)} {σ : L2.St} {H : Hp} {s : Shared} {Q : VK} {us : List Value} {vs : List V} {gs : Args} (F : FnG X.prog X.w X.K X.mg X.base k f fd ps sp) (hr : Room k X.A) (hgd : X.A.guards = some []) (hb : ∀ us : List Value, us.length = ps.length → BindsTo s fd gs (ps.zip us) → BindsTo s fd gs (ps.zip us)) (hx : PassesAt (L2.CX X.prog X.w) X σ (E σ))
    (I : Inv X pins σ H s) (r : Vals vs us) (hbd : BindsTo s fd gs (ps.zip us)) (h : sp vs H Q (E σ)) : codeAny (model X.prog X.w) X.A (.call (.ref f) gs) (fun r s' => match r with
      | .ok (.ret u) => EP X pins σ Q u s'
      | .ok _ => False
      | .error e => X.xe e s') s := by
  refine codeAny_mono (F.run X.A X.stack s H gs us vs Q (E σ) hr hgd I.env0 hbd r h) fun r s' z => ?_
  rcases r with e | fl
  · exact hx pins H s e s' I z
  · cases fl with
    | ret u => exact I.after z
    | next => exact z.elim
    | brk => exact z.elim
    | cont => exact z.elim
/-- f(e, ..) -/
theorem pe_callG (F : FnG X.prog X.w X.K X.mg X.base k f fd ps sp) (hr : Room k X.A) (hgd : X.A.guards = some []) (hg : Gl X x) (hm : X.mg x = some (.ref f)) (hk : PySem.W.keepIn X.K (.ref f) = true) (hb : Binds X.K fd ps []) (hx : ∀ σ, PassesAt (L2.CX X.prog X.w) X σ (E σ))
    (ha : PA X (e :: es) t) (hdb : (x == ("__debug__" : Str)) = false := by decide) (he : starEach (e :: es) X.env = (false, eval e X.env) :: starEach es X.env := by rfl) (hpl : (backTo pos (starEach es X.env)).any (·.1) = false := by rfl) : PE X (.Call (.Name x p) (e :: es) [] pos) (tCallS sp E t) := by
  constructor
  intro pins s σ H Q I h
  refine wpAny_Call_Name_kw (ld_glob I hg hm ?_ hdb)
  refine PySem.W.callWith_K (h₀ := X.base) I.ok.mod.kin hk (thn (ha.run pos pins s σ H _ I h) ?_) he hpl
  rintro us s1 ⟨vs, H1, I1, r, q⟩
  have hl : us.length = ps.length := by rw [← r.length]; exact F.len _ _ _ _ q
  have b := hb s1 us I1.kIn (by simpa using hl)
  rw [List.append_nil] at b
  refine ⟨I1.kIn, wpAny_call (codeAny_mono (run_fnG F hr hgd (fun _ _ z => z) (hx σ) I1 r b q) ?_)⟩
  intro r s' z
  rcases r with e | fl
  · exact z
  · cases fl <;> exact z
end
/-! ### the law's own call -/
theorem lawG {P : Program} {w : World} {K : PySem.W.Frag} {mg mb : Str → Option Value} {k : Nat} {fa a : Addr} {fd : FuncData} {x : Str} {sp : Sp} {t : Shared} {us : List Value} {ns : List Int}
    (inK : K.In t.heap) (hglob : t.heap.Ns mainGlobals mg) (hblt : t.heap.Ns builtinsNs mb) (hbb : ∀ y : Str, y ≠ "__name__" → mb y = bootBuiltins y) (hlim : t.heap.NoLimit) (hgen : t.gens = #[])
    (ha : t.heap.get? a = some { cls := .type "list", data := .seq us.toArray }) (hi : IntsAre us ns) (hl : ns.length ≤ sizeLine) (hr : Room k callerA)
    (F : ∀ base : Heap, K.In base → base.Ns mainGlobals mg → FnG P w K mg base k fa fd [x] sp) (hbind : ∀ (s : Shared) (u : Value), BindsTo s fd ⟨[u], []⟩ [(x, u)])
    (hsp : ∀ H : Hp, Only H → SqL K H a (ns.map V.int) → sp [.ref a] H (fun v _ => v = .bl true) fun _ _ _ => False) :
    codeAny (model P w) callerA (.call (.ref fa) ⟨[.ref a], []⟩) (fun r s' => r = .ok (.ret (.bool true)) ∧ OldK t.heap s'.heap ∧ s'.os = t.os ∧ AllBare s'.gens) t := by
  have rel := vals_ints hi
  have nsl := hi.length
  have go : ∀ G : Hp, Only G → SqL K G a (ns.map V.int) → HOk P w G t.heap → (∀ b, G b ≠ none → b = a) → (G a ≠ none → K.lookup a = none) →
      codeAny (model P w) callerA (.call (.ref fa) ⟨[.ref a], []⟩) (fun r s' => r = .ok (.ret (.bool true)) ∧ OldK t.heap s'.heap ∧ s'.os = t.os ∧ AllBare s'.gens) t := by
    intro G only sq hok oneA notK
    have only_a : ∀ {b : Addr} {u : HO}, G b = some u → b = a := fun {b u} z => oneA b (by rw [z]; simp)
    have notDict : ∀ {b : Addr} {o : Obj} {es : Array DictEntry} {ep : Nat}, t.heap.get? b = some o → o.data = .dict es ep → G b = none := by
      intro b o es ep z d
      cases q : G b with
      | none => rfl
      | some u =>
        have hb := only_a q
        rw [hb, ha] at z
        cases z
        exact nomatch (show Data.seq us.toArray _ = Data.dict es ep from d)
    have ns' : ∀ {b : Addr} {m : Str → Option Value}, t.heap.Ns b m → (hidT t.heap G).Ns b m := by
      rintro b m ⟨o, es, ep, z, d, r⟩
      exact ⟨o, es, ep, hidT_get z (notDict z d), d, r⟩
    have inB : K.In (hidT t.heap G) := by
      intro b o z
      refine hidT_get (inK b o z) ?_
      cases q : G b with
      | none => rfl
      | some u =>
        have hb := only_a q
        subst hb
        rw [notK (by rw [q]; simp)] at z
        cases z
    have md : Mod K mg (hidT t.heap G) := by
      refine ⟨inB, ns' hglob, ⟨mb, ns' hblt, hbb⟩, ?_⟩
      obtain ⟨mc, l1, l2⟩ := hlim
      exact ⟨mc, ns' l1, l2⟩
    have nof : ∀ b : Addr, b ∈ frs ([] : List Env) → False := fun b z => by simp [frs] at z
    have ground : Env0 P w K mg (hidT t.heap G) callerA [] t G := ⟨rfl, md, fun b o z => of_hidT z, Nat.le_of_eq (hidT_size _ _), trivial, fun b z => (nof b z).elim, hok, .of_eq hgen⟩
    refine codeAny_mono ((F _ inB (ns' hglob)).run callerA [] t G ⟨[.ref a], []⟩ [.ref a] [.ref a] _ _ hr rfl ground (hbind t (.ref a)) (.cons rfl .nil) (hsp G only sq)) ?_
    intro r s' z
    rcases r with e | fl
    · obtain ⟨_, _, _, _, _, _, _, _, _, _, _, _, bad⟩ := z
      exact bad.elim
    · cases fl with
      | next => exact z.elim
      | brk => exact z.elim
      | cont => exact z.elim
      | ret u =>
        obtain ⟨v, G', hos, hbare, hun, hok', hv, hq⟩ := z
        have hv' : v = .bl true := hq
        rw [hv'] at hv
        have hu : u = Value.bool true := hv
        rw [hu]
        refine ⟨rfl, OldK.of_keep ?_, hos, hbare⟩
        intro b o z
        cases q : G b with
        | none => exact hun.keep b o z q (fun y => nof b y) (by simp)
        | some u' =>
          rcases only b with y | ⟨ob, ys, y⟩
          · rw [q] at y
            cases y
          · obtain ⟨o1, _⟩ := hok b _ y
            obtain ⟨o2, _⟩ := hok' b _ (hun.frzs b ob _ y)
            rw [z] at o1
            cases o1
            exact o2
  cases hk : K.lookup a with
  | some o =>
    have z := inK a o hk
    rw [ha] at z
    cases z
    exact go (fun _ => none) (fun _ => .inl rfl) (.inr ⟨_, us.toArray, _, hk, rfl, rfl, rfl, by simpa [nsl] using hl, by simpa using rel⟩) (fun b u y => nomatch (show (none : Option HO) = some u from y)) (fun b y => absurd rfl y) fun y => absurd rfl y
  | none =>
    let o : Obj := { cls := .type "list", data := .seq us.toArray }
    let G : Hp := fun b => if b = a then some (.frz o (.lst (ns.map V.int))) else none
    have at_a : G a = some (.frz o (.lst (ns.map V.int))) := if_pos rfl
    have off : ∀ {b : Addr}, b ≠ a → G b = none := fun h => if_neg h
    refine go G ?_ (.inl (.inr ⟨o, at_a⟩)) ?_ ?_ fun _ => hk
    · intro b
      by_cases hb : b = a
      · exact .inr ⟨o, _, by rw [hb]; exact at_a⟩
      · exact .inl (off hb)
    · intro b u y
      by_cases hb : b = a
      · rw [hb] at y ⊢
        rw [at_a] at y
        cases y
        exact ⟨ha, by simpa using hl, us, _, rel, ha⟩
      · rw [off hb] at y
        cases y
    · intro b y
      exact Classical.byContradiction fun hb => y (off hb)
/-- a law's row from its promise -/
theorem walkG {l : PySem.W.OpenLaw} {n k : Nat} {q : Program} {loose : List Str} {XP : (Str → Option Value) → Heap → Prop} {YP : World → Heap → Prop} {d : DefRec} {x : Str}
    (hn : l.most = some n) (hn2 : n ≤ sizeLine) (hdf : d.params.defaults = []) (hr : Room k callerA)
    (F : ∀ (w : World) (mg : Str → Option Value) (fa : Addr) (h : Heap), YP w h → h.Ns mainGlobals mg → mg d.name = some (.ref fa) →
      ∃ (K : PySem.W.Frag) (fd : FuncData) (sp : Sp), K.In h ∧ (∀ (s : Shared) (u : Value), BindsTo s fd ⟨[u], []⟩ [(x, u)]) ∧
        (∀ (H : Hp) (a : Addr) (ns : List Int), ns.length ≤ n → (∀ z ∈ ns, Builtin.Int.intBits z ≤ 1048576) → Only H → SqL K H a (ns.map V.int) → sp [.ref a] H (fun v _ => v = .bl true) fun _ _ _ => False) ∧
        ∀ base : Heap, K.In base → base.Ns mainGlobals mg → FnG l.prog w K mg base k fa fd [x] sp) :
    PySem.W.WalkO q loose XP YP l.row.toRowW d [] (fun f vs => PySem.call f vs) := by
  refine Att.attach_callB hn hdf fun w s₀ t mg mb fa o pm cd doc a us ns G Y ho hd hcd hmg hobj hints hlen hbits hgen => ?_
  obtain ⟨K, fd, sp, inK, hb, hs, hF⟩ := F w mg fa _ Y G.T.g hmg
  exact lawG inK G.T.g G.T.b G.T.builtins G.T.nolimit hgen hobj hints (Nat.le_trans hlen hn2) hr hF hb fun H only sq => hs H a ns hlen hbits only sq
end DL
end

section
set_option Elab.async false
set_option linter.all false
set_option maxRecDepth 100000
/-! Arguments, contracts, calls. -/
namespace DL
open PySem PySem.Spec PyProof.Rows L2

def argGo : List Opd → EM (List D)
  | [] => fun ρ => .ok [] ρ
  | o :: r => fun ρ => (o.go ρ).bind fun d ρ1 => (argGo r ρ1).bind fun ds ρ2 => .ok (d :: ds) ρ2
/-- values of operands, borrowed ones read at the end -/
def argRd (ρ : Env') : List Opd → List D → Option (List D)
  | [], [] => some []
  | o :: r, d :: ds => match o.rd ρ d, argRd ρ r ds with
    | some x, some xs => some (x :: xs)
    | _, _ => none
  | _, _ => none
/-- parameters' slots for a call -/
def argSl (ρ : Env') : List Opd → List D → Option (List Sl)
  | [], [] => some []
  | o :: r, d :: ds => match argSl ρ r ds with
    | none => none
    | some xs => match o with
      | .ev _ => some (.va d :: xs)
      | .br i => match peek ρ i with
        | some x => some (.va x :: xs)
        | none => none
      | .io i => match ρ[i]? with
        | some (.ow _ o) => some (.ow true o :: xs)
        | _ => none
  | _, _ => none
section
variable (K : PySem.W.Frag) (mg : Str → Option Value) (A : List V) (W : WX)
def tArgs : List Opd → TA
  | [] => tNil
  | o :: r => tCons (tOpd K mg A W o) (tArgs r)
end
def ArgsOk (X : Cx) (A : List V) (S : Cfg) (σ : L2.St) : List V → List Opd → List D → Prop
  | [], [], [] => True
  | v :: vs, o :: os, d :: ds => OpdOk X A S σ v o d ∧ ArgsOk X A S σ vs os ds
  | _, _, _ => False
abbrev PAr (X : Cx) (A : List V) (W : WX) (es : List Expr) (os : List Opd) : Prop := PA X es (tArgs X.K X.mg A W os)
section
variable {X : Cx} {A : List V} {W : WX} {S S' : Cfg} {σ : L2.St} {ρ : Env'}
theorem par_nil : PAr X A W [] [] := pa_nil
theorem par_cons {e : Expr} {es : List Expr} {o : Opd} {os : List Opd} (ha : PO' X A W e o) (hr : PAr X A W es os) (hs : starEach (e :: es) X.env = (false, eval e X.env) :: starEach es X.env := by rfl) : PAr X A W (e :: es) (o :: os) := pa_cons ha hr hs
theorem ArgsOk.ev : ∀ {vs : List V} {os : List Opd} {ds : List D}, ArgsOk X A S σ vs os ds → Ev S S' → ArgsOk X A S' σ vs os ds
  | [], [], [], _, _ => trivial
  | _ :: _, _ :: _, _ :: _, h, e => ⟨h.1.ev e, ArgsOk.ev h.2 e⟩
  | [], _ :: _, _, h, _ => h.elim
  | [], [], _ :: _, h, _ => h.elim
  | _ :: _, [], _, h, _ => h.elim
  | _ :: _, _ :: _, [], h, _ => h.elim
theorem ArgsOk.lens : ∀ {vs : List V} {os : List Opd} {ds : List D}, ArgsOk X A S σ vs os ds → vs.length = os.length ∧ ds.length = os.length
  | [], [], [], _ => ⟨rfl, rfl⟩
  | _ :: _, _ :: _, _ :: _, h => by
    obtain ⟨a, b⟩ := ArgsOk.lens h.2
    exact ⟨by simp [a], by simp [b]⟩
  | [], _ :: _, _, h => h.elim
  | [], [], _ :: _, h => h.elim
  | _ :: _, [], _, h => h.elim
  | _ :: _, _ :: _, [], h => h.elim
theorem ArgsOk.rds : ∀ {vs : List V} {os : List Opd} {ds xs : List D}, ArgsOk X A S σ vs os ds → Sat X.K X.mg A S σ ρ → argRd ρ os ds = some xs → xs.length = vs.length ∧ ∀ (i : Nat) (x : D) (v : V), xs[i]? = some x → vs[i]? = some v → RB X.K X.mg S x v
  | [], [], [], xs, _, _, e => by
    cases e
    exact ⟨rfl, fun i x v e => by simp at e⟩
  | v :: vs, o :: os, d :: ds, xs, h, s, e => by
    unfold argRd at e
    split at e
    · rename_i x ys e1 e2
      cases e
      obtain ⟨l, k⟩ := ArgsOk.rds h.2 s e2
      refine ⟨by simp [l], fun i y u q1 q2 => ?_⟩
      cases i with
      | zero =>
        cases q1
        cases q2
        exact h.1.rb s e1
      | succ i => exact k i y u (by simpa using q1) (by simpa using q2)
    · cases e
  | [], _ :: _, _, _, h, _, _ => h.elim
  | [], [], _ :: _, _, h, _, _ => h.elim
  | _ :: _, [], _, _, h, _, _ => h.elim
  | _ :: _, _ :: _, [], _, h, _, _ => h.elim
theorem args_bind {β : Type} {P : Out β → Prop} {Q' : List V → Hp → Prop} (hst : ¬ P .stuck) : ∀ {os : List Opd} {S : Cfg} {ρ : Env'} {g : List D → Env' → Out β}, (∀ c d ρ', P (.err c d ρ') → PostX X.K X.mg A W S c d ρ') → Sat X.K X.mg A S σ ρ → P ((argGo os ρ).bind g) →
    (∀ ds ρ1 S1 vs, P (g ds ρ1) → Ev S S1 → Sat X.K X.mg A S1 σ ρ1 → ArgsOk X A S1 σ vs os ds → Q' vs S1.H) → tArgs X.K X.mg A W os σ S.H Q'
  | [], S, ρ, g, _, s, hp, k => k [] ρ S [] hp (Ev.refl S) s trivial
  | o :: os, S, ρ, g, herr, s, hp, k => by
    have hp' : P ((o.go ρ).bind fun d ρ1 => ((argGo os ρ1).bind fun ds ρ2 => g (d :: ds) ρ2)) := by
      have q : (argGo (o :: os) ρ).bind g = (o.go ρ).bind fun d ρ1 => ((argGo os ρ1).bind fun ds ρ2 => g (d :: ds) ρ2) := by
        show Out.bind ((o.go ρ).bind fun d ρ1 => (argGo os ρ1).bind fun ds ρ2 => .ok (d :: ds) ρ2) g = _
        cases o.go ρ with
        | ok d ρ1 =>
          show Out.bind ((argGo os ρ1).bind fun ds ρ2 => .ok (d :: ds) ρ2) g = _
          cases h : argGo os ρ1 with
          | ok ds ρ2 => show _ = Out.bind (argGo os ρ1) _; rw [h]; rfl
          | err c d ρ2 => show _ = Out.bind (argGo os ρ1) _; rw [h]; rfl
          | stuck => show _ = Out.bind (argGo os ρ1) _; rw [h]; rfl
        | err c d ρ1 => rfl
        | stuck => rfl
      rw [q] at hp
      exact hp
    refine opd_bind (P := P) s hp' herr hst fun d ρ1 S1 v hp1 ev1 s1 r1 => ?_
    exact args_bind hst (fun c d ρ' z => PostX.ev (herr c d ρ' z) ev1) s1 hp1 fun ds ρ2 S2 vs hp2 ev2 s2 r2 => k (d :: ds) ρ2 S2 (v :: vs) hp2 (ev1.trans ev2) s2 ⟨r1.ev ev2, r2⟩
end

/-! ### contracts -/
def ioS : Option Sl → Sl
  | some (.ow true o) => .ow true o
  | _ => .no
def outIo (n : Nat) (ρ : Env') : List Sl := (List.range n).map fun j => ioS ρ[j]?
abbrev Sem' := List Sl → Out D
/-- what a body is worth, as a def with n parameters and N names -/
def runDef (n N : Nat) (body : SM) : Sem' := fun ps => match body (ps ++ List.replicate (N - n) Sl.no) with
  | .rt d ρ => .ok d (outIo n ρ)
  | .nx ρ => .ok .non (outIo n ρ)
  | .er c d ρ => .err c d (outIo n ρ)
  | _ => .stuck
section
variable (K : PySem.W.Frag) (mg : Str → Option Value)
def PostF (Q : VK) (E : XK) (S : Cfg) (vs : List V) : Out D → Prop
  | .ok d ps' => ∀ S' v, Ev S S' → Sat K mg vs S' (vs.map some) ps' → RD K mg S'.F d v → Q v S'.H
  | .err c d ps' => ∀ S' C cd v, mg c = some (.ref C) → Ev S S' → Sat K mg vs S' (vs.map some) ps' → S'.H cd = some (.xd [(("at" : Str), v)]) → RD K mg S'.F d v → E (.ref C) (some cd) S'.H
  | .stuck => False
def spD (n : Nat) (sem : Sem') : Sp := fun vs H Q E => vs.length = n ∧ ∃ S ps, S.H = H ∧ Sat K mg vs S (vs.map some) ps ∧ PostF K mg Q E S vs (sem ps)
end
section
variable {K : PySem.W.Frag} {mg : Str → Option Value} {A : List V} {S S' : Cfg} {σ : L2.St} {ρ : Env'}
/-- the caller's things behind a body -/
theorem Sat.out {vs : List V} (s : Sat K mg vs S σ ρ) : Sat K mg vs S (vs.map some) (outIo vs.length ρ) := by
  obtain ⟨fp, s1, s2, s3⟩ := s.sl
  have get : ∀ {i : Nat} {sl : Sl}, (outIo vs.length ρ)[i]? = some sl → i < vs.length ∧ sl = ioS ρ[i]? := fun {i sl} e => by
    unfold outIo at e
    rw [List.getElem?_map] at e
    cases h : (List.range vs.length)[i]? with
    | none =>
      rw [h] at e
      cases e
    | some j =>
      rw [h] at e
      have hi := (List.getElem?_eq_some_iff.mp h)
      obtain ⟨h1, h2⟩ := hi
      rw [List.getElem_range] at h2
      subst h2
      simp only [List.length_range] at h1
      exact ⟨h1, (Option.some.inj e).symm⟩
  have own : ∀ {i : Nat} {o : Ow} {b : Bool}, i < vs.length → Sl.ow b o = ioS ρ[i]? → ρ[i]? = some (Sl.ow true o) ∧ b = true := fun {i o b} hi e => by
    cases q : ρ[i]? with
    | none =>
      rw [q] at e
      cases e
    | some s =>
      rw [q] at e
      cases s with
      | no => cases e
      | va d => cases e
      | ow c u => cases c with
        | true =>
          cases e
          exact ⟨rfl, rfl⟩
        | false => cases e
  have isF : ∀ {i : Nat} {sl : Sl}, sl = ioS ρ[i]? → sl = .no ∨ ∃ o, sl = .ow true o := fun {i sl} e => by
    cases q : ρ[i]? with
    | none =>
      rw [q] at e
      exact .inl e
    | some s =>
      rw [q] at e
      cases s with
      | no => exact .inl e
      | va d => exact .inl e
      | ow c u => cases c with
        | true => exact .inr ⟨u, e⟩
        | false => exact .inl e
  refine ⟨s.sub, s.ownF, s.ownH, by simp [outIo], ⟨fp, fun i sl e => ?_, s2, s3⟩, fun i o e => ?_⟩
  · obtain ⟨hi, e'⟩ := get e
    rcases isF e' with q | ⟨o, q⟩
    · subst q
      exact ⟨some vs[i], by rw [List.getElem?_map, List.getElem?_eq_getElem hi]; rfl, trivial⟩
    · subst q
      obtain ⟨h1, _⟩ := own hi e'
      obtain ⟨v, q1, u, q2, r⟩ := s1 i _ h1
      obtain ⟨w, z1, z2⟩ := s.io i o h1
      rw [q1, q2] at z1
      cases z1
      exact ⟨some u, by rw [List.getElem?_map, z2]; rfl, u, rfl, r⟩
  · obtain ⟨hi, e'⟩ := get e
    obtain ⟨h1, _⟩ := own hi e'
    obtain ⟨w, z1, z2⟩ := s.io i o h1
    exact ⟨w, by rw [List.getElem?_map, z2]; rfl, z2⟩
theorem Sat.start {vs : List V} {ps : List Sl} {N : List Str} (s : Sat K mg vs S (vs.map some) ps) (hl : vs.length ≤ N.length) : Sat K mg vs S (L2.start N vs) (ps ++ List.replicate (N.length - vs.length) Sl.no) := by
  obtain ⟨fp, s1, s2, s3⟩ := s.sl
  have hps : ps.length = vs.length := by
    have := s.len
    simpa using this.symm
  have hlt : ∀ {i : Nat} {sl : Sl}, (ps ++ List.replicate (N.length - vs.length) Sl.no)[i]? = some sl → i < ps.length → ps[i]? = some sl := fun {i sl} e h => by
    rw [List.getElem?_append_left h] at e
    exact e
  refine ⟨s.sub, s.ownF, s.ownH, ?_, ⟨fp, fun i sl e => ?_, s2, s3⟩, fun i o e => ?_⟩
  · unfold L2.start
    simp [hps]
  · by_cases hi : i < ps.length
    · obtain ⟨v, q1, q2⟩ := s1 i sl (hlt e hi)
      refine ⟨v, ?_, q2⟩
      unfold L2.start
      rw [List.getElem?_append_left (by simpa [hps] using hi)]
      exact q1
    · rw [List.getElem?_append_right (by omega)] at e
      have h1 := (List.getElem?_eq_some_iff.mp e)
      obtain ⟨h2, h3⟩ := h1
      rw [List.getElem_replicate] at h3
      subst h3
      simp only [List.length_replicate] at h2
      refine ⟨none, ?_, trivial⟩
      unfold L2.start
      rw [List.getElem?_append_right (by simp; omega)]
      simp only [List.length_map]
      rw [List.getElem?_replicate]
      rw [if_pos (by omega)]
  · have hi : i < ps.length := by
      refine Classical.byContradiction fun h => ?_
      rw [List.getElem?_append_right (by omega)] at e
      obtain ⟨h2, h3⟩ := List.getElem?_eq_some_iff.mp e
      rw [List.getElem_replicate] at h3
      cases h3
    obtain ⟨v, q1, q2⟩ := s.io i o (hlt e hi)
    refine ⟨v, ?_, q2⟩
    unfold L2.start
    rw [List.getElem?_append_left (by simpa [hps] using hi)]
    exact q1
end
/-- THE RULE for a def -/
theorem fnD {P : Program} {w : World} {K : PySem.W.Frag} {mg : Str → Option Value} {base : Heap} {x qual : Str} {params : Arguments} {body : List Stmt} {scope : Scope} {dvs : List V} {kws : List (Str × V)} {f : Addr} {fd : FuncData} {N ps : List Str} {k : Nat} {sm : SM}
    (F : FunD K x qual params body scope dvs kws f fd) (S : FnScope N ps scope) (hn : ps.length ≤ N.length)
    (hb : ∀ (cdv : Value) (A : Around) (outer : List Env) (s : Shared) (H : Hp) (vs : List V) (E : XK), Room k (A.deeper (envOfC qual scope s.heap.objs.size f cdv)) → (A.deeper (envOfC qual scope s.heap.objs.size f cdv)).guards = some [] →
      PSsD (cxOf (L2.CX P w) P w K mg base N qual scope f cdv A outer s H E) vs (fun cls d _ H => E cls d H) body sm) : FnG P w K mg base (k + 1) f fd ps (spD K mg ps.length (runDef ps.length N.length sm)) := by
  refine FunD.okG F S (fun vs H Q E h => h.1) (fun cdv A outer s H vs Q E hr hgd h => ⟨_, hb cdv A outer s H vs E hr hgd, ?_⟩)
  obtain ⟨hl, S, qs, rfl, sa, hq⟩ := h
  refine ⟨S, qs ++ List.replicate (N.length - ps.length) Sl.no, rfl, by rw [← hl]; exact sa.start (by rw [hl]; exact hn), ?_⟩
  unfold runDef at hq
  cases e : sm (qs ++ List.replicate (N.length - ps.length) Sl.no) with
  | rt d ρ =>
    rw [e] at hq
    exact fun S' σ' v ev s' r => hq S' v ev (by rw [← hl]; exact s'.out) r
  | nx ρ =>
    rw [e] at hq
    exact fun S' σ' ev s' => hq S' .non ev (by rw [← hl]; exact s'.out) rfl
  | er c d ρ =>
    rw [e] at hq
    exact fun S' σ' C cd v hc ev s' hcd r => hq S' C cd v hc ev (by rw [← hl]; exact s'.out) hcd r
  | bk ρ =>
    rw [e] at hq
    exact (show False from hq).elim
  | ct ρ =>
    rw [e] at hq
    exact (show False from hq).elim
  | stuck =>
    rw [e] at hq
    exact (show False from hq).elim
end DL
end

section
set_option Elab.async false
set_option linter.all false
set_option maxRecDepth 100000
/-! Calls of defs by their contracts. -/
namespace DL
open PySem PySem.Spec PyProof.Rows L2
open Classical in
/-- the configuration of the callee -/
noncomputable def subCfg (S : Cfg) (bor io : Addr → Prop) : Cfg := ⟨fun a => if bor a then S.H a else S.F a, S.H, io⟩
open Classical in
/-- back at the caller's -/
noncomputable def backCfg (S S' : Cfg) (bor io : Addr → Prop) : Cfg := ⟨fun a => if bor a then none else S'.F a, S'.H, fun a => (S.O a ∧ ¬ io a) ∨ S'.O a⟩
def iosOf : List Opd → List Nat
  | [] => []
  | .io i :: r => i :: iosOf r
  | _ :: r => iosOf r
def brsOf : List Opd → List Nat
  | [] => []
  | .br i :: r => i :: brsOf r
  | _ :: r => brsOf r
def flat : D → Bool
  | .non => true
  | .bl _ => true
  | .int _ => true
  | .str _ => true
  | _ => false
def flatO : Sl → Bool
  | .ow _ (.deal _ _) => true
  | .ow _ (.lst xs) => xs.all flat
  | .ow _ (.dK _ ds) => ds.all flat
  | .ow _ (.dT _ ds) => ds.all flat
  | .ow _ (.obj _ _ ds) => ds.all flat
  | _ => true
def back : List Opd → List Sl → Env' → Option Env'
  | [], _, ρ => some ρ
  | .io i :: os, .ow true u :: ss, ρ => match ρ[i]? with
    | some (.ow b _) => back os ss (ρ.set i (.ow b u))
    | _ => none
  | .io _ :: _, _ :: _, _ => none
  | .ev _ :: os, _ :: ss, ρ => back os ss ρ
  | .br _ :: os, _ :: ss, ρ => back os ss ρ
  | _ :: _, [], _ => none
def okArgs (os : List Opd) : Bool := decide (iosOf os).Nodup && (iosOf os).all fun i => !(brsOf os).contains i
def safe (os : List Opd) (d : D) (ps' : List Sl) : Bool := (brsOf os).isEmpty || (flat d && ps'.all flatO)
def eCallK (sem : Sem') (os : List Opd) (ds : List D) : EM D := fun ρ => match argSl ρ os ds with
  | none => .stuck
  | some ps => if okArgs os = true then (match sem ps with
    | .ok d ps' => if safe os d ps' = true then (match back os ps' ρ with
      | some ρ' => .ok d ρ'
      | none => .stuck) else .stuck
    | .err c d ps' => if safe os d ps' = true then (match back os ps' ρ with
      | some ρ' => .err c d ρ'
      | none => .stuck) else .stuck
    | .stuck => .stuck) else .stuck
def eCall (sem : Sem') (os : List Opd) : EM D := fun ρ => (argGo os ρ).bind fun ds ρ1 => eCallK sem os ds ρ1

def SlOf (ρ : Env') : Opd → D → Sl → Prop
  | .ev _, d, sl => sl = .va d
  | .br i, _, sl => ∃ x, peek ρ i = some x ∧ sl = .va x
  | .io i, _, sl => ∃ b u, ρ[i]? = some (Sl.ow b u) ∧ sl = .ow true u
theorem argSl_get {ρ : Env'} : ∀ {os : List Opd} {ds : List D} {ps : List Sl}, argSl ρ os ds = some ps → ps.length = os.length ∧ ∀ (j : Nat) (sl : Sl), ps[j]? = some sl → ∃ o d, os[j]? = some o ∧ ds[j]? = some d ∧ SlOf ρ o d sl
  | [], [], ps, e => by
    cases e
    exact ⟨rfl, fun j sl e => by simp at e⟩
  | o :: os, d :: ds, ps, e => by
    unfold argSl at e
    cases h : argSl ρ os ds with
    | none =>
      rw [h] at e
      cases e
    | some xs =>
      rw [h] at e
      obtain ⟨l, k⟩ := argSl_get h
      have fin : ∀ sl, SlOf ρ o d sl → ps = sl :: xs → ps.length = (o :: os).length ∧ ∀ (j : Nat) (sl : Sl), ps[j]? = some sl → ∃ o' d', (o :: os)[j]? = some o' ∧ (d :: ds)[j]? = some d' ∧ SlOf ρ o' d' sl := fun sl hs hp => by
        subst hp
        refine ⟨by simp [l], fun j s' e' => ?_⟩
        cases j with
        | zero =>
          cases e'
          exact ⟨o, d, rfl, rfl, hs⟩
        | succ j => exact k j s' (by simpa using e')
      cases o with
      | ev f =>
        have e' : some (Sl.va d :: xs) = some ps := e
        cases e'
        exact fin _ rfl rfl
      | br i =>
        have e' : (match peek ρ i with
          | some x => some (Sl.va x :: xs)
          | none => none) = some ps := e
        cases q : peek ρ i with
        | none =>
          rw [q] at e'
          cases e'
        | some x =>
          rw [q] at e'
          cases e'
          exact fin _ ⟨x, q, rfl⟩ rfl
      | io i =>
        have e' : (match ρ[i]? with
          | some (.ow _ o) => some (Sl.ow true o :: xs)
          | _ => none) = some ps := e
        cases q : ρ[i]? with
        | none =>
          rw [q] at e'
          cases e'
        | some x =>
          rw [q] at e'
          cases x with
          | no => cases e'
          | va d => cases e'
          | ow b u =>
            cases e'
            exact fin _ ⟨b, u, q, rfl⟩ rfl
  | [], _ :: _, _, e => by cases e
  | _ :: _, [], _, e => by cases e
theorem mem_ios : ∀ {os : List Opd} {i : Nat}, i ∈ iosOf os ↔ ∃ j : Nat, os[j]? = some (Opd.io i)
  | [], i => by simp [iosOf]
  | o :: os, i => by
    have ih := mem_ios (os := os) (i := i)
    constructor
    · intro h
      cases o with
      | io k =>
        rcases List.mem_cons.mp (show i ∈ k :: iosOf os from h) with q | q
        · exact ⟨0, by rw [q]; rfl⟩
        · obtain ⟨j, e⟩ := ih.mp q
          exact ⟨j + 1, by simpa using e⟩
      | ev f =>
        obtain ⟨j, e⟩ := ih.mp (show i ∈ iosOf os from h)
        exact ⟨j + 1, by simpa using e⟩
      | br k =>
        obtain ⟨j, e⟩ := ih.mp (show i ∈ iosOf os from h)
        exact ⟨j + 1, by simpa using e⟩
    · rintro ⟨j, e⟩
      cases j with
      | zero =>
        cases e
        exact List.mem_cons_self
      | succ j =>
        have q := ih.mpr ⟨j, by simpa using e⟩
        cases o with
        | io k => exact List.mem_cons_of_mem _ q
        | ev f => exact q
        | br k => exact q
theorem mem_brs : ∀ {os : List Opd} {i : Nat}, (∃ j : Nat, os[j]? = some (Opd.br i)) → i ∈ brsOf os
  | [], i, ⟨j, e⟩ => by simp at e
  | o :: os, i, ⟨j, e⟩ => by
    cases j with
    | zero =>
      cases e
      exact List.mem_cons_self
    | succ j =>
      have q := mem_brs (os := os) (i := i) ⟨j, by simpa using e⟩
      cases o with
      | br k => exact List.mem_cons_of_mem _ q
      | ev f => exact q
      | io k => exact q
theorem back_get : ∀ {os : List Opd} {ss : List Sl} {ρ ρ' : Env'}, (iosOf os).Nodup → back os ss ρ = some ρ' → ρ'.length = ρ.length ∧ ∀ (i : Nat) (s : Sl), ρ'[i]? = some s →
    (i ∉ iosOf os ∧ ρ[i]? = some s) ∨ ∃ (j : Nat) (b : Bool) (u u0 : Ow), os[j]? = some (Opd.io i) ∧ ss[j]? = some (Sl.ow true u) ∧ ρ[i]? = some (Sl.ow b u0) ∧ s = .ow b u
  | [], ss, ρ, ρ', _, e => by
    have e' : some ρ = some ρ' := by
      cases ss <;> exact e
    cases e'
    exact ⟨rfl, fun i s q => .inl ⟨by simp [iosOf], q⟩⟩
  | o :: os, [], ρ, ρ', _, e => by
    cases o <;> cases e
  | .ev f :: os, x :: ss, ρ, ρ', hn, e => by
    obtain ⟨l, k⟩ := back_get (os := os) (ss := ss) (ρ := ρ) (ρ' := ρ') hn e
    refine ⟨l, fun i s q => ?_⟩
    rcases k i s q with z | ⟨j, b, u, u0, z1, z2, z3, z4⟩
    · exact .inl z
    · exact .inr ⟨j + 1, b, u, u0, by simpa using z1, by simpa using z2, z3, z4⟩
  | .br f :: os, x :: ss, ρ, ρ', hn, e => by
    obtain ⟨l, k⟩ := back_get (os := os) (ss := ss) (ρ := ρ) (ρ' := ρ') hn e
    refine ⟨l, fun i s q => ?_⟩
    rcases k i s q with z | ⟨j, b, u, u0, z1, z2, z3, z4⟩
    · exact .inl z
    · exact .inr ⟨j + 1, b, u, u0, by simpa using z1, by simpa using z2, z3, z4⟩
  | .io m :: os, x :: ss, ρ, ρ', hn, e => by
    have hn' : (m :: iosOf os).Nodup := hn
    obtain ⟨hm, hn2⟩ := List.nodup_cons.mp hn'
    have bad : ∀ {P : Prop}, back (.io m :: os) (x :: ss) ρ = none → P := fun {P} z => by
      rw [e] at z
      cases z
    cases x with
    | no => exact bad rfl
    | va d => exact bad rfl
    | ow c u => cases c with
      | false => exact bad rfl
      | true =>
        have e' : (match ρ[m]? with
          | some (.ow b _) => back os ss (ρ.set m (.ow b u))
          | _ => none) = some ρ' := e
        cases q : ρ[m]? with
        | none =>
          rw [q] at e'
          cases e'
        | some y =>
          rw [q] at e'
          cases y with
          | no => cases e'
          | va d => cases e'
          | ow b u0 =>
            have e2 : back os ss (ρ.set m (.ow b u)) = some ρ' := e'
            obtain ⟨l, k⟩ := back_get hn2 e2
            refine ⟨by simpa using l, fun i s q2 => ?_⟩
            by_cases hi : i = m
            · subst hi
              rcases k i s q2 with ⟨z1, z2⟩ | ⟨j, b', u', u0', z1, z2, z3, z4⟩
              · rw [List.getElem?_set_self (List.getElem?_eq_some_iff.mp q).1] at z2
                cases z2
                exact .inr ⟨0, b, u, u0, rfl, rfl, q, rfl⟩
              · exact absurd (mem_ios.mpr ⟨j, z1⟩) hm
            · rcases k i s q2 with ⟨z1, z2⟩ | ⟨j, b', u', u0', z1, z2, z3, z4⟩
              · rw [List.getElem?_set_ne (Ne.symm hi)] at z2
                exact .inl ⟨fun h => by
                  rcases List.mem_cons.mp (show i ∈ m :: iosOf os from h) with r | r
                  · exact hi r
                  · exact z1 r, z2⟩
              · rw [List.getElem?_set_ne (Ne.symm hi)] at z3
                exact .inr ⟨j + 1, b', u', u0', by simpa using z1, by simpa using z2, z3, z4⟩
section
variable {X : Cx} {A : List V} {W : WX} {S S' : Cfg} {σ : L2.St} {ρ : Env'}
theorem ArgsOk.get : ∀ {vs : List V} {os : List Opd} {ds : List D} {j : Nat} {o : Opd} {d : D}, ArgsOk X A S σ vs os ds → os[j]? = some o → ds[j]? = some d → ∃ v, vs[j]? = some v ∧ OpdOk X A S σ v o d
  | v :: vs, o :: os, d :: ds, j, o', d', h, e1, e2 => by
    cases j with
    | zero =>
      cases e1
      cases e2
      exact ⟨v, rfl, h.1⟩
    | succ j => exact ArgsOk.get (j := j) h.2 (by simpa using e1) (by simpa using e2)
  | [], [], [], j, _, _, _, e1, _ => by simp at e1
  | [], _ :: _, _, _, _, _, h, _, _ => h.elim
  | [], [], _ :: _, _, _, _, h, _, _ => h.elim
  | _ :: _, [], _, _, _, _, h, _, _ => h.elim
  | _ :: _, _ :: _, [], _, _, _, h, _, _ => h.elim
theorem OwR.wide {K : PySem.W.Frag} {mg : Str → Option Value} {v : V} {o : Ow} {fp fp' : Addr → Prop} (h : OwR K mg S v o fp) (k : ∀ p, fp p → fp' p) : OwR K mg S v o fp' := by
  cases o with
  | lst xs =>
    obtain ⟨p, vs, h1, h2, h3, h4⟩ := h
    exact ⟨p, vs, h1, h2, h3, k _ h4⟩
  | dK ks ds =>
    obtain ⟨p, vs, h1, h2, h3, h4, h5⟩ := h
    exact ⟨p, vs, h1, h2, h3, h4, k _ h5⟩
  | dT ks ds =>
    obtain ⟨p, vs, h1, h2, h3, h4, h5⟩ := h
    exact ⟨p, vs, h1, h2, h3, h4, k _ h5⟩
  | deal L b =>
    obtain ⟨p, q, h1, h2, h3, h4, h5, h6⟩ := h
    exact ⟨p, q, h1, h2, h3, h4, k _ h5, k _ h6⟩
  | obj c ns ds =>
    obtain ⟨p, C, dx, vs, h1, h2, h3, h4, h5, h6⟩ := h
    exact ⟨p, C, dx, vs, h1, h2, h3, h4, h5, k _ h6⟩
theorem SlR.wide {K : PySem.W.Frag} {mg : Str → Option Value} {v : Option V} {s : Sl} {fp fp' : Addr → Prop} (h : SlR K mg S v s fp) (k : ∀ p, fp p → fp' p) : SlR K mg S v s fp' := by
  cases s with
  | no => trivial
  | va d => exact h
  | ow b o =>
    obtain ⟨u, h1, h2⟩ := h
    exact ⟨u, h1, h2.wide k⟩
theorem flat_rd {K : PySem.W.Frag} {mg : Str → Option Value} {F F' : Hp} {d : D} {v : V} (hf : flat d = true) (h : RD K mg F d v) : RD K mg F' d v := by
  cases d with
  | non => exact h
  | bl b => exact h
  | int i => exact h
  | str x => exact h
  | _ => cases hf
theorem flat_rds {K : PySem.W.Frag} {mg : Str → Option Value} {F F' : Hp} : ∀ {ds : List D} {vs : List V}, ds.all flat = true → RDs K mg F ds vs → RDs K mg F' ds vs
  | [], _, _, h => h
  | d :: ds, vs, hf, ⟨v, r, h1, h2, h3⟩ => by
    simp only [List.all_cons, Bool.and_eq_true] at hf
    exact ⟨v, r, h1, flat_rd hf.1 h2, flat_rds hf.2 h3⟩
/-- a call's way there and back -/
theorem call_sp {n : Nat} {sem : Sem'} {Q : VK} {os : List Opd} {ds : List D} {vs : List V} (hn : os.length = n) (s : Sat X.K X.mg A S σ ρ) (ha : ArgsOk X A S σ vs os ds) (h : PostE X.K X.mg A W Q S σ (eCallK sem os ds ρ)) : spD X.K X.mg n sem vs S.H Q (WE W σ) := by
  classical
  unfold eCallK at h
  cases hs : argSl ρ os ds with
  | none =>
    rw [hs] at h
    exact h.elim
  | some ps =>
    rw [hs] at h
    cases ho : okArgs os with
    | false =>
      simp only [ho] at h
      exact (show False from h).elim
    | true =>
      simp only [ho, if_true] at h
      obtain ⟨fp, s1, s2, s3⟩ := s.sl
      obtain ⟨hl, hget⟩ := argSl_get hs
      obtain ⟨hvl, hdl⟩ := ha.lens
      have hok : (iosOf os).Nodup ∧ ∀ i ∈ iosOf os, i ∉ brsOf os := by
        unfold okArgs at ho
        simp only [Bool.and_eq_true, decide_eq_true_eq, List.all_eq_true, Bool.not_eq_true', List.contains_eq_mem] at ho
        exact ⟨ho.1, fun i hi z => by simpa [z] using ho.2 i hi⟩
      let bor : Addr → Prop := fun a => ∃ (i j : Nat), os[j]? = some (Opd.br i) ∧ fp i a
      let io : Addr → Prop := fun a => ∃ (i j : Nat), os[j]? = some (Opd.io i) ∧ fp i a
      have borO : ∀ a, bor a → S.O a := fun a ⟨i, j, _, h2⟩ => s2 i a h2
      have ioO : ∀ a, io a → S.O a := fun a ⟨i, j, _, h2⟩ => s2 i a h2
      have dis : ∀ a, io a → ¬ bor a := fun a ⟨i, j, e1, h1⟩ ⟨i', j', e2, h2⟩ => by
        have e := s3 i i' a h1 h2
        subst e
        exact hok.2 i (mem_ios.mpr ⟨j, e1⟩) (mem_brs ⟨j', e2⟩)
      let Sc := subCfg S bor io
      have hF : ∀ a, Sc.F a = if bor a then S.H a else S.F a := fun _ => rfl
      have sF : Same S.F Sc.F := fun a o e => by
        rw [hF]
        by_cases q : bor a
        · have z := s.ownF a (borO a q)
          rw [z] at e
          cases e
        · rw [if_neg q]
          exact e
      have satc : Sat X.K X.mg vs Sc (vs.map some) ps := by
        refine ⟨fun a o e => ?_, fun p hp => ?_, fun p hp => s.ownH p (ioO p hp), by simp [hvl, hl], ⟨fun j a => ∃ i : Nat, os[j]? = some (Opd.io i) ∧ fp i a, fun j sl e => ?_, fun j a ⟨i, e, h1⟩ => ⟨i, j, e, h1⟩, fun j l a ⟨i, e1, h1⟩ ⟨i', e2, h2⟩ => ?_⟩, fun j o e => ?_⟩
        · rw [hF] at e
          by_cases q : bor a
          · rw [if_pos q] at e
            exact e
          · rw [if_neg q] at e
            exact s.sub a o e
        · rw [hF, if_neg (dis p hp)]
          exact s.ownF p (ioO p hp)
        · obtain ⟨o, d, e1, e2, hso⟩ := hget j sl e
          obtain ⟨v, e3, hv⟩ := ha.get e1 e2
          refine ⟨some v, by rw [List.getElem?_map, e3]; rfl, ?_⟩
          cases o with
          | ev f =>
            have q : sl = .va d := hso
            subst q
            exact ⟨v, rfl, RD.mono sF hv⟩
          | br i =>
            obtain ⟨x, q1, q2⟩ := hso
            subst q2
            refine ⟨v, rfl, ?_⟩
            have hv' : σ[i]? = some (some v) := hv
            unfold peek at q1
            split at q1
            · rename_i h2
              cases q1
              obtain ⟨w, z1, z2⟩ := s.va h2
              rw [hv'] at z1
              cases z1
              exact z2.mono sF
            · rename_i h2
              obtain ⟨w, z1, u, z2, r⟩ := s1 i _ h2
              rw [hv', z2] at z1
              cases z1
              obtain ⟨p, hho, r1, r2, r3, r4⟩ := r.freeze q1
              refine r4 _ sF ?_
              rw [hF, if_pos ⟨i, j, e1, r3⟩]
              exact r2
            · cases q1
          | io i =>
            obtain ⟨b, u, q1, q2⟩ := hso
            subst q2
            have hv' : σ[i]? = some (some v) := hv
            obtain ⟨w, z1, u', z2, r⟩ := s1 i _ q1
            rw [hv', z2] at z1
            cases z1
            exact ⟨_, rfl, (r.grow sF fun _ _ _ z => z).wide fun p hp => ⟨i, e1, hp⟩⟩
        · have e := s3 i i' a h1 h2
          subst e
          refine Classical.byContradiction fun hne => ?_
          have key : ∀ {os : List Opd} {j l : Nat}, (iosOf os).Nodup → os[j]? = some (Opd.io i) → os[l]? = some (Opd.io i) → j = l := by
            intro os
            induction os with
            | nil =>
              intro j l _ e1 _
              simp at e1
            | cons o os ih =>
              intro j l hn e1 e2
              cases j with
              | zero =>
                cases l with
                | zero => rfl
                | succ l =>
                  cases e1
                  exact absurd (mem_ios.mpr ⟨l, by simpa using e2⟩) (List.nodup_cons.mp (show (i :: iosOf os).Nodup from hn)).1
              | succ j =>
                cases l with
                | zero =>
                  cases e2
                  exact absurd (mem_ios.mpr ⟨j, by simpa using e1⟩) (List.nodup_cons.mp (show (i :: iosOf os).Nodup from hn)).1
                | succ l =>
                  have hn' : (iosOf os).Nodup := by
                    cases o with
                    | io k => exact (List.nodup_cons.mp (show (k :: iosOf os).Nodup from hn)).2
                    | ev f => exact hn
                    | br k => exact hn
                  exact congrArg (· + 1) (ih (j := j) (l := l) hn' (by simpa using e1) (by simpa using e2))
          exact hne (key hok.1 e1 e2)
        · obtain ⟨o', d, e1, e2, hso⟩ := hget j _ e
          obtain ⟨v, e3, hv⟩ := ha.get e1 e2
          exact ⟨v, by rw [List.getElem?_map, e3]; rfl, e3⟩
      have bk : ∀ S' ps' ρ', Ev Sc S' → Sat X.K X.mg vs S' (vs.map some) ps' → back os ps' ρ = some ρ' → ((brsOf os).isEmpty = true ∨ ps'.all flatO = true) → ∃ S2 : Cfg, S2.H = S'.H ∧ Ev S S2 ∧ Sat X.K X.mg A S2 σ ρ' ∧ ((brsOf os).isEmpty = true → Same S'.F S2.F) := fun S' ps' ρ' ev s' hb hsafe => by
        obtain ⟨fq, t1, t2, t3⟩ := s'.sl
        obtain ⟨bl, bg⟩ := back_get hok.1 hb
        have hF2 : ∀ a, (backCfg S S' bor io).F a = if bor a then none else S'.F a := fun _ => rfl
        have noB : (brsOf os).isEmpty = true → ∀ a, ¬ bor a := fun hz a ⟨i, j, e1, _⟩ => by
          have m := mem_brs ⟨j, e1⟩
          cases hq : brsOf os with
          | nil =>
            rw [hq] at m
            cases m
          | cons a b =>
            rw [hq] at hz
            cases hz
        have sF2 : Same S.F (backCfg S S' bor io).F := fun a o e => by
          have nb : ¬ bor a := fun q => by
            rw [s.ownF a (borO a q)] at e
            cases e
          rw [hF2, if_neg nb]
          exact ev.frz a o (sF a o e)
        refine ⟨backCfg S S' bor io, rfl, ⟨fun a o e n => ev.same a o e fun q => n (ioO a q), sF2, fun a o e n => ?_, fun p hp => ?_, ev.there⟩, ⟨fun a o e => ?_, fun p hp => ?_, fun p hp => ?_, by rw [bl]; exact s.len, ⟨fun i a => (i ∉ iosOf os ∧ fp i a) ∨ ∃ j : Nat, os[j]? = some (Opd.io i) ∧ fq j a, fun i sl e => ?_, fun i p hp => ?_, fun i l p h1 h2 => ?_⟩, fun i o e => ?_⟩, fun hz a o e => ?_⟩
        · have nb : ¬ bor a := fun q => n (borO a q)
          rw [hF2, if_neg nb, ev.newF a o e fun q => n (ioO a q), hF, if_neg nb]
        · rcases hp with hp | hp
          · exact .inl hp.1
          · rcases ev.own p hp with q | q
            · exact .inl (ioO p q)
            · exact .inr q
        · rw [hF2] at e
          by_cases q : bor a
          · rw [if_pos q] at e
            cases e
          · rw [if_neg q] at e
            exact s'.sub a o e
        · rw [hF2]
          by_cases q : bor p
          · rw [if_pos q]
          · rw [if_neg q]
            rcases hp with hp | hp
            · obtain ⟨o, e⟩ := s.ownH p hp.1
              rw [ev.newF p o e hp.2, hF, if_neg q]
              exact s.ownF p hp.1
            · exact s'.ownF p hp
        · rcases hp with hp | hp
          · obtain ⟨o, e⟩ := s.ownH p hp.1
            exact ⟨o, ev.same p o e hp.2⟩
          · exact s'.ownH p hp
        · rcases bg i sl e with ⟨z1, z2⟩ | ⟨j, b, u, u0, z1, z2, z3, z4⟩
          · obtain ⟨v, q1, q2⟩ := s1 i sl z2
            refine ⟨v, q1, ((q2.grow sF2 fun p o hp hh => ev.same p o hh fun ⟨i', j', e', hp'⟩ => ?_)).wide fun p hp => .inl ⟨z1, hp⟩⟩
            have ee := s3 i i' p hp hp'
            subst ee
            exact z1 (mem_ios.mpr ⟨j', e'⟩)
          · subst z4
            obtain ⟨v, q1, w, q2, r⟩ := t1 j _ z2
            subst q2
            obtain ⟨v0, y1, w0, y2, _⟩ := s1 i _ z3
            have ej : ∃ d, ds[j]? = some d := by
              have : j < os.length := (List.getElem?_eq_some_iff.mp z1).1
              exact ⟨ds[j]'(by omega), List.getElem?_eq_getElem _⟩
            obtain ⟨d, ed⟩ := ej
            obtain ⟨v1, x1, x2⟩ := ha.get z1 ed
            have x2' : σ[i]? = some (some v1) := x2
            rw [List.getElem?_map, x1] at q1
            have hw : v1 = w := by
              have := Option.some.inj q1
              exact Option.some.inj this
            subst hw
            refine ⟨some v1, x2', v1, rfl, ?_⟩
            have fin : OwR X.K X.mg (backCfg S S' bor io) v1 u (fq j) := by
              rcases hsafe with hz | hz
              · refine r.grow (S' := backCfg S S' bor io) (fun a o e => ?_) fun _ _ _ z => z
                rw [hF2, if_neg (noB hz a)]
                exact e
              · have hfl : flatO (Sl.ow true u) = true := List.all_eq_true.mp hz _ (List.mem_of_getElem? z2)
                cases u with
                | lst xs =>
                  obtain ⟨p, us, r1, r2, r3, r4⟩ := r
                  exact ⟨p, us, r1, r2, flat_rds hfl r3, r4⟩
                | dK ks xs =>
                  obtain ⟨p, us, r1, r2, r3, r4, r5⟩ := r
                  exact ⟨p, us, r1, r2, r3, flat_rds hfl r4, r5⟩
                | dT ks xs =>
                  obtain ⟨p, us, r1, r2, r3, r4, r5⟩ := r
                  exact ⟨p, us, r1, r2, r3, flat_rds hfl r4, r5⟩
                | deal L b =>
                  obtain ⟨p, q, r1, r2, r3, r4, r5, r6⟩ := r
                  exact ⟨p, q, r1, r2, r3, r4, r5, r6⟩
                | obj c ns xs =>
                  obtain ⟨p, C, dx, us, r1, r2, r3, r4, r5, r6⟩ := r
                  exact ⟨p, C, dx, us, r1, r2, r3, r4, flat_rds hfl r5, r6⟩
            exact fin.wide fun p hp => .inr ⟨j, z1, hp⟩
        · rcases hp with ⟨z1, z2⟩ | ⟨j, z1, z2⟩
          · refine .inl ⟨s2 i p z2, fun ⟨i', j', e', hp'⟩ => ?_⟩
            have ee := s3 i i' p z2 hp'
            subst ee
            exact z1 (mem_ios.mpr ⟨j', e'⟩)
          · exact .inr (t2 j p z2)
        · have mix : ∀ {i l : Nat}, (i ∉ iosOf os ∧ fp i p) → (∃ j : Nat, os[j]? = some (Opd.io l) ∧ fq j p) → False := fun {i l} ⟨z1, z2⟩ ⟨j, z3, z4⟩ => by
            obtain ⟨o, e⟩ := s.ownH p (s2 i p z2)
            rcases ev.own p (t2 j p z4) with ⟨i', j', e', hp'⟩ | q
            · have ee := s3 i i' p z2 hp'
              subst ee
              exact z1 (mem_ios.mpr ⟨j', e'⟩)
            · have q' : S.H p = none := q
              rw [e] at q'
              cases q'
          rcases h1 with h1 | h1
          · rcases h2 with h2 | h2
            · exact s3 i l p h1.2 h2.2
            · exact (mix h1 h2).elim
          · rcases h2 with h2 | h2
            · exact (mix h2 h1).elim
            · obtain ⟨j, e1, q1⟩ := h1
              obtain ⟨j', e2, q2⟩ := h2
              have ej := t3 j j' p q1 q2
              subst ej
              rw [e1] at e2
              cases e2
              rfl
        · rcases bg i _ e with ⟨z1, z2⟩ | ⟨j, b, u, u0, z1, z2, z3, z4⟩
          · exact s.io i o z2
          · cases z4
            exact s.io i _ z3
        · rw [hF2, if_neg (noB hz a)]
          exact e
      refine ⟨by omega, Sc, ps, rfl, satc, ?_⟩
      cases hr : sem ps with
      | ok d ps' =>
        rw [hr] at h
        intro S' v ev s' r
        cases hsf : safe os d ps' with
        | false =>
          simp only [hsf] at h
          exact (show False from h).elim
        | true =>
          simp only [hsf, if_true] at h
          cases hb : back os ps' ρ with
          | none =>
            rw [hb] at h
            exact (show False from h).elim
          | some ρ' =>
            rw [hb] at h
            unfold safe at hsf
            simp only [Bool.or_eq_true, Bool.and_eq_true] at hsf
            obtain ⟨S2, e2, ev2, sat2, hF⟩ := bk S' ps' ρ' ev s' hb (hsf.imp id fun z => z.2)
            rw [← e2]
            refine h S2 v ev2 sat2 ?_
            rcases hsf with z | z
            · exact r.mono (hF z)
            · exact flat_rd z.1 r
      | err c d ps' =>
        rw [hr] at h
        intro S' C cd v hc ev s' hcd r
        cases hsf : safe os d ps' with
        | false =>
          simp only [hsf] at h
          exact (show False from h).elim
        | true =>
          simp only [hsf, if_true] at h
          cases hb : back os ps' ρ with
          | none =>
            rw [hb] at h
            exact (show False from h).elim
          | some ρ' =>
            rw [hb] at h
            unfold safe at hsf
            simp only [Bool.or_eq_true, Bool.and_eq_true] at hsf
            obtain ⟨S2, e2, ev2, sat2, hF⟩ := bk S' ps' ρ' ev s' hb (hsf.imp id fun z => z.2)
            show W (.ref C) (some cd) σ S'.H
            rw [← e2]
            refine h S2 σ C cd v hc ev2 sat2 (by rw [e2]; exact hcd) ?_
            rcases hsf with z | z
            · exact r.mono (hF z)
            · exact flat_rd z.1 r
      | stuck =>
        rw [hr] at h
        exact (show False from h).elim
/-- f(e, ..) -/
theorem pd_call {k n : Nat} {f : Addr} {fd : FuncData} {ps : List Str} {sem : Sem'} {x : Str} {p pos : Pos} {e : Expr} {es : List Expr} {os : List Opd} (F : FnG X.prog X.w X.K X.mg X.base k f fd ps (spD X.K X.mg n sem)) (hr : Room k X.A) (hgd : X.A.guards = some []) (hg : Gl X x) (hm : X.mg x = some (.ref f))
    (hk : PySem.W.keepIn X.K (.ref f) = true) (hb : Binds X.K fd ps []) (tk : Takes X W) (hn : os.length = n) (ha : PAr X A W (e :: es) os) (hdb : (x == ("__debug__" : Str)) = false := by decide)
    (he : starEach (e :: es) X.env = (false, eval e X.env) :: starEach es X.env := by rfl) (hpl : (backTo pos (starEach es X.env)).any (·.1) = false := by rfl) : PD X A W (.Call (.Name x p) (e :: es) [] pos) (eCall sem os) := by
  refine PE.imp (pe_callG F hr hgd hg hm hk hb (fun σ => passAt tk σ) ha hdb he hpl) fun σ H Q h => ?_
  obtain ⟨S, ρ, rfl, s, h⟩ := h
  refine args_bind (P := PostE X.K X.mg A W Q S σ) (fun z => z) (fun _ _ _ z => z) s h fun ds ρ1 S1 vs hp ev s1 ok => ?_
  exact call_sp hn s1 ok (PostE.ev hp ev)
end
end DL
end

section
set_option Elab.async false
set_option linter.all false
set_option maxRecDepth 100000
/-! New lists, displays, owned lists. -/
namespace DL
open PySem PySem.Spec PyProof.Rows L2
section
variable (K : PySem.W.Frag) (mg : Str → Option Value) (A : List V) (W : WX)
/-- a new list -/
def PostL (Q : VK) (S : Cfg) (σ : L2.St) : Out (List D) → Prop
  | .ok xs ρ' => ∀ S' p vs, Ev S S' → Sat K mg A S' σ ρ' → RDs K mg S'.F xs vs → S'.H p = some (.lst vs) → S'.F p = none → ¬ S'.O p → S.H p = none → Q (.ref p) S'.H
  | .err c d ρ' => PostX K mg A W S c d ρ'
  | .stuck => False
def tL (f : EM (List D)) : TE := fun σ H Q => ∃ S ρ, S.H = H ∧ Sat K mg A S σ ρ ∧ PostL K mg A W Q S σ (f ρ)
end
abbrev PL (X : Cx) (A : List V) (W : WX) (e : Expr) (f : EM (List D)) : Prop := PE X e (tL X.K X.mg A W f)
def eL (f : EM (List D)) : EM D := fun ρ => (f ρ).bind fun xs ρ1 => .ok (.lst xs) ρ1
section
variable {X : Cx} {A : List V} {W : WX} {S S' : Cfg} {σ : L2.St} {ρ : Env'}
/-- a thing laid apart becomes frozen -/
theorem Sat.fzRaw {K : PySem.W.Frag} {mg : Str → Option Value} (s : Sat K mg A S σ ρ) {p : Addr} {o : HO} (hp : S.H p = some o) (hF : S.F p = none) (hO : ¬ S.O p) : Sat K mg A ⟨upd S.F p o, S.H, S.O⟩ σ ρ := by
  obtain ⟨fp, s1, s2, s3⟩ := s.sl
  have sF : Same S.F (upd S.F p o) := same_upd hF
  refine ⟨fun a u e => ?_, fun q h => ?_, s.ownH, s.len, ⟨fp, fun i sl e => ?_, s2, s3⟩, s.io⟩
  · have e' : upd S.F p o a = some u := e
    by_cases q : a = p
    · subst q
      rw [upd_same] at e'
      cases e'
      exact hp
    · rw [upd_ne q] at e'
      exact s.sub a u e'
  · show upd S.F p o q = none
    rw [upd_ne (fun z : q = p => hO (by rw [← z]; exact h))]
    exact s.ownF q h
  · obtain ⟨v, q1, q2⟩ := s1 i sl e
    exact ⟨v, q1, q2.grow sF fun _ _ _ z => z⟩
theorem Ev.fzRaw {S0 : Cfg} (e : Ev S0 S) {p : Addr} {o : HO} (hF : S.F p = none) (h0 : S0.H p = none) : Ev S0 ⟨upd S.F p o, S.H, S.O⟩ :=
  ⟨e.same, fun a u q => same_upd hF a u (e.frz a u q), fun a u q n => by
    show upd S.F p o a = S0.F a
    rw [upd_ne (ne_of_none q h0)]
    exact e.newF a u q n, e.own, e.there⟩
theorem pl_pd {e : Expr} {f : EM (List D)} (h : PL X A W e f) : PD X A W e (eL f) := PE.imp h fun σ H Q h => by
  obtain ⟨S, ρ, rfl, s, h⟩ := h
  refine ⟨S, ρ, rfl, s, ?_⟩
  have h' : PostE X.K X.mg A W Q S σ ((f ρ).bind fun xs ρ1 => .ok (.lst xs) ρ1) := h
  cases e : f ρ with
  | ok xs ρ' =>
    rw [e] at h'
    intro S' p vs ev s' r hp hF hO h0
    exact h' ⟨upd S'.F p (.lst vs), S'.H, S'.O⟩ (.ref p) (ev.fzRaw hF h0) (s'.fzRaw hp hF hO) ⟨p, vs, rfl, upd_same, r.mono (same_upd hF)⟩
  | err c d ρ' =>
    rw [e] at h'
    exact h'
  | stuck =>
    rw [e] at h'
    exact h'
theorem ArgsOk.rdsEv : ∀ {vs : List V} {fs : List (EM D)} {ds : List D}, ArgsOk X A S σ vs (fs.map Opd.ev) ds → RDs X.K X.mg S.F ds vs
  | [], [], [], _ => rfl
  | v :: vs, f :: fs, d :: ds, h => ⟨v, vs, rfl, h.1, ArgsOk.rdsEv h.2⟩
  | [], _ :: _, _, h => h.elim
  | [], [], _ :: _, h => h.elim
  | _ :: _, [], _, h => h.elim
  | _ :: _, _ :: _, [], h => h.elim
/-- a new object laid at a free place -/
theorem laid {K : PySem.W.Frag} {mg : Str → Option Value} {Q : VK} {S0 S : Cfg} {xs : List D} {vs : List V} (ev : Ev S0 S) (s : Sat K mg A S σ ρ) (r : RDs K mg S.F xs vs) (h : PostL K mg A W Q S0 σ (.ok xs ρ)) (p : Addr) (hp : S.H p = none) : Q (.ref p) (upd S.H p (.lst vs)) := by
  have g : Gr S (S.raw p (.lst vs)) := .raw s.sub hp
  exact h (S.raw p (.lst vs)) p vs (ev.trans g.ev) (s.gr g) r upd_same (none_sub s.sub hp) (fun q => by
    obtain ⟨o, e⟩ := s.ownH p q
    rw [hp] at e
    cases e) (ev.nil hp)
theorem PostL.err {K : PySem.W.Frag} {mg : Str → Option Value} {Q : VK} {c : Str} {d : D} {ρ' : Env'} (h : PostL K mg A W Q S σ (.err c d ρ')) : PostX K mg A W S c d ρ' := h
/-- [e, ..] -/
theorem pl_disp {es : List Expr} {fs : List (EM D)} {pos : Pos} (ha : PAr X A W es (fs.map Opd.ev)) (hn : fs.length ≤ 1000) : PL X A W (.List es pos) (argGo (fs.map Opd.ev)) := PE.imp (pe_lst ha) fun σ H Q h => by
  obtain ⟨S, ρ, rfl, s, h⟩ := h
  refine args_bind (P := fun r => PostL X.K X.mg A W Q S σ (r.bind fun ds ρ1 => .ok ds ρ1)) (g := fun ds ρ1 => .ok ds ρ1) (fun z => z) (fun _ _ _ z => z) s ?_ fun ds ρ1 S1 vs hp ev s1 ok => ?_
  · cases e : argGo (fs.map Opd.ev) ρ with
    | ok ds ρ1 =>
      rw [e] at h
      exact h
    | err c d ρ1 =>
      rw [e] at h
      exact h
    | stuck =>
      rw [e] at h
      exact h
  · refine ⟨?_, fun p np => laid ev s1 ok.rdsEv hp p np⟩
    rw [(ok.lens).1, List.length_map]
    exact Nat.le_of_lt (small1000 hn)
def eTup (fs : List (EM D)) : EM D := fun ρ => (argGo (fs.map Opd.ev) ρ).bind fun ds ρ1 => .ok (.tup ds) ρ1
theorem pd_tup {x1} {es : List Expr} {fs : List (EM D)} {pos : Pos} (ha : PAr X A W es (fs.map Opd.ev)) (hn : fs.length ≤ 1000) : PD X A W (.Tuple es x1 pos) (eTup fs) := PE.imp (pe_tup ha) fun σ H Q h => by
  obtain ⟨S, ρ, rfl, s, h⟩ := h
  refine args_bind (P := PostE X.K X.mg A W Q S σ) (fun z => z) (fun _ _ _ z => z) s h fun ds ρ1 S1 vs hp ev s1 ok => ?_
  refine ⟨?_, fun p np => ?_⟩
  · rw [(ok.lens).1, List.length_map]
    exact Nat.le_of_lt (small1000 hn)
  · have g : Gr S1 (S1.fz p (.tup vs)) := .fz s1.sub np
    exact hp (S1.fz p (.tup vs)) (.ref p) (ev.trans g.ev) (s1.gr g) ⟨p, vs, rfl, SqT.of upd_same, ok.rdsEv.mono g.F⟩

/-! ### owned lists -/
/-- x = a new list that the body owns -/
def sOwn (i : Nat) (f : EM (List D)) : SM := fun ρ => (f ρ).fl fun xs ρ1 => putSl ρ1 i (.ow false (.lst xs))
theorem Sat.own {K : PySem.W.Frag} {mg : Str → Option Value} (s : Sat K mg A S σ ρ) {i : Nat} {p : Addr} {o : Ow} {ho : HO} (hio : isIo ρ[i]? = false) (hp : S.H p = some ho) (hF : S.F p = none) (hO : ¬ S.O p)
    (r : OwR K mg ⟨S.F, S.H, fun a => S.O a ∨ a = p⟩ (.ref p) o (fun a => a = p)) : Sat K mg A ⟨S.F, S.H, fun a => S.O a ∨ a = p⟩ (σ.set i (some (.ref p))) (ρ.set i (.ow false o)) := by
  obtain ⟨fp, s1, s2, s3⟩ := s.sl
  refine ⟨s.sub, fun q h => ?_, fun q h => ?_, by simp [s.len], ⟨fun j a => if j = i then a = p else fp j a, fun j sl e => ?_, fun j q h => ?_, fun j l q h1 h2 => ?_⟩, fun j u e => ?_⟩
  · rcases h with h | h
    · exact s.ownF q h
    · rw [h]
      exact hF
  · rcases h with h | h
    · exact s.ownH q h
    · rw [h]
      exact ⟨ho, hp⟩
  · by_cases hj : j = i
    · subst hj
      have hlt : j < ρ.length := by
        have := (List.getElem?_eq_some_iff.mp e).1
        simpa using this
      rw [List.getElem?_set_self hlt] at e
      cases e
      refine ⟨some (.ref p), List.getElem?_set_self (by rw [s.len]; exact hlt), .ref p, rfl, r.wide fun a ha => ?_⟩
      show if j = j then a = p else fp j a
      rw [if_pos rfl]
      exact ha
    · rw [List.getElem?_set_ne (Ne.symm hj)] at e
      obtain ⟨w, q1, q2⟩ := s1 j sl e
      refine ⟨w, by rw [List.getElem?_set_ne (Ne.symm hj)]; exact q1, (q2.grow (S' := ⟨S.F, S.H, fun a => S.O a ∨ a = p⟩) (fun _ _ z => z) fun _ _ _ z => z).wide fun a ha => ?_⟩
      show if j = i then a = p else fp j a
      rw [if_neg hj]
      exact ha
  · have h' : if j = i then q = p else fp j q := h
    by_cases hj : j = i
    · rw [if_pos hj] at h'
      exact .inr h'
    · rw [if_neg hj] at h'
      exact .inl (s2 j q h')
  · have h1' : if j = i then q = p else fp j q := h1
    have h2' : if l = i then q = p else fp l q := h2
    by_cases hj : j = i
    · by_cases hl : l = i
      · rw [hj, hl]
      · rw [if_pos hj] at h1'
        rw [if_neg hl] at h2'
        exact (hO (h1' ▸ s2 l q h2')).elim
    · rw [if_neg hj] at h1'
      by_cases hl : l = i
      · rw [if_pos hl] at h2'
        exact (hO (h2' ▸ s2 j q h1')).elim
      · rw [if_neg hl] at h2'
        exact s3 j l q h1' h2'
  · by_cases hj : j = i
    · subst hj
      have hlt : j < ρ.length := by
        have := (List.getElem?_eq_some_iff.mp e).1
        simpa using this
      rw [List.getElem?_set_self hlt] at e
      cases e
    · rw [List.getElem?_set_ne (Ne.symm hj)] at e ⊢
      exact s.io j u e
theorem Ev.ownRaw {S0 : Cfg} (e : Ev S0 S) {p : Addr} (h0 : S0.H p = none) : Ev S0 ⟨S.F, S.H, fun a => S.O a ∨ a = p⟩ := ⟨e.same, e.frz, e.newF, fun q h => by
  rcases h with h | h
  · exact e.own q h
  · rw [h]
    exact .inr h0, e.there⟩
theorem psd_own (i : Nat) {x : Str} {e : Expr} {f : EM (List D)} {pos pos' : Pos} (hN : X.N.Nodup) (he : PL X A W e f) (hi : X.N[i]? = some x := by rfl) (hx : Loc X.env.scope x := by first | exact Or.inl rfl | exact Or.inr rfl) (hs : swapsWith e (some (.Name x pos')) pos.line X.env = pure false := by rfl)
    (hf : X.fn x = true ∨ X.env.scope.names.lookup x = some .local := by first | exact .inl rfl | exact .inr rfl | assumption) : PSD X A W (.Assign [.Name x pos'] e pos) (sOwn i f) := PS.imp (ps_set hN hi hx he hs hf) fun D σ H h => by
  obtain ⟨S, ρ, rfl, s, h⟩ := h
  refine ⟨S, ρ, rfl, s, ?_⟩
  have h' : PostS X.K X.mg A W D S ((f ρ).fl fun xs ρ1 => putSl ρ1 i (.ow false (.lst xs))) := h
  cases e : f ρ with
  | ok xs ρ1 =>
    rw [e] at h'
    intro S' p vs ev s' r hp hF hO h0
    have h2 : PostS X.K X.mg A W D S (putSl ρ1 i (.ow false (.lst xs))) := h'
    obtain ⟨k1, k2⟩ := putSl_ok h2
    exact k2 ⟨S'.F, S'.H, fun a => S'.O a ∨ a = p⟩ _ (ev.ownRaw h0) (s'.own k1 hp hF hO ⟨p, vs, rfl, hp, r, rfl⟩)
  | err c d ρ1 =>
    rw [e] at h'
    exact h'
  | stuck =>
    rw [e] at h'
    exact h'
/-- the list in slot i, owned, becomes another -/
theorem Sat.mutL {K : PySem.W.Frag} {mg : Str → Option Value} (s : Sat K mg A S σ ρ) {i : Nat} {b : Bool} {xs : List D} (hi : ρ[i]? = some (Sl.ow b (.lst xs))) :
    ∃ p vs, σ[i]? = some (some (.ref p)) ∧ S.H p = some (.lst vs) ∧ RDs K mg S.F xs vs ∧ ∀ ys us, RDs K mg S.F ys us → Ev S ⟨S.F, upd S.H p (.lst us), S.O⟩ ∧ Sat K mg A ⟨S.F, upd S.H p (.lst us), S.O⟩ σ (ρ.set i (.ow b (.lst ys))) := by
  obtain ⟨fp, s1, s2, s3⟩ := s.sl
  obtain ⟨v, e1, u, e2, p, vs, hv, hp, hr, hfp⟩ := s1 i _ hi
  subst e2
  subst hv
  have hO := s2 i p hfp
  refine ⟨p, vs, e1, hp, hr, fun ys us r => ⟨⟨fun a o e n => ?_, fun _ _ z => z, fun _ _ _ _ => rfl, fun q h => .inl h, fun a o e => ?_⟩, ⟨fun a o e => ?_, s.ownF, fun q h => ?_, by simp [s.len], ⟨fp, fun j sl e => ?_, s2, s3⟩, fun j o e => ?_⟩⟩⟩
  · show upd S.H p (.lst us) a = some o
    rw [upd_ne (fun z : a = p => n (by rw [z]; exact hO))]
    exact e
  · by_cases q : a = p
    · exact ⟨_, by rw [q]; exact upd_same⟩
    · exact ⟨o, by show upd S.H p (.lst us) a = some o; rw [upd_ne q]; exact e⟩
  · show upd S.H p (.lst us) a = some o
    have na : a ≠ p := fun z => by
      rw [z, s.ownF p hO] at e
      cases e
    rw [upd_ne na]
    exact s.sub a o e
  · by_cases z : q = p
    · exact ⟨_, by rw [z]; exact upd_same⟩
    · obtain ⟨o, e⟩ := s.ownH q h
      exact ⟨o, by show upd S.H p (.lst us) q = some o; rw [upd_ne z]; exact e⟩
  · by_cases hj : j = i
    · subst hj
      rw [List.getElem?_set_self (List.getElem?_eq_some_iff.mp hi).1] at e
      cases e
      exact ⟨_, e1, .ref p, rfl, p, us, rfl, upd_same, r, hfp⟩
    · rw [List.getElem?_set_ne (Ne.symm hj)] at e
      obtain ⟨w, q1, q2⟩ := s1 j sl e
      refine ⟨w, q1, q2.grow (fun _ _ z => z) fun q o hq hh => ?_⟩
      show upd S.H p (.lst us) q = some o
      have : q ≠ p := fun z => hj (s3 j i p (z ▸ hq) hfp)
      rw [upd_ne this]
      exact hh
  · by_cases hj : j = i
    · subst hj
      rw [List.getElem?_set_self (List.getElem?_eq_some_iff.mp hi).1] at e
      cases e
      exact s.io j _ hi
    · rw [List.getElem?_set_ne (Ne.symm hj)] at e
      exact s.io j o e
def ownL (ρ : Env') (i : Nat) : Option (Bool × List D) := match ρ[i]? with
  | some (.ow b (.lst xs)) => some (b, xs)
  | _ => none
theorem ownL_eq {i : Nat} {b : Bool} {xs : List D} (h : ownL ρ i = some (b, xs)) : ρ[i]? = some (Sl.ow b (.lst xs)) := by
  unfold ownL at h
  split at h
  · rename_i e
    cases h
    exact e
  · cases h
/-- x.append(e) -/
def sApp (i : Nat) (f : EM D) : SM := fun ρ => if (ownL ρ i).isSome = true then (f ρ).fl fun d ρ1 => match ownL ρ1 i with
  | some (b, xs) => if xs.length < 1000000 then .nx (ρ1.set i (.ow b (.lst (xs ++ [d])))) else .stuck
  | none => .stuck else .stuck
theorem psd_app (i : Nat) {x : Str} {e : Expr} {f : EM D} {p1 p2 p3 p4 : Pos} (he : PD X A W e f) (hN : X.N[i]? = some x := by rfl) (hv : Vis X.env.scope x := by first | exact Or.inl rfl | exact Or.inr (Or.inl rfl) | exact Or.inr (Or.inr rfl))
    (hd : (x == ("__debug__" : Str)) = false := by decide) (hcd : (x == ("__classdict__" : Str)) = false := by decide)
    (hm : ∀ {t : TE}, PE X e t → PE X (.Call (.Attribute (.Name x p1) "append" p2) [e] [] p3) (tBM X.K "list" rAppend (tVar i) (tCons t tNil)))
    (hs : swapsWith (.Call (.Attribute (.Name x p1) "append" p2) [e] [] p3) none p4.line X.env = pure false := by rfl) :
    PSD X A W (.Expr (.Call (.Attribute (.Name x p1) "append" p2) [e] [] p3) p4) (sApp i f) := PS.imp (ps_expr (hm he) hs) fun D σ H h => by
  obtain ⟨S, ρ, rfl, s, h⟩ := h
  have h' : PostS X.K X.mg A W D S (if (ownL ρ i).isSome = true then (f ρ).fl fun d ρ1 => match ownL ρ1 i with
    | some (b, xs) => if xs.length < 1000000 then .nx (ρ1.set i (.ow b (.lst (xs ++ [d])))) else .stuck
    | none => .stuck else .stuck) := h
  cases e0 : ownL ρ i with
  | none =>
    rw [e0] at h'
    exact (show False from h').elim
  | some bx =>
    obtain ⟨b0, xs0⟩ := bx
    rw [e0] at h'
    obtain ⟨p0, vs0, q1, q2, _, _⟩ := s.mutL (ownL_eq e0)
    refine ⟨.ref p0, q1, .inl ⟨rfl, _, SqL.of q2⟩, ?_⟩
    refine tD_fl s h' fun d ρ1 S1 v hp ev s1 r => ?_
    cases e1 : ownL ρ1 i with
    | none =>
      rw [e1] at hp
      exact (show False from hp).elim
    | some bx =>
      obtain ⟨b, xs⟩ := bx
      rw [e1] at hp
      obtain ⟨p, vs, z1, z2, z3, z4⟩ := s1.mutL (ownL_eq e1)
      rw [q1] at z1
      cases z1
      have hp' : PostS X.K X.mg A W D S (if xs.length < 1000000 then .nx (ρ1.set i (.ow b (.lst (xs ++ [d])))) else .stuck) := hp
      by_cases hl : xs.length < 1000000
      · rw [if_pos hl] at hp'
        obtain ⟨y1, y2⟩ := z4 (xs ++ [d]) (vs ++ [v]) (z3.app (RDs.one r))
        exact ⟨p0, vs, v, rfl, rfl, z2, Nat.lt_of_lt_of_le (by rw [← z3.length]; exact hl) (by decide), hp' _ σ (ev.trans y1) y2⟩
      · rw [if_neg hl] at hp'
        exact (show False from hp').elim
/-- x.pop() -/
def ePop (i : Nat) : EM D := fun ρ => match ownL ρ i with
  | some (b, xs) => match xs.getLast? with
    | some d => .ok d (ρ.set i (.ow b (.lst xs.dropLast)))
    | none => .stuck
  | none => .stuck
theorem pd_pop (i : Nat) {x : Str} {p1 p2 p3 : Pos} (hm : PE X (.Call (.Attribute (.Name x p1) "pop" p2) [] [] p3) (tBM0 X.K "list" rPop (tVar i))) : PD X A W (.Call (.Attribute (.Name x p1) "pop" p2) [] [] p3) (ePop i) := PE.imp hm fun σ H Q h => by
  obtain ⟨S, ρ, rfl, s, h⟩ := h
  have h' : PostE X.K X.mg A W Q S σ (match ownL ρ i with
    | some (b, xs) => match xs.getLast? with
      | some d => .ok d (ρ.set i (.ow b (.lst xs.dropLast)))
      | none => .stuck
    | none => .stuck) := h
  cases e1 : ownL ρ i with
  | none =>
    rw [e1] at h'
    exact (show False from h').elim
  | some bx =>
    obtain ⟨b, xs⟩ := bx
    rw [e1] at h'
    obtain ⟨p, vs, z1, z2, z3, z4⟩ := s.mutL (ownL_eq e1)
    cases e2 : xs.getLast? with
    | none =>
      simp only [e2] at h'
      exact (show False from h').elim
    | some d =>
      simp only [e2] at h'
      have e3 : xs[xs.length - 1]? = some d := by
        rw [List.getLast?_eq_getElem?] at e2
        exact e2
      obtain ⟨v, y1, y2⟩ := z3.get e3
      rw [z3.length] at y1
      have y3 : RDs X.K X.mg S.F xs.dropLast vs.dropLast := by
        rw [List.dropLast_eq_take, List.dropLast_eq_take, z3.length]
        exact z3.take _
      obtain ⟨w1, w2⟩ := z4 _ _ y3
      exact ⟨.ref p, z1, .inl ⟨rfl, _, SqL.of z2⟩, p, vs, v, rfl, rfl, z2, y1, h' _ v w1 w2 y2⟩
/-- x.pop(e) -/
def ePopAt (i : Nat) (f : EM D) : EM D := fun ρ => if (ownL ρ i).isSome = true then (f ρ).bind fun k ρ1 => match k, ownL ρ1 i with
  | .int j, some (b, xs) => if 0 ≤ j ∧ j < 1000000 then (match xs[j.toNat]? with
    | some d => .ok d (ρ1.set i (.ow b (.lst (xs.eraseIdx j.toNat))))
    | none => .stuck) else .stuck
  | _, _ => .stuck else .stuck
theorem RDs.erase {K : PySem.W.Frag} {mg : Str → Option Value} {F : Hp} : ∀ {ds : List D} {vs : List V} (n : Nat), RDs K mg F ds vs → RDs K mg F (ds.eraseIdx n) (vs.eraseIdx n)
  | [], _, _, h => by
    cases h
    rfl
  | d :: ds, _, 0, ⟨v, r, h1, h2, h3⟩ => by
    subst h1
    exact h3
  | d :: ds, _, n + 1, ⟨v, r, h1, h2, h3⟩ => by
    subst h1
    exact ⟨v, _, rfl, h2, RDs.erase n h3⟩
theorem pd_popAt (i : Nat) {x : Str} {e : Expr} {f : EM D} {p1 p2 p3 : Pos} (he : PD X A W e f) (hm : ∀ {t : TE}, PE X e t → PE X (.Call (.Attribute (.Name x p1) "pop" p2) [e] [] p3) (tBM X.K "list" rPopAt (tVar i) (tCons t tNil))) :
    PD X A W (.Call (.Attribute (.Name x p1) "pop" p2) [e] [] p3) (ePopAt i f) := PE.imp (hm he) fun σ H Q h => by
  obtain ⟨S, ρ, rfl, s, h⟩ := h
  have h' : PostE X.K X.mg A W Q S σ (if (ownL ρ i).isSome = true then (f ρ).bind fun k ρ1 => match k, ownL ρ1 i with
    | .int j, some (b, xs) => if 0 ≤ j ∧ j < 1000000 then (match xs[j.toNat]? with
      | some d => .ok d (ρ1.set i (.ow b (.lst (xs.eraseIdx j.toNat))))
      | none => .stuck) else .stuck
    | _, _ => .stuck else .stuck) := h
  cases e0 : ownL ρ i with
  | none =>
    rw [e0] at h'
    exact (show False from h').elim
  | some bx =>
    obtain ⟨b0, xs0⟩ := bx
    rw [e0] at h'
    obtain ⟨p0, vs0, q1, q2, _, _⟩ := s.mutL (ownL_eq e0)
    refine ⟨.ref p0, q1, .inl ⟨rfl, _, SqL.of q2⟩, ?_⟩
    refine tD_bind (P := PostE X.K X.mg A W Q S σ) s h' (fun _ _ _ z => z) (fun z => z) fun k ρ1 S1 v hp ev s1 r => ?_
    cases k with
    | int j =>
      cases e1 : ownL ρ1 i with
      | none =>
        simp only [e1] at hp
        exact (show False from hp).elim
      | some bx =>
        obtain ⟨b, xs⟩ := bx
        simp only [e1] at hp
        obtain ⟨p, vs, z1, z2, z3, z4⟩ := s1.mutL (ownL_eq e1)
        rw [q1] at z1
        cases z1
        by_cases hj : 0 ≤ j ∧ j < 1000000
        · rw [if_pos hj] at hp
          cases e2 : xs[j.toNat]? with
          | none =>
            simp only [e2] at hp
            exact (show False from hp).elim
          | some d =>
            simp only [e2] at hp
            obtain ⟨u, y1, y2⟩ := z3.get e2
            have hlt : j.toNat < vs.length := (List.getElem?_eq_some_iff.mp y1).1
            obtain ⟨w1, w2⟩ := z4 _ _ (z3.erase j.toNat)
            have r' : v = .int j := r
            subst r'
            refine ⟨p0, vs, j, j.toNat, u, rfl, rfl, z2, by omega, by omega, ?_, y1, hp _ u (ev.trans w1) w2 y2⟩
            unfold seqIndex?
            have h1 : ¬ j < 0 := by omega
            have h2 : j < (vs.length : Int) := by omega
            simp [h1]
            omega
        · rw [if_neg hj] at hp
          exact (show False from hp).elim
    | _ => exact (show False from hp).elim
/-- x[k] = e -/
def sSetIt (i : Nat) (fk fv : EM D) : SM := fun ρ => (fv ρ).fl fun d ρ1 => if (ownL ρ1 i).isSome = true then (fk ρ1).fl fun k ρ2 => match k, ownL ρ2 i with
  | .int j, some (b, xs) => if 0 ≤ j ∧ j < (xs.length : Int) ∧ xs.length < 1000000 then .nx (ρ2.set i (.ow b (.lst (xs.set j.toNat d)))) else .stuck
  | _, _ => .stuck else .stuck
theorem RDs.setAt {K : PySem.W.Frag} {mg : Str → Option Value} {F : Hp} {d : D} {v : V} (hd : RD K mg F d v) : ∀ {ds : List D} {vs : List V} (n : Nat), RDs K mg F ds vs → RDs K mg F (ds.set n d) (vs.set n v)
  | [], _, _, h => by
    cases h
    rfl
  | _ :: ds, _, 0, ⟨u, r, h1, h2, h3⟩ => by
    subst h1
    exact ⟨v, r, rfl, hd, h3⟩
  | d' :: ds, _, n + 1, ⟨u, r, h1, h2, h3⟩ => by
    subst h1
    exact ⟨u, _, rfl, h2, RDs.setAt hd n h3⟩
end
end DL
end

section
set_option Elab.async false
set_option linter.all false
set_option maxRecDepth 100000
/-! Targets, what is walked, comprehensions, loops. -/
namespace DL
open PySem PySem.Spec PyProof.Rows L2

theorem wipe_get (σ : L2.St) : ∀ (ws : List Nat) (j : Nat), (wipe σ ws)[j]? = if j ∈ ws then σ[j]?.map (fun _ => none) else σ[j]?
  | [], j => by simp [wipe]
  | w :: ws, j => by
    have ih := wipe_get σ ws j
    unfold wipe
    by_cases h : w = j
    · subst h
      by_cases hl : w < σ.length
      · rw [List.getElem?_set_self (by rw [wipe_length]; exact hl)]
        simp [hl]
      · rw [List.getElem?_eq_none (by rw [List.length_set, wipe_length]; omega)]
        simp [hl]
    · rw [List.getElem?_set_ne h, ih]
      have : ¬ j = w := fun z => h z.symm
      simp [this]
theorem wipe_set {σ : L2.St} {ws : List Nat} {i : Nat} {x : Option V} (hi : i ∈ ws) : wipe (σ.set i x) ws = wipe σ ws := by
  refine List.ext_getElem? fun j => ?_
  rw [wipe_get, wipe_get]
  by_cases h : j ∈ ws
  · rw [if_pos h, if_pos h]
    by_cases hj : i = j
    · subst hj
      rw [List.getElem?_set]
      by_cases hl : i < σ.length
      · simp [hl]
      · simp [hl]
    · rw [List.getElem?_set_ne hj]
  · rw [if_neg h, if_neg h, List.getElem?_set_ne (fun z : i = j => h (by rw [← z]; exact hi))]
theorem wipe_wipe {σ : L2.St} {ws : List Nat} : wipe (wipe σ ws) ws = wipe σ ws := by
  refine List.ext_getElem? fun j => ?_
  rw [wipe_get, wipe_get]
  by_cases h : j ∈ ws
  · rw [if_pos h, if_pos h]
    cases σ[j]? <;> rfl
  · rw [if_neg h, if_neg h]
def wipeR (ρ : Env') : List Nat → Env'
  | [] => ρ
  | w :: ws => (wipeR ρ ws).set w .no
def restore (ρ ρ2 : Env') : List Nat → Env'
  | [] => ρ2
  | w :: ws => (restore ρ ρ2 ws).set w (ρ[w]?.getD .no)
def notOw : Option Sl → Bool
  | some (.ow _ _) => false
  | _ => true
theorem wipeR_get (ρ : Env') : ∀ (ws : List Nat) (j : Nat), (wipeR ρ ws)[j]? = if j ∈ ws then ρ[j]?.map (fun _ => Sl.no) else ρ[j]?
  | [], j => by simp [wipeR]
  | w :: ws, j => by
    have ih := wipeR_get ρ ws j
    have hlen : ∀ ws : List Nat, (wipeR ρ ws).length = ρ.length := fun ws => by
      induction ws with
      | nil => rfl
      | cons a b ih => unfold wipeR; rw [List.length_set, ih]
    unfold wipeR
    by_cases h : w = j
    · subst h
      by_cases hl : w < ρ.length
      · rw [List.getElem?_set_self (by rw [hlen]; exact hl)]
        simp [hl]
      · rw [List.getElem?_eq_none (by rw [List.length_set, hlen]; omega)]
        simp [hl]
    · rw [List.getElem?_set_ne h, ih]
      have : ¬ j = w := fun z => h z.symm
      simp [this]
theorem restore_len (ρ ρ2 : Env') : ∀ ws : List Nat, (restore ρ ρ2 ws).length = ρ2.length
  | [] => rfl
  | w :: ws => by unfold restore; rw [List.length_set, restore_len ρ ρ2 ws]
theorem restore_get (ρ ρ2 : Env') (hl : ρ.length = ρ2.length) : ∀ (ws : List Nat) (j : Nat), (restore ρ ρ2 ws)[j]? = if j ∈ ws then ρ[j]? else ρ2[j]?
  | [], j => by simp [restore]
  | w :: ws, j => by
    have ih := restore_get ρ ρ2 hl ws j
    unfold restore
    by_cases h : w = j
    · subst h
      by_cases hlt : w < ρ2.length
      · rw [List.getElem?_set_self (by rw [restore_len]; exact hlt)]
        simp [hl, hlt]
      · rw [List.getElem?_eq_none (by rw [List.length_set, restore_len]; omega)]
        rw [if_pos List.mem_cons_self, List.getElem?_eq_none (by omega)]
    · rw [List.getElem?_set_ne h, ih]
      have : ¬ j = w := fun z => h z.symm
      simp [this]
section
variable {X : Cx} {A : List V} {W : WX} {S S' : Cfg} {σ σ2 : L2.St} {ρ ρ2 : Env'}
theorem Sat.wipe {K : PySem.W.Frag} {mg : Str → Option Value} (s : Sat K mg A S σ ρ) (ws : List Nat) : Sat K mg A S (L2.wipe σ ws) (wipeR ρ ws) := by
  obtain ⟨fp, s1, s2, s3⟩ := s.sl
  have hlen : (wipeR ρ ws).length = ρ.length := by
    induction ws with
    | nil => rfl
    | cons a b ih => unfold wipeR; rw [List.length_set, ih]
  refine ⟨s.sub, s.ownF, s.ownH, by rw [wipe_length, hlen, s.len], ⟨fp, fun i sl e => ?_, s2, s3⟩, fun i o e => ?_⟩
  · rw [wipeR_get] at e
    by_cases h : i ∈ ws
    · rw [if_pos h] at e
      cases q : ρ[i]? with
      | none =>
        rw [q] at e
        cases e
      | some t =>
        rw [q] at e
        cases e
        obtain ⟨v, e1, _⟩ := s1 i t q
        exact ⟨none, by rw [wipe_get, if_pos h, e1]; rfl, trivial⟩
    · rw [if_neg h] at e
      obtain ⟨v, e1, e2⟩ := s1 i sl e
      exact ⟨v, by rw [wipe_get, if_neg h]; exact e1, e2⟩
  · rw [wipeR_get] at e
    by_cases h : i ∈ ws
    · rw [if_pos h] at e
      cases q : ρ[i]? with
      | none =>
        rw [q] at e
        cases e
      | some t =>
        rw [q] at e
        cases e
    · rw [if_neg h] at e
      rw [wipe_get, if_neg h]
      exact s.io i o e
theorem Sat.restore {K : PySem.W.Frag} {mg : Str → Option Value} (s : Sat K mg A S σ ρ) (s' : Sat K mg A S' σ2 ρ2) (hF : Same S.F S'.F) {ws : List Nat} (hw : L2.wipe σ2 ws = L2.wipe σ ws) (hn : (ws.all fun w => notOw ρ[w]?) = true) : Sat K mg A S' σ (restore ρ ρ2 ws) := by
  obtain ⟨fp, s1, s2, s3⟩ := s.sl
  obtain ⟨fq, t1, t2, t3⟩ := s'.sl
  have hl : ρ.length = ρ2.length := by
    have := congrArg List.length hw
    rw [wipe_length, wipe_length] at this
    rw [← s.len, ← s'.len, this]
  have hσ : ∀ j, j ∉ ws → σ2[j]? = σ[j]? := fun j hj => by
    have := congrArg (fun l : L2.St => l[j]?) hw
    simp only [wipe_get, if_neg hj] at this
    exact this
  refine ⟨s'.sub, s'.ownF, s'.ownH, by rw [restore_len, ← hl, s.len], ⟨fun j p => j ∉ ws ∧ fq j p, fun i sl e => ?_, fun i p h => t2 i p h.2, fun i j p h1 h2 => t3 i j p h1.2 h2.2⟩, fun i o e => ?_⟩
  · rw [restore_get ρ ρ2 hl] at e
    by_cases h : i ∈ ws
    · rw [if_pos h] at e
      obtain ⟨v, e1, e2⟩ := s1 i sl e
      have hno := List.all_eq_true.mp hn i h
      refine ⟨v, e1, ?_⟩
      cases sl with
      | no => trivial
      | va d =>
        obtain ⟨u, q1, q2⟩ := e2
        exact ⟨u, q1, q2.mono hF⟩
      | ow b o =>
        rw [e] at hno
        cases hno
    · rw [if_neg h] at e
      obtain ⟨v, e1, e2⟩ := t1 i sl e
      exact ⟨v, by rw [← hσ i h]; exact e1, e2.wide fun p hp => ⟨h, hp⟩⟩
  · rw [restore_get ρ ρ2 hl] at e
    by_cases h : i ∈ ws
    · have hno := List.all_eq_true.mp hn i h
      rw [if_pos h] at e
      rw [e] at hno
      cases hno
    · rw [if_neg h] at e
      obtain ⟨v, e1, e2⟩ := s'.io i o e
      exact ⟨v, by rw [← hσ i h]; exact e1, e2⟩

/-! ### targets -/
abbrev Tgt := D → Env' → Option Env'
section
variable (K : PySem.W.Frag) (mg : Str → Option Value) (A : List V)
def tG (ws : List Nat) (g : Tgt) : TG := fun v σ H Q => ∃ S ρ d, S.H = H ∧ Sat K mg A S σ ρ ∧ RD K mg S.F d v ∧ match g d ρ with
  | some ρ' => ∀ σ', L2.wipe σ' ws = L2.wipe σ ws → Sat K mg A S σ' ρ' → Q σ' S.H
  | none => False
def tGs (ws : List Nat) (g : List D → Env' → Option Env') : TGs := fun vs σ H Q => ∃ S ρ ds, S.H = H ∧ Sat K mg A S σ ρ ∧ RDs K mg S.F ds vs ∧ match g ds ρ with
  | some ρ' => ∀ σ', L2.wipe σ' ws = L2.wipe σ ws → Sat K mg A S σ' ρ' → Q σ' S.H
  | none => False
end
abbrev PGD (X : Cx) (A : List V) (e : Expr) (ws : List Nat) (g : Tgt) : Prop := PG X e (tG X.K X.mg A ws g)
abbrev PGsD (X : Cx) (A : List V) (es : List Expr) (ws : List Nat) (g : List D → Env' → Option Env') : Prop := PGs X es (tGs X.K X.mg A ws g)
theorem PG.imp {e : Expr} {t t' : TG} (h : PG X e t) (i : ∀ v σ H Q, t' v σ H Q → t v σ H Q) : PG X e t' := ⟨fun pins s σ H v u Q I r q => h.run pins s σ H v u Q I r (i _ _ _ _ q)⟩
theorem PGs.imp {es : List Expr} {t t' : TGs} (h : PGs X es t) (i : ∀ v σ H Q, t' v σ H Q → t v σ H Q) : PGs X es t' := ⟨fun pins s σ H v u Q I r q => h.run pins s σ H v u Q I r (i _ _ _ _ q)⟩
def gN (i : Nat) : Tgt := fun d ρ => if isIo ρ[i]? = true then none else some (ρ.set i (.va d))
theorem pgd_name (i : Nat) {x : Str} {pos : Pos} (ws : List Nat) (hw : i ∈ ws) (hN : X.N.Nodup) (hi : X.N[i]? = some x := by rfl) (hx : Loc X.env.scope x := by first | exact Or.inl rfl | exact Or.inr rfl)
    (hf : X.fn x = true ∨ X.env.scope.names.lookup x = some .local := by first | exact .inl rfl | exact .inr rfl | assumption) : PGD X A (.Name x pos) ws (gN i) := PG.imp (pg_name hN hi hx hf) fun v σ H Q h => by
  obtain ⟨S, ρ, d, rfl, s, r, h⟩ := h
  unfold gN at h
  by_cases q : isIo ρ[i]? = true
  · rw [if_pos q] at h
    exact h.elim
  · rw [if_neg q] at h
    exact h _ (wipe_set hw) (s.setVa (by simpa using q) r)
def gsNil : List D → Env' → Option Env' := fun ds ρ => match ds with
  | [] => some ρ
  | _ => none
def gsCons (g : Tgt) (gs : List D → Env' → Option Env') : List D → Env' → Option Env' := fun ds ρ => match ds with
  | d :: r => match g d ρ with
    | some ρ1 => gs r ρ1
    | none => none
  | [] => none
theorem pgsd_nil {ws : List Nat} : PGsD X A [] ws gsNil := PGs.imp pgs_nil fun v σ H Q h => by
  obtain ⟨S, ρ, ds, rfl, s, r, h⟩ := h
  cases ds with
  | nil => exact ⟨r, h σ rfl s⟩
  | cons a b => exact h.elim
theorem pgsd_cons {e : Expr} {es : List Expr} {ws : List Nat} {g : Tgt} {gs : List D → Env' → Option Env'} (h1 : PGD X A e ws g) (h2 : PGsD X A es ws gs) (hs : (assignEach (e :: es) X.env).map (·.2) = assign e X.env :: (assignEach es X.env).map (·.2) := by rfl) : PGsD X A (e :: es) ws (gsCons g gs) :=
  PGs.imp (pgs_cons h1 h2 hs) fun v σ H Q h => by
    obtain ⟨S, ρ, ds, rfl, s, r, h⟩ := h
    cases ds with
    | nil => exact h.elim
    | cons d ds =>
      obtain ⟨v1, r1, h1, h2, h3⟩ := r
      refine ⟨v1, r1, h1, S, ρ, d, rfl, s, h2, ?_⟩
      have h' : (match (match g d ρ with
        | some ρ1 => gs ds ρ1
        | none => none) with
        | some ρ' => ∀ σ', L2.wipe σ' ws = L2.wipe σ ws → Sat X.K X.mg A S σ' ρ' → Q σ' S.H
        | none => False) := h
      cases e : g d ρ with
      | none =>
        rw [e] at h'
        exact h'.elim
      | some ρ1 =>
        rw [e] at h'
        intro σ1 w1 s1
        refine ⟨S, ρ1, ds, rfl, s1, h3, ?_⟩
        have h'' : (match gs ds ρ1 with
          | some ρ' => ∀ σ', L2.wipe σ' ws = L2.wipe σ ws → Sat X.K X.mg A S σ' ρ' → Q σ' S.H
          | none => False) := h'
        cases e2 : gs ds ρ1 with
        | none =>
          rw [e2] at h''
          exact h''.elim
        | some ρ2 =>
          rw [e2] at h''
          exact fun σ2 w2 s2 => h'' σ2 (w2.trans w1) s2
def gT (n : Nat) (gs : List D → Env' → Option Env') : Tgt := fun d ρ => match d with
  | .tup ds => if ds.length = n then gs ds ρ else none
  | _ => none
theorem pgd_tup {es : List Expr} {k : Nat} {pos : Pos} {ws : List Nat} {gs : List D → Env' → Option Env'} {n : Nat} (hc : X.calm = true) (h : PGsD X A es ws gs) (hn : (assignEach es X.env).length = n := by rfl) (hst : (assignEach es X.env).findIdx? (·.1) = none := by rfl) :
    PGD X A (.Tuple es k pos) ws (gT n gs) := PG.imp (pg_tup hc h hn hst) fun v σ H Q h => by
  obtain ⟨S, ρ, d, rfl, s, r, h⟩ := h
  cases d with
  | tup ds =>
    obtain ⟨a, vs, h1, h2, h3⟩ := r
    have h' : (match (if ds.length = n then gs ds ρ else none) with
      | some ρ' => ∀ σ', L2.wipe σ' ws = L2.wipe σ ws → Sat X.K X.mg A S σ' ρ' → Q σ' S.H
      | none => False) := h
    by_cases hl : ds.length = n
    · rw [if_pos hl] at h'
      exact ⟨a, vs, h1, sqT_mono s.sub h2, by rw [← h3.length]; exact hl, S, ρ, ds, rfl, s, h3, h'⟩
    · rw [if_neg hl] at h'
      exact h'.elim
  | _ => exact h.elim

/-! ### what is walked -/
def WalkD (X : Cx) (J : It) (S : Cfg) (items : List D) : Prop :=
  ∃ G Y, Walk J items.length G Y ∧ (∀ S', Ev S S' → Same S'.F S'.H → G S'.H) ∧ ∀ i S' x H', i < items.length → Ev S S' → Same S'.F S'.H → Y i S'.H x H' → ∃ S2 d, S2.H = H' ∧ Gr S' S2 ∧ items[i]? = some d ∧ RD X.K X.mg S2.F d x
theorem WalkD.ev {J : It} {items : List D} (h : WalkD X J S items) (e : Ev S S') : WalkD X J S' items := by
  obtain ⟨G, Y, w, h1, h2⟩ := h
  exact ⟨G, Y, w, fun S2 e2 => h1 S2 (e.trans e2), fun i S2 x H' hi e2 => h2 i S2 x H' hi (e.trans e2)⟩
section
variable (X : Cx) (A : List V) (W : WX)
def PostI (R : It → Hp → Prop) (S : Cfg) (σ : L2.St) : Out (List D) → Prop
  | .ok items ρ' => ∀ S' J, Ev S S' → Sat X.K X.mg A S' σ ρ' → WalkD X J S' items → R J S'.H
  | .err c d ρ' => PostX X.K X.mg A W S c d ρ'
  | .stuck => False
def tI (it : EM (List D)) : TI := fun σ H R => ∃ S ρ, S.H = H ∧ Sat X.K X.mg A S σ ρ ∧ PostI X A W R S σ (it ρ)
end
abbrev PID (X : Cx) (A : List V) (W : WX) (tg iter : Expr) (it : EM (List D)) : Prop := PI X tg iter (tI X A W it)
theorem PI.imp {tg iter : Expr} {t t' : TI} (h : PI X tg iter t) (i : ∀ σ H R, t' σ H R → t σ H R) : PI X tg iter t' := ⟨fun pins s σ H R I q => h.run pins s σ H R I (i _ _ _ q)⟩
def asL : D → Option (List D)
  | .lst xs => some xs
  | _ => none
def asT : D → Option (List D)
  | .tup xs => some xs
  | _ => none
def iL (f : EM D) : EM (List D) := fun ρ => (f ρ).bind fun d ρ1 => Out.lift ρ1 (asL d)
def iT (f : EM D) : EM (List D) := fun ρ => (f ρ).bind fun d ρ1 => Out.lift ρ1 (asT d)
theorem walkD_list {a : Addr} {xs : List D} {vs : List V} (h : S.F a = some (.lst vs)) (r : RDs X.K X.mg S.F xs vs) : WalkD X (Itl X.K a) S xs := by
  refine ⟨_, _, by rw [r.length]; exact walk_list (K := X.K) (a := a) (xs := vs), fun S' e sb => SqL.of (sb _ _ (e.frz _ _ h)), fun i S' x H' hi e sb y => ?_⟩
  obtain ⟨y1, y2⟩ := y
  obtain ⟨d, e1, e2⟩ := r.getV y2
  exact ⟨S', d, y1.symm, Gr.refl sb, e1, e2.mono e.frz⟩
theorem walkD_tup {a : Addr} {xs : List D} {vs : List V} (h : SqT X.K S.F a vs) (r : RDs X.K X.mg S.F xs vs) : WalkD X (Itt X.K a) S xs := by
  refine ⟨_, _, by rw [r.length]; exact walk_tup (K := X.K) (a := a) (xs := vs), fun S' e sb => sqT_mono sb (sqT_mono e.frz h), fun i S' x H' hi e sb y => ?_⟩
  obtain ⟨y1, y2⟩ := y
  obtain ⟨d, e1, e2⟩ := r.getV y2
  exact ⟨S', d, y1.symm, Gr.refl sb, e1, e2.mono e.frz⟩
theorem pid_list {tg e : Expr} {f : EM D} (he : PD X A W e f) : PID X A W tg e (iL f) := PI.imp (pi_list he) fun σ H R h => by
  obtain ⟨S, ρ, rfl, s, h⟩ := h
  refine tD_bind (P := PostI X A W R S σ) s h (fun _ _ _ z => z) (fun z => z) fun x ρ1 S1 v hp ev s1 r => ?_
  cases x with
  | lst xs =>
    obtain ⟨a, vs, h1, h2, h3⟩ := r
    exact ⟨a, h1, ⟨vs, SqL.of (s1.sub _ _ h2)⟩, hp S1 _ ev s1 (walkD_list h2 h3)⟩
  | _ => exact hp.elim
theorem pid_tup {tg e : Expr} {f : EM D} (he : PD X A W e f) : PID X A W tg e (iT f) := PI.imp (pi_tup he) fun σ H R h => by
  obtain ⟨S, ρ, rfl, s, h⟩ := h
  refine tD_bind (P := PostI X A W R S σ) s h (fun _ _ _ z => z) (fun z => z) fun x ρ1 S1 v hp ev s1 r => ?_
  cases x with
  | tup xs =>
    obtain ⟨a, vs, h1, h2, h3⟩ := r
    exact ⟨a, h1, ⟨vs, sqT_mono s1.sub h2⟩, hp S1 _ ev s1 (walkD_tup h2 h3)⟩
  | _ => exact hp.elim
/-- range(b), range(a, b) -/
def rngD (lo : Int) (n : Nat) : List D := (List.range n).map fun i => D.int (lo + (i : Nat))
def iR1 (o : Opd) : EM (List D) := fun ρ => (argGo [o] ρ).bind fun ds ρ1 => match argRd ρ1 [o] ds with
  | some [.int j] => if -1000000 ≤ j ∧ j < 1000000 then .ok (rngD 0 j.toNat) ρ1 else .stuck
  | _ => .stuck
def iR2 (o o' : Opd) : EM (List D) := fun ρ => (argGo [o, o'] ρ).bind fun ds ρ1 => match argRd ρ1 [o, o'] ds with
  | some [.int i, .int j] => if -1000000 ≤ i ∧ i < 1000000 ∧ -1000000 ≤ j ∧ j < 1000000 then .ok (rngD i (j - i).toNat) ρ1 else .stuck
  | _ => .stuck
theorem walkD_rng {lo : Int} {n : Nat} : WalkD X (Itr lo n) S (rngD lo n) := by
  have hl : (rngD lo n).length = n := by simp [rngD]
  refine ⟨_, _, by rw [hl]; exact walk_range (lo := lo) (n := n), fun _ _ _ => trivial, fun i S' x H' hi e sb y => ?_⟩
  obtain ⟨y1, y2⟩ := y
  have y2' : x = .int (lo + i) := y2
  rw [hl] at hi
  refine ⟨S', .int (lo + i), y1.symm, Gr.refl sb, ?_, y2'⟩
  unfold rngD
  rw [List.getElem?_map, List.getElem?_range hi]
  rfl
theorem pid_range1 {tg e : Expr} {o : Opd} {p pos : Pos} (hg : Gl X "range") (hm : X.mg "range" = none) (ha : PAr X A W [e] [o]) (hs : starEach [e] X.env = [(false, eval e X.env)] := by rfl) : PID X A W tg (.Call (.Name "range" p) [e] [] pos) (iR1 o) :=
  PI.imp (pi_range1 hg hm ha hs) fun σ H R h => by
    obtain ⟨S, ρ, rfl, s, h⟩ := h
    refine args_bind (P := PostI X A W R S σ) (fun z => z) (fun _ _ _ z => z) s h fun ds ρ1 S1 vs hp ev s1 ok => ?_
    have hp0 : ∃ j, argRd ρ1 [o] ds = some [.int j] ∧ PostI X A W R S σ (if -1000000 ≤ j ∧ j < 1000000 then .ok (rngD 0 j.toNat) ρ1 else .stuck) := by
      revert hp
      show PostI X A W R S σ (match argRd ρ1 [o] ds with
        | some [.int j] => if -1000000 ≤ j ∧ j < 1000000 then .ok (rngD 0 j.toNat) ρ1 else .stuck
        | _ => .stuck) → _
      split
      · rename_i j e
        exact fun hp => ⟨j, e, hp⟩
      · exact fun hp => (show False from hp).elim
    obtain ⟨j, e, hp'⟩ := hp0
    obtain ⟨hl, k⟩ := ok.rds s1 e
    match vs, hl, k with
    | [v], hl, k =>
      have r : v = .int j := k 0 _ _ rfl rfl
      subst r
      by_cases hj : -1000000 ≤ j ∧ j < 1000000
      · rw [if_pos hj] at hp'
        exact ⟨j, rfl, by omega, by omega, hp' S1 _ ev s1 walkD_rng⟩
      · rw [if_neg hj] at hp'
        exact (show False from hp').elim
theorem pid_range2 {tg e e' : Expr} {o o' : Opd} {p pos : Pos} (hg : Gl X "range") (hm : X.mg "range" = none) (ha : PAr X A W [e, e'] [o, o']) (hs : starEach [e, e'] X.env = [(false, eval e X.env), (false, eval e' X.env)] := by rfl) (hs2 : starEach [e'] X.env = [(false, eval e' X.env)] := by rfl) :
    PID X A W tg (.Call (.Name "range" p) [e, e'] [] pos) (iR2 o o') :=
  PI.imp (pi_range2 hg hm ha hs hs2) fun σ H R h => by
    obtain ⟨S, ρ, rfl, s, h⟩ := h
    refine args_bind (P := PostI X A W R S σ) (fun z => z) (fun _ _ _ z => z) s h fun ds ρ1 S1 vs hp ev s1 ok => ?_
    have hp0 : ∃ i j, argRd ρ1 [o, o'] ds = some [.int i, .int j] ∧ PostI X A W R S σ (if -1000000 ≤ i ∧ i < 1000000 ∧ -1000000 ≤ j ∧ j < 1000000 then .ok (rngD i (j - i).toNat) ρ1 else .stuck) := by
      revert hp
      show PostI X A W R S σ (match argRd ρ1 [o, o'] ds with
        | some [.int i, .int j] => if -1000000 ≤ i ∧ i < 1000000 ∧ -1000000 ≤ j ∧ j < 1000000 then .ok (rngD i (j - i).toNat) ρ1 else .stuck
        | _ => .stuck) → _
      split
      · rename_i i j e
        exact fun hp => ⟨i, j, e, hp⟩
      · exact fun hp => (show False from hp).elim
    obtain ⟨i, j, e, hp'⟩ := hp0
    obtain ⟨hl, k⟩ := ok.rds s1 e
    match vs, hl, k with
    | [v, u], hl, k =>
      have r : v = .int i := k 0 _ _ rfl rfl
      have r' : u = .int j := k 1 _ _ rfl rfl
      subst r
      subst r'
      by_cases hj : -1000000 ≤ i ∧ i < 1000000 ∧ -1000000 ≤ j ∧ j < 1000000
      · rw [if_pos hj] at hp'
        exact ⟨i, j, rfl, ⟨by omega, by omega, by omega, by omega⟩, hp' S1 _ ev s1 walkD_rng⟩
      · rw [if_neg hj] at hp'
        exact (show False from hp').elim
end

/-! ### comprehensions -/
def compL (ws : List Nat) (g : Tgt) (c : EM Bool) (f : EM D) : List D → EM (List D)
  | [] => fun ρ => .ok [] ρ
  | x :: xs => fun ρ => match g x (wipeR ρ ws) with
    | none => .stuck
    | some ρ1 => match c ρ1 with
      | .ok true ρ2 => match f ρ2 with
        | .ok y ρ3 => (compL ws g c f xs (restore ρ ρ3 ws)).bind fun ys ρ4 => .ok (y :: ys) ρ4
        | _ => .stuck
      | .ok false ρ2 => compL ws g c f xs (restore ρ ρ2 ws)
      | _ => .stuck
def eComp (it : EM (List D)) (ws : List Nat) (g : Tgt) (c : EM Bool) (f : EM D) : EM (List D) := fun ρ => (it ρ).bind fun items ρ1 => if (ws.all fun w => notOw ρ1[w]?) = true ∧ items.length < 1000000 then compL ws g c f items ρ1 else .stuck
abbrev W0 : WX := fun _ _ _ _ => False
def cYes : EM Bool := fun ρ => .ok true ρ
abbrev PTsD (X : Cx) (A : List V) (W : WX) (es : List Expr) (f : EM Bool) : Prop := PTs X es (tT X.K X.mg A W f)
theorem PTs.imp {X : Cx} {e : List Expr} {t t' : TT} (h : PTs X e t) (i : ∀ σ H Q, t' σ H Q → t σ H Q) : PTs X e t' := ⟨fun pins s σ H Q I q => h.run pins s σ H Q I (i _ _ _ q)⟩
theorem ptsd_nil {X : Cx} {A : List V} {W : WX} : PTsD X A W [] cYes := PTs.imp pts_nil fun σ H Q h => by
  obtain ⟨S, ρ, rfl, s, h⟩ := h
  exact h S (Ev.refl S) s
theorem ptsd_one {X : Cx} {A : List V} {W : WX} {c : Expr} {f : EM Bool} (h : PTD X A W c f) : PTsD X A W [c] f := pts_one h
/-- the configuration without what stands at D -/
def hideC (S : Cfg) (D : Addr) : Cfg := ⟨S.F, fun a => if a = D then none else S.H a, S.O⟩
section
variable {X : Cx} {A : List V} {W : WX} {S S' : Cfg} {σ σ2 : L2.St} {ρ ρ2 : Env'}
theorem hide_ne {S : Cfg} {D a : Addr} (h : a ≠ D) : (hideC S D).H a = S.H a := if_neg h
theorem hide_at {S : Cfg} {D : Addr} : (hideC S D).H D = none := if_pos rfl
theorem hide_some {S : Cfg} {D a : Addr} {o : HO} (h : (hideC S D).H a = some o) : a ≠ D ∧ S.H a = some o := by
  by_cases q : a = D
  · rw [q, hide_at] at h
    cases h
  · rw [hide_ne q] at h
    exact ⟨q, h⟩
theorem Ev.hide {D : Addr} (e : Ev S S') : Ev (hideC S D) (hideC S' D) := by
  refine ⟨fun a o h n => ?_, e.frz, fun a o h n => ?_, fun p h => ?_, fun a o h => ?_⟩
  · obtain ⟨h1, h2⟩ := hide_some h
    rw [hide_ne h1]
    exact e.same a o h2 n
  · obtain ⟨h1, h2⟩ := hide_some h
    exact e.newF a o h2 n
  · rcases e.own p h with q | q
    · exact .inl q
    · right
      by_cases z : p = D
      · rw [z]
        exact hide_at
      · rw [hide_ne z]
        exact q
  · obtain ⟨h1, h2⟩ := hide_some h
    rw [hide_ne h1]
    exact e.there a o h2
theorem comp_to {it : EM (List D)} {ws : List Nat} {g : Tgt} {c : EM Bool} {f : EM D} (σ : L2.St) (H : Hp) (Q : VK) (h : tL X.K X.mg A W (eComp it ws g c f) σ H Q) :
    tLc (tI X A W it) (tG X.K X.mg A ws g) (tT X.K X.mg A W0 c) (tD X.K X.mg A W0 f) ws σ H Q := by
  obtain ⟨S, ρ, rfl, s, h⟩ := h
  refine ⟨S, ρ, rfl, s, ?_⟩
  have h0 : PostL X.K X.mg A W Q S σ ((it ρ).bind fun items ρ1 => if (ws.all fun w => notOw ρ1[w]?) = true ∧ items.length < 1000000 then compL ws g c f items ρ1 else .stuck) := h
  clear h
  cases hi : it ρ with
  | err c d ρ' =>
    rw [hi] at h0
    exact h0
  | stuck =>
    rw [hi] at h0
    exact h0
  | ok items ρ1 =>
    rw [hi] at h0
    have h := h0
    have h1 : PostL X.K X.mg A W Q S σ (if (ws.all fun w => notOw ρ1[w]?) = true ∧ items.length < 1000000 then compL ws g c f items ρ1 else .stuck) := h
    by_cases hw : (ws.all fun w => notOw ρ1[w]?) = true ∧ items.length < 1000000
    · rw [if_pos hw] at h1
      intro S1 J ev1 s1 wk D hD
      obtain ⟨G, Y, wk1, wk2, wk3⟩ := wk
      -- the invariant
      let Pv : Nat → Hp → Prop := fun i H => ∃ (S2 : Cfg) (ρ2 : Env') (acc : List V) (ad : List DL.D), S2.H = H ∧ Ev S1 (hideC S2 D) ∧ Sat X.K X.mg A S2 σ ρ2 ∧ S2.H D = some (.lst acc) ∧ RDs X.K X.mg S2.F ad acc ∧ S2.F D = none ∧ ¬ S2.O D ∧ acc.length ≤ i ∧ (ws.all fun w => notOw ρ2[w]?) = true ∧
        PostL X.K X.mg A W Q S σ ((compL ws g c f (items.drop i) ρ2).bind fun ys ρ3 => .ok (ad ++ ys) ρ3)
      have hOD : ¬ S1.O D := fun q => by
        obtain ⟨o, e⟩ := s1.ownH D q
        rw [hD] at e
        cases e
      refine lc_it (w := wk1) Pv ?_ (fun i H _ p => ?_) (fun i x H H' hlt p y => ?_) (fun H p => ?_)
      · refine ⟨S1.raw D (.lst []), ρ1, [], [], rfl, ?_, s1.gr (.raw s1.sub hD), upd_same, rfl, none_sub s1.sub hD, hOD, Nat.le_refl _, hw.1, ?_⟩
        · refine ⟨fun a o h n => ?_, fun _ _ h => h, fun _ _ _ _ => rfl, fun p h => .inl h, fun a o h => ⟨o, ?_⟩⟩
          · rw [hide_ne (ne_of_none h hD)]
            exact same_upd hD a o h
          · rw [hide_ne (ne_of_none h hD)]
            exact same_upd hD a o h
        · rw [List.drop_zero]
          cases e : compL ws g c f items ρ1 with
          | ok ys ρ3 =>
            rw [e] at h1
            exact h1
          | err c d ρ3 =>
            rw [e] at h1
            exact h1
          | stuck =>
            rw [e] at h1
            exact h1
      · obtain ⟨S2, ρ2, acc, ad, rfl, ev2, s2, hd2, r2, f2, o2, l2, w2, hp2⟩ := p
        have sbh : Same (hideC S2 D).F (hideC S2 D).H := fun a o e => by
          have na : a ≠ D := fun z => by
            have e' : S2.F a = some o := e
            rw [z, f2] at e'
            cases e'
          rw [hide_ne na]
          exact s2.sub a o e
        have gh := wk2 (hideC S2 D) ev2 sbh
        -- G holds at the whole heap too: by a configuration that owns D's place
        exact wk2 ⟨S2.F, S2.H, S2.O⟩ ⟨fun a o h n => by
          have z := ev2.same a o h n
          exact (hide_some z).2, ev2.frz, ev2.newF, fun p h => ev2.own p h, fun a o h => by
          obtain ⟨o', z⟩ := ev2.there a o h
          exact ⟨o', (hide_some z).2⟩⟩ s2.sub
      · obtain ⟨S2, ρ2, acc, ad, rfl, ev2, s2, hd2, r2, f2, o2, l2, w2, hp2⟩ := p
        have evR : Ev S1 S2 := ⟨fun a o h n => (hide_some (ev2.same a o h n)).2, ev2.frz, ev2.newF, fun p h => ev2.own p h, fun a o h => by
          obtain ⟨o', z⟩ := ev2.there a o h
          exact ⟨o', (hide_some z).2⟩⟩
        obtain ⟨S3, d, rfl, g3, di, rd⟩ := wk3 i S2 x H' hlt evR s2.sub y
        have hdrop : items.drop i = d :: items.drop (i + 1) := by
          rw [List.drop_eq_getElem_cons hlt]
          rw [List.getElem?_eq_getElem hlt] at di
          rw [Option.some.inj di]
        rw [hdrop] at hp2
        have s3 := s2.gr g3
        refine ⟨S3, wipeR ρ2 ws, d, rfl, s3.wipe ws, rd, ?_⟩
        have hp3 : PostL X.K X.mg A W Q S σ ((match g d (wipeR ρ2 ws) with
          | none => Out.stuck
          | some ρ1 => match c ρ1 with
            | .ok true ρ2' => match f ρ2' with
              | .ok y ρ3 => (compL ws g c f (items.drop (i + 1)) (restore ρ2 ρ3 ws)).bind fun ys ρ4 => .ok (y :: ys) ρ4
              | _ => .stuck
            | .ok false ρ2' => compL ws g c f (items.drop (i + 1)) (restore ρ2 ρ2' ws)
            | _ => .stuck).bind fun ys ρ3 => .ok (ad ++ ys) ρ3) := hp2
        cases eg : g d (wipeR ρ2 ws) with
        | none =>
          rw [eg] at hp3
          exact hp3.elim
        | some ρa =>
          rw [eg] at hp3
          intro σa wa sa
          have wa' : L2.wipe σa ws = L2.wipe σ ws := wa.trans wipe_wipe
          refine ⟨wa', S3, ρa, rfl, sa, ?_⟩
          cases ec : c ρa with
          | err _ _ _ =>
            simp only [ec] at hp3
            exact (show False from hp3).elim
          | stuck =>
            simp only [ec] at hp3
            exact (show False from hp3).elim
          | ok b ρb =>
            -- facts kept through a turn's evaluation
            have hD3 : S3.H D = some (.lst acc) := g3.H _ _ hd2
            have fD3 : S3.F D = none := by rw [g3.new D _ hd2]; exact f2
            have oD3 : ¬ S3.O D := by rw [g3.O]; exact o2
            have ev23 : Ev (hideC S2 D) (hideC S3 D) := g3.ev.hide
            cases b with
            | false =>
              simp only [ec] at hp3
              intro S4 ev4 s4
              refine iteF ⟨S4, restore ρ2 ρb ws, acc, ad, rfl, (ev2.trans ev23).trans ev4.hide, ?_, ev4.same _ _ hD3 oD3, (r2.mono g3.F).mono ev4.frz, ?_, ?_, by omega, ?_, hp3⟩
              · exact s2.restore s4 (fun a o e => ev4.frz a o (g3.F a o e)) wa' w2
              · rw [ev4.newF D _ hD3 oD3]
                exact fD3
              · intro q
                rcases ev4.own D q with z | z
                · exact oD3 z
                · rw [hD3] at z
                  cases z
              · refine List.all_eq_true.mpr fun w hw' => ?_
                have hl : ρ2.length = ρb.length := by
                  have e1 := s2.len
                  have e2 := s4.len
                  have e3 := congrArg List.length wa'
                  rw [wipe_length, wipe_length] at e3
                  omega
                rw [restore_get _ _ hl, if_pos hw']
                exact List.all_eq_true.mp w2 w hw'
            | true =>
              simp only [ec] at hp3
              intro S4 ev4 s4
              refine iteT ⟨S4, ρb, rfl, s4, ?_⟩
              cases ef : f ρb with
              | err _ _ _ =>
                simp only [ef] at hp3
                exact (show False from hp3).elim
              | stuck =>
                simp only [ef] at hp3
                exact (show False from hp3).elim
              | ok y ρc =>
                simp only [ef] at hp3
                intro S5 v ev5 s5 rv
                have hD4 : S4.H D = some (.lst acc) := ev4.same _ _ hD3 oD3
                have oD4 : ¬ S4.O D := fun q => by
                  rcases ev4.own D q with z | z
                  · exact oD3 z
                  · rw [hD3] at z
                    cases z
                have fD4 : S4.F D = none := by rw [ev4.newF D _ hD3 oD3]; exact fD3
                have hD5 : S5.H D = some (.lst acc) := ev5.same _ _ hD4 oD4
                have oD5 : ¬ S5.O D := fun q => by
                  rcases ev5.own D q with z | z
                  · exact oD4 z
                  · rw [hD4] at z
                    cases z
                have fD5 : S5.F D = none := by rw [ev5.newF D _ hD4 oD4]; exact fD4
                refine ⟨acc, hD5, ?_, ?_⟩
                · have : acc.length ≤ items.length := by omega
                  have h2 := hw.2
                  exact Nat.lt_of_lt_of_le (Nat.lt_of_le_of_lt this h2) (by decide)
                have sr : Sat X.K X.mg A S5 σ (restore ρ2 ρc ws) := s2.restore s5 (fun a o e => ev5.frz a o (ev4.frz a o (g3.F a o e))) wa' w2
                refine ⟨⟨S5.F, upd S5.H D (.lst (acc ++ [v])), S5.O⟩, restore ρ2 ρc ws, acc ++ [v], ad ++ [y], rfl, ?_, ?_, upd_same, (((r2.mono g3.F).mono ev4.frz).mono ev5.frz).app (RDs.one rv), fD5, oD5, by simp; omega, ?_, ?_⟩
                · have e5 : hideC (⟨S5.F, upd S5.H D (.lst (acc ++ [v])), S5.O⟩ : Cfg) D = hideC S5 D := by
                    have : (fun a => if a = D then none else upd S5.H D (.lst (acc ++ [v])) a) = fun a => if a = D then none else S5.H a := by
                      funext a
                      by_cases q : a = D
                      · rw [if_pos q, if_pos q]
                      · rw [if_neg q, if_neg q, upd_ne q]
                    show (⟨S5.F, fun a => if a = D then none else upd S5.H D (.lst (acc ++ [v])) a, S5.O⟩ : Cfg) = _
                    rw [this]
                    rfl
                  rw [e5]
                  exact ((ev2.trans ev23).trans ev4.hide).trans ev5.hide
                · obtain ⟨fp, t1, t2, t3⟩ := sr.sl
                  refine ⟨fun a o e => ?_, sr.ownF, fun p hp => ?_, sr.len, ⟨fp, fun i sl e => ?_, t2, t3⟩, sr.io⟩
                  · have na : a ≠ D := fun z => by
                      have e' : S5.F a = some o := e
                      rw [z, fD5] at e'
                      cases e'
                    show upd S5.H D (.lst (acc ++ [v])) a = some o
                    rw [upd_ne na]
                    exact sr.sub a o e
                  · have np : p ≠ D := fun z => oD5 (by rw [← z]; exact hp)
                    obtain ⟨o, e⟩ := sr.ownH p hp
                    exact ⟨o, by show upd S5.H D (.lst (acc ++ [v])) p = some o; rw [upd_ne np]; exact e⟩
                  · obtain ⟨u, q1, q2⟩ := t1 i sl e
                    refine ⟨u, q1, q2.grow (fun _ _ z => z) fun p o hp hh => ?_⟩
                    have np : p ≠ D := fun z => oD5 (by rw [← z]; exact t2 i p hp)
                    show upd S5.H D (.lst (acc ++ [v])) p = some o
                    rw [upd_ne np]
                    exact hh
                · refine List.all_eq_true.mpr fun w hw' => ?_
                  have hl : ρ2.length = ρc.length := by
                    have e1 := s2.len
                    have e2 := s5.len
                    have e3 := congrArg List.length wa'
                    rw [wipe_length, wipe_length] at e3
                    omega
                  rw [restore_get _ _ hl, if_pos hw']
                  exact List.all_eq_true.mp w2 w hw'
                · have e6 : (compL ws g c f (items.drop (i + 1)) (restore ρ2 ρc ws)).bind (fun ys ρ3 => Out.ok ((ad ++ [y]) ++ ys) ρ3) = ((compL ws g c f (items.drop (i + 1)) (restore ρ2 ρc ws)).bind fun ys ρ4 => .ok (y :: ys) ρ4).bind fun ys ρ3 => .ok (ad ++ ys) ρ3 := by
                    cases compL ws g c f (items.drop (i + 1)) (restore ρ2 ρc ws) with
                    | ok ys ρ3 =>
                      show Out.ok ((ad ++ [y]) ++ ys) ρ3 = Out.ok (ad ++ y :: ys) ρ3
                      rw [List.append_assoc]
                      rfl
                    | err _ _ _ => rfl
                    | stuck => rfl
                  rw [e6]
                  exact hp3
      · obtain ⟨S2, ρ2, acc, ad, rfl, ev2, s2, hd2, r2, f2, o2, l2, w2, hp2⟩ := p
        rw [List.drop_length] at hp2
        have hp3 : PostL X.K X.mg A W Q S σ (.ok (ad ++ []) ρ2) := hp2
        rw [List.append_nil] at hp3
        have evR : Ev S1 S2 := ⟨fun a o h n => (hide_some (ev2.same a o h n)).2, ev2.frz, ev2.newF, fun p h => ev2.own p h, fun a o h => by
          obtain ⟨o', z⟩ := ev2.there a o h
          exact ⟨o', (hide_some z).2⟩⟩
        exact hp3 S2 D acc (ev1.trans evR) s2 r2 hd2 f2 o2 (ev1.nil hD)
    · rw [if_neg hw] at h1
      exact (show False from h1).elim
/-- [e for target in it if ..] -/
theorem pl_comp {elt tg iter : Expr} {ifs : List Expr} {scope : Scope} (own : List (Str × Nat)) {pos : Pos} {it : EM (List D)} {g : Tgt} {c : EM Bool} {f : EM D} (hc : X.calm = true) (hN : X.N.Nodup) (hi : PID X A W tg iter it) (ok : BlkOk X.N X.env.scope scope own)
    (hg : ∀ (s : Shared) (H : Hp) (C : Addr) (cl : List (Str × Addr)) (fp : List Addr), PGD (X.blk s H scope (compEnvC scope cl C X.env) fp) A tg (own.map (·.2)) g)
    (ht : ∀ (s : Shared) (H : Hp) (C : Addr) (cl : List (Str × Addr)) (fp : List Addr), PTsD (X.blk s H scope (compEnvC scope cl C X.env) fp) A W0 ifs c)
    (he : ∀ (s : Shared) (H : Hp) (C : Addr) (cl : List (Str × Addr)) (fp : List Addr), PD (X.blk s H scope (compEnvC scope cl C X.env) fp) A W0 elt f) (hs : ∀ x, foldedSetIterable iter X.env x = pure x := by intro _; rfl) :
    PL X A W (.ListComp elt [⟨tg, iter, ifs, 0⟩] scope pos) (eComp it (own.map (·.2)) g c f) := PE.imp (pe_lc hc hN hi ok hg ht he hs) fun σ H Q h => comp_to σ H Q h
/-- x = [..] on one line, a new list frozen at once -/
theorem psd_setLc (i : Nat) {y : Str} {py : Pos} {elt tg iter : Expr} {ifs : List Expr} {scope : Scope} (own : List (Str × Nat)) {pos spos : Pos} {it : EM (List D)} {g : Tgt} {c : EM Bool} {f : EM D} (hc : X.calm = true) (hN : X.N.Nodup) (hi : PID X A W tg iter it) (ok : BlkOk X.N X.env.scope scope own)
    (hg : ∀ (s : Shared) (H : Hp) (C : Addr) (cl : List (Str × Addr)) (fp : List Addr), PGD (X.blk s H scope (compEnvC scope cl C X.env) fp) A tg (own.map (·.2)) g)
    (ht : ∀ (s : Shared) (H : Hp) (C : Addr) (cl : List (Str × Addr)) (fp : List Addr), PTsD (X.blk s H scope (compEnvC scope cl C X.env) fp) A W0 ifs c)
    (he : ∀ (s : Shared) (H : Hp) (C : Addr) (cl : List (Str × Addr)) (fp : List Addr), PD (X.blk s H scope (compEnvC scope cl C X.env) fp) A W0 elt f)
    (hsw : swapsWith (.ListComp elt [⟨tg, iter, ifs, 0⟩] scope pos) (some (.Name y py)) spos.line X.env = pure true) (hy : X.N[i]? = some y := by rfl) (hyl : X.env.scope.names.lookup y = some .local := by rfl) (hs : ∀ x, foldedSetIterable iter X.env x = pure x := by intro _; rfl) :
    PSD X A W (.Assign [.Name y py] (.ListComp elt [⟨tg, iter, ifs, 0⟩] scope pos) spos) (sSet i (eL (eComp it (own.map (·.2)) g c f))) := PS.imp (ps_setLc hc hN hy hyl hsw hi ok hg ht he hs) fun D σ H h => by
  obtain ⟨S, ρ, rfl, s, h⟩ := h
  refine comp_to (g := g) (c := c) (f := f) σ S.H _ ⟨S, ρ, rfl, s, ?_⟩
  have h' : PostS X.K X.mg A W D S (((eComp it (own.map (·.2)) g c f ρ).bind fun xs ρ1 => .ok (.lst xs) ρ1).fl fun d ρ1 => putSl ρ1 i (.va d)) := h
  cases e : eComp it (own.map (·.2)) g c f ρ with
  | ok xs ρ1 =>
    rw [e] at h'
    intro S' p vs ev s' r hp hF hO h0
    obtain ⟨k1, k2⟩ := putSl_ok (show PostS X.K X.mg A W D S (putSl ρ1 i (.va (.lst xs))) from h')
    exact k2 ⟨upd S'.F p (.lst vs), S'.H, S'.O⟩ _ (ev.fzRaw hF h0) ((s'.fzRaw hp hF hO).setVa k1 ⟨p, vs, rfl, upd_same, r.mono (same_upd hF)⟩)
  | err c d ρ1 =>
    rw [e] at h'
    exact h'
  | stuck =>
    rw [e] at h'
    exact h'
/-- x = [..] on one line, a new list that the body owns -/
theorem psd_ownLc (i : Nat) {y : Str} {py : Pos} {elt tg iter : Expr} {ifs : List Expr} {scope : Scope} (own : List (Str × Nat)) {pos spos : Pos} {it : EM (List D)} {g : Tgt} {c : EM Bool} {f : EM D} (hc : X.calm = true) (hN : X.N.Nodup) (hi : PID X A W tg iter it) (ok : BlkOk X.N X.env.scope scope own)
    (hg : ∀ (s : Shared) (H : Hp) (C : Addr) (cl : List (Str × Addr)) (fp : List Addr), PGD (X.blk s H scope (compEnvC scope cl C X.env) fp) A tg (own.map (·.2)) g)
    (ht : ∀ (s : Shared) (H : Hp) (C : Addr) (cl : List (Str × Addr)) (fp : List Addr), PTsD (X.blk s H scope (compEnvC scope cl C X.env) fp) A W0 ifs c)
    (he : ∀ (s : Shared) (H : Hp) (C : Addr) (cl : List (Str × Addr)) (fp : List Addr), PD (X.blk s H scope (compEnvC scope cl C X.env) fp) A W0 elt f)
    (hsw : swapsWith (.ListComp elt [⟨tg, iter, ifs, 0⟩] scope pos) (some (.Name y py)) spos.line X.env = pure true) (hy : X.N[i]? = some y := by rfl) (hyl : X.env.scope.names.lookup y = some .local := by rfl) (hs : ∀ x, foldedSetIterable iter X.env x = pure x := by intro _; rfl) :
    PSD X A W (.Assign [.Name y py] (.ListComp elt [⟨tg, iter, ifs, 0⟩] scope pos) spos) (sOwn i (eComp it (own.map (·.2)) g c f)) := PS.imp (ps_setLc hc hN hy hyl hsw hi ok hg ht he hs) fun D σ H h => by
  obtain ⟨S, ρ, rfl, s, h⟩ := h
  refine comp_to (g := g) (c := c) (f := f) σ S.H _ ⟨S, ρ, rfl, s, ?_⟩
  have h' : PostS X.K X.mg A W D S ((eComp it (own.map (·.2)) g c f ρ).fl fun xs ρ1 => putSl ρ1 i (.ow false (.lst xs))) := h
  cases e : eComp it (own.map (·.2)) g c f ρ with
  | ok xs ρ1 =>
    rw [e] at h'
    intro S' p vs ev s' r hp hF hO h0
    obtain ⟨k1, k2⟩ := putSl_ok (show PostS X.K X.mg A W D S (putSl ρ1 i (.ow false (.lst xs))) from h')
    exact k2 ⟨S'.F, S'.H, fun a => S'.O a ∨ a = p⟩ _ (ev.ownRaw h0) (s'.own k1 hp hF hO ⟨p, vs, rfl, hp, r, rfl⟩)
  | err c d ρ1 =>
    rw [e] at h'
    exact h'
  | stuck =>
    rw [e] at h'
    exact h'

/-! ### loops -/
def forL (g : Tgt) (b : SM) : List D → SM
  | [] => fun ρ => .nx ρ
  | x :: xs => fun ρ => match g x ρ with
    | none => .stuck
    | some ρ1 => match b ρ1 with
      | .nx ρ2 => forL g b xs ρ2
      | .ct ρ2 => forL g b xs ρ2
      | .bk ρ2 => .nx ρ2
      | r => r
def sFor (it : EM (List D)) (g : Tgt) (b : SM) : SM := fun ρ => (it ρ).fl fun items ρ1 => forL g b items ρ1
theorem psd_for {tg iter : Expr} {body : List Stmt} {it : EM (List D)} {ws : List Nat} {g : Tgt} {b : SM} {pos : Pos} (hp : PassesOwn (model X.prog X.w) X.A X.env X.xe) (hc : X.calm = true) (hi : PID X A W tg iter it) (hg : PGD X A tg ws g) (hb : PSsD X A W body b)
    (hs : ∀ x, foldedSetIterable iter X.env x = pure x := by intro _; rfl) : PSD X A W (.For tg iter body [] pos) (sFor it g b) := PS.imp (ps_for hp hc hi hg hb hs) fun D σ H h => by
  obtain ⟨S, ρ, rfl, s, h⟩ := h
  refine ⟨S, ρ, rfl, s, ?_⟩
  have h0 : PostS X.K X.mg A W D S ((it ρ).fl fun items ρ1 => forL g b items ρ1) := h
  clear h
  cases hi : it ρ with
  | err c d ρ' =>
    rw [hi] at h0
    exact h0
  | stuck =>
    rw [hi] at h0
    exact h0
  | ok items ρ1 =>
    rw [hi] at h0
    have h1 : PostS X.K X.mg A W D S (forL g b items ρ1) := h0
    intro S1 J ev1 s1 wk
    obtain ⟨G, Y, wk1, wk2, wk3⟩ := wk
    refine for_it (w := wk1) (fun i σ H => ∃ S2 ρ2, S2.H = H ∧ Ev S1 S2 ∧ Sat X.K X.mg A S2 σ ρ2 ∧ PostS X.K X.mg A W D S (forL g b (items.drop i) ρ2)) ⟨S1, ρ1, rfl, Ev.refl S1, s1, h1⟩ (fun i σ H _ p => ?_) (fun i x σ H H' hlt p y => ?_) (fun σ H p => ?_)
    · obtain ⟨S2, ρ2, rfl, ev2, s2, _⟩ := p
      exact wk2 S2 ev2 s2.sub
    · obtain ⟨S2, ρ2, rfl, ev2, s2, hp2⟩ := p
      obtain ⟨S3, d, rfl, g3, di, rd⟩ := wk3 i S2 x H' hlt ev2 s2.sub y
      have hdrop : items.drop i = d :: items.drop (i + 1) := by
        rw [List.drop_eq_getElem_cons hlt]
        rw [List.getElem?_eq_getElem hlt] at di
        rw [Option.some.inj di]
      rw [hdrop] at hp2
      have s3 := s2.gr g3
      refine ⟨S3, ρ2, d, rfl, s3, rd, ?_⟩
      have hp3 : PostS X.K X.mg A W D S (match g d ρ2 with
        | none => .stuck
        | some ρ1 => match b ρ1 with
          | .nx ρ2 => forL g b (items.drop (i + 1)) ρ2
          | .ct ρ2 => forL g b (items.drop (i + 1)) ρ2
          | .bk ρ2 => .nx ρ2
          | r => r) := hp2
      cases eg : g d ρ2 with
      | none =>
        rw [eg] at hp3
        exact hp3.elim
      | some ρa =>
        rw [eg] at hp3
        intro σa wa sa
        refine ⟨S3, ρa, rfl, sa, ?_⟩
        have ev13 : Ev S1 S3 := ev2.trans g3.ev
        cases eb : b ρa with
        | nx ρb =>
          simp only [eb] at hp3
          exact fun S4 σ4 ev4 s4 => ⟨S4, ρb, rfl, ev13.trans ev4, s4, hp3⟩
        | ct ρb =>
          simp only [eb] at hp3
          exact fun S4 σ4 ev4 s4 => ⟨S4, ρb, rfl, ev13.trans ev4, s4, hp3⟩
        | bk ρb =>
          simp only [eb] at hp3
          exact fun S4 σ4 ev4 s4 => hp3 S4 σ4 ((ev1.trans ev13).trans ev4) s4
        | rt d ρb =>
          simp only [eb] at hp3
          exact fun S4 σ4 v ev4 s4 r => hp3 S4 σ4 v ((ev1.trans ev13).trans ev4) s4 r
        | er c d ρb =>
          simp only [eb] at hp3
          exact fun S4 σ4 C cd v hC ev4 => hp3 S4 σ4 C cd v hC ((ev1.trans ev13).trans ev4)
        | stuck =>
          simp only [eb] at hp3
          exact (show False from hp3).elim
    · obtain ⟨S2, ρ2, rfl, ev2, s2, hp2⟩ := p
      rw [List.drop_length] at hp2
      exact hp2 S2 σ (ev1.trans ev2) s2
def whileF (c : EM Bool) (b : SM) : Nat → SM
  | 0 => fun _ => .stuck
  | m + 1 => fun ρ => (c ρ).fl fun t ρ1 => if t = true then (match b ρ1 with
    | .nx ρ2 => whileF c b m ρ2
    | .ct ρ2 => whileF c b m ρ2
    | .bk ρ2 => .nx ρ2
    | r => r) else .nx ρ1
theorem psd_while (n : Nat) {c : Expr} {body : List Stmt} {t : EM Bool} {b : SM} {pos : Pos} (hp : PassesOwn (model X.prog X.w) X.A X.env X.xe) (hc : PTD X A W c t) (hb : PSsD X A W body b) : PSD X A W (.While c body [] pos) (whileF t b n) := PS.imp (ps_while hp hc hb) fun D σ H h => by
  obtain ⟨S, ρ, rfl, s, h⟩ := h
  refine ⟨fun m σ H => ∃ S2 ρ2, S2.H = H ∧ Ev S S2 ∧ Sat X.K X.mg A S2 σ ρ2 ∧ PostS X.K X.mg A W D S (whileF t b m ρ2), ⟨n, S, ρ, rfl, Ev.refl S, s, h⟩, ?_⟩
  rintro m σ H ⟨S2, ρ2, rfl, ev2, s2, h2⟩
  cases m with
  | zero => exact h2.elim
  | succ m =>
    have h3 : PostS X.K X.mg A W D S ((t ρ2).fl fun t' ρ1 => if t' = true then (match b ρ1 with
      | .nx ρ2 => whileF t b m ρ2
      | .ct ρ2 => whileF t b m ρ2
      | .bk ρ2 => .nx ρ2
      | r => r) else .nx ρ1) := h2
    refine ⟨S2, ρ2, rfl, s2, ?_⟩
    cases et : t ρ2 with
    | err c d ρ' =>
      rw [et] at h3
      exact fun S4 σ4 C cd v hC ev4 => h3 S4 σ4 C cd v hC (ev2.trans ev4)
    | stuck =>
      rw [et] at h3
      exact h3
    | ok c ρa =>
      rw [et] at h3
      have h4 : PostS X.K X.mg A W D S (if c = true then (match b ρa with
        | .nx ρ2 => whileF t b m ρ2
        | .ct ρ2 => whileF t b m ρ2
        | .bk ρ2 => .nx ρ2
        | r => r) else .nx ρa) := h3
      intro S3 ev3 s3
      cases c with
      | false =>
        rw [if_neg Bool.false_ne_true] at h4
        exact iteF (h4 S3 σ (ev2.trans ev3) s3)
      | true =>
        rw [if_pos rfl] at h4
        refine iteT ⟨fun σ' H' => ∃ S4 ρ4, S4.H = H' ∧ Ev S S4 ∧ Sat X.K X.mg A S4 σ' ρ4 ∧ PostS X.K X.mg A W D S (whileF t b m ρ4), fun σ' H' q => ⟨m, Nat.lt_succ_self m, q⟩, S3, ρa, rfl, s3, ?_⟩
        have e3 := ev2.trans ev3
        cases eb : b ρa with
        | nx ρb =>
          simp only [eb] at h4
          exact fun S4 σ4 ev4 s4 => ⟨S4, ρb, rfl, e3.trans ev4, s4, h4⟩
        | ct ρb =>
          simp only [eb] at h4
          exact fun S4 σ4 ev4 s4 => ⟨S4, ρb, rfl, e3.trans ev4, s4, h4⟩
        | bk ρb =>
          simp only [eb] at h4
          exact fun S4 σ4 ev4 s4 => h4 S4 σ4 (e3.trans ev4) s4
        | rt d ρb =>
          simp only [eb] at h4
          exact fun S4 σ4 v ev4 s4 r => h4 S4 σ4 v (e3.trans ev4) s4 r
        | er c d ρb =>
          simp only [eb] at h4
          exact fun S4 σ4 C cd v hC ev4 => h4 S4 σ4 C cd v hC (e3.trans ev4)
        | stuck =>
          simp only [eb] at h4
          exact (show False from h4).elim
end
end DL
end

section
set_option Elab.async false
set_option linter.all false
set_option maxRecDepth 100000
/-! Assignments to several names. -/
namespace DL
open PySem PySem.Spec PyProof.Rows L2
/-- t = e, any target -/
def sAsg (f : EM D) (g : Tgt) : SM := fun ρ => (f ρ).fl fun d ρ1 => match g d ρ1 with
  | some ρ2 => .nx ρ2
  | none => .stuck
/-- an element of a display: a value, or a new list that the body owns -/
inductive El where
  | fz (f : EM D) | nw (f : EM (List D))
def El.go : El → EM D
  | .fz f => f
  | .nw f => eL f
def El.sl : El → D → Option Sl
  | .fz _, d => some (.va d)
  | .nw _, .lst xs => some (.ow false (.lst xs))
  | _, _ => none
def putEl (ρ : Env') (i : Nat) (o : Option Sl) (k : Env' → Fl) : Fl := match o with
  | some s => if isIo ρ[i]? = true then .stuck else k (ρ.set i s)
  | none => .stuck
def sPar (i j : Nat) (a b : El) : SM := fun ρ => (a.go ρ).fl fun x ρ1 => (b.go ρ1).fl fun y ρ2 => putEl ρ2 i (a.sl x) fun ρ3 => putEl ρ3 j (b.sl y) fun ρ4 => .nx ρ4
def sPar3 (i j l : Nat) (a b c : El) : SM := fun ρ => (a.go ρ).fl fun x ρ1 => (b.go ρ1).fl fun y ρ2 => (c.go ρ2).fl fun z ρ3 => putEl ρ3 i (a.sl x) fun ρ4 => putEl ρ4 j (b.sl y) fun ρ5 => putEl ρ5 l (c.sl z) fun ρ6 => .nx ρ6
section
variable (K : PySem.W.Frag) (mg : Str → Option Value) (A : List V) (W : WX)
def tEl : El → TE
  | .fz f => tD K mg A W f
  | .nw f => tL K mg A W f
end
abbrev PEl (X : Cx) (A : List V) (W : WX) (e : Expr) (o : El) : Prop := PE X e (tEl X.K X.mg A W o)
section
variable {X : Cx} {A : List V} {W : WX} {S S' : Cfg} {σ : L2.St} {ρ : Env'}
theorem pel_fz {e : Expr} {f : EM D} (h : PD X A W e f) : PEl X A W e (.fz f) := h
theorem pel_nw {e : Expr} {f : EM (List D)} (h : PL X A W e f) : PEl X A W e (.nw f) := h
def ElOk (X : Cx) (S0 S : Cfg) (v : V) : El → D → Prop
  | .fz _, d => RD X.K X.mg S.F d v
  | .nw _, d => ∃ p vs xs, v = .ref p ∧ d = .lst xs ∧ S.H p = some (.lst vs) ∧ RDs X.K X.mg S.F xs vs ∧ S.F p = none ∧ ¬ S.O p ∧ S0.H p = none
theorem ElOk.ev {S0 : Cfg} {v : V} {o : El} {d : D} (h : ElOk X S0 S v o d) (e : Ev S S') : ElOk X S0 S' v o d := by
  cases o with
  | fz f => exact RD.mono e.frz h
  | nw f =>
    obtain ⟨p, vs, xs, h1, h2, h3, h4, h5, h6, h7⟩ := h
    refine ⟨p, vs, xs, h1, h2, e.same _ _ h3 h6, h4.mono e.frz, ?_, fun q => ?_, h7⟩
    · rw [e.newF p _ h3 h6]
      exact h5
    · rcases e.own p q with z | z
      · exact h6 z
      · rw [h3] at z
        cases z
theorem el_fl {D' : Ends} {S0 : Cfg} {o : El} {g : D → Env' → Fl} {Q' : VK} (h0 : Ev S0 S) (s : Sat X.K X.mg A S σ ρ) (hp : PostS X.K X.mg A W D' S0 ((o.go ρ).fl g))
    (k : ∀ x ρ1 S1 v, PostS X.K X.mg A W D' S0 (g x ρ1) → Ev S S1 → Sat X.K X.mg A S1 σ ρ1 → ElOk X S S1 v o x → Q' v S1.H) : tEl X.K X.mg A W o σ S.H Q' := by
  cases o with
  | fz f =>
    refine ⟨S, ρ, rfl, s, ?_⟩
    have hp' : PostS X.K X.mg A W D' S0 ((f ρ).fl g) := hp
    cases e : f ρ with
    | ok x ρ1 =>
      rw [e] at hp'
      exact fun S1 v ev s1 r => k x ρ1 S1 v hp' ev s1 r
    | err c d ρ1 =>
      rw [e] at hp'
      exact PostX.ev (show PostX X.K X.mg A W S0 c d ρ1 from hp') h0
    | stuck =>
      rw [e] at hp'
      exact hp'
  | nw f =>
    refine ⟨S, ρ, rfl, s, ?_⟩
    have hp' : PostS X.K X.mg A W D' S0 (((f ρ).bind fun xs ρ1 => .ok (.lst xs) ρ1).fl g) := hp
    cases e : f ρ with
    | ok xs ρ1 =>
      rw [e] at hp'
      exact fun S1 p vs ev s1 r h1 h2 h3 h4 => k (.lst xs) ρ1 S1 (.ref p) hp' ev s1 ⟨p, vs, xs, rfl, rfl, h1, r, h2, h3, h4⟩
    | err c d ρ1 =>
      rw [e] at hp'
      exact PostX.ev (show PostX X.K X.mg A W S0 c d ρ1 from hp') h0
    | stuck =>
      rw [e] at hp'
      exact hp'
def Dst (a b : El) (v u : V) : Prop := match a, b with
  | .nw _, .nw _ => u ≠ v
  | _, _ => True
/-- an element is stored -/
theorem el_put {D' : Ends} {S0 S0' : Cfg} {o : El} {d : D} {v : V} {i : Nat} {k : Env' → Fl} (s : Sat X.K X.mg A S σ ρ) (h0 : Ev S0 S) (ok : ElOk X S0' S v o d) (hn : ∀ p, S0'.H p = none → S0.H p = none) (hp : PostS X.K X.mg A W D' S0 (putEl ρ i (o.sl d) k)) :
    ∃ S1 sl, S1.H = S.H ∧ S1.F = S.F ∧ Ev S0 S1 ∧ Sat X.K X.mg A S1 (σ.set i (some v)) (ρ.set i sl) ∧ PostS X.K X.mg A W D' S0 (k (ρ.set i sl)) ∧ ∀ (b : El) (d2 : D) (u : V) (Sb : Cfg), Dst o b v u → ElOk X Sb S u b d2 → ElOk X Sb S1 u b d2 := by
  cases o with
  | fz f =>
    have hp' : PostS X.K X.mg A W D' S0 (if isIo ρ[i]? = true then .stuck else k (ρ.set i (.va d))) := hp
    by_cases q : isIo ρ[i]? = true
    · rw [if_pos q] at hp'
      exact (show False from hp').elim
    · rw [if_neg q] at hp'
      exact ⟨S, .va d, rfl, rfl, h0, s.setVa (by simpa using q) ok, hp', fun _ _ _ _ _ z => z⟩
  | nw f =>
    obtain ⟨p, vs, xs, rfl, rfl, h3, h4, h5, h6, h7⟩ := ok
    have hp' : PostS X.K X.mg A W D' S0 (if isIo ρ[i]? = true then .stuck else k (ρ.set i (.ow false (.lst xs)))) := hp
    by_cases q : isIo ρ[i]? = true
    · rw [if_pos q] at hp'
      exact (show False from hp').elim
    · rw [if_neg q] at hp'
      refine ⟨⟨S.F, S.H, fun a => S.O a ∨ a = p⟩, .ow false (.lst xs), rfl, rfl, h0.ownRaw (hn p h7), s.own (by simpa using q) h3 h5 h6 ⟨p, vs, rfl, h3, h4, rfl⟩, hp', fun b d2 u Sb hd z => ?_⟩
      cases b with
      | fz g => exact z
      | nw g =>
        obtain ⟨p2, vs2, xs2, rfl, rfl, k3, k4, k5, k6, k7⟩ := z
        refine ⟨p2, vs2, xs2, rfl, rfl, k3, k4, k5, fun w => ?_, k7⟩
        rcases w with w | w
        · exact k6 w
        · have hd' : V.ref p2 ≠ V.ref p := hd
          exact hd' (by rw [w])
theorem el_dst {S0 : Cfg} {a b : El} {x y : D} {v u : V} (ha : ElOk X S0 S v a x) (hb : ElOk X S S' u b y) : Dst a b v u := by
  cases a with
  | fz f => trivial
  | nw f => cases b with
    | fz g => trivial
    | nw g =>
      obtain ⟨p, vs, xs, rfl, rfl, h3, _⟩ := ha
      obtain ⟨p2, vs2, xs2, rfl, rfl, k3, k4, k5, k6, k7⟩ := hb
      intro z
      cases z
      rw [h3] at k7
      cases k7
theorem psd_par {i j : Nat} {x y : Str} {a b : Expr} {ea eb : El} {px py pt pos : Pos} {kt k2 pt2} (hc : X.calm = true) (hN : X.N.Nodup) (ha : PEl X A W a ea) (hb : PEl X A W b eb) (hi : X.N[i]? = some x := by rfl) (hj : X.N[j]? = some y := by rfl) (hij : i ≠ j := by decide)
    (hx : X.env.scope.names.lookup x = some .local := by rfl) (hy : X.env.scope.names.lookup y = some .local := by rfl)
    (hs1 : starEach (a :: [b]) X.env = (false, eval a X.env) :: starEach [b] X.env := by rfl) (hs2 : starEach (b :: []) X.env = (false, eval b X.env) :: starEach [] X.env := by rfl)
    (hw : swappedStores [.Tuple [.Name x px, .Name y py] kt pt] (.Tuple [a, b] k2 pt2) X.env = pure (some [x, y]) := by rfl)
    (hs : swapsWithSole [.Tuple [.Name x px, .Name y py] kt pt] (.Tuple [a, b] k2 pt2) pos.line X.env = pure false := by rfl) :
    PSD X A W (.Assign [.Tuple [.Name x px, .Name y py] kt pt] (.Tuple [a, b] k2 pt2) pos) (sPar i j ea eb) := PS.imp (ps_par hc hN hi hj hij hx hy (pa_cons ha (pa_cons hb pa_nil hs2) hs1) hw hs) fun D σ H h => by
  obtain ⟨S, ρ, rfl, s, h⟩ := h
  refine el_fl (Ev.refl S) s h fun d1 ρ1 S1 v hp1 ev1 s1 ok1 => ?_
  refine el_fl ev1 s1 hp1 fun d2 ρ2 S2 u hp2 ev2 s2 ok2 => ?_
  have hd := el_dst ok1 ok2
  have hp2' : PostS X.K X.mg A W D S (putEl ρ2 i (ea.sl d1) fun ρ3 => putEl ρ3 j (eb.sl d2) fun ρ4 => .nx ρ4) := hp2
  obtain ⟨S3, sl1, hH3, hF3, ev3, s3, hp3, mv⟩ := el_put s2 (ev1.trans ev2) (ok1.ev ev2) (fun p z => z) hp2'
  obtain ⟨S4, sl2, hH4, hF4, ev4, s4, hp4, _⟩ := el_put s3 ev3 (mv _ _ _ _ hd ok2) (fun p z => ev1.nil z) hp3
  refine ⟨v, u, rfl, ?_⟩
  have z := hp4 S4 _ ev4 s4
  rw [hH4, hH3] at z
  exact z
theorem psd_par3 {i j l : Nat} {x y w : Str} {a b c : Expr} {ea eb ec : El} {px py pz pt pos : Pos} {kt k2 pt2} (hc : X.calm = true) (hN : X.N.Nodup) (ha : PEl X A W a ea) (hb : PEl X A W b eb) (hce : PEl X A W c ec) (hi : X.N[i]? = some x := by rfl) (hj : X.N[j]? = some y := by rfl) (hl : X.N[l]? = some w := by rfl) (hij : i ≠ j := by decide) (hil : i ≠ l := by decide) (hjl : j ≠ l := by decide)
    (hx : X.env.scope.names.lookup x = some .local := by rfl) (hy : X.env.scope.names.lookup y = some .local := by rfl) (hz : X.env.scope.names.lookup w = some .local := by rfl)
    (hs1 : starEach (a :: [b, c]) X.env = (false, eval a X.env) :: starEach [b, c] X.env := by rfl) (hs2 : starEach (b :: [c]) X.env = (false, eval b X.env) :: starEach [c] X.env := by rfl) (hs3 : starEach (c :: []) X.env = (false, eval c X.env) :: starEach [] X.env := by rfl)
    (hw : swappedStores [.Tuple [.Name x px, .Name y py, .Name w pz] kt pt] (.Tuple [a, b, c] k2 pt2) X.env = pure (some [x, y, w]) := by rfl)
    (hs : swapsWithSole [.Tuple [.Name x px, .Name y py, .Name w pz] kt pt] (.Tuple [a, b, c] k2 pt2) pos.line X.env = pure false := by rfl) :
    PSD X A W (.Assign [.Tuple [.Name x px, .Name y py, .Name w pz] kt pt] (.Tuple [a, b, c] k2 pt2) pos) (sPar3 i j l ea eb ec) := PS.imp (ps_par3 hc hN hi hj hl hij hil hjl hx hy hz (pa_cons ha (pa_cons hb (pa_cons hce pa_nil hs3) hs2) hs1) hw hs) fun D σ H h => by
  obtain ⟨S, ρ, rfl, s, h⟩ := h
  refine el_fl (Ev.refl S) s h fun d1 ρ1 S1 v hp1 ev1 s1 ok1 => ?_
  refine el_fl ev1 s1 hp1 fun d2 ρ2 S2 u hp2 ev2 s2 ok2 => ?_
  refine el_fl (ev1.trans ev2) s2 hp2 fun d3 ρ3 S3 t hp3 ev3 s3 ok3 => ?_
  have hd12 := el_dst ok1 ok2
  have hd13 := el_dst (ok1.ev ev2) ok3
  have hd23 := el_dst ok2 ok3
  have hp3' : PostS X.K X.mg A W D S (putEl ρ3 i (ea.sl d1) fun ρ4 => putEl ρ4 j (eb.sl d2) fun ρ5 => putEl ρ5 l (ec.sl d3) fun ρ6 => .nx ρ6) := hp3
  have ev13 := (ev1.trans ev2).trans ev3
  obtain ⟨S4, sl1, hH4, hF4, ev4, s4, hp4, mv4⟩ := el_put s3 ev13 ((ok1.ev ev2).ev ev3) (fun p z => z) hp3'
  obtain ⟨S5, sl2, hH5, hF5, ev5, s5, hp5, mv5⟩ := el_put s4 ev4 (mv4 _ _ _ _ hd12 (ok2.ev ev3)) (fun p z => ev1.nil z) hp4
  obtain ⟨S6, sl3, hH6, hF6, ev6, s6, hp6, _⟩ := el_put s5 ev5 (mv5 _ _ _ _ hd23 (mv4 _ _ _ _ hd13 ok3)) (fun p z => (ev1.trans ev2).nil z) hp5
  refine ⟨v, u, t, rfl, ?_⟩
  have z := hp6 S6 _ ev6 s6
  rw [hH6, hH5, hH4] at z
  exact z
/-- t = e, any target, e no display of two or three names' values -/
theorem psd_asg {tg e : Expr} {f : EM D} {ws : List Nat} {g : Tgt} {pos : Pos} (he : PD X A W e f) (hg : PGD X A tg ws g) (hs : swapsWithSole [tg] e pos.line X.env = pure false := by rfl) (hw : swappedStores [tg] e X.env = pure none := by rfl) (h1 : (assignEach [tg] X.env).map (·.2) = [assign tg X.env] := by rfl) :
    PSD X A W (.Assign [tg] e pos) (sAsg f g) := PS.imp (ps_asg he hg hs hw h1) fun D σ H h => by
  obtain ⟨S, ρ, rfl, s, h⟩ := h
  refine tD_fl s h fun d ρ1 S1 v hp ev s1 r => ?_
  refine ⟨S1, ρ1, d, rfl, s1, r, ?_⟩
  have hp' : PostS X.K X.mg A W D S (match g d ρ1 with
    | some ρ2 => .nx ρ2
    | none => .stuck) := hp
  cases e : g d ρ1 with
  | none =>
    rw [e] at hp'
    exact (show False from hp').elim
  | some ρ2 =>
    rw [e] at hp'
    exact fun σ' _ s' => hp' S1 σ' ev s'
end
end DL
end

section
set_option Elab.async false
set_option linter.all false
set_option maxRecDepth 100000
/-! Value operations. -/
namespace DL
open PySem PySem.Spec PyProof.Rows L2
/-! ### as plain data -/
mutual
def toPy : D → Option PyData
  | .non => some .none
  | .bl b => some (.bool b)
  | .int i => some (.int i)
  | .str x => some (.str x)
  | .lst xs => (toPys xs).map .list
  | .tup xs => (toPys xs).map .tuple
  | _ => none
def toPys : List D → Option (List PyData)
  | [] => some []
  | x :: xs => match toPy x, toPys xs with
    | some d, some ds => some (d :: ds)
    | _, _ => none
end
section
variable {K : PySem.W.Frag} {mg : Str → Option Value} {F : Hp}
mutual
theorem RD.dp : ∀ {d : D} {v : V} {p : PyData}, RD K mg F d v → toPy d = some p → Dp K F v p
  | .non, v, p, r, e => by
    cases e
    have : v = .non := r
    subst this
    exact .non
  | .bl b, v, p, r, e => by
    cases e
    have : v = .bl b := r
    subst this
    exact .bl b
  | .int i, v, p, r, e => by
    cases e
    have : v = .int i := r
    subst this
    exact .int i
  | .str x, v, p, r, e => by
    cases e
    have : v = .str x := r
    subst this
    exact .str x
  | .lst xs, v, p, r, e => by
    obtain ⟨a, vs, h1, h2, h3⟩ := r
    unfold toPy at e
    cases q : toPys xs with
    | none =>
      rw [q] at e
      cases e
    | some ps =>
      rw [q] at e
      cases e
      subst h1
      exact .lst (SqL.of h2) (RDs.dp h3 q)
  | .tup xs, v, p, r, e => by
    obtain ⟨a, vs, h1, h2, h3⟩ := r
    unfold toPy at e
    cases q : toPys xs with
    | none =>
      rw [q] at e
      cases e
    | some ps =>
      rw [q] at e
      cases e
      subst h1
      exact .tup h2 (RDs.dp h3 q)
  | .dK _ _, _, _, _, e => by cases e
  | .dT _ _, _, _, _, e => by cases e
  | .ins _ _ _, _, _, _, e => by cases e
  | .ty _, _, _, _, e => by cases e
  | .cls _, _, _, _, e => by cases e
  | .scr _, _, _, _, e => by cases e
theorem RDs.dp : ∀ {ds : List D} {vs : List V} {ps : List PyData}, RDs K mg F ds vs → toPys ds = some ps → DpAll K F vs ps
  | [], vs, ps, r, e => by
    cases e
    have : vs = [] := r
    subst this
    exact .nil
  | d :: ds, vs, ps, ⟨v, r, h1, h2, h3⟩, e => by
    unfold toPys at e
    split at e
    · rename_i p qs e1 e2
      cases e
      subst h1
      exact .cons (RD.dp h2 e1) (RDs.dp h3 e2)
    · cases e
end
theorem RB.dp {S : Cfg} (h : Same S.F S.H) {d : D} {v : V} {p : PyData} (r : RB K mg S d v) (e : toPy d = some p) : Dp K S.H v p := by
  cases d with
  | lst xs =>
    obtain ⟨a, vs, h1, h2, h3⟩ := r
    unfold toPy at e
    cases q : toPys xs with
    | none =>
      rw [q] at e
      cases e
    | some ps =>
      rw [q] at e
      cases e
      subst h1
      exact .lst (SqL.of h2) ((h3.mono h).dp q)
  | dK _ _ => cases e
  | dT _ _ => cases e
  | non => exact (RD.mono h r).dp e
  | bl _ => exact (RD.mono h r).dp e
  | int _ => exact (RD.mono h r).dp e
  | str _ => exact (RD.mono h r).dp e
  | tup _ => exact (RD.mono h r).dp e
  | ins _ _ _ => cases e
  | ty _ => cases e
  | cls _ => cases e
  | scr _ => cases e
end
section
variable {X : Cx}
theorem OpR.or {f : Value → Value → Sem Value} {r r' : R2} (h : OpR X f r) (h' : OpR X f r') : OpR X f (fun x y H Q => r x y H Q ∨ r' x y H Q) := fun pins s σ H x y v u Q I rx ry q => by
  rcases q with q | q
  · exact h pins s σ H x y v u Q I rx ry q
  · exact h' pins s σ H x y v u Q I rx ry q
theorem rb_int {S : Cfg} {i : Int} {v : V} (h : RB X.K X.mg S (.int i) v) : v = .int i := h
theorem rb_bl {S : Cfg} {i : Bool} {v : V} (h : RB X.K X.mg S (.bl i) v) : v = .bl i := h
theorem rb_str {S : Cfg} {i : Str} {v : V} (h : RB X.K X.mg S (.str i) v) : v = .str i := h
theorem rb_tup {S : Cfg} {xs : List D} {v : V} (h : RB X.K X.mg S (.tup xs) v) : ∃ a vs, v = .ref a ∧ SqT X.K S.F a vs ∧ RDs X.K X.mg S.F xs vs := h
/-- a new frozen tuple, list -/
theorem give_tup {S : Cfg} (hS : Same S.F S.H) {xs : List D} {vs : List V} {Q : VK} (r : RDs X.K X.mg S.F xs vs) (k : ∀ S' w, Gr S S' → RD X.K X.mg S'.F (.tup xs) w → Q w S'.H) (p : Addr) (hp : S.H p = none) : Q (.ref p) (upd S.H p (.tup vs)) :=
  k (S.fz p (.tup vs)) (.ref p) (.fz hS hp) ⟨p, vs, rfl, SqT.of upd_same, r.mono (same_upd (none_sub hS hp))⟩
theorem give_lst {S : Cfg} (hS : Same S.F S.H) {xs : List D} {vs : List V} {Q : VK} (r : RDs X.K X.mg S.F xs vs) (k : ∀ S' w, Gr S S' → RD X.K X.mg S'.F (.lst xs) w → Q w S'.H) (p : Addr) (hp : S.H p = none) : Q (.ref p) (upd S.H p (.lst vs)) :=
  k (S.fz p (.lst vs)) (.ref p) (.fz hS hp) ⟨p, vs, rfl, upd_same, r.mono (same_upd (none_sub hS hp))⟩
abbrev BIG : Nat := 1000000
theorem big_size {n : Nat} (h : n ≤ BIG) : n ≤ sizeLine := Nat.le_trans h (by decide)
/-! ### + -/
def dAdd : D → D → Option D
  | .int i, .int j => some (.int (i + j))
  | .lst a, .lst b => if a.length + b.length ≤ BIG then some (.lst (a ++ b)) else none
  | .tup a, .tup b => if a.length + b.length ≤ BIG then some (.tup (a ++ b)) else none
  | .str a, .str b => if a.length + b.length ≤ BIG then some (.str (a ++ b)) else none
  | _, _ => none
def rAddD (K : PySem.W.Frag) : R2 := fun x y H Q => rI0 (fun i j => .int (i + j)) x y H Q ∨ rCat x y H Q ∨ L2.rCatA K x y H Q ∨ ∃ i j, x = .str i ∧ y = .str j ∧ i.length + j.length ≤ sizeLine ∧ Q (.str (i ++ j)) H
theorem op_addD : OpR X (binaryOp .Add) (rAddD X.K) := op_add.or (op_cat.or (op_catA.or op_add_str))
theorem vop_add : VOp2 X dAdd (rAddD X.K) := fun S x y z v u Q hS e rx ry k => by
  unfold dAdd at e
  split at e
  · cases e
    exact .inl ⟨_, _, rx, ry, k S _ (.refl hS) rfl⟩
  · rename_i a b
    split at e
    · rename_i hl
      cases e
      obtain ⟨p, vs, rfl, h2, h3⟩ := rx
      obtain ⟨q, us, rfl, k2, k3⟩ := ry
      exact .inr (.inl ⟨p, q, vs, us, rfl, rfl, h2, k2, big_size (by rw [← h3.length, ← k3.length]; exact hl), fun n hn => give_lst hS (h3.app k3) k n hn⟩)
    · cases e
  · rename_i a b
    split at e
    · rename_i hl
      cases e
      obtain ⟨p, vs, rfl, h2, h3⟩ := rx
      obtain ⟨q, us, rfl, k2, k3⟩ := ry
      refine .inr (.inr (.inl ⟨p, q, vs, us, rfl, rfl, sqT_mono hS h2, sqT_mono hS k2, big_size (by rw [← h3.length, ← k3.length]; exact hl), fun e => ?_, fun _ e => ?_, fun _ _ n hn => give_tup hS (h3.app k3) k n hn⟩))
      · cases a with
        | nil => exact k S _ (.refl hS) ⟨q, us, rfl, k2, k3⟩
        | cons c r =>
          subst e
          exact nomatch h3.length
      · cases b with
        | nil => exact k S _ (.refl hS) ⟨p, vs, rfl, h2, by rw [List.append_nil]; exact h3⟩
        | cons c r =>
          subst e
          exact nomatch k3.length
    · cases e
  · split at e
    · rename_i hl
      cases e
      exact .inr (.inr (.inr ⟨_, _, rx, ry, big_size hl, k S _ (.refl hS) rfl⟩))
    · cases e
  · cases e
/-! ### ints -/
def dSub : D → D → Option D
  | .int i, .int j => some (.int (i - j))
  | _, _ => none
theorem vop_sub : VOp2 X dSub (rI0 fun i j => .int (i - j)) := fun S x y z v u Q hS e rx ry k => by
  unfold dSub at e
  split at e
  · cases e
    exact ⟨_, _, rx, ry, k S _ (.refl hS) rfl⟩
  · cases e
def dFdiv : D → D → Option D
  | .int i, .int j => if 0 < j ∧ j < 1073741824 then some (.int (i / j)) else none
  | _, _ => none
theorem vop_fdiv : VOp2 X dFdiv (rI CDiv fun i j => .int (i / j)) := fun S x y z v u Q hS e rx ry k => by
  unfold dFdiv at e
  split at e
  · split at e
    · rename_i h
      cases e
      exact ⟨_, _, rx, ry, h, k S _ (.refl hS) rfl⟩
    · cases e
  · cases e
def dMod : D → D → Option D
  | .int i, .int j => if 0 < j then some (.int (i % j)) else none
  | _, _ => none
theorem vop_mod : VOp2 X dMod (rI (fun _ j => 0 < j) fun i j => .int (i % j)) := fun S x y z v u Q hS e rx ry k => by
  unfold dMod at e
  split at e
  · split at e
    · rename_i h
      cases e
      exact ⟨_, _, rx, ry, h, k S _ (.refl hS) rfl⟩
    · cases e
  · cases e
/-! ### order -/
def dCmp (p : Int → Int → Bool) : D → D → Option D
  | .int i, .int j => some (.bl (p i j))
  | _, _ => none
theorem vop_cmp (p : Int → Int → Bool) : VOp2 X (dCmp p) (rI0 fun i j => .bl (p i j)) := fun S x y z v u Q hS e rx ry k => by
  unfold dCmp at e
  split at e
  · cases e
    exact ⟨_, _, rx, ry, k S _ (.refl hS) rfl⟩
  · cases e
abbrev dLt := dCmp fun i j => decide (i < j)
abbrev dLe := dCmp fun i j => decide (i ≤ j)
abbrev dGt := dCmp fun i j => decide (j < i)
abbrev dGe := dCmp fun i j => decide (j ≤ i)
/-! ### ==, !=, is None -/
def dEqv (x y : D) : Option Bool := match toPy x, toPy y with
  | some p, some q => if SeqAt.shaped p = true ∧ SeqAt.shaped q = true then some (PyData.eqv p q) else none
  | _, _ => none
def dEq (x y : D) : Option D := (dEqv x y).map .bl
def dNe (x y : D) : Option D := (dEqv x y).map fun b => .bl (!b)
theorem dEqv_some {x y : D} {b : Bool} (h : dEqv x y = some b) : ∃ p q, toPy x = some p ∧ toPy y = some q ∧ SeqAt.shaped p = true ∧ SeqAt.shaped q = true ∧ b = PyData.eqv p q := by
  unfold dEqv at h
  split at h
  · rename_i p q e1 e2
    split at h
    · rename_i hs
      cases h
      exact ⟨p, q, e1, e2, hs.1, hs.2, rfl⟩
    · cases h
  · cases h
theorem vop_eq : VOp2 X dEq (rEqD X.K) := fun S x y z v u Q hS e rx ry k => by
  unfold dEq at e
  cases q : dEqv x y with
  | none =>
    rw [q] at e
    cases e
  | some b =>
    rw [q] at e
    cases e
    obtain ⟨p, p', e1, e2, h1, h2, rfl⟩ := dEqv_some q
    exact ⟨p, p', rx.dp hS e1, ry.dp hS e2, h1, h2, k S _ (.refl hS) rfl⟩
theorem vop_ne : VOp2 X dNe (rNeD X.K) := fun S x y z v u Q hS e rx ry k => by
  unfold dNe at e
  cases q : dEqv x y with
  | none =>
    rw [q] at e
    cases e
  | some b =>
    rw [q] at e
    cases e
    obtain ⟨p, p', e1, e2, h1, h2, rfl⟩ := dEqv_some q
    exact ⟨p, p', rx.dp hS e1, ry.dp hS e2, h1, h2, k S _ (.refl hS) rfl⟩
def isNon : D → Bool
  | .non => true
  | _ => false
theorem rb_non {S : Cfg} {d : D} {v : V} (h : RB X.K X.mg S d v) : decide (v = .non) = isNon d := by
  cases d with
  | non =>
    have : v = .non := h
    subst this
    rfl
  | bl b =>
    have : v = .bl b := h
    subst this
    rfl
  | int b =>
    have : v = .int b := h
    subst this
    rfl
  | str b =>
    have : v = .str b := h
    subst this
    rfl
  | lst xs =>
    obtain ⟨a, vs, rfl, _⟩ := h
    rfl
  | tup xs =>
    obtain ⟨a, vs, rfl, _⟩ := h
    rfl
  | dK ks xs =>
    obtain ⟨a, vs, rfl, _⟩ := h
    rfl
  | dT ks xs =>
    obtain ⟨a, vs, rfl, _⟩ := h
    rfl
  | ins c ns xs =>
    obtain ⟨a, C, dx, vs, rfl, _⟩ := h
    rfl
  | ty n =>
    have : v = .ty n := h
    subst this
    rfl
  | cls c =>
    obtain ⟨C, _, rfl⟩ := h
    rfl
  | scr ns =>
    obtain ⟨a, rfl, _⟩ := h
    rfl
def dIsN (x y : D) : Option D := if isNon y = true then some (.bl (isNon x)) else none
def dNotN (x y : D) : Option D := if isNon y = true then some (.bl (!isNon x)) else none
theorem vop_isN : VOp2 X dIsN (fun x y H Q => y = .non ∧ Q (.bl (decide (x = .non))) H) := fun S x y z v u Q hS e rx ry k => by
  unfold dIsN at e
  split at e
  · rename_i h
    cases e
    rw [← rb_non ry] at h
    refine ⟨of_decide_eq_true h, ?_⟩
    rw [rb_non rx]
    exact k S _ (.refl hS) rfl
  · cases e
theorem vop_notN : VOp2 X dNotN (fun x y H Q => y = .non ∧ Q (.bl (!decide (x = .non))) H) := fun S x y z v u Q hS e rx ry k => by
  unfold dNotN at e
  split at e
  · rename_i h
    cases e
    rw [← rb_non ry] at h
    refine ⟨of_decide_eq_true h, ?_⟩
    rw [rb_non rx]
    exact k S _ (.refl hS) rfl
  · cases e
/-! ### in, not in (a list) -/
def dInL (x y : D) : Option Bool := match toPy x, toPy y with
  | some p, some (.list qs) => if SeqAt.shaped p = true ∧ SeqAt.shaped (.list qs) = true then some (qs.any fun z => PyData.eqv z p) else none
  | _, _ => none
def dIn (x y : D) : Option D := (dInL x y).map .bl
def dNotIn (x y : D) : Option D := (dInL x y).map fun b => .bl (!b)
theorem dInL_some {x y : D} {b : Bool} (h : dInL x y = some b) : ∃ p qs, toPy x = some p ∧ toPy y = some (.list qs) ∧ SeqAt.shaped p = true ∧ SeqAt.shaped (.list qs) = true ∧ b = qs.any fun z => PyData.eqv z p := by
  unfold dInL at h
  split at h
  · rename_i p q e1 e2
    split at h
    · rename_i hs
      cases h
      exact ⟨p, q, e1, e2, hs.1, hs.2, rfl⟩
    · cases h
  · cases h
theorem vop_in : VOp2 X dIn (rInD X.K) := fun S x y z v u Q hS e rx ry k => by
  unfold dIn at e
  cases q : dInL x y with
  | none =>
    rw [q] at e
    cases e
  | some b =>
    rw [q] at e
    cases e
    obtain ⟨p, p', e1, e2, h1, h2, rfl⟩ := dInL_some q
    exact ⟨p, p', rx.dp hS e1, ry.dp hS e2, h1, h2, k S _ (.refl hS) rfl⟩
theorem vop_notIn : VOp2 X dNotIn (rNotInD X.K) := fun S x y z v u Q hS e rx ry k => by
  unfold dNotIn at e
  cases q : dInL x y with
  | none =>
    rw [q] at e
    cases e
  | some b =>
    rw [q] at e
    cases e
    obtain ⟨p, p', e1, e2, h1, h2, rfl⟩ := dInL_some q
    exact ⟨p, p', rx.dp hS e1, ry.dp hS e2, h1, h2, k S _ (.refl hS) rfl⟩
/-! ### subscripts -/
def dIx : D → D → Option D
  | .lst xs, .int i => atI xs i
  | .tup xs, .int i => atI xs i
  | _, _ => none
theorem atI_rds {S : Cfg} {xs : List D} {vs : List V} {i : Int} {d : D} (h : RDs X.K X.mg S.F xs vs) (e : atI xs i = some d) : ∃ v, atI vs i = some v ∧ RD X.K X.mg S.F d v := by
  unfold atI at e ⊢
  rw [← h.length]
  cases q : ixN xs.length i with
  | none =>
    rw [q] at e
    cases e
  | some j =>
    rw [q] at e
    exact h.get e
theorem vop_ix : VOp2 X dIx (rIx X.K) := fun S x y z v u Q hS e rx ry k => by
  unfold dIx at e
  split at e
  · obtain ⟨a, vs, rfl, h2, h3⟩ := rx
    obtain ⟨w, e1, e2⟩ := atI_rds h3 e
    exact .inl ⟨a, vs, _, w, rfl, ry, SqL.of h2, e1, k S w (.refl hS) e2⟩
  · obtain ⟨a, vs, rfl, h2, h3⟩ := rx
    obtain ⟨w, e1, e2⟩ := atI_rds h3 e
    exact .inr (.inl ⟨a, vs, _, w, rfl, ry, sqT_mono hS h2, e1, k S w (.refl hS) e2⟩)
  · cases e
end
end DL
end

section
set_option Elab.async false
set_option linter.all false
set_option maxRecDepth 100000
/-! Built-in functions. -/
namespace DL
open PySem PySem.Spec PyProof.Rows L2
section
variable {X : Cx} {A : List V} {W : WX}
def VOpL (X : Cx) (opf : List D → Option D) (r : List V → Hp → VK → Prop) : Prop := ∀ (S : Cfg) (xs : List D) (d : D) (vs : List V) (Q : VK), Same S.F S.H → opf xs = some d → xs.length = vs.length → (∀ (i : Nat) (x : D) (v : V), xs[i]? = some x → vs[i]? = some v → RB X.K X.mg S x v) →
  (∀ S' w, Gr S S' → RD X.K X.mg S'.F d w → Q w S'.H) → r vs S.H Q
def eB (opf : List D → Option D) (os : List Opd) : EM D := fun ρ => (argGo os ρ).bind fun ds ρ1 => (Out.lift ρ1 (argRd ρ1 os ds)).bind fun xs ρ2 => Out.lift ρ2 (opf xs)
theorem eB_to {opf : List D → Option D} {r : List V → Hp → VK → Prop} {os : List Opd} (hv : VOpL X opf r) (σ : L2.St) (H : Hp) (Q : VK) (h : tD X.K X.mg A W (eB opf os) σ H Q) : tCB r (tArgs X.K X.mg A W os) σ H Q := by
  obtain ⟨S, ρ, rfl, s, h⟩ := h
  refine args_bind (P := PostE X.K X.mg A W Q S σ) (fun z => z) (fun _ _ _ z => z) s h fun ds ρ1 S1 vs hp ev s1 ok => ?_
  cases e1 : argRd ρ1 os ds with
  | none =>
    rw [e1] at hp
    exact (show False from hp).elim
  | some xs =>
    rw [e1] at hp
    have hp' : PostE X.K X.mg A W Q S σ (Out.lift ρ1 (opf xs)) := hp
    cases e2 : opf xs with
    | none =>
      rw [e2] at hp'
      exact (show False from hp').elim
    | some d =>
      rw [e2] at hp'
      obtain ⟨h1, h2⟩ := ok.rds s1 e1
      exact hv S1 xs d vs Q s1.sub e2 h1 h2 fun S' w g r => hp' S' w (ev.trans g.ev) (s1.gr g) r
theorem CallR.or {f : Value} {r r' : List V → Hp → VK → Prop} (h : CallR X f r) (h' : CallR X f r') : CallR X f (fun x H Q => r x H Q ∨ r' x H Q) := fun pins s σ H xs us Q I rx q => by
  rcases q with q | q
  · exact h pins s σ H xs us Q I rx q
  · exact h' pins s σ H xs us Q I rx q
theorem pd_b {id : String} {x : Str} {e : Expr} {es : List Expr} {p pos : Pos} {r : List V → Hp → VK → Prop} {opf : List D → Option D} {os : List Opd} (hc : CallR X (.builtin id) r) (hv : VOpL X opf r) (hg : Gl X x) (hm : X.mg x = none) (ha : PAr X A W (e :: es) os) (hb : bootBuiltins x = some (.builtin id) := by rfl)
    (hn : x ≠ "__name__" := by decide) (hdb : (x == ("__debug__" : Str)) = false := by decide)
    (he : starEach (e :: es) X.env = (false, eval e X.env) :: starEach es X.env := by rfl) (hpl : (backTo pos (starEach es X.env)).any (·.1) = false := by rfl) : PD X A W (.Call (.Name x p) (e :: es) [] pos) (eB opf os) :=
  PE.imp (pe_callB hc hg hm hb ha hn hdb he hpl) (eB_to hv)
theorem pd_ty {T : String} {x : Str} {e : Expr} {es : List Expr} {p pos : Pos} {r : List V → Hp → VK → Prop} {opf : List D → Option D} {os : List Opd} (hc : CallR X (.type T) r) (hv : VOpL X opf r) (hg : Gl X x) (hm : X.mg x = none) (ha : PAr X A W (e :: es) os) (hb : bootBuiltins x = some (.type T) := by rfl)
    (hn : x ≠ "__name__" := by decide) (hdb : (x == ("__debug__" : Str)) = false := by decide)
    (he : starEach (e :: es) X.env = (false, eval e X.env) :: starEach es X.env := by rfl) (hpl : (backTo pos (starEach es X.env)).any (·.1) = false := by rfl) : PD X A W (.Call (.Name x p) (e :: es) [] pos) (eB opf os) :=
  PE.imp (pe_callTy hc hg hm hb ha hn hdb he hpl) (eB_to hv)
/-- one argument -/
def on1 (f : D → Option D) : List D → Option D
  | [x] => f x
  | _ => none
def on2 (f : D → D → Option D) : List D → Option D
  | [x, y] => f x y
  | _ => none
theorem vopl1 {f : D → Option D} {r : List V → Hp → VK → Prop} (h : ∀ (S : Cfg) (x d : D) (v : V) (Q : VK), Same S.F S.H → f x = some d → RB X.K X.mg S x v → (∀ S' w, Gr S S' → RD X.K X.mg S'.F d w → Q w S'.H) → r [v] S.H Q) : VOpL X (on1 f) r := fun S xs d vs Q hS e hl hr k => by
  unfold on1 at e
  split at e
  · rename_i x
    match vs, hl with
    | [v], _ => exact h S x d v Q hS e (hr 0 x v rfl rfl) k
  · cases e
theorem vopl2 {f : D → D → Option D} {r : List V → Hp → VK → Prop} (h : ∀ (S : Cfg) (x y d : D) (v u : V) (Q : VK), Same S.F S.H → f x y = some d → RB X.K X.mg S x v → RB X.K X.mg S y u → (∀ S' w, Gr S S' → RD X.K X.mg S'.F d w → Q w S'.H) → r [v, u] S.H Q) : VOpL X (on2 f) r := fun S xs d vs Q hS e hl hr k => by
  unfold on2 at e
  split at e
  · rename_i x y
    match vs, hl with
    | [v, u], _ => exact h S x y d v u Q hS e (hr 0 x v rfl rfl) (hr 1 y u rfl rfl) k
  · cases e
/-! ### len -/
def dLen : D → Option D
  | .lst xs => some (.int xs.length)
  | .tup xs => some (.int xs.length)
  | .str x => if x.length ≤ BIG then some (.int x.length) else none
  | _ => none
abbrev rLenD (K : PySem.W.Frag) : List V → Hp → VK → Prop := fun xs H Q => (∃ p ys, xs = [.ref p] ∧ (SqL K H p ys ∨ SqT K H p ys) ∧ Q (.int ys.length) H) ∨ (∃ z, xs = [.str z] ∧ z.length ≤ sizeLine ∧ Q (.int z.length) H)
theorem call_lenD' : CallR X (.builtin "len") (rLenD X.K) := CallR.or call_len_seq call_len_str
theorem vop_len : VOpL X (on1 dLen) (rLenD X.K) := vopl1 fun S x d v Q hS e rx k => by
  unfold dLen at e
  split at e
  · cases e
    obtain ⟨a, vs, rfl, h2, h3⟩ := rx
    refine .inl ⟨a, vs, rfl, .inl (SqL.of h2), ?_⟩
    rw [← h3.length]
    exact k S _ (.refl hS) rfl
  · cases e
    obtain ⟨a, vs, rfl, h2, h3⟩ := rx
    refine .inl ⟨a, vs, rfl, .inr (sqT_mono hS h2), ?_⟩
    rw [← h3.length]
    exact k S _ (.refl hS) rfl
  · split at e
    · rename_i hl
      cases e
      cases (show v = _ from rx)
      exact .inr ⟨_, rfl, big_size hl, k S _ (.refl hS) rfl⟩
    · cases e
  · cases e
/-! ### list(), tuple() -/
def dItems : D → Option (List D)
  | .lst xs => some xs
  | .tup xs => some xs
  | _ => none
def dList (x : D) : Option D := (dItems x).map .lst
def dTuple (x : D) : Option D := (dItems x).map .tup
theorem rb_items {S : Cfg} (hS : Same S.F S.H) {x : D} {v : V} {xs : List D} (rx : RB X.K X.mg S x v) (e : dItems x = some xs) : ∃ a vs, v = .ref a ∧ (SqL X.K S.H a vs ∨ SqT X.K S.H a vs) ∧ RDs X.K X.mg S.F xs vs := by
  unfold dItems at e
  split at e
  · cases e
    obtain ⟨a, vs, rfl, h2, h3⟩ := rx
    exact ⟨a, vs, rfl, .inl (SqL.of h2), h3⟩
  · cases e
    obtain ⟨a, vs, rfl, h2, h3⟩ := rx
    exact ⟨a, vs, rfl, .inr (sqT_mono hS h2), h3⟩
  · cases e
theorem vop_list : VOpL X (on1 dList) (fun xs H Q => ∃ p ys, xs = [.ref p] ∧ (SqL X.K H p ys ∨ SqT X.K H p ys) ∧ ∀ l, H l = none → Q (.ref l) (upd H l (.lst ys))) := vopl1 fun S x d v Q hS e rx k => by
  unfold dList at e
  cases q : dItems x with
  | none =>
    rw [q] at e
    cases e
  | some xs =>
    rw [q] at e
    cases e
    obtain ⟨a, vs, rfl, h2, h3⟩ := rb_items hS rx q
    exact ⟨a, vs, rfl, h2, fun l hl => give_lst hS h3 k l hl⟩
theorem vop_tuple : VOpL X (on1 dTuple) (fun xs H Q => ∃ p ys, xs = [.ref p] ∧ ((SqL X.K H p ys ∧ ∀ l, H l = none → Q (.ref l) (upd H l (.tup ys))) ∨ (SqT X.K H p ys ∧ Q (.ref p) H))) := vopl1 fun S x d v Q hS e rx k => by
  unfold dTuple dItems at e
  cases x with
  | lst xs =>
    cases e
    obtain ⟨a, vs, rfl, h2, h3⟩ := rx
    exact ⟨a, vs, rfl, .inl ⟨SqL.of h2, fun l hl => give_tup hS h3 k l hl⟩⟩
  | tup xs =>
    cases e
    obtain ⟨a, vs, rfl, h2, h3⟩ := rx
    exact ⟨a, vs, rfl, .inr ⟨sqT_mono hS h2, k S _ (.refl hS) ⟨a, vs, rfl, h2, h3⟩⟩⟩
  | _ => cases e
/-! ### ints -/
def dAbs : D → Option D
  | .int i => some (.int (if i < 0 then -i else i))
  | _ => none
theorem vop_abs : VOpL X (on1 dAbs) (fun xs H Q => ∃ i, xs = [.int i] ∧ Q (.int (if i < 0 then -i else i)) H) := vopl1 fun S x d v Q hS e rx k => by
  unfold dAbs at e
  split at e
  · cases e
    cases (show v = _ from rx)
    exact ⟨_, rfl, k S _ (.refl hS) rfl⟩
  · cases e
def dInt : D → Option D
  | .int i => some (.int i)
  | .bl b => some (.int (if b then 1 else 0))
  | _ => none
theorem vop_int : VOpL X (on1 dInt) (fun xs H Q => (∃ i, xs = [.int i] ∧ Q (.int i) H) ∨ ∃ k, xs = [.bl k] ∧ Q (.int (if k then 1 else 0)) H) := vopl1 fun S x d v Q hS e rx k => by
  unfold dInt at e
  split at e
  · cases e
    cases (show v = _ from rx)
    exact .inl ⟨_, rfl, k S _ (.refl hS) rfl⟩
  · cases e
    cases (show v = _ from rx)
    exact .inr ⟨_, rfl, k S _ (.refl hS) rfl⟩
  · cases e
def dMax2 : D → D → Option D
  | .int i, .int j => some (.int (if j > i then j else i))
  | _, _ => none
def dMin2 : D → D → Option D
  | .int i, .int j => some (.int (if j < i then j else i))
  | _, _ => none
theorem vop_max2 : VOpL X (on2 dMax2) (fun xs H Q => ∃ i j, xs = [.int i, .int j] ∧ Q (.int (if j > i then j else i)) H) := vopl2 fun S x y d v u Q hS e rx ry k => by
  unfold dMax2 at e
  split at e
  · cases e
    cases (show v = _ from rx)
    cases (show u = _ from ry)
    exact ⟨_, _, rfl, k S _ (.refl hS) rfl⟩
  · cases e
theorem vop_min2 : VOpL X (on2 dMin2) (fun xs H Q => ∃ i j, xs = [.int i, .int j] ∧ Q (.int (if j < i then j else i)) H) := vopl2 fun S x y d v u Q hS e rx ry k => by
  unfold dMin2 at e
  split at e
  · cases e
    cases (show v = _ from rx)
    cases (show u = _ from ry)
    exact ⟨_, _, rfl, k S _ (.refl hS) rfl⟩
  · cases e
/-! ### lists of ints, of bools -/
def asI : D → Option Int
  | .int i => some i
  | _ => none
def asBl : D → Option Bool
  | .bl b => some b
  | _ => none
def asIs : List D → Option (List Int)
  | [] => some []
  | x :: xs => match asI x, asIs xs with
    | some i, some is => some (i :: is)
    | _, _ => none
def asBls : List D → Option (List Bool)
  | [] => some []
  | x :: xs => match asBl x, asBls xs with
    | some i, some is => some (i :: is)
    | _, _ => none
theorem asIs_eq : ∀ {xs : List D} {is : List Int}, asIs xs = some is → xs = is.map .int
  | [], is, e => by
    cases e
    rfl
  | x :: xs, is, e => by
    unfold asIs at e
    split at e
    · rename_i i js e1 e2
      cases e
      rw [asIs_eq e2]
      cases x with
      | int j =>
        cases e1
        rfl
      | _ => cases e1
    · cases e
theorem asBls_eq : ∀ {xs : List D} {is : List Bool}, asBls xs = some is → xs = is.map .bl
  | [], is, e => by
    cases e
    rfl
  | x :: xs, is, e => by
    unfold asBls at e
    split at e
    · rename_i i js e1 e2
      cases e
      rw [asBls_eq e2]
      cases x with
      | bl j =>
        cases e1
        rfl
      | _ => cases e1
    · cases e
theorem asIs_map (is : List Int) : asIs (is.map .int) = some is := by
  induction is with
  | nil => rfl
  | cons i is ih =>
    show (match asI (.int i), asIs (is.map .int) with
      | some i, some is => some (i :: is)
      | _, _ => none) = _
    rw [ih]
    rfl
theorem asBls_map (is : List Bool) : asBls (is.map .bl) = some is := by
  induction is with
  | nil => rfl
  | cons i is ih =>
    show (match asBl (.bl i), asBls (is.map .bl) with
      | some i, some is => some (i :: is)
      | _, _ => none) = _
    rw [ih]
    rfl
theorem RDs.of_bls {K : PySem.W.Frag} {mg : Str → Option Value} {F : Hp} : ∀ {ns : List Bool} {vs : List V}, RDs K mg F (ns.map D.bl) vs → vs = ns.map V.bl
  | [], _, h => h
  | _ :: _, _, ⟨v, r, h1, h2, h3⟩ => by
    subst h1
    have e : v = V.bl _ := h2
    rw [e, RDs.of_bls h3]
    rfl
def onBs (f : List Bool → Bool) : D → Option D
  | .lst xs => (asBls xs).map fun bs => .bl (f bs)
  | _ => none
theorem vop_onBs (f : List Bool → Bool) : VOpL X (on1 (onBs f)) (fun vs H Q => ∃ (a : Addr) (bs : List Bool), vs = [V.ref a] ∧ SqL X.K H a (bs.map V.bl) ∧ Q (.bl (f bs)) H) := vopl1 fun S x d v Q hS e rx k => by
  cases x with
  | lst xs =>
    have e' : ((asBls xs).map fun bs => D.bl (f bs)) = some d := e
    cases q : asBls xs with
    | none =>
      rw [q] at e'
      cases e'
    | some bs =>
      rw [q] at e'
      cases e'
      obtain ⟨a, vs, rfl, h2, h3⟩ := rx
      rw [asBls_eq q] at h3
      rw [h3.of_bls] at h2
      exact ⟨a, bs, rfl, SqL.of h2, k S _ (.refl hS) rfl⟩
  | _ => cases e
abbrev dAll := onBs fun bs => bs.all id
abbrev dAny := onBs fun bs => bs.any id
def dSum : D → Option D
  | .lst xs => (asIs xs).map fun is => .int is.sum
  | _ => none
theorem vop_sum : VOpL X (on1 dSum) (rSum X.K) := vopl1 fun S x d v Q hS e rx k => by
  cases x with
  | lst xs =>
    have e' : ((asIs xs).map fun is => D.int is.sum) = some d := e
    cases q : asIs xs with
    | none =>
      rw [q] at e'
      cases e'
    | some bs =>
      rw [q] at e'
      cases e'
      obtain ⟨a, vs, rfl, h2, h3⟩ := rx
      rw [asIs_eq q] at h3
      rw [h3.of_ints] at h2
      exact ⟨a, bs, rfl, SqL.of h2, k S _ (.refl hS) rfl⟩
  | _ => cases e
/-! ### sorted(ints) -/
def insI (i : Int) : List Int → List Int
  | [] => [i]
  | j :: r => if i ≤ j then i :: j :: r else j :: insI i r
def sortI : List Int → List Int
  | [] => []
  | i :: r => insI i (sortI r)
theorem insI_perm (i : Int) : ∀ l : List Int, (insI i l).Perm (i :: l)
  | [] => .refl _
  | j :: r => by
    unfold insI
    split
    · exact .refl _
    · exact ((insI_perm i r).cons j).trans (.swap i j r)
theorem sortI_perm : ∀ l : List Int, (sortI l).Perm l
  | [] => .refl _
  | i :: r => (insI_perm i (sortI r)).trans ((sortI_perm r).cons i)
theorem insI_sorted (i : Int) : ∀ {l : List Int}, l.Pairwise (· ≤ ·) → (insI i l).Pairwise (· ≤ ·)
  | [], _ => by simp [insI]
  | j :: r, h => by
    obtain ⟨h1, h2⟩ := List.pairwise_cons.mp h
    unfold insI
    split
    · rename_i hle
      refine List.pairwise_cons.mpr ⟨fun x hx => ?_, h⟩
      rcases List.mem_cons.mp hx with q | q
      · rw [q]
        exact hle
      · have := h1 x q
        omega
    · rename_i hle
      refine List.pairwise_cons.mpr ⟨fun x hx => ?_, insI_sorted i h2⟩
      rcases List.mem_cons.mp ((insI_perm i r).mem_iff.mp hx) with q | q
      · rw [q]
        omega
      · exact h1 x q
theorem sortI_sorted : ∀ l : List Int, (sortI l).Pairwise (· ≤ ·)
  | [] => .nil
  | i :: r => insI_sorted i (sortI_sorted r)
theorem sortI_eq {l l' : List Int} (p : l'.Perm l) (h : l'.Pairwise (· ≤ ·)) : l' = sortI l :=
  (p.trans (sortI_perm l).symm).eq_of_pairwise (fun a b _ _ h1 h2 => Int.le_antisymm h1 h2) h (sortI_sorted l)
def dSorted : D → Option D
  | .lst xs => (asIs xs).map fun is => .lst ((sortI is).map .int)
  | _ => none
theorem vop_sorted : VOpL X (on1 dSorted) (rSortedI X.K) := vopl1 fun S x d v Q hS e rx k => by
  cases x with
  | lst xs =>
    have e' : ((asIs xs).map fun is => D.lst ((sortI is).map .int)) = some d := e
    cases q : asIs xs with
    | none =>
      rw [q] at e'
      cases e'
    | some bs =>
      rw [q] at e'
      cases e'
      obtain ⟨a, vs, rfl, h2, h3⟩ := rx
      rw [asIs_eq q] at h3
      rw [h3.of_ints] at h2
      refine ⟨a, bs, rfl, SqL.of h2, fun ns' p hp hs hn => ?_⟩
      rw [sortI_eq hp hs]
      exact give_lst hS (RDs.ints _) k p hn
  | _ => cases e
/-! ### isinstance -/
def tyName : D → Option String
  | .non => some "NoneType"
  | .bl _ => some "bool"
  | .int _ => some "int"
  | .str _ => some "str"
  | .lst _ => some "list"
  | .tup _ => some "tuple"
  | .dK _ _ => some "dict"
  | .dT _ _ => some "dict"
  | _ => none
theorem rb_tyx {S : Cfg} (hS : Same S.F S.H) {x : D} {v : V} {t : String} (rx : RB X.K X.mg S x v) (e : tyName x = some t) : TyX X.K S.H v (.type t) := by
  cases x with
  | non =>
    cases e
    cases (show v = _ from rx)
    exact .base .non
  | bl b =>
    cases e
    cases (show v = _ from rx)
    exact .base (.bl b)
  | int b =>
    cases e
    cases (show v = _ from rx)
    exact .base (.int b)
  | str b =>
    cases e
    cases (show v = _ from rx)
    exact .base (.str b)
  | lst xs =>
    cases e
    obtain ⟨a, vs, rfl, h2, _⟩ := rx
    exact .base (.lst h2)
  | tup xs =>
    cases e
    obtain ⟨a, vs, rfl, h2, _⟩ := rx
    rcases sqT_mono hS h2 with (h | ⟨o, h⟩) | h
    · exact .base (.tup h)
    · exact .fTuple h
    · obtain ⟨o, us, n, h1, h3, h4, _⟩ := h
      exact .kTuple h1 (by first | exact h3 | (subst h3; rfl))
  | dK ks xs =>
    cases e
    obtain ⟨a, vs, rfl, h2, _⟩ := rx
    exact .base (.dK h2)
  | dT ks xs =>
    cases e
    obtain ⟨a, vs, rfl, h2, _⟩ := rx
    exact .base (.dT h2)
  | _ => cases e
end
end DL
end

section
set_option Elab.async false
set_option linter.all false
set_option maxRecDepth 100000
/-! zip and enumerate over lists and tuples, in any mixture. -/
namespace DL
open PySem PySem.Spec PyProof.Rows L2
def SqX (K : PySem.W.Frag) (b : Bool) (H : Hp) (a : Addr) (xs : List V) : Prop := match b with
  | true => SqT K H a xs
  | false => SqL K H a xs
def ItX (b : Bool) (h : Heap) (it l : Addr) (i : Nat) : Prop := match b with
  | true => h.IsTupleIter it l i
  | false => h.IsListIter it l i
def SX (b : Bool) (h : Heap) (l : Addr) (items : Array Value) : Prop := match b with
  | true => h.IsTuple l items
  | false => h.IsList l items
def itN (b : Bool) : String := match b with
  | true => "tuple_iterator"
  | false => "list_iterator"
theorem drawsX {prog : Program} {w : World} {A : Around} (b : Bool) (hh : A.handled = none) (it l : Addr) (hne : l ≠ it) (items : Array Value) :
    Draws prog w A it [it, l] items.size (fun i v => items[i]? = some v) (fun i h => ItX b h it l i ∧ SX b h l items) := by
  cases b
  · exact Draws.list hh it l hne items
  · exact Draws.tuple hh it l hne items
theorem ItX.ob {b : Bool} {h : Heap} {it l : Addr} {i : Nat} (st : ItX b h it l i) : ∃ o, h.get? it = some o ∧ ∀ v, o.data ≠ .cell v := by
  cases b
  · obtain ⟨o, e, _, d⟩ := st
    exact ⟨o, e, fun v q => by rw [d] at q; cases q⟩
  · obtain ⟨o, e, _, d⟩ := st
    exact ⟨o, e, fun v q => by rw [d] at q; cases q⟩
theorem ItX.at {b : Bool} {h h' : Heap} {it l : Addr} {i : Nat} (st : ItX b h it l i) (k : ∀ o, h.get? it = some o → h'.get? it = some o) : ItX b h' it l i := by
  cases b
  · exact Heap.IsListIter.at st k
  · exact Heap.IsTupleIter.at st k
theorem seqX {X : Cx} {pins : List (Addr × Obj)} {σ : L2.St} {H : Hp} {s : Shared} {b : Bool} {a : Addr} {xs : List V} (I : Inv X pins σ H s) (h : SqX X.K b H a xs) : ∃ its : List Value, Vals xs its ∧ SX b s.heap a its.toArray ∧ a < s.heap.objs.size := by
  cases b
  · obtain ⟨its, rv, p, _⟩ := I.list h
    exact ⟨its, rv, p.isList, p.lt⟩
  · obtain ⟨its, rv, p, _⟩ := I.tuple h
    obtain ⟨o, ho, _⟩ := id p
    exact ⟨its, rv, p, Heap.lt_size ho⟩
theorem sqX_inj {X : Cx} {pins : List (Addr × Obj)} {σ : L2.St} {H : Hp} {s : Shared} {b : Bool} {a : Addr} {xs ys : List V} (I : Inv X pins σ H s) (h : SqX X.K b H a xs) (h' : SqX X.K b H a ys) : xs = ys := by
  cases b
  · exact I.list_inj h h'
  · exact I.tuple_inj h h'
def ItzX (K : PySem.W.Frag) (b1 b2 : Bool) (a b : Addr) : It :=
  ⟨fun i H => ∃ (xs ys : List V) (x y : V), SqX K b1 H a xs ∧ SqX K b2 H b ys ∧ xs[i]? = some x ∧ ys[i]? = some y,
    fun i H v H' => ∃ T x y, v = .ref T ∧ H T = none ∧ H' = upd H T (.tup [x, y]) ∧ (∀ xs, SqX K b1 H a xs → xs[i]? = some x) ∧ ∀ ys, SqX K b2 H b ys → ys[i]? = some y,
    fun i H => ∃ xs ys : List V, SqX K b1 H a xs ∧ SqX K b2 H b ys ∧ (xs.length = i ∨ ys.length = i) ∧ i ≤ xs.length ∧ i ≤ ys.length⟩
theorem turn_zipX {P : Program} {w : World} {K : PySem.W.Frag} {elts : List Expr} {kk : Nat} {tpos : Pos} (b1 b2 : Bool) {a b z TI TO i1 i2 : Addr} (D : ZipApart z TI TO i1 i2 a b) :
    Turn P w K (.Tuple elts kk tpos) (ItzX K b1 b2 a b) [z, TI, TO, i1, i2] z (fun i h => IsZip h z TI TO .none ∧ IsPair h TI (.ref i1) (.ref i2) ∧ (∃ x y, IsPair h TO x y) ∧ ItX b1 h i1 a i ∧ ItX b2 h i2 b i) := by
  have S2 : ZipSep2 z TI TO i1 i2 [i1, a] [i2, b] := by
    have q1 := D.i1z; have q2 := D.i2z; have q3 := D.TOi1; have q4 := D.TOi2; have q5 := D.i12; have q6 := D.l1z; have q7 := D.l1TO; have q8 := D.l1i2; have q9 := D.l2z; have q10 := D.l2TO; have q11 := D.l2i1; have q12 := D.l1i1; have q13 := D.l2i2
    refine ⟨D.TIz, D.TOz, D.TITO, D.TIi1, by simp, ?_, ?_, D.TIi2, by simp, ?_, ?_, ?_, ?_⟩ <;> simp only [List.mem_cons, List.not_mem_nil, or_false, not_or]
    · exact ⟨q1.symm, q6.symm⟩
    · exact ⟨q3, q7.symm⟩
    · exact ⟨q2.symm, q9.symm⟩
    · exact ⟨q4, q10.symm⟩
    · exact ⟨q5, q11.symm⟩
    · exact ⟨q5.symm, q8.symm⟩
  exact {
  mem := by simp
  obj := fun i h st c hc => by
    obtain ⟨hz, hTI, ⟨x, y, hTO⟩, h1, h2⟩ := st
    have e' : c = z ∨ c = TI ∨ c = TO ∨ c = i1 ∨ c = i2 := by simpa using hc
    rcases e' with q | q | q | q | q
    · rw [q]; exact ⟨_, hz, fun v q => nomatch q⟩
    · rw [q]; exact ⟨_, hTI, fun v q => nomatch q⟩
    · rw [q]; exact ⟨_, hTO, fun v q => nomatch q⟩
    · rw [q]; exact h1.ob
    · rw [q]; exact h2.ob
  keep := fun i h h' st k => by
    obtain ⟨hz, hTI, ⟨x, y, hTO⟩, h1, h2⟩ := st
    exact ⟨k z (by simp) _ hz, k TI (by simp) _ hTI, ⟨x, y, k TO (by simp) _ hTO⟩, h1.at fun o q => k i1 (by simp) o q, h2.at fun o q => k i2 (by simp) o q⟩
  item := by
    intro X hP hw hK hc i pins s σ H E I hf st hg
    subst hP hw hK
    obtain ⟨hz, hTI, ⟨x0, y0, hTO⟩, h1, h2⟩ := st
    obtain ⟨xs, ys, x, y, hqx, hqy, hx, hy⟩ := hg
    obtain ⟨its, rv, p, _⟩ := seqX I hqx
    obtain ⟨its2, rv2, p2, _⟩ := seqX I hqy
    obtain ⟨u, hu, ru⟩ := rv.get hx
    obtain ⟨u2, hu2, ru2⟩ := rv2.get hy
    have hzl : z < s.heap.objs.size := Heap.lt_size hz
    have hh : X.A.in1.handled = none := I.ok.hd hc
    refine wpAny_pyNext_zipD2_item S2 (drawsX b1 hh i1 a D.l1i1 its.toArray) (drawsX b2 hh i2 b D.l2i2 its2.toArray) hz hTI hTO ⟨h1, p⟩ ⟨h2, p2⟩ (by have := (List.getElem?_eq_some_iff.mp hu).1; simpa using this) (by have := (List.getElem?_eq_some_iff.mp hu2).1; simpa using this) fun v1 v2 h' tk e1 e2 z' TO' d1' d2' hT hsz hk => ?_
    have ev1 : v1 = u := by
      have e1' : its[i]? = some v1 := by simpa using e1
      rw [hu] at e1'
      exact (Option.some.inj e1').symm
    have ev2 : v2 = u2 := by
      have e2' : its2[i]? = some v2 := by simpa using e2
      rw [hu2] at e2'
      exact (Option.some.inj e2').symm
    subst ev1
    subst ev2
    obtain ⟨h1', _⟩ := d1'
    obtain ⟨h2', _⟩ := d2'
    refine ⟨_, rfl, wpAny_letOwnedTupleGo_zip (s := { s with heap := h', toks := tk }) z' fun h'' z'' sb => ?_⟩
    have hT2 : h''.get? s.heap.objs.size = some { cls := .type "tuple", data := .seq #[v1, v2] } := (sb.2 _ (Nat.ne_of_gt hzl)).trans hT
    have new : ObjOk X.prog X.w (upd H s.heap.objs.size (.tup [x, y])) h'' s.heap.objs.size (.tup [x, y]) :=
      ⟨by show 2 ≤ sizeLine; decide, [v1, v2], .cons ru (.cons ru2 .nil), ⟨_, hT2, rfl, _, rfl⟩⟩
    have I1 : Inv X pins σ (upd H s.heap.objs.size (.tup [x, y])) { s with heap := h'', toks := tk } :=
      I.turnedNew (t' := tk) (ch := [z, TI, TO, i1, i2]) (fun c o hb q => (sb.2 c (fun q' => hb (by simp [q']))).trans (hk c o (fun q' => hb (by simp [q'])) (fun q' => hb (by simp [q'])) (fun q' => hb (by simp [q'])) (fun q' => hb (by simp [q'])) q)) hf (Nat.le_refl _) new
    refine ⟨.ref s.heap.objs.size, _, I1, rfl, ⟨_, x, y, rfl, I.hok.fresh (Nat.le_refl _), rfl, fun l hl => by rw [sqX_inj I hl hqx]; exact hx, fun l hl => by rw [sqX_inj I hl hqy]; exact hy⟩, ⟨z'', ?_, ⟨v1, v2, ?_⟩, ?_, ?_⟩, fun c hcm => ?_⟩
    · exact (sb.2 _ D.TIz).trans (hk _ _ D.TIz D.TITO D.TIi1 D.TIi2 hTI)
    · exact (sb.2 _ D.TOz).trans TO'
    · exact h1'.at fun o q => (sb.2 _ D.i1z).trans q
    · exact h2'.at fun o q => (sb.2 _ D.i2z).trans q
    · have hlt : c < s.heap.objs.size := by
        have e' : c = z ∨ c = TI ∨ c = TO ∨ c = i1 ∨ c = i2 := by simpa using hcm
        rcases e' with q | q | q | q | q
        · rw [q]; exact hzl
        · rw [q]; exact Heap.lt_size hTI
        · rw [q]; exact Heap.lt_size hTO
        · rw [q]; obtain ⟨_, e1, _⟩ := h1.ob; exact Heap.lt_size e1
        · rw [q]; obtain ⟨_, e2, _⟩ := h2.ob; exact Heap.lt_size e2
      rw [upd_ne (Nat.ne_of_lt hlt)]
      exact (hf c hcm).1
  done := by
    intro X hP hw hK hc i pins s σ H E I hf st hg
    subst hP hw hK
    obtain ⟨hz, hTI, ⟨x0, y0, hTO⟩, h1, h2⟩ := st
    obtain ⟨xs, ys, hqx, hqy, hend, le1, le2⟩ := hg
    obtain ⟨its, rv, p, _⟩ := seqX I hqx
    obtain ⟨its2, rv2, p2, _⟩ := seqX I hqy
    have l1 := rv.length
    have l2 := rv2.length
    have hh : X.A.in1.handled = none := I.ok.hd hc
    exact wpAny_pyNext_zipD2_end S2 (drawsX b1 hh i1 a D.l1i1 its.toArray) (drawsX b2 hh i2 b D.l2i2 its2.toArray) hz hTI hTO ⟨h1, p⟩ ⟨h2, p2⟩ (by simp; omega) (by simp; omega) (by simp; omega) fun h' tk hk => ⟨rfl, I.turnedL (t' := tk) (ch := [z, TI, TO, i1, i2]) (fun c o hb q =>
      hk c o (fun q' => hb (by simp [q'])) (fun q' => hb (by simp [q'])) (fun q' => hb (by simp [q'])) (fun q' => hb (by simp [q'])) q) hf⟩
  self := fun A i s Q E st h => wpAny_pyIter_zip st.1 h }
abbrev zxH1 (b1 : Bool) (h : Heap) (l1 : Addr) : Heap := h.push { cls := .type (itN b1), data := .fields #[.ref l1, .int 0 0] }
abbrev zxH2 (b1 b2 : Bool) (h : Heap) (l1 l2 : Addr) : Heap := (zxH1 b1 h l1).push { cls := .type (itN b2), data := .fields #[.ref l2, .int 0 0] }
abbrev zxH3 (b1 b2 : Bool) (h : Heap) (l1 l2 : Addr) : Heap := (zxH2 b1 b2 h l1 l2).push { cls := .type "tuple", data := .seq #[.ref h.objs.size, .ref (zxH1 b1 h l1).objs.size] }
abbrev zxH4 (b1 b2 : Bool) (h : Heap) (l1 l2 : Addr) : Heap := (zxH3 b1 b2 h l1 l2).push { cls := .type "tuple", data := .seq #[.none, .none] }
abbrev zxH5 (b1 b2 : Bool) (h : Heap) (l1 l2 : Addr) : Heap := (zxH4 b1 b2 h l1 l2).push { cls := .type "zip", data := .fields #[.none, .bool false, .bool false, .ref (zxH2 b1 b2 h l1 l2).objs.size, .ref (zxH3 b1 b2 h l1 l2).objs.size] }
theorem iterX {prog : Program} {w : World} {A : Around} {E : Value → Shared → Prop} {s : Shared} {b : Bool} {l : Addr} {items : Array Value} {Q : Value → Shared → Prop} (hl : SX b s.heap l items)
    (hQ : Q (.ref s.heap.objs.size) { s with heap := s.heap.push { cls := .type (itN b), data := .fields #[.ref l, .int 0 0] } }) : wpAny (model prog w) A (pyIter (.ref l)) Q E s := by
  cases b
  · exact wpAny_pyIter_list hl hQ
  · exact wpAny_pyIter_tuple hl hQ
theorem SX.push {b : Bool} {h : Heap} {l : Addr} {items : Array Value} (hl : SX b h l items) (o : Obj) : SX b (h.push o) l items := by
  cases b
  · exact Heap.IsList.push hl o
  · exact Heap.IsTuple.push hl o
theorem meets_zipX (b1 b2 : Bool) (l1 l2 : Addr) (xs ys : Array Value) :
    Meets (Builtin.«zip.__new__» ⟨[.type "zip", .ref l1, .ref l2], []⟩) (fun _ R s => SX b1 s.heap l1 xs ∧ SX b2 s.heap l2 ys ∧
      R (.ok (.ret (.ref (zxH4 b1 b2 s.heap l1 l2).objs.size))) { s with heap := zxH5 b1 b2 s.heap l1 l2 }) :=
  .of_wp fun prog w A R s h => by
    obtain ⟨hp, g, d, tk, os⟩ := s; obtain ⟨hl1, hl2, h⟩ := h
    have hsub := sub_zip
    have hL1 : SX b1 (Shared.heap ⟨hp, g, d, tk, os⟩) l1 xs := hl1
    have hL2 : SX b2 (Shared.heap ⟨hp.push { cls := .type (itN b1), data := .fields #[.ref l1, .int 0 0] }, g, d, tk, os⟩) l2 ys := SX.push hl2 _
    wp_walk using iterX hL1, iterX hL2
    exact ⟨_, rfl, h⟩
theorem itX_new {b : Bool} {h : Heap} {it l : Addr} (e : h.get? it = some { cls := .type (itN b), data := .fields #[.ref l, .int 0 0] }) : ItX b h it l 0 := by
  cases b
  · exact ⟨_, e, rfl, rfl⟩
  · exact ⟨_, e, rfl, rfl⟩
section
variable {prog : Program} {w : World} {A : Around} {E : Value → Shared → Prop} {s : Shared}
theorem call_zipX (b1 b2 : Bool) {l1 l2 : Addr} {xs ys : Array Value} {Q : Value → Shared → Prop} (hl1 : SX b1 s.heap l1 xs) (hl2 : SX b2 s.heap l2 ys)
    (h : ∀ h', IsZip h' (s.heap.objs.size + 4) (s.heap.objs.size + 2) (s.heap.objs.size + 3) .none → IsPair h' (s.heap.objs.size + 2) (.ref s.heap.objs.size) (.ref (s.heap.objs.size + 1)) →
      IsPair h' (s.heap.objs.size + 3) .none .none → ItX b1 h' s.heap.objs.size l1 0 → ItX b2 h' (s.heap.objs.size + 1) l2 0 → h'.objs.size = s.heap.objs.size + 5 →
      (∀ c o, s.heap.get? c = some o → h'.get? c = some o) → Q (.ref (s.heap.objs.size + 4)) { s with heap := h' }) :
    wpAny (model prog w) A (call (.type "zip") [.ref l1, .ref l2]) Q E s := by
  refine callType_new F.called_zip (by decide) (F.typeCall_zip_2 _ _) (F.newCall_zip_2 _ _) (fun obj => F.args_object_init_3 obj _ _) F.entry_zip_new
    (meets_zipX b1 b2 l1 l2 xs ys) ⟨hl1, hl2, ?_⟩
  have z1 : (zxH1 b1 s.heap l1).objs.size = s.heap.objs.size + 1 := Heap.size_push ..
  have z2 : (zxH2 b1 b2 s.heap l1 l2).objs.size = s.heap.objs.size + 2 := by rw [Heap.size_push, z1]
  have z3 : (zxH3 b1 b2 s.heap l1 l2).objs.size = s.heap.objs.size + 3 := by rw [Heap.size_push, z2]
  have z4 : (zxH4 b1 b2 s.heap l1 l2).objs.size = s.heap.objs.size + 4 := by rw [Heap.size_push, z3]
  have z5 : (zxH5 b1 b2 s.heap l1 l2).objs.size = s.heap.objs.size + 5 := by rw [Heap.size_push, z4]
  have g5 : (zxH5 b1 b2 s.heap l1 l2).get? (zxH4 b1 b2 s.heap l1 l2).objs.size = some _ := Heap.get?_push_size _ rfl
  have g4 : (zxH5 b1 b2 s.heap l1 l2).get? (zxH3 b1 b2 s.heap l1 l2).objs.size = some _ := Heap.get?_push_of_some _ (Heap.get?_push_size _ rfl)
  have g3 : (zxH5 b1 b2 s.heap l1 l2).get? (zxH2 b1 b2 s.heap l1 l2).objs.size = some _ := Heap.get?_push_of_some _ (Heap.get?_push_of_some _ (Heap.get?_push_size _ rfl))
  have g2 : (zxH5 b1 b2 s.heap l1 l2).get? (zxH1 b1 s.heap l1).objs.size = some _ := Heap.get?_push_of_some _ (Heap.get?_push_of_some _ (Heap.get?_push_of_some _ (Heap.get?_push_size _ rfl)))
  have g1 : (zxH5 b1 b2 s.heap l1 l2).get? s.heap.objs.size = some _ := Heap.get?_push_of_some _ (Heap.get?_push_of_some _ (Heap.get?_push_of_some _ (Heap.get?_push_of_some _ (Heap.get?_push_size _ rfl))))
  show _ ∧ _
  rw [z2, z3, z4] at g5
  rw [z1, z2] at g3
  rw [z3] at g4
  rw [z1] at g2
  rw [z4]
  exact ⟨⟨_, g5, rfl⟩, h _ g5 g3 g4 (itX_new g1) (itX_new g2) z5 fun c o x =>
    Heap.get?_push_of_some _ (Heap.get?_push_of_some _ (Heap.get?_push_of_some _ (Heap.get?_push_of_some _ (Heap.get?_push_of_some _ x))))⟩
end
def iZipX (K : PySem.W.Frag) (ta : TA) : TI := fun σ H R => ta σ H fun vs H1 => ∃ b1 b2 a b xs ys, vs = [.ref a, .ref b] ∧ SqX K b1 H1 a xs ∧ SqX K b2 H1 b ys ∧ R (ItzX K b1 b2 a b) H1
theorem pi_zipX {X : Cx} {e e2 : Expr} {ta : TA} {p pos tpos : Pos} {elts : List Expr} {kk : Nat} (hg : Gl X "zip") (hm : X.mg "zip" = none) (ha : PA X [e, e2] ta)
    (hs : starEach [e, e2] X.env = (false, eval e X.env) :: starEach [e2] X.env := by rfl) (hpl : (backTo pos (starEach [e2] X.env)).any (·.1) = false := by rfl) :
    PI X (.Tuple elts kk tpos) (.Call (.Name "zip" p) [e, e2] [] pos) (iZipX X.K ta) := by
  refine ⟨fun pins s σ H R I h => ?_⟩
  refine Call_ (ld_blt I hg hm PyProof.Rows.boot_zip (PyProof.Rows.callWith_type1 (thn (ha.run pos pins s σ H _ I h) fun us s1 ⟨vs, H1, I1, r1, q1⟩ => ?_) hs hpl))
  obtain ⟨b1, b2, a, b, xs, ys, ex, hqx, hqy, q⟩ := q1
  subst ex
  cases r1 with
  | cons r rr =>
    cases rr with
    | cons r' rr =>
      cases rr
      cases r
      cases r'
      have fresh5 : ∀ c, c ∈ [s1.heap.objs.size + 4, s1.heap.objs.size + 2, s1.heap.objs.size + 3, s1.heap.objs.size, s1.heap.objs.size + 1] → FpOk X pins H1 c := fun c hcm => by
        have e' : c = s1.heap.objs.size + 4 ∨ c = s1.heap.objs.size + 2 ∨ c = s1.heap.objs.size + 3 ∨ c = s1.heap.objs.size ∨ c = s1.heap.objs.size + 1 := by simpa using hcm
        have hle : s1.heap.objs.size ≤ c := by
          rcases e' with z | z | z | z | z
          · rw [z]; exact Nat.le_add_right _ _
          · rw [z]; exact Nat.le_add_right _ _
          · rw [z]; exact Nat.le_add_right _ _
          · rw [z]; exact Nat.le_refl _
          · rw [z]; exact Nat.le_add_right _ _
        exact I1.fpOk hle (I1.hok.fresh hle)
      obtain ⟨its, rv, p1, lt1⟩ := seqX I1 hqx
      obtain ⟨its2, rv2, p2, lt2⟩ := seqX I1 hqy
      refine call_zipX b1 b2 p1 p2 fun h' hz hTI hTO h1 h2 hsz hk => wpAny_pyIter_zip hz ?_
      have I2 : Inv X pins σ H1 { s1 with heap := h' } := I1.kept (t' := s1.toks) hk
      exact ⟨s1.heap.objs.size + 4, [s1.heap.objs.size + 4, s1.heap.objs.size + 2, s1.heap.objs.size + 3, s1.heap.objs.size, s1.heap.objs.size + 1], _, _, H1, rfl, I2, turn_zipX b1 b2 (PySem.W.ktu_apart s1.heap.objs.size a b lt1 lt2), ⟨hz, hTI, ⟨_, _, hTO⟩, h1, h2⟩, fresh5, q⟩
/-! ### enumerate -/
def IteX (K : PySem.W.Frag) (b : Bool) (a : Addr) : It :=
  ⟨fun i H => ∃ (xs : List V) (x : V), SqX K b H a xs ∧ xs[i]? = some x, fun i H v H' => ∃ T x, v = .ref T ∧ H T = none ∧ H' = upd H T (.tup [.int (i : Nat), x]) ∧ ∀ xs, SqX K b H a xs → xs[i]? = some x, fun i H => ∃ xs : List V, SqX K b H a xs ∧ xs.length = i⟩
theorem turn_enumX {P : Program} {w : World} {K : PySem.W.Frag} {elts : List Expr} {kk : Nat} {tpos : Pos} (b : Bool) {a e it : Addr} (ne1 : e ≠ it) (ne2 : a ≠ it) (ne3 : e ≠ a) :
    Turn P w K (.Tuple elts kk tpos) (IteX K b a) [e, it] e (fun i h => (∃ old, IsEnum h e it ((i : Nat) : Int) old) ∧ ItX b h it a i) := by
  have hef : e ∉ [it, a] := by simp [ne1, ne3]
  exact {
  mem := by simp
  obj := fun i h st c hc => by
    obtain ⟨⟨old, he⟩, hi⟩ := st
    have e' : c = e ∨ c = it := by simpa using hc
    rcases e' with z | z
    · rw [z]; exact ⟨_, he, fun v q => nomatch q⟩
    · rw [z]; exact hi.ob
  keep := fun i h h' st k => let ⟨⟨old, he⟩, hi⟩ := st; ⟨⟨old, k e (by simp) _ he⟩, hi.at fun o q => k it (by simp) o q⟩
  item := by
    intro X hP hw hK hc i pins s σ H E I hf st hg
    subst hP hw hK
    obtain ⟨⟨old, he⟩, hit⟩ := st
    obtain ⟨xs, x, hq, hx⟩ := hg
    obtain ⟨its, rv, p, hz⟩ := seqX I hq
    obtain ⟨u, hu, ru⟩ := rv.get hx
    have hel : e < s.heap.objs.size := Heap.lt_size he
    have hil : it < s.heap.objs.size := by obtain ⟨_, q, _⟩ := hit.ob; exact Heap.lt_size q
    have hh : X.A.in1.handled = none := I.ok.hd hc
    refine wpAny_pyNext_enum_itemC (drawsX b hh it a ne2 its.toArray) he ⟨hit, p⟩ (by have := (List.getElem?_eq_some_iff.mp hu).1; simpa using this) ne1 hef fun v h' tk e1 ho st' hT hsz hk => ?_
    have ev : v = u := by
      have e1' : its[i]? = some v := by simpa using e1
      rw [hu] at e1'
      exact (Option.some.inj e1').symm
    subst ev
    obtain ⟨hit', _⟩ := st'
    refine ⟨_, rfl, wpAny_letOwnedTupleGo_enum (s := { s with heap := h', toks := tk + 1 }) ho fun h'' he' sb => ?_⟩
    have hT2 : h''.get? s.heap.objs.size = some { cls := .type "tuple", data := .seq #[.int i tk, v] } := (sb.2 _ (Nat.ne_of_gt hel)).trans hT
    have new : ObjOk X.prog X.w (upd H s.heap.objs.size (.tup [.int (i : Nat), x])) h'' s.heap.objs.size (.tup [.int (i : Nat), x]) :=
      ⟨by show 2 ≤ sizeLine; decide, [.int i tk, v], .cons ⟨_, rfl⟩ (.cons ru .nil), ⟨_, hT2, rfl, _, rfl⟩⟩
    have I1 : Inv X pins σ (upd H s.heap.objs.size (.tup [.int (i : Nat), x])) { s with heap := h'', toks := tk + 1 } :=
      I.turnedNew (ch := [e, it]) (fun c ob hb q => (sb.2 c (fun z => hb (by simp [z]))).trans (hk c ob (fun z => hb (by simp [z])) (fun z => hb (by simp [z])) q)) hf (Nat.le_refl _) new
    refine ⟨.ref s.heap.objs.size, _, I1, rfl, ⟨_, x, rfl, I.hok.fresh (Nat.le_refl _), rfl, fun ys hy => by rw [sqX_inj I hy hq]; exact hx⟩, ⟨⟨v, ?_⟩, hit'.at fun o q => (sb.2 it (Ne.symm ne1)).trans q⟩, fun c hb => ?_⟩
    · have e1 : ((i + 1 : Nat) : Int) = (i : Int) + 1 := by omega
      rw [e1]; exact he'
    · have hb' : c < s.heap.objs.size := by
        have e' : c = e ∨ c = it := by simpa using hb
        rcases e' with z | z
        · rw [z]; exact hel
        · rw [z]; exact hil
      rw [upd_ne (Nat.ne_of_lt hb')]
      exact (hf c hb).1
  done := by
    intro X hP hw hK hc i pins s σ H E I hf st hg
    subst hP hw hK
    obtain ⟨⟨old, he⟩, hit⟩ := st
    obtain ⟨xs, hq, hx⟩ := hg
    obtain ⟨its, rv, p, hz⟩ := seqX I hq
    obtain ⟨f0, f1, f2, f3, f4, f5⟩ := hf it (by simp)
    have hl := rv.length
    have hh : X.A.in1.handled = none := I.ok.hd hc
    have hlen : its.toArray.size = i := by simp; omega
    exact wpAny_pyNext_enum_endD (drawsX b hh it a ne2 its.toArray) he (by rw [hlen]; exact ⟨hit, p⟩) fun h' eb => ⟨rfl, I.turned (t' := s.toks) (fun b o hb q => eb b o hb q) f0 f1 f3 f4 f5⟩
  self := fun A i s Q E st h => let ⟨⟨_, he⟩, _⟩ := st; wpAny_pyIter_enum he h }
end DL
end

section
set_option Elab.async false
set_option linter.all false
set_option maxRecDepth 100000
/-! enumerate of a tuple; what is walked, told of data. -/
namespace DL
open PySem PySem.Spec PyProof.Rows L2
open AutoSeq1 (wpAny_loadPart')
theorem meets_enumT (l : Addr) (items : Array Value) (n : Nat) (dct : Option Addr) (sl : Array (Option Value)) :
    Meets (Builtin.«enumerate.__new__» ⟨[.type "enumerate", .ref l], []⟩) (fun _ R s => s.heap.get? l = some { cls := .type "tuple", dict := dct, data := .seq items n, slots := sl } ∧
      R (.ok (.ret (.ref (s.heap.push { cls := .type "tuple_iterator", data := .fields #[.ref l, .int 0 0] }).objs.size)))
        { s with heap := (s.heap.push { cls := .type "tuple_iterator", data := .fields #[.ref l, .int 0 0] }).push { cls := .type "enumerate", data := .fields #[.none, .bool false, .ref s.heap.objs.size, rawInt 0, .none, .none] } }) :=
  .of_wp fun prog w A R s h => by
    obtain ⟨hp, g, d, tk, os⟩ := s; obtain ⟨hl, h⟩ := h
    have hsub := sub_enumerate
    have hL : Heap.IsTuple (Shared.heap ⟨hp, g, d, tk, os⟩) l items := ⟨_, hl, rfl, n, rfl⟩
    wp_walk using wpAny_loadPart' hl
    refine wpAny_stack_any fun st => wpAny_pure ?_
    split
    · rename_i c _ _ _ _ _
      cases (c == Value.type "enumerate")
      · wp_walk using wpAny_loadPart' hl, wpAny_pyIter_tuple hL
        exact ⟨_, rfl, h⟩
      · wp_walk using wpAny_loadPart' hl, wpAny_pyIter_tuple hL
        exact ⟨_, rfl, h⟩
    · wp_walk using wpAny_loadPart' hl, wpAny_pyIter_tuple hL
      exact ⟨_, rfl, h⟩
section
variable {prog : Program} {w : World} {A : Around} {E : Value → Shared → Prop} {s : Shared}
theorem call_enumT {l : Addr} {items : Array Value} {Q : Value → Shared → Prop} (hL : s.heap.IsTuple l items)
    (h : ∀ h', IsEnum h' (s.heap.objs.size + 1) s.heap.objs.size 0 .none → h'.IsTupleIter s.heap.objs.size l 0 → h'.objs.size = s.heap.objs.size + 2 →
      (∀ b o, s.heap.get? b = some o → h'.get? b = some o) → Q (.ref (s.heap.objs.size + 1)) { s with heap := h' }) :
    wpAny (model prog w) A (call (.type "enumerate") [.ref l]) Q E s := by
  obtain ⟨⟨c, dct, dt, sl⟩, hl, hc, n, hd⟩ := hL
  replace hc : c = .type "tuple" := hc
  replace hd : dt = .seq items n := hd
  subst hc hd
  refine callType_new F.called_enumerate (by decide) (F.typeCall_enumerate_1 _) (F.newCall_enumerate_1 _) (fun obj => F.args_object_init_2 obj _) F.entry_enumerate_new
    (meets_enumT l items n dct sl) ⟨hl, ?_⟩
  have hz : (s.heap.push { cls := .type "tuple_iterator", data := .fields #[.ref l, .int 0 0] }).objs.size = s.heap.objs.size + 1 := Heap.size_push ..
  show _ ∧ _
  rw [hz]
  have he : IsEnum ((s.heap.push { cls := .type "tuple_iterator", data := .fields #[.ref l, .int 0 0] }).push
      { cls := .type "enumerate", data := .fields #[.none, .bool false, .ref s.heap.objs.size, rawInt 0, .none, .none] }) (s.heap.objs.size + 1) s.heap.objs.size 0 .none := by
    have := Heap.get?_push_size (s.heap.push { cls := .type "tuple_iterator", data := .fields #[.ref l, .int 0 0] })
      (o := { cls := .type "enumerate", data := .fields #[.none, .bool false, .ref s.heap.objs.size, rawInt 0, .none, .none] }) rfl
    rw [hz] at this; exact this
  refine ⟨⟨_, he, rfl⟩, h _ he ⟨_, Heap.get?_push_of_some _ (Heap.get?_push_size _ rfl), rfl, rfl⟩ (by rw [Heap.size_push, hz]) fun b o x => Heap.get?_push_of_some _ (Heap.get?_push_of_some _ x)⟩
theorem call_enumX (b : Bool) {l : Addr} {items : Array Value} {Q : Value → Shared → Prop} (hL : SX b s.heap l items)
    (h : ∀ h', IsEnum h' (s.heap.objs.size + 1) s.heap.objs.size 0 .none → ItX b h' s.heap.objs.size l 0 → h'.objs.size = s.heap.objs.size + 2 →
      (∀ b o, s.heap.get? b = some o → h'.get? b = some o) → Q (.ref (s.heap.objs.size + 1)) { s with heap := h' }) :
    wpAny (model prog w) A (call (.type "enumerate") [.ref l]) Q E s := by
  cases b
  · exact call_enumerate_list hL h
  · exact call_enumT hL h
end
def iEnumX (K : PySem.W.Frag) (ta : TA) : TI := fun σ H R => ta σ H fun vs H1 => ∃ b a xs, vs = [.ref a] ∧ SqX K b H1 a xs ∧ R (IteX K b a) H1
theorem pi_enumX {X : Cx} {e : Expr} {ta : TA} {p pos tpos : Pos} {elts : List Expr} {kk : Nat} (hg : Gl X "enumerate") (hm : X.mg "enumerate" = none) (ha : PA X [e] ta) (hs : starEach [e] X.env = [(false, eval e X.env)] := by rfl) :
    PI X (.Tuple elts kk tpos) (.Call (.Name "enumerate" p) [e] [] pos) (iEnumX X.K ta) := by
  refine ⟨fun pins s σ H R I h => ?_⟩
  refine Call_ (ld_blt I hg hm boot_enumerate (PyProof.Rows.callWith_type1 (thn (ha.run pos pins s σ H _ I h) fun us s1 ⟨vs, H1, I1, r1, q1⟩ => ?_) hs rfl))
  obtain ⟨b, a, xs, ex, hq, q⟩ := q1
  subst ex
  cases r1 with
  | cons r rr =>
    cases rr
    cases r
    obtain ⟨its, rv, p', hz⟩ := seqX I1 hq
    refine call_enumX b p' fun h' he hit hsz hk => wpAny_pyIter_enum he ?_
    have I2 : Inv X pins σ H1 { s1 with heap := h' } := I1.kept (t' := s1.toks) hk
    refine ⟨s1.heap.objs.size + 1, [s1.heap.objs.size + 1, s1.heap.objs.size], _, _, H1, rfl, I2, turn_enumX b (e := s1.heap.objs.size + 1) (it := s1.heap.objs.size) (a := a) (Nat.succ_ne_self _) (Nat.ne_of_lt hz) (Nat.ne_of_gt (Nat.lt_succ_of_lt hz)), ⟨⟨.none, he⟩, hit⟩, fun b hb => ?_, q⟩
    have e' : b = s1.heap.objs.size + 1 ∨ b = s1.heap.objs.size := by simpa using hb
    have hle : s1.heap.objs.size ≤ b := by
      rcases e' with z | z
      · rw [z]; exact Nat.le_add_right _ _
      · rw [z]; exact Nat.le_refl _
    exact I1.fpOk hle (I1.hok.fresh hle)
/-! ### told of data -/
section
variable {X : Cx} {A : List V} {W : WX} {S : Cfg}
theorem sqX_mono {b : Bool} {H H' : Hp} {a : Addr} {xs : List V} (K : PySem.W.Frag) (e : Same H H') (h : SqX K b H a xs) (hl : b = false → H a = some (.lst xs)) : SqX K b H' a xs := by
  cases b
  · exact SqL.of (e _ _ (hl rfl))
  · exact sqT_mono e h
/-- the items of a frozen sequence -/
theorem rd_items {x : D} {v : V} {xs : List D} (rx : RD X.K X.mg S.F x v) (e : dItems x = some xs) : ∃ b a vs, v = .ref a ∧ SqX X.K b S.F a vs ∧ (b = false → S.F a = some (.lst vs)) ∧ RDs X.K X.mg S.F xs vs := by
  unfold dItems at e
  split at e
  · cases e
    obtain ⟨a, vs, rfl, h2, h3⟩ := rx
    exact ⟨false, a, vs, rfl, SqL.of h2, fun _ => h2, h3⟩
  · cases e
    obtain ⟨a, vs, rfl, h2, h3⟩ := rx
    exact ⟨true, a, vs, rfl, h2, (fun z => nomatch z), h3⟩
  · cases e
def numD (i : Nat) : List D → List D
  | [] => []
  | x :: xs => .tup [.int (i : Int), x] :: numD (i + 1) xs
theorem numD_len (i : Nat) : ∀ xs : List D, (numD i xs).length = xs.length
  | [] => rfl
  | x :: xs => by simp [numD, numD_len (i + 1) xs]
theorem numD_get : ∀ (xs : List D) (i j : Nat), (numD i xs)[j]? = xs[j]?.map fun x => .tup [.int ((i + j : Nat) : Int), x]
  | [], _, _ => by simp [numD]
  | x :: xs, i, 0 => by simp [numD]
  | x :: xs, i, j + 1 => by
    simp only [numD, List.getElem?_cons_succ]
    rw [numD_get xs (i + 1) j]
    have : i + 1 + j = i + (j + 1) := by omega
    rw [this]
def zipD : List D → List D → List D
  | x :: xs, y :: ys => .tup [x, y] :: zipD xs ys
  | _, _ => []
theorem zipD_len : ∀ xs ys : List D, (zipD xs ys).length = min xs.length ys.length
  | [], _ => by simp [zipD]
  | x :: xs, [] => by simp [zipD]
  | x :: xs, y :: ys => by
    show (zipD xs ys).length + 1 = min (xs.length + 1) (ys.length + 1)
    rw [zipD_len xs ys]
    omega
theorem zipD_get : ∀ (xs ys : List D) (j : Nat) (x y : D), xs[j]? = some x → ys[j]? = some y → (zipD xs ys)[j]? = some (.tup [x, y])
  | [], _, _, _, _, h, _ => by simp at h
  | x :: xs, [], _, _, _, _, h => by simp at h
  | x :: xs, y :: ys, 0, a, b, h1, h2 => by
    simp at h1 h2
    subst h1 h2
    rfl
  | x :: xs, y :: ys, j + 1, a, b, h1, h2 => by
    simp only [zipD, List.getElem?_cons_succ] at *
    exact zipD_get xs ys j a b h1 h2
theorem walkD_enum {b : Bool} {a : Addr} {xs : List D} {vs : List V} (h : SqX X.K b S.F a vs) (hl : b = false → S.F a = some (.lst vs)) (r : RDs X.K X.mg S.F xs vs) : WalkD X (IteX X.K b a) S (numD 0 xs) := by
  refine ⟨fun H => SqX X.K b H a vs, fun i H v H' => ∃ T x, v = .ref T ∧ H T = none ∧ H' = upd H T (.tup [.int (i : Nat), x]) ∧ vs[i]? = some x, ⟨fun i H hi hq => ?_, fun H hq => ?_, fun i H x H' hi hq y => ?_⟩, fun S' e sb => ?_, fun i S' x H' hi e sb y => ?_⟩
  · rw [numD_len, r.length] at hi
    exact ⟨vs, vs[i], hq, List.getElem?_eq_getElem hi⟩
  · exact ⟨vs, hq, by rw [numD_len, r.length]⟩
  · obtain ⟨T, u, h1, h2, h3, h4⟩ := y
    exact ⟨T, u, h1, h2, h3, h4 vs hq⟩
  · exact sqX_mono X.K sb (sqX_mono X.K e.frz h hl) fun z => e.frz _ _ (hl z)
  · obtain ⟨T, u, h1, h2, h3, h4⟩ := y
    obtain ⟨d, e1, e2⟩ := r.getV h4
    subst h1 h3
    have g : Gr S' (S'.fz T (.tup [.int (i : Nat), u])) := .fz sb h2
    refine ⟨_, .tup [.int (i : Int), d], rfl, g, ?_, T, _, rfl, SqT.of upd_same, ⟨_, _, rfl, rfl, _, _, rfl, (e2.mono e.frz).mono g.F, rfl⟩⟩
    rw [numD_get, e1]
    simp
theorem walkD_zip {b1 b2 : Bool} {a1 a2 : Addr} {xs ys : List D} {vs us : List V} (h : SqX X.K b1 S.F a1 vs) (hl : b1 = false → S.F a1 = some (.lst vs)) (r : RDs X.K X.mg S.F xs vs) (k : SqX X.K b2 S.F a2 us) (kl : b2 = false → S.F a2 = some (.lst us)) (q : RDs X.K X.mg S.F ys us) : WalkD X (ItzX X.K b1 b2 a1 a2) S (zipD xs ys) := by
  refine ⟨fun H => SqX X.K b1 H a1 vs ∧ SqX X.K b2 H a2 us, fun i H v H' => ∃ T x y, v = .ref T ∧ H T = none ∧ H' = upd H T (.tup [x, y]) ∧ vs[i]? = some x ∧ us[i]? = some y, ⟨fun i H hi hq => ?_, fun H hq => ?_, fun i H x H' hi hq y => ?_⟩, fun S' e sb => ?_, fun i S' x H' hi e sb y => ?_⟩
  · rw [zipD_len, r.length, q.length] at hi
    exact ⟨vs, us, vs[i], us[i], hq.1, hq.2, List.getElem?_eq_getElem (by omega), List.getElem?_eq_getElem (by omega)⟩
  · refine ⟨vs, us, hq.1, hq.2, ?_, ?_, ?_⟩ <;> rw [zipD_len, r.length, q.length] <;> omega
  · obtain ⟨T, u, u', h1, h2, h3, h4, h5⟩ := y
    exact ⟨T, u, u', h1, h2, h3, h4 vs hq.1, h5 us hq.2⟩
  · exact ⟨sqX_mono X.K sb (sqX_mono X.K e.frz h hl) fun z => e.frz _ _ (hl z), sqX_mono X.K sb (sqX_mono X.K e.frz k kl) fun z => e.frz _ _ (kl z)⟩
  · obtain ⟨T, u, u', h1, h2, h3, h4, h5⟩ := y
    obtain ⟨d, e1, e2⟩ := r.getV h4
    obtain ⟨d', e1', e2'⟩ := q.getV h5
    subst h1 h3
    have g : Gr S' (S'.fz T (.tup [u, u'])) := .fz sb h2
    exact ⟨_, .tup [d, d'], rfl, g, zipD_get _ _ _ _ _ e1 e1', T, _, rfl, SqT.of upd_same, ⟨_, _, rfl, (e2.mono e.frz).mono g.F, _, _, rfl, (e2'.mono e.frz).mono g.F, rfl⟩⟩
/-- enumerate(f) -/
def iEn (f : EM D) : EM (List D) := fun ρ => (argGo [.ev f] ρ).bind fun ds ρ1 => match ds with
  | [x] => Out.lift ρ1 ((dItems x).map (numD 0))
  | _ => .stuck
theorem pid_enum {e : Expr} {f : EM D} {p pos tpos : Pos} {elts : List Expr} {kk : Nat} (hg : Gl X "enumerate") (hm : X.mg "enumerate" = none) (he : PD X A W e f) (hs : starEach [e] X.env = [(false, eval e X.env)] := by rfl) :
    PID X A W (.Tuple elts kk tpos) (.Call (.Name "enumerate" p) [e] [] pos) (iEn f) := PI.imp (pi_enumX hg hm (pa_cons he pa_nil hs) hs) fun σ H R h => by
  obtain ⟨S, ρ, rfl, s, h⟩ := h
  refine args_bind (os := [.ev f]) (P := PostI X A W R S σ) (fun z => z) (fun _ _ _ z => z) s h fun ds ρ1 S1 vs hp ev s1 ok => ?_
  match ds, vs, ok with
  | [x], [v], ok =>
    have rx : RD X.K X.mg S1.F x v := ok.1
    have hp' : PostI X A W R S σ (Out.lift ρ1 ((dItems x).map (numD 0))) := hp
    cases q : dItems x with
    | none =>
      rw [q] at hp'
      exact hp'.elim
    | some xs =>
      rw [q] at hp'
      obtain ⟨b, a, us, h1, h2, h3, h4⟩ := rd_items rx q
      exact ⟨b, a, us, by rw [h1], sqX_mono X.K s1.sub h2 h3, hp' S1 _ ev s1 (walkD_enum h2 h3 h4)⟩
/-- zip(f, g) -/
def iZp (f g : EM D) : EM (List D) := fun ρ => (argGo [.ev f, .ev g] ρ).bind fun ds ρ1 => match ds with
  | [x, y] => match dItems x, dItems y with
    | some xs, some ys => .ok (zipD xs ys) ρ1
    | _, _ => .stuck
  | _ => .stuck
theorem pid_zip {e e2 : Expr} {f g : EM D} {p pos tpos : Pos} {elts : List Expr} {kk : Nat} (hg : Gl X "zip") (hm : X.mg "zip" = none) (he : PD X A W e f) (he2 : PD X A W e2 g)
    (hs : starEach [e, e2] X.env = (false, eval e X.env) :: starEach [e2] X.env := by rfl) (hs2 : starEach [e2] X.env = (false, eval e2 X.env) :: starEach [] X.env := by rfl) (hpl : (backTo pos (starEach [e2] X.env)).any (·.1) = false := by rfl) :
    PID X A W (.Tuple elts kk tpos) (.Call (.Name "zip" p) [e, e2] [] pos) (iZp f g) := PI.imp (pi_zipX hg hm (pa_cons he (pa_cons he2 pa_nil hs2) hs) hs hpl) fun σ H R h => by
  obtain ⟨S, ρ, rfl, s, h⟩ := h
  refine args_bind (os := [.ev f, .ev g]) (P := PostI X A W R S σ) (fun z => z) (fun _ _ _ z => z) s h fun ds ρ1 S1 vs hp ev s1 ok => ?_
  match ds, vs, ok with
  | [x, y], [v, u], ok =>
    have rx : RD X.K X.mg S1.F x v := ok.1
    have ry : RD X.K X.mg S1.F y u := ok.2.1
    have hp' : PostI X A W R S σ (match dItems x, dItems y with
      | some xs, some ys => .ok (zipD xs ys) ρ1
      | _, _ => .stuck) := hp
    cases q : dItems x with
    | none =>
      simp only [q] at hp'
      exact (show False from hp').elim
    | some xs =>
      cases q2 : dItems y with
      | none =>
        simp only [q, q2] at hp'
        exact (show False from hp').elim
      | some ys =>
        simp only [q, q2] at hp'
        obtain ⟨b1, a1, us1, h1, h2, h3, h4⟩ := rd_items rx q
        obtain ⟨b2, a2, us2, k1, k2, k3, k4⟩ := rd_items ry q2
        exact ⟨b1, b2, a1, a2, us1, us2, by rw [h1, k1], sqX_mono X.K s1.sub h2 h3, sqX_mono X.K s1.sub k2 k3, hp' S1 _ ev s1 (walkD_zip h2 h3 h4 k2 k3 k4)⟩
end
end DL
end

section
set_option Elab.async false
set_option linter.all false
set_option maxRecDepth 100000
/-! More operations. -/
namespace DL
open PySem PySem.Spec PyProof.Rows L2
section
variable {X : Cx} {A : List V} {W : WX} {S S' : Cfg} {σ : L2.St} {ρ : Env'}
/-! ### * -/
theorem RDs.rep {K : PySem.W.Frag} {mg : Str → Option Value} {F : Hp} {ds : List D} {vs : List V} (h : RDs K mg F ds vs) : ∀ n : Nat, RDs K mg F (List.replicate n ds).flatten (List.replicate n vs).flatten
  | 0 => rfl
  | n + 1 => by
    rw [List.replicate_succ, List.replicate_succ, List.flatten_cons, List.flatten_cons]
    exact h.app (RDs.rep h n)
def repStr (x : Str) (n : Nat) : Str := ⟨(List.replicate n x.cps).foldl (· ++ ·) #[]⟩
def dMul : D → D → Option D
  | .int i, .int j => if i.natAbs.log2 + j.natAbs.log2 < 1000000 then some (.int (i * j)) else none
  | .lst xs, .int k => if 0 ≤ k ∧ k ≤ 1000 ∧ xs.length ≤ 1000 then some (.lst (List.replicate k.toNat xs).flatten) else none
  | .tup xs, .int k => if 1 ≤ k ∧ k ≤ 1000 ∧ 0 < xs.length ∧ xs.length ≤ 1000 then some (.tup (List.replicate k.toNat xs).flatten) else none
  | .str x, .int k => if 1 ≤ k ∧ k ≤ 1000 ∧ 0 < x.length ∧ x.length ≤ 1000 then some (.str (if k = 1 then x else repStr x k.toNat)) else none
  | _, _ => none
def rRepT1 (K : PySem.W.Frag) : R2 := fun x y H Q => ∃ l xs, x = .ref l ∧ y = .int 1 ∧ SqT K H l xs ∧ xs ≠ [] ∧ Q x H
theorem tuple_mul1 (l : Addr) (items : Array Value) (n : Nat) (dd : Option Addr) (sl : Array (Option Value)) (u : Tok) :
    Meets (Builtin.«tuple.__mul__» ⟨[.ref l, .int 1 u], []⟩) (fun _ R s => s.heap.get? l = some { cls := .type "tuple", dict := dd, data := .seq items n, slots := sl } ∧ R (.ok (.ret (Value.ref l))) s) :=
  .of_wp fun prog w A R s h => by
    obtain ⟨hp, g, d, tk, os⟩ := s
    obtain ⟨hl, h⟩ := h
    have f1 := AutoSeq1.idx_int
    wp_walk using wpAny_loadPart' hl
    repeat (first
      | (refine wpAny_ite_true (decide_eq_true (by simp)) ?_; wp_walk using wpAny_loadPart' hl)
      | (refine wpAny_ite_false (decide_eq_false (by decide)) ?_; wp_walk using wpAny_loadPart' hl))
    exact ⟨_, rfl, h⟩
theorem size_foldl {α : Type} (a : Array α) : ∀ (m : Nat) (acc : Array α), ((List.replicate m a).foldl (· ++ ·) acc).size = acc.size + m * a.size
  | 0, acc => by simp
  | m + 1, acc => by
    rw [List.replicate_succ, List.foldl_cons, size_foldl a m, Array.size_append, Nat.succ_mul]
    omega
theorem op_repT1 : OpR X (binaryOp .Mult) (rRepT1 X.K) := by
  intro pins s σ H x y v u Q I rx ry h
  obtain ⟨l, xs, rfl, rfl, hT, hne, q⟩ := h
  cases rx
  obtain ⟨t, rfl⟩ := ry
  obtain ⟨its, r, ⟨⟨cls, dd, data, sl⟩, ho, hc, n, hd⟩, hs⟩ := I.tuple hT
  simp only at hc hd
  subst hc hd
  refine wpAny_binaryOp_repeat_ref (T := "tuple") (U := "int") (by decide) ⟨_, ho, rfl⟩ (fun s' => typeIs_int s' 1 t) noFill_tuple_mul F.fills_int_mul F.slot_int_rmul repeat_tuple F.slot_int_index.lookup
    (call_meets F.slot_int_rmul (typeIs_int s 1 t) F.entry_int_rmul (F.args_int_rmul_2 _ _) (int_rmul_tuple 1 t l its.toArray n dd sl)
      ⟨ho, rfl, ⟨_, ho, rfl⟩, call_meets F.slot_tuple_mul ⟨_, ho, rfl⟩ F.entry_tuple_mul (F.args_tuple_mul_2 _ _) (tuple_mul1 l its.toArray n dd sl t) ⟨ho, ?_⟩⟩)
  exact ⟨.ref l, H, I, rfl, q⟩
def rRepS : R2 := fun x y H Q => ∃ z k, x = .str z ∧ y = .int k ∧ 1 ≤ k ∧ k ≤ 1000 ∧ 0 < z.length ∧ z.length ≤ 1000 ∧ Q (.str (if k = 1 then z else repStr z k.toNat)) H
theorem op_repS : OpR X (binaryOp .Mult) rRepS := by
  intro pins s σ H x y v u Q I rx ry h
  obtain ⟨z, k, rfl, rfl, h1, h2, h3, h4, q⟩ := h
  obtain ⟨t, rfl⟩ := rx
  obtain ⟨t2, rfl⟩ := ry
  have hm : z.length * k.toNat ≤ 1000 * 1000 := Nat.mul_le_mul h4 (by omega)
  refine PySem.P.mul_str (by rw [decide_eq_false (by omega), decide_eq_false (by omega)] <;> rfl) (fun _ _ hb => ?_) (fun _ _ => ?_) ?_
  · have e1 : (1000 : Int) ≤ (2 ^ 63 - 1) / k := by
      rw [Int.le_ediv_iff_mul_le (by omega)]
      omega
    omega
  · unfold Builtin.Str.tooLong
    rw [sizeLine_eq]
    exact decide_eq_false (by omega)
  · rw [if_neg (by omega)]
    have e0 : (k == 1 || z.length == 0) = decide (k = 1) := by
      have : (z.length == 0) = false := beq_eq_false_iff_ne.mpr (by omega)
      rw [this, Bool.or_false]
      rfl
    rw [e0]
    by_cases hk : k = 1
    · rw [if_pos (decide_eq_true hk)]
      rw [if_pos hk] at q
      exact ⟨.str z, H, I, ⟨t, rfl⟩, q⟩
    · rw [if_neg (by simpa using hk)]
      rw [if_neg hk] at q
      refine ⟨?_, ⟨.str _, H, I.tok _, ⟨_, rfl⟩, q⟩⟩
      show (repStr z k.toNat).length ≤ _
      have e1 : (repStr z k.toNat).length = k.toNat * z.length := by
        show ((List.replicate k.toNat z.cps).foldl (· ++ ·) #[]).size = _
        rw [size_foldl]
        show (#[] : Array Nat).size + k.toNat * z.cps.size = _
        simp
        rfl
      rw [e1, Nat.mul_comm, sizeLine_eq]
      omega
abbrev rMulD (K : PySem.W.Frag) : R2 := fun x y H Q => rI CMulW (fun i j => .int (i * j)) x y H Q ∨ rRep x y H Q ∨ rRepT K x y H Q ∨ rRepT1 K x y H Q ∨ rRepS x y H Q
theorem op_mulD : OpR X (binaryOp .Mult) (rMulD X.K) := op_mulW.or (op_rep.or (op_repT.or (op_repT1.or op_repS)))
theorem vop_mul : VOp2 X dMul (rMulD X.K) := fun S x y z v u Q hS e rx ry k => by
  unfold dMul at e
  split at e
  · split at e
    · rename_i h
      cases e
      exact .inl ⟨_, _, rx, ry, h, k S _ (.refl hS) rfl⟩
    · cases e
  · split at e
    · rename_i xs n h
      cases e
      obtain ⟨a, vs, rfl, h2, h3⟩ := rx
      refine .inr (.inl ⟨a, n, vs, rfl, ry, h2, by omega, by omega, ?_, fun p hp => give_lst hS (h3.rep _) k p hp⟩)
      rw [← h3.length, sizeLine_eq]
      have a1 : xs.length * n.toNat ≤ 1000 * 1000 := Nat.mul_le_mul h.2.2 (by omega)
      omega
    · cases e
  · split at e
    · rename_i xs n h
      cases e
      obtain ⟨a, vs, rfl, h2, h3⟩ := rx
      have hne : vs ≠ [] := fun z => by
        have e1 := h3.length
        rw [z, List.length_nil] at e1
        omega
      by_cases hn : n = 1
      · subst hn
        refine .inr (.inr (.inr (.inl ⟨a, vs, rfl, ry, sqT_mono hS h2, hne, k S _ (.refl hS) ⟨a, vs, rfl, h2, ?_⟩⟩)))
        have e1 : (List.replicate (1 : Int).toNat xs).flatten = xs := by
          show (List.replicate 1 xs).flatten = xs
          simp
        rw [e1]
        exact h3
      · exact .inr (.inr (.inl ⟨a, n, vs, rfl, ry, sqT_mono hS h2, hne, by omega, by omega, by rw [← h3.length]; omega, fun p hp => give_tup hS (h3.rep _) k p hp⟩))
    · cases e
  · split at e
    · rename_i h
      cases e
      exact .inr (.inr (.inr (.inr ⟨_, _, rx, ry, h.1, h.2.1, h.2.2.1, h.2.2.2, k S _ (.refl hS) rfl⟩)))
    · cases e
  · cases e
/-! ### //, by wide numbers, too -/
def dDivW : D → D → Option D
  | .int i, .int j => if 0 < j ∧ j.natAbs.log2 < 9000 then some (.int (i / j)) else none
  | _, _ => none
theorem vop_divW : VOp2 X dDivW (rI CDivW fun i j => .int (i / j)) := fun S x y z v u Q hS e rx ry k => by
  unfold dDivW at e
  split at e
  · split at e
    · rename_i h
      cases e
      exact ⟨_, _, rx, ry, h, k S _ (.refl hS) rfl⟩
    · cases e
  · cases e
/-! ### slices -/
def cutD (xs : List D) (lo hi : Option Int) : List D := (xs.drop (HT.sIx xs.length 0 lo)).take (HT.sIx xs.length xs.length hi - HT.sIx xs.length 0 lo)
def dSlice (x : D) (lo hi : Option Int) : Option D := match x with
  | .lst xs => some (.lst (cutD xs lo hi))
  | .tup xs => some (.tup (cutD xs lo hi))
  | .scr ns => some (.lst (cutD (ns.map .int) lo hi))
  | _ => none
theorem RDs.cut {K : PySem.W.Frag} {mg : Str → Option Value} {F : Hp} {ds : List D} {vs : List V} (h : RDs K mg F ds vs) (lo hi : Option Int) : RDs K mg F (cutD ds lo hi) (cutV vs lo hi) := by
  unfold cutD cutV
  rw [h.length]
  exact (h.drop _).take _
/-- a bound -/
def oBd : Option (EM D) → EM (Option Int)
  | none => fun ρ => .ok none ρ
  | some f => fun ρ => (f ρ).bind fun d ρ1 => match d with
    | .int i => .ok (some i) ρ1
    | _ => .stuck
def eSl (o : Opd) (lo hi : Option (EM D)) : EM D := fun ρ => (o.go ρ).bind fun x ρ1 => (oBd lo ρ1).bind fun l ρ2 => (oBd hi ρ2).bind fun h ρ3 => (Out.lift ρ3 (o.rd ρ3 x)).bind fun x ρ4 => Out.lift ρ4 (dSlice x l h)
def POb (X : Cx) (A : List V) (W : WX) (e : Option Expr) (o : Option (EM D)) : Prop := match e, o with
  | none, none => True
  | some e, some o => PD X A W e o
  | _, _ => False
def tBd (X : Cx) (A : List V) (W : WX) (o : Option (EM D)) : TO := match o with
  | none => tNoPart
  | some o => tPart (tD X.K X.mg A W o)
theorem po_bd {e : Option Expr} {o : Option (EM D)} (h : POb X A W e o) : PO X e (tBd X A W o) := by
  cases e with
  | none => cases o with
    | none => exact po_none
    | some o => exact h.elim
  | some e => cases o with
    | none => exact h.elim
    | some o => exact po_some h
theorem bd_bind {β : Type} {P : Out β → Prop} {o : Option (EM D)} {g : Option Int → Env' → Out β} {Q' : Option Int → Hp → Prop} (s : Sat X.K X.mg A S σ ρ) (hp : P ((oBd o ρ).bind g)) (herr : ∀ c d ρ', P (.err c d ρ') → PostX X.K X.mg A W S c d ρ') (hst : ¬ P .stuck)
    (k : ∀ x ρ1 S1, P (g x ρ1) → Ev S S1 → Sat X.K X.mg A S1 σ ρ1 → Q' x S1.H) : tBd X A W o σ S.H Q' := by
  cases o with
  | none => exact k none ρ S hp (Ev.refl S) s
  | some f =>
    have hp' : P ((f ρ).bind fun d ρ1 => (match d with
      | .int i => Out.ok (some i) ρ1
      | _ => .stuck).bind g) := by
      have e : (oBd (some f) ρ).bind g = ((f ρ).bind fun d ρ1 => (match d with
        | .int i => Out.ok (some i) ρ1
        | _ => .stuck).bind g) := by
        show ((f ρ).bind fun d ρ1 => _).bind g = _
        cases f ρ <;> rfl
      rw [e] at hp
      exact hp
    refine tD_bind (P := P) s hp' herr hst fun d ρ1 S1 v hp1 ev s1 rv => ?_
    cases d with
    | int j => exact ⟨j, rv, k (some j) ρ1 S1 hp1 ev s1⟩
    | _ => exact (hst hp1).elim
theorem pd_slice {e : Expr} {lo hi : Option Expr} {o : Opd} {ol oh : Option (EM D)} {pos p2 : Pos} (he : PO' X A W e o) (hl : POb X A W lo ol) (hh : POb X A W hi oh) : PD X A W (.Subscript e (.Slice lo hi none p2) pos) (eSl o ol oh) := by
  have hr : L2.SlR X (fun x l u H Q => rSlL X.K x l u H Q ∨ rSlA X.K x l u H Q) := fun pins s σ H x v vl vu lo hi sl Q I rx hs il iu q => by
    rcases q with q | q
    · exact sl_list pins s σ H x v vl vu lo hi sl Q I rx hs il iu q
    · exact sl_tupA pins s σ H x v vl vu lo hi sl Q I rx hs il iu q
  refine PE.imp (pe_slice hr he (po_bd hl) (po_bd hh)) fun σ H Q h => ?_
  obtain ⟨S, ρ, rfl, s, h⟩ := h
  refine opd_bind (P := PostE X.K X.mg A W Q S σ) s h (fun _ _ _ z => z) (fun z => z) fun x ρ1 S1 v hp1 ev1 s1 r1 => ?_
  refine bd_bind (P := PostE X.K X.mg A W Q S σ) s1 hp1 (fun _ _ _ z => PostX.ev z ev1) (fun z => z) fun i ρ2 S2 hp2 ev2 s2 => ?_
  refine bd_bind (P := PostE X.K X.mg A W Q S σ) s2 hp2 (fun _ _ _ z => PostX.ev z (ev1.trans ev2)) (fun z => z) fun j ρ3 S3 hp3 ev3 s3 => ?_
  have r3 := (r1.ev ev2).ev ev3
  cases ex : o.rd ρ3 x with
  | none =>
    rw [ex] at hp3
    exact (show False from hp3).elim
  | some y =>
    rw [ex] at hp3
    have hp4 : PostE X.K X.mg A W Q S σ (Out.lift ρ3 (dSlice y i j)) := hp3
    have rb := r3.rb s3 ex
    have ev := (ev1.trans ev2).trans ev3
    cases y with
    | lst xs =>
      obtain ⟨a, vs, rfl, q2, q3⟩ := rb
      exact .inl ⟨a, vs, rfl, SqL.of q2, fun p hp => give_lst s3.sub (q3.cut i j) (fun S' w g r => hp4 S' w (ev.trans g.ev) (s3.gr g) r) p hp⟩
    | tup xs =>
      obtain ⟨a, vs, rfl, q2, q3⟩ := rb
      refine .inr ⟨a, vs, rfl, sqT_mono s3.sub q2, fun e => ?_, fun _ p hp => give_tup s3.sub (q3.cut i j) (fun S' w g r => hp4 S' w (ev.trans g.ev) (s3.gr g) r) p hp⟩
      refine hp4 S3 _ ev s3 ⟨a, vs, rfl, q2, ?_⟩
      have e1 : cutD xs i j = xs := by
        unfold cutD
        rw [q3.length, e.1, e.2, List.drop_zero, Nat.sub_zero, ← q3.length, List.take_length]
      rw [e1]
      exact q3
    | scr ns =>
      obtain ⟨a, rfl, q2⟩ := rb
      exact .inl ⟨a, _, rfl, sqL_mono s3.sub q2, fun p hp => give_lst s3.sub ((RDs.ints ns).cut i j) (fun S' w g r => hp4 S' w (ev.trans g.ev) (s3.gr g) r) p hp⟩
    | _ => exact (show False from hp4).elim
/-- xs[::-1] -/
def eRev (f : EM D) : EM D := fun ρ => (f ρ).bind fun d ρ1 => Out.lift ρ1 ((asL d).map fun xs => .lst xs.reverse)
theorem RDs.rev {K : PySem.W.Frag} {mg : Str → Option Value} {F : Hp} : ∀ {ds : List D} {vs : List V}, RDs K mg F ds vs → RDs K mg F ds.reverse vs.reverse
  | [], _, h => by
    cases h
    rfl
  | d :: ds, _, ⟨v, r, h1, h2, h3⟩ => by
    subst h1
    rw [List.reverse_cons, List.reverse_cons]
    exact (RDs.rev h3).app (RDs.one h2)
theorem pd_rev {e : Expr} {f : EM D} {k : Nat} {p1 p2 p3 pos : Pos} (he : PD X A W e f) : PD X A W (.Subscript e (.Slice none none (some (.UnaryOp .USub (.Constant (.int 1) k p1) p2)) p3) pos) (eRev f) := PE.imp (pe_revL he) fun σ H Q h => by
  obtain ⟨S, ρ, rfl, s, h⟩ := h
  refine tD_bind (P := PostE X.K X.mg A W Q S σ) s h (fun _ _ _ z => z) (fun z => z) fun x ρ1 S1 v hp1 ev1 s1 r1 => ?_
  cases x with
  | lst xs =>
    obtain ⟨a, vs, rfl, q2, q3⟩ := r1
    exact ⟨a, vs, rfl, SqL.of (s1.sub _ _ q2), fun p hp => give_lst s1.sub q3.rev (fun S' w g r => hp1 S' w (ev1.trans g.ev) (s1.gr g) r) p hp⟩
  | _ => exact (show False from hp1).elim
/-! ### a <= b <= c -/
def eChain (f g : D → D → Option D) (ea eb ec : EM D) : EM D := fun ρ => (ea ρ).bind fun x ρ1 => (eb ρ1).bind fun y ρ2 => (Out.lift ρ2 (f x y)).bind fun z ρ3 => match z with
  | .bl true => (ec ρ3).bind fun w ρ4 => Out.lift ρ4 (g y w)
  | .bl false => .ok (.bl false) ρ3
  | _ => .stuck
theorem chain_to {r r' : R2} {f g : D → D → Option D} {ea eb ec : EM D} (hv : VOp2 X f r) (hv' : VOp2 X g r') (σ : L2.St) (H : Hp) (Q : VK) (h : tD X.K X.mg A W (eChain f g ea eb ec) σ H Q) : tChain r r' (tD X.K X.mg A W ea) (tD X.K X.mg A W eb) (tD X.K X.mg A W ec) σ H Q := by
  obtain ⟨S, ρ, rfl, s, h⟩ := h
  refine tD_bind (P := PostE X.K X.mg A W Q S σ) s h (fun _ _ _ z => z) (fun z => z) fun x ρ1 S1 v hp1 ev1 s1 r1 => ?_
  refine tD_bind (P := PostE X.K X.mg A W Q S σ) s1 hp1 (fun _ _ _ z => PostX.ev z ev1) (fun z => z) fun y ρ2 S2 u hp2 ev2 s2 r2 => ?_
  cases e : f x y with
  | none =>
    rw [e] at hp2
    exact (show False from hp2).elim
  | some z =>
    rw [e] at hp2
    have ev := ev1.trans ev2
    refine hv S2 x y z v u _ s2.sub e ((r1.mono ev2.frz).rb s2.sub) (r2.rb s2.sub) fun S3 w g3 r3 => ?_
    have s3 := s2.gr g3
    have ev3 := ev.trans g3.ev
    cases z with
    | bl c => cases c with
      | true =>
        have hp3 : PostE X.K X.mg A W Q S σ ((ec ρ2).bind fun w ρ4 => Out.lift ρ4 (g y w)) := hp2
        refine ⟨true, r3, iteT ?_⟩
        refine tD_bind (P := PostE X.K X.mg A W Q S σ) s3 hp3 (fun _ _ _ z => PostX.ev z ev3) (fun z => z) fun t ρ4 S4 q hp4 ev4 s4 r4 => ?_
        cases e2 : g y t with
        | none =>
          rw [e2] at hp4
          exact (show False from hp4).elim
        | some z =>
          rw [e2] at hp4
          exact hv' S4 y t z u q _ s4.sub e2 (((r2.mono g3.F).mono ev4.frz).rb s4.sub) (r4.rb s4.sub) fun S5 w5 g5 r5 => hp4 S5 w5 ((ev3.trans ev4).trans g5.ev) (s4.gr g5) r5
      | false =>
        have hp3 : PostE X.K X.mg A W Q S σ (.ok (.bl false) ρ2) := hp2
        exact ⟨false, r3, iteF (hp3 S3 _ ev3 s3 rfl)⟩
    | _ => exact (show False from hp2).elim
theorem pd_chain {op op' : CmpOp} {r r' : R2} {f g : D → D → Option D} {a b c : Expr} {ea eb ec : EM D} {pos : Pos} (ho : OpR X (compareOp op) r) (ho' : OpR X (compareOp op') r') (hv : VOp2 X f r) (hv' : VOp2 X g r') (ha : PD X A W a ea) (hb : PD X A W b eb) (hc : PD X A W c ec)
    (hm : lastMarks [op, op'] [b, c] = false := by with_unfolding_all rfl) : PD X A W (.Compare a [op, op'] [b, c] pos) (eChain f g ea eb ec) := PE.imp (pe_chain ho ho' ha hb hc hm) (chain_to hv hv')
theorem ptd_chain {op op' : CmpOp} {r r' : R2} {f g : D → D → Option D} {a b c : Expr} {ea eb ec : EM D} {pos : Pos} (ho : OpR X (compareOp op) r) (ho' : OpR X (compareOp op') r') (hv : VOp2 X f r) (hv' : VOp2 X g r') (ha : PD X A W a ea) (hb : PD X A W b eb) (hc : PD X A W c ec)
    (hm : lastMarks [op, op'] [b, c] = false := by with_unfolding_all rfl) : PTD X A W (.Compare a [op, op'] [b, c] pos) (eT (eChain f g ea eb ec)) := PT.imp (pt_chain ho ho' ha hb hc hm) fun σ H Q h => chain_to hv hv' σ H _ (eT_test _ σ H Q h)
/-! ### isinstance -/
def kitBs (t : String) : List String → Option Bool
  | [] => some false
  | c :: r => match kitB t c with
    | some true => some true
    | some false => kitBs t r
    | none => none
theorem kitBs_any {K : PySem.W.Frag} {t : String} : ∀ {cs : List String} {b : Bool}, kitBs t cs = some b → PySem.W.kitAny K (.type t) (cs.map Value.type) = some b
  | [], b, e => by
    cases e
    rfl
  | c :: r, b, e => by
    unfold kitBs at e
    split at e
    · rename_i h
      cases e
      exact kitAny_cons (kit_ty h) (fun z => nomatch z) fun _ => rfl
    · rename_i h
      exact kitAny_cons (kit_ty h) (fun _ => kitBs_any e) fun z => nomatch z
    · cases e
def dIsi (T : String) (x : D) : Option D := (tyName x).bind fun t => (kitB t T).map .bl
def dIsis (Ts : List String) (x : D) : Option D := (tyName x).bind fun t => (kitBs t Ts).map .bl
/-- isinstance(e, T) -/
theorem pd_isi {T : String} {e : Expr} {o : Opd} {p q pos : Pos} {Tx : Str} (hg : Gl X "isinstance") (hm : X.mg "isinstance" = none) (hg2 : Gl X Tx) (hm2 : X.mg Tx = none) (he : PO' X A W e o) (hT : bootBuiltins Tx = some (.type T) := by rfl) (hn : Tx ≠ "__name__" := by decide) (hd : (Tx == ("__debug__" : Str)) = false := by decide)
    (hs1 : starEach [e, .Name Tx q] X.env = (false, eval e X.env) :: starEach [.Name Tx q] X.env := by rfl) (hs2 : starEach [.Name Tx q] X.env = (false, eval (.Name Tx q) X.env) :: starEach [] X.env := by rfl) (hpl : (backTo pos (starEach [.Name Tx q] X.env)).any (·.1) = false := by rfl) :
    PD X A W (.Call (.Name "isinstance" p) [e, .Name Tx q] [] pos) (e1 (dIsi T) o) :=
  PE.imp (pe_callB call_isi hg hm rfl (pa_cons he (pa_cons (pe_bltn (v := .ty T) hg2 hm2 hT rfl hn hd) pa_nil hs2) hs1) (by decide) (by decide) hs1 hpl) fun σ H Q h => by
    obtain ⟨S, ρ, rfl, s, h⟩ := h
    have h' : PostE X.K X.mg A W Q S σ ((o.go ρ).bind fun x ρ1 => (Out.lift ρ1 (o.rd ρ1 x)).bind fun x ρ1 => Out.lift ρ1 (dIsi T x)) := h
    refine opd_bind (P := PostE X.K X.mg A W Q S σ) s h' (fun _ _ _ z => z) (fun z => z) fun x ρ1 S1 v hp1 ev1 s1 r1 => ?_
    cases ex : o.rd ρ1 x with
    | none =>
      rw [ex] at hp1
      exact (show False from hp1).elim
    | some y =>
      rw [ex] at hp1
      have hp2 : PostE X.K X.mg A W Q S σ (Out.lift ρ1 ((tyName y).bind fun t => (kitB t T).map .bl)) := hp1
      cases et : tyName y with
      | none =>
        rw [et] at hp2
        exact (show False from hp2).elim
      | some t =>
        rw [et] at hp2
        have hp3 : PostE X.K X.mg A W Q S σ (Out.lift ρ1 ((kitB t T).map .bl)) := hp2
        cases ek : kitB t T with
        | none =>
          rw [ek] at hp3
          exact (show False from hp3).elim
        | some b =>
          rw [ek] at hp3
          exact ⟨v, .ty T, .type t, .type T, b, rfl, .ty T, rb_tyx s1.sub (r1.rb s1 ex) et, kit_ty ek, hp3 S1 _ ev1 s1 rfl⟩
/-- isinstance(e, (T, U)) -/
theorem pd_isi2 {T U : String} {e : Expr} {o : Opd} {p q q2 q3 pos : Pos} {Tx Ux : Str} {kk} (hg : Gl X "isinstance") (hm : X.mg "isinstance" = none) (hg2 : Gl X Tx) (hm2 : X.mg Tx = none) (hg3 : Gl X Ux) (hm3 : X.mg Ux = none) (he : PO' X A W e o) (hT : bootBuiltins Tx = some (.type T) := by rfl) (hU : bootBuiltins Ux = some (.type U) := by rfl)
    (hn : Tx ≠ "__name__" := by decide) (hd : (Tx == ("__debug__" : Str)) = false := by decide) (hn2 : Ux ≠ "__name__" := by decide) (hd2 : (Ux == ("__debug__" : Str)) = false := by decide)
    (hs1 : starEach [e, .Tuple [.Name Tx q, .Name Ux q2] kk q3] X.env = (false, eval e X.env) :: starEach [.Tuple [.Name Tx q, .Name Ux q2] kk q3] X.env := by rfl) (hs2 : starEach [.Tuple [.Name Tx q, .Name Ux q2] kk q3] X.env = (false, eval (.Tuple [.Name Tx q, .Name Ux q2] kk q3) X.env) :: starEach [] X.env := by rfl)
    (hs3 : starEach [.Name Tx q, .Name Ux q2] X.env = (false, eval (.Name Tx q) X.env) :: starEach [.Name Ux q2] X.env := by rfl) (hs4 : starEach [.Name Ux q2] X.env = (false, eval (.Name Ux q2) X.env) :: starEach [] X.env := by rfl)
    (hpl : (backTo pos (starEach [.Tuple [.Name Tx q, .Name Ux q2] kk q3] X.env)).any (·.1) = false := by rfl) :
    PD X A W (.Call (.Name "isinstance" p) [e, .Tuple [.Name Tx q, .Name Ux q2] kk q3] [] pos) (e1 (dIsis [T, U]) o) :=
  PE.imp (pe_callB call_isiT hg hm rfl (pa_cons he (pa_cons (pe_tup (pa_cons (pe_bltn (v := .ty T) hg2 hm2 hT rfl hn hd) (pa_cons (pe_bltn (v := .ty U) hg3 hm3 hU rfl hn2 hd2) pa_nil hs4) hs3)) pa_nil hs2) hs1) (by decide) (by decide) hs1 hpl) fun σ H Q h => by
    obtain ⟨S, ρ, rfl, s, h⟩ := h
    have h' : PostE X.K X.mg A W Q S σ ((o.go ρ).bind fun x ρ1 => (Out.lift ρ1 (o.rd ρ1 x)).bind fun x ρ1 => Out.lift ρ1 (dIsis [T, U] x)) := h
    refine opd_bind (P := PostE X.K X.mg A W Q S σ) s h' (fun _ _ _ z => z) (fun z => z) fun x ρ1 S1 v hp1 ev1 s1 r1 => ?_
    cases ex : o.rd ρ1 x with
    | none =>
      rw [ex] at hp1
      exact (show False from hp1).elim
    | some y =>
      rw [ex] at hp1
      have hp2 : PostE X.K X.mg A W Q S σ (Out.lift ρ1 ((tyName y).bind fun t => (kitBs t [T, U]).map .bl)) := hp1
      cases et : tyName y with
      | none =>
        rw [et] at hp2
        exact (show False from hp2).elim
      | some t =>
        rw [et] at hp2
        have hp3 : PostE X.K X.mg A W Q S σ (Out.lift ρ1 ((kitBs t [T, U]).map .bl)) := hp2
        cases ek : kitBs t [T, U] with
        | none =>
          rw [ek] at hp3
          exact (show False from hp3).elim
        | some b =>
          rw [ek] at hp3
          refine ⟨by show 2 ≤ sizeLine; decide, fun tp np => ?_⟩
          have g : Gr S1 (S1.raw tp (.tup [.ty T, .ty U])) := .raw s1.sub np
          have s2 := s1.gr g
          refine ⟨v, tp, [.ty T, .ty U], .type t, [.type T, .type U], b, rfl, upd_same, .cons (.ty T) (.cons (.ty U) .nil), ?_, kitBs_any ek, hp3 (S1.raw tp (.tup [.ty T, .ty U])) _ (ev1.trans g.ev) s2 rfl⟩
          exact rb_tyx (S := S1.raw tp (.tup [.ty T, .ty U])) s2.sub ((r1.ev g.ev).rb s2 ex) et
/-! ### for x in a list or a tuple -/
def iS (f : EM D) : EM (List D) := fun ρ => (f ρ).bind fun d ρ1 => Out.lift ρ1 (dItems d)
theorem pid_seq {tg e : Expr} {f : EM D} (he : PD X A W e f) : PID X A W tg e (iS f) := by
  have h1 : PI X tg e (fun σ H R => iList X.K (tD X.K X.mg A W f) σ H R ∨ iTup X.K (tD X.K X.mg A W f) σ H R) := ⟨fun pins s σ H R I q => by
    rcases q with q | q
    · exact (pi_list he).run pins s σ H R I q
    · exact (pi_tup he).run pins s σ H R I q⟩
  refine PI.imp h1 fun σ H R h => ?_
  obtain ⟨S, ρ, rfl, s, h⟩ := h
  have h' : PostI X A W R S σ ((f ρ).bind fun d ρ1 => Out.lift ρ1 (dItems d)) := h
  have key : (∃ xs ρ1, f ρ = .ok (.tup xs) ρ1) ∨ ¬ ∃ xs ρ1, f ρ = .ok (.tup xs) ρ1 := Classical.em _
  rcases key with ⟨xs, ρ1, e⟩ | ne
  · right
    rw [e] at h'
    refine ⟨S, ρ, rfl, s, ?_⟩
    rw [e]
    intro S1 v ev s1 r
    obtain ⟨a, vs, h1, h2, h3⟩ := r
    exact ⟨a, h1, ⟨vs, sqT_mono s1.sub h2⟩, h' S1 _ ev s1 (walkD_tup h2 h3)⟩
  · left
    refine tD_bind (P := PostI X A W R S σ) s (g := fun d ρ1 => match d with
      | .tup _ => Out.stuck
      | d => Out.lift ρ1 (dItems d)) ?_ (fun _ _ _ z => z) (fun z => z) fun x ρ1 S1 v hp ev s1 r => ?_
    · cases e : f ρ with
      | ok d ρ1 =>
        rw [e] at h'
        cases d with
        | tup xs => exact (ne ⟨xs, ρ1, e⟩).elim
        | _ => exact h'
      | err c d ρ' =>
        rw [e] at h'
        exact h'
      | stuck =>
        rw [e] at h'
        exact h'
    · cases x with
      | lst xs =>
        obtain ⟨a, vs, h1, h2, h3⟩ := r
        exact ⟨a, h1, ⟨vs, SqL.of (s1.sub _ _ h2)⟩, hp S1 _ ev s1 (walkD_list h2 h3)⟩
      | _ => exact (show False from hp).elim
end
end DL
end

section
set_option Elab.async false
set_option linter.all false
set_option maxRecDepth 100000
/-! Sorting, repr, items stored, unpacking. -/
namespace DL
open PySem PySem.Spec PyProof.Rows L2
section
variable {X : Cx} {A : List V} {W : WX} {S S' : Cfg} {σ : L2.St} {ρ : Env'}
/-! ### sorted(data) -/
def rSortDat (K : PySem.W.Frag) : List V → Hp → VK → Prop := fun xs H Q => ∃ (a : Addr) (vs : List V) (ds : List PyData), xs = [.ref a] ∧ SqL K H a vs ∧ DpAll K H vs ds ∧ PySem.W.AllAlike ds ∧ PySem.W.Sortable ds ∧ (∀ d ∈ ds, d.depth ≤ 20) ∧
  ∀ p, H p = none → Q (.ref p) (upd H p (.lst (((vs.zip ds).mergeSort (PySem.W.dataLe false Prod.snd)).map Prod.fst)))
theorem DpAll.len {K : PySem.W.Frag} {H : Hp} : ∀ {vs : List V} {ds : List PyData}, DpAll K H vs ds → vs.length = ds.length
  | [], [], _ => rfl
  | _ :: _, _ :: _, .cons _ h => by simp [DpAll.len h]
theorem each_rel : ∀ {vs : List V} {us : List Value} {ds : List PyData}, Vals vs us → vs.length = ds.length → PySem.W.EachIs (fun (v : Value) (b : V × PyData) => RelV b.1 v) us (vs.zip ds)
  | [], _, [], .nil, _ => .nil
  | [], _, _ :: _, _, h => by simp at h
  | _ :: _, _, [], _, h => by simp at h
  | v :: vs, _, d :: ds, .cons r t, h => .cons r (each_rel t (by simpa using h))
theorem each_reads {h : Heap} : ∀ {us : List Value} {ds : List PyData} {vs : List V} {as : List Addr}, ReadsAll h us ds as → vs.length = ds.length → PySem.W.EachIs (fun (v : Value) (b : V × PyData) => ∃ as, Reads h v b.2 as) us (vs.zip ds)
  | _, [], [], _, .nil, _ => .nil
  | _, [], _ :: _, _, _, h => by simp at h
  | _, _ :: _, [], _, _, h => by simp at h
  | _, d :: ds, v :: vs, _, .cons r t, h => .cons ⟨_, r⟩ (each_reads t (by simpa using h))
theorem vals_each : ∀ {us : List Value} {bs : List (V × PyData)}, PySem.W.EachIs (fun (v : Value) (b : V × PyData) => RelV b.1 v) us bs → Vals (bs.map Prod.fst) us
  | _, _, .nil => .nil
  | _, _, .cons r t => .cons r (vals_each t)
theorem cr_sortDat (hu : X.A.units + 40 < cLine) : CallR X (.builtin "sorted") (rSortDat X.K) := by
  intro pins s σ H xs us Q I r h
  obtain ⟨a, vs, ds, rfl, hs, hd, hal, hso, hdep, q⟩ := h
  obtain ⟨its, rv, hl, hz⟩ := I.list hs
  rw [Vals.ref1 r]
  have hlen := DpAll.len hd
  obtain ⟨as, hr⟩ := Dp.readsAll I ds vs its hd rv
  have e2 : (vs.zip ds).map Prod.snd = ds := List.map_snd_zip (Nat.le_of_eq hlen.symm)
  have hzl : (vs.zip ds).length = vs.length := by rw [List.length_zip, hlen, Nat.min_self]
  refine PySem.W.sorted_data (enc := Prod.snd) hl.isList (each_rel rv hlen) (each_reads hr hlen) (by rw [e2]; exact hal) (by rw [e2]; exact hso) (by rw [hzl]; exact hz) (fun b hb => ?_) fun out h1 h2 => ?_
  · have hm : b.2 ∈ ds := by
      rw [← e2]
      exact List.mem_map_of_mem hb
    have := hdep _ hm
    omega
  · obtain ⟨ep, he'⟩ := PyProof.Rows.sortedAll_at s.heap its out.toArray
    have hv := vals_each h2
    have hlen2 : (((vs.zip ds).mergeSort (PySem.W.dataLe false Prod.snd)).map Prod.fst).length ≤ sizeLine := by
      rw [List.length_map, List.length_mergeSort, hzl]
      exact hz
    refine ⟨.ref _, upd H (s.heap.objs.size + 1) (.lst (((vs.zip ds).mergeSort (PySem.W.dataLe false Prod.snd)).map Prod.fst)), I.laid (t' := s.toks) (fun _ _ => PyProof.Rows.sortedAll_old) (Nat.le_succ _) ⟨hlen2, out, ep, hv, he'⟩, rfl, q _ (I.hok.fresh (Nat.le_succ _))⟩
/-- alike, and sortable -/
def okSort (ds : List PyData) : Bool := (ds.all fun d => ds.all fun d' => PySem.W.alike d d') && ((ds.all fun d => match d with
  | .tuple (_ :: _) => true
  | _ => false) || ds.all fun d => match d with
  | .int _ => true
  | .str _ => true
  | _ => false) && ds.all fun d => decide (d.depth ≤ 20)
theorem okSort_of {ds : List PyData} (h : okSort ds = true) : PySem.W.AllAlike ds ∧ PySem.W.Sortable ds ∧ ∀ d ∈ ds, d.depth ≤ 20 := by
  unfold okSort at h
  simp only [Bool.and_eq_true, Bool.or_eq_true, List.all_eq_true, decide_eq_true_eq] at h
  obtain ⟨⟨h1, h2⟩, h3⟩ := h
  refine ⟨fun d hd d' hd' => h1 d hd d' hd', ?_, h3⟩
  rcases h2 with h2 | h2
  · refine .inl fun d hd => ?_
    have := h2 d hd
    split at this
    · exact ⟨_, _, rfl⟩
    · cases this
  · refine .inr fun d hd => ?_
    have := h2 d hd
    split at this
    · exact ⟨(fun z => nomatch z), fun _ z => nomatch z⟩
    · exact ⟨(fun z => nomatch z), fun _ z => nomatch z⟩
    · cases this
def sortD (xs : List D) (ds : List PyData) : List D := ((xs.zip ds).mergeSort (PySem.W.dataLe false Prod.snd)).map Prod.fst
def dSortDat : D → Option D
  | .lst xs => match toPys xs with
    | some ds => if okSort ds = true then some (.lst (sortD xs ds)) else none
    | none => none
  | _ => none
theorem zip_sort {α β γ : Type} (f : α → β) (key : γ → γ → Bool) (l : List (α × γ)) : ((l.map fun p => (f p.1, p.2)).mergeSort fun (a b : β × γ) => key a.2 b.2) = (l.mergeSort fun (a b : α × γ) => key a.2 b.2).map fun p => (f p.1, p.2) :=
  (List.map_mergeSort (r := fun (a b : α × γ) => key a.2 b.2) (s := fun (a b : β × γ) => key a.2 b.2) fun a _ b _ => rfl).symm
theorem RDs.sort {K : PySem.W.Frag} {mg : Str → Option Value} {F : Hp} {xs : List D} {vs : List V} {ds : List PyData} (h : RDs K mg F xs vs) (hl : xs.length = ds.length) : RDs K mg F (sortD xs ds) (((vs.zip ds).mergeSort (PySem.W.dataLe false Prod.snd)).map Prod.fst) := by
  have key : ∀ (L : List ((D × V) × PyData)), (∀ p ∈ L, RD K mg F p.1.1 p.1.2) → RDs K mg F (L.map fun p => p.1.1) (L.map fun p => p.1.2) := fun L hL => by
    induction L with
    | nil => rfl
    | cons p L ih => exact ⟨_, _, rfl, hL p List.mem_cons_self, ih fun q hq => hL q (List.mem_cons_of_mem _ hq)⟩
  have hv := h.length
  have e1 : ∀ (xs : List D) (vs : List V) (ds : List PyData), xs.length = vs.length → xs.zip ds = ((xs.zip vs).zip ds).map (fun p => (p.1.1, p.2)) ∧ vs.zip ds = ((xs.zip vs).zip ds).map (fun p => (p.1.2, p.2)) := fun xs => by
    induction xs with
    | nil =>
      intro vs ds h
      cases vs with
      | nil => simp
      | cons v vs => simp at h
    | cons x xs ih =>
      intro vs ds h
      cases vs with
      | nil => simp at h
      | cons v vs =>
        cases ds with
        | nil => simp
        | cons d ds =>
          obtain ⟨a, b⟩ := ih vs ds (by simpa using h)
          simp [a.symm, b.symm]
  obtain ⟨a, b⟩ := e1 xs vs ds hv
  unfold sortD
  rw [a, b]
  have s1 := zip_sort (α := D × V) (β := D) (γ := PyData) (fun p => p.1) (fun x y => PySem.W.dataLe false id x y) ((xs.zip vs).zip ds)
  have s2 := zip_sort (α := D × V) (β := V) (γ := PyData) (fun p => p.2) (fun x y => PySem.W.dataLe false id x y) ((xs.zip vs).zip ds)
  have t1 : (((xs.zip vs).zip ds).map fun p => (p.1.1, p.2)).mergeSort (PySem.W.dataLe false Prod.snd) = (((xs.zip vs).zip ds).mergeSort fun a b => PySem.W.dataLe false id a.2 b.2).map fun p => (p.1.1, p.2) := s1
  have t2 : (((xs.zip vs).zip ds).map fun p => (p.1.2, p.2)).mergeSort (PySem.W.dataLe false Prod.snd) = (((xs.zip vs).zip ds).mergeSort fun a b => PySem.W.dataLe false id a.2 b.2).map fun p => (p.1.2, p.2) := s2
  rw [t1, t2, List.map_map, List.map_map]
  refine key _ fun p hp => ?_
  have hp' := (List.mergeSort_perm ((xs.zip vs).zip ds) _).mem_iff.mp hp
  obtain ⟨i, hi, e⟩ := List.getElem_of_mem hp'
  have e2 : (xs.zip vs)[i]? = some p.1 := by
    have hz : ((xs.zip vs).zip ds)[i]? = some p := by rw [← e]; exact List.getElem?_eq_getElem hi
    exact (List.getElem?_zip_eq_some.mp hz).1
  obtain ⟨e3, e4⟩ := List.getElem?_zip_eq_some.mp e2
  obtain ⟨w, q1, q2⟩ := h.get e3
  rw [e4] at q1
  cases q1
  exact q2
theorem toPys_len : ∀ {xs : List D} {ds : List PyData}, toPys xs = some ds → xs.length = ds.length
  | [], ds, e => by
    cases e
    rfl
  | x :: xs, ds, e => by
    unfold toPys at e
    split at e
    · rename_i e2
      cases e
      simp [toPys_len e2]
    · cases e
theorem vop_sortDat : VOpL X (on1 dSortDat) (rSortDat X.K) := vopl1 fun S x d v Q hS e rx k => by
  cases x with
  | lst xs =>
    have e' : (match toPys xs with
      | some ds => if okSort ds = true then some (D.lst (sortD xs ds)) else none
      | none => none) = some d := e
    cases q : toPys xs with
    | none =>
      rw [q] at e'
      cases e'
    | some ds =>
      simp only [q] at e'
      split at e'
      · rename_i hok
        cases e'
        obtain ⟨a, vs, rfl, h2, h3⟩ := rx
        obtain ⟨k1, k2, k3⟩ := okSort_of hok
        exact ⟨a, vs, ds, rfl, SqL.of h2, (h3.mono hS).dp q, k1, k2, k3, fun p hp => give_lst hS (h3.sort (toPys_len q)) k p hp⟩
      · cases e'
  | _ => cases e
/-! ### repr of a number, a truth value, None -/
def dRepr : D → Option D
  | .non => some (.str "None")
  | .bl b => some (.str (if b then "True" else "False"))
  | .int i => if i.natAbs.log2 < 1920 then some (.str (toString i)) else none
  | _ => none
abbrev rReprD : List V → Hp → VK → Prop := fun xs H Q => (∃ i, xs = [.int i] ∧ i.natAbs.log2 < 1920 ∧ Q (.str (toString i)) H) ∨ (∃ b, xs = [.bl b] ∧ Q (.str (if b then "True" else "False")) H) ∨ (xs = [.non] ∧ Q (.str "None") H)
theorem call_reprD : CallR X (.builtin "repr") rReprD := CallR.or SkE.call_repr_int (CallR.or (fun pins s σ H xs us Q I r h => by
    obtain ⟨b, rfl, q⟩ := h
    obtain ⟨u, rfl, r1⟩ := vals1 r
    cases (show u = Value.bool b from r1)
    refine PySem.P.repr_of_bool ⟨.str (if b then "True" else "False"), H, I.tok _, ⟨s.toks, ?_⟩, q⟩
    cases b <;> rfl) (fun pins s σ H xs us Q I r h => by
    obtain ⟨rfl, q⟩ := h
    obtain ⟨u, rfl, r1⟩ := vals1 r
    cases (show u = Value.none from r1)
    exact PySem.P.repr_of_none ⟨.str "None", H, I.tok _, ⟨_, rfl⟩, q⟩))
theorem vop_repr : VOpL X (on1 dRepr) rReprD := vopl1 fun S x d v Q hS e rx k => by
  unfold dRepr at e
  split at e
  · cases e
    cases (show v = _ from rx)
    exact .inr (.inr ⟨rfl, k S _ (.refl hS) rfl⟩)
  · rename_i b
    cases e
    cases (show v = _ from rx)
    exact .inr (.inl ⟨b, rfl, k S _ (.refl hS) rfl⟩)
  · split at e
    · rename_i h
      cases e
      cases (show v = _ from rx)
      exact .inl ⟨_, rfl, h, k S _ (.refl hS) rfl⟩
    · cases e
  · cases e
/-! ### is True, is not True -/
def dIsB : D → D → Option D
  | .bl a, .bl b => some (.bl (decide (a = b)))
  | _, _ => none
def dNotB : D → D → Option D
  | .bl a, .bl b => some (.bl (!decide (a = b)))
  | _, _ => none
theorem vop_isB : VOp2 X dIsB (fun x y H Q => ∃ a b, x = .bl a ∧ y = .bl b ∧ Q (.bl (decide (a = b))) H) := fun S x y z v u Q hS e rx ry k => by
  unfold dIsB at e
  split at e
  · cases e
    exact ⟨_, _, rx, ry, k S _ (.refl hS) rfl⟩
  · cases e
theorem vop_notB : VOp2 X dNotB (fun x y H Q => ∃ a b, x = .bl a ∧ y = .bl b ∧ Q (.bl (!decide (a = b))) H) := fun S x y z v u Q hS e rx ry k => by
  unfold dNotB at e
  split at e
  · cases e
    exact ⟨_, _, rx, ry, k S _ (.refl hS) rfl⟩
  · cases e
/-! ### x[k] = e -/
theorem psd_setIt (i : Nat) {x : Str} {ke e : Expr} {fk fv : EM D} {p1 p2 pos : Pos} (he : PD X A W e fv) (hk : PD X A W ke fk) (hN : X.N[i]? = some x := by rfl) (hv : Vis X.env.scope x := by first | exact Or.inl rfl | exact Or.inr (Or.inl rfl) | exact Or.inr (Or.inr rfl))
    (hd : (x == ("__debug__" : Str)) = false := by decide) (hcd : (x == ("__classdict__" : Str)) = false := by decide)
    (ha : ∀ v, assign (.Subscript (.Name x p1) ke p2) X.env v = (do
      let ov ← holding [v] (eval (.Name x p1) X.env)
      let iv ← holding [v, ov] (eval ke X.env)
      standAt p2
      holding [v, ov, iv] (setItem ov iv v)
      release [v, ov, iv] []) := by intro _; rfl)
    (hs : swapsWithSole [.Subscript (.Name x p1) ke p2] e pos.line X.env = pure false := by rfl) (hw : swappedStores [.Subscript (.Name x p1) ke p2] e X.env = pure none := by rfl) (h1 : (assignEach [.Subscript (.Name x p1) ke p2] X.env).map (·.2) = [assign (.Subscript (.Name x p1) ke p2) X.env] := by rfl) :
    PSD X A W (.Assign [.Subscript (.Name x p1) ke p2] e pos) (sSetIt i fk fv) := PS.imp (ps_asg he (pg_sub (pe_var hN hv hd hcd) hk set_list ha) hs hw h1) fun D' σ H h => by
  obtain ⟨S, ρ, rfl, s, h⟩ := h
  refine tD_fl s h fun d ρ1 S1 v hp ev s1 r => ?_
  have hp' : PostS X.K X.mg A W D' S (if (ownL ρ1 i).isSome = true then (fk ρ1).fl fun k ρ2 => match k, ownL ρ2 i with
    | .int j, some (b, xs) => if 0 ≤ j ∧ j < (xs.length : Int) ∧ xs.length < 1000000 then .nx (ρ2.set i (.ow b (.lst (xs.set j.toNat d)))) else .stuck
    | _, _ => .stuck else .stuck) := hp
  cases e0 : ownL ρ1 i with
  | none =>
    rw [e0] at hp'
    exact (show False from hp').elim
  | some bx =>
    obtain ⟨b0, xs0⟩ := bx
    rw [e0] at hp'
    obtain ⟨p0, vs0, q1, q2, _, _⟩ := s1.mutL (ownL_eq e0)
    refine ⟨.ref p0, q1, ?_⟩
    have hp2 : PostS X.K X.mg A W D' S1 ((fk ρ1).fl fun k ρ2 => match k, ownL ρ2 i with
      | .int j, some (b, xs) => if 0 ≤ j ∧ j < (xs.length : Int) ∧ xs.length < 1000000 then .nx (ρ2.set i (.ow b (.lst (xs.set j.toNat d)))) else .stuck
      | _, _ => .stuck) := PostS.ev (show PostS X.K X.mg A W D' S _ from hp') ev
    refine tD_fl s1 hp2 fun k ρ2 S2 u hp3 ev2 s2 rk => ?_
    cases k with
    | int j =>
      cases e1 : ownL ρ2 i with
      | none =>
        simp only [e1] at hp3
        exact (show False from hp3).elim
      | some bx =>
        obtain ⟨b, xs⟩ := bx
        simp only [e1] at hp3
        obtain ⟨p, vs, z1, z2, z3, z4⟩ := s2.mutL (ownL_eq e1)
        rw [q1] at z1
        cases z1
        by_cases hj : 0 ≤ j ∧ j < (xs.length : Int) ∧ xs.length < 1000000
        · rw [if_pos hj] at hp3
          obtain ⟨y1, y2⟩ := z4 (xs.set j.toNat d) (vs.set j.toNat v) (z3.setAt (r.mono ev2.frz) j.toNat)
          refine ⟨p0, vs, j, j.toNat, rfl, rk, z2, ?_, hp3 _ σ (ev2.trans y1) y2⟩
          rw [← z3.length]
          have e1 : ((j.toNat : Nat) : Int) = j := by omega
          rw [← e1]
          exact Evl.ixN_nat (by omega)
        · rw [if_neg hj] at hp3
          exact (show False from hp3).elim
    | _ => exact (show False from hp3).elim
/-! ### a, b = a list or a tuple -/
theorem PG.or {e : Expr} {t t' : TG} (h : PG X e t) (h' : PG X e t') : PG X e (fun v σ H Q => t v σ H Q ∨ t' v σ H Q) := ⟨fun pins s σ H v u Q I r q => by
  rcases q with q | q
  · exact h.run pins s σ H v u Q I r q
  · exact h'.run pins s σ H v u Q I r q⟩
def gS (n : Nat) (gs : List D → Env' → Option Env') : Tgt := fun d ρ => match dItems d with
  | some ds => if ds.length = n then gs ds ρ else none
  | none => none
theorem pgd_seq {es : List Expr} {k : Nat} {pos : Pos} {ws : List Nat} {gs : List D → Env' → Option Env'} {n : Nat} (hc : X.calm = true) (h : PGsD X A es ws gs) (hn : (assignEach es X.env).length = n := by rfl) (hst : (assignEach es X.env).findIdx? (·.1) = none := by rfl) :
    PGD X A (.Tuple es k pos) ws (gS n gs) := PG.imp (PG.or (pg_tup hc h hn hst) (pg_lst hc h hn hst)) fun v σ H Q h => by
  obtain ⟨S, ρ, d, rfl, s, r, h⟩ := h
  have h0 : (match (match dItems d with
    | some ds => if ds.length = n then gs ds ρ else none
    | none => none) with
    | some ρ' => ∀ σ', L2.wipe σ' ws = L2.wipe σ ws → Sat X.K X.mg A S σ' ρ' → Q σ' S.H
    | none => False) := h
  cases d with
  | tup ds =>
    obtain ⟨a, vs, h1, h2, h3⟩ := r
    have h' : (match (if ds.length = n then gs ds ρ else none) with
      | some ρ' => ∀ σ', L2.wipe σ' ws = L2.wipe σ ws → Sat X.K X.mg A S σ' ρ' → Q σ' S.H
      | none => False) := h0
    by_cases hl : ds.length = n
    · rw [if_pos hl] at h'
      exact .inl ⟨a, vs, h1, sqT_mono s.sub h2, by rw [← h3.length]; exact hl, S, ρ, ds, rfl, s, h3, h'⟩
    · rw [if_neg hl] at h'
      exact h'.elim
  | lst ds =>
    obtain ⟨a, vs, h1, h2, h3⟩ := r
    have h' : (match (if ds.length = n then gs ds ρ else none) with
      | some ρ' => ∀ σ', L2.wipe σ' ws = L2.wipe σ ws → Sat X.K X.mg A S σ' ρ' → Q σ' S.H
      | none => False) := h0
    by_cases hl : ds.length = n
    · rw [if_pos hl] at h'
      exact .inr ⟨a, vs, h1, SqL.of (s.sub _ _ h2), by rw [← h3.length]; exact hl, S, ρ, ds, rfl, s, h3, h'⟩
    · rw [if_neg hl] at h'
      exact h'.elim
  | _ => exact h0.elim
end
end DL
end

section
set_option Elab.async false
set_option linter.all false
set_option maxRecDepth 100000
/-! The source of draws; calls with keywords; a def that calls itself; powers. -/
namespace DL
open PySem PySem.Spec PyProof.Rows L2
section
variable {X : Cx} {A : List V} {W : WX} {S S' : Cfg} {σ : L2.St} {ρ : Env'}
/-! ### the source of draws -/
theorem Sat.mutD {K : PySem.W.Frag} {mg : Str → Option Value} (s : Sat K mg A S σ ρ) {i : Nat} {b : Bool} {L : List Int} {c : Int} (hi : ρ[i]? = some (Sl.ow b (.deal L c))) :
    ∃ p q, σ[i]? = some (some (.ref p)) ∧ S.H p = some (.lst [.ref q, .int c]) ∧ S.H q = some (.lst (L.map V.int)) ∧ p ≠ q ∧ ∀ (H' : Hp) L' c', (∀ a, a ≠ p → a ≠ q → H' a = S.H a) → H' p = some (.lst [.ref q, .int c']) → H' q = some (.lst (L'.map V.int)) →
      Ev S ⟨S.F, H', S.O⟩ ∧ Sat K mg A ⟨S.F, H', S.O⟩ σ (ρ.set i (.ow b (.deal L' c'))) := by
  obtain ⟨fp, s1, s2, s3⟩ := s.sl
  obtain ⟨v, e1, u, e2, p, q, hv, hp, hq, hne, hfp, hfq⟩ := s1 i _ hi
  subst e2
  subst hv
  have hO := s2 i p hfp
  have hO2 := s2 i q hfq
  refine ⟨p, q, e1, hp, hq, hne, fun H' L' c' k kp kq => ⟨⟨fun a o e n => ?_, fun _ _ z => z, fun _ _ _ _ => rfl, fun _ h => .inl h, fun a o e => ?_⟩, ⟨fun a o e => ?_, s.ownF, fun r h => ?_, by simp [s.len], ⟨fp, fun j sl e => ?_, s2, s3⟩, fun j o e => ?_⟩⟩⟩
  · show H' a = some o
    rw [k a (fun z : a = p => n (by rw [z]; exact hO)) (fun z : a = q => n (by rw [z]; exact hO2))]
    exact e
  · by_cases z : a = p
    · exact ⟨_, by rw [z]; exact kp⟩
    · by_cases z2 : a = q
      · exact ⟨_, by rw [z2]; exact kq⟩
      · exact ⟨o, by show H' a = some o; rw [k a z z2]; exact e⟩
  · have na : a ≠ p := fun z => by
      rw [z, s.ownF p hO] at e
      cases e
    have nb : a ≠ q := fun z => by
      rw [z, s.ownF q hO2] at e
      cases e
    show H' a = some o
    rw [k a na nb]
    exact s.sub a o e
  · by_cases z : r = p
    · exact ⟨_, by rw [z]; exact kp⟩
    · by_cases z2 : r = q
      · exact ⟨_, by rw [z2]; exact kq⟩
      · obtain ⟨o, e⟩ := s.ownH r h
        exact ⟨o, by show H' r = some o; rw [k r z z2]; exact e⟩
  · by_cases hj : j = i
    · subst hj
      rw [List.getElem?_set_self (List.getElem?_eq_some_iff.mp hi).1] at e
      cases e
      exact ⟨_, e1, .ref p, rfl, p, q, rfl, kp, kq, hne, hfp, hfq⟩
    · rw [List.getElem?_set_ne (Ne.symm hj)] at e
      obtain ⟨w, q1, q2⟩ := s1 j sl e
      refine ⟨w, q1, q2.grow (fun _ _ z => z) fun r o hr hh => ?_⟩
      show H' r = some o
      rw [k r (fun z => hj (s3 j i p (z ▸ hr) hfp)) (fun z => hj (s3 j i q (z ▸ hr) hfq))]
      exact hh
  · by_cases hj : j = i
    · subst hj
      rw [List.getElem?_set_self (List.getElem?_eq_some_iff.mp hi).1] at e
      cases e
      exact s.io j _ hi
    · rw [List.getElem?_set_ne (Ne.symm hj)] at e
      exact s.io j o e
def dealAt (ρ : Env') (i : Nat) : Option (Bool × List Int × Int) := match ρ[i]? with
  | some (.ow b (.deal L c)) => some (b, L, c)
  | _ => none
theorem dealAt_eq {i : Nat} {b : Bool} {L : List Int} {c : Int} (h : dealAt ρ i = some (b, L, c)) : ρ[i]? = some (Sl.ow b (.deal L c)) := by
  unfold dealAt at h
  split at h
  · rename_i e
    cases h
    exact e
  · cases h
theorem dpAll_ints {K : PySem.W.Frag} {H : Hp} : ∀ L : List Int, DpAll K H (L.map V.int) (L.map PyData.int)
  | [] => .nil
  | i :: L => .cons (.int i) (dpAll_ints L)
theorem lay_ints : ∀ L : List Int, PyData.canLayAll0 (L.map PyData.int) = true
  | [] => rfl
  | i :: L => by
    show (PyData.canLay0 (.int i) && PyData.canLayAll0 (L.map PyData.int)) = true
    rw [lay_ints L]
    rfl
theorem depthAll_ints : ∀ L : List Int, PyData.depthAll (L.map PyData.int) = 0
  | [] => rfl
  | i :: L => by
    show max (PyData.depth (.int i)) (PyData.depthAll (L.map PyData.int)) = 0
    rw [depthAll_ints L]
    rfl
theorem shaped_ints (L : List Int) : SeqAt.shaped (.list (L.map .int)) = true := by
  show (PyData.canLayAll0 (L.map PyData.int) && decide (PyData.depthAll (L.map PyData.int) + 1 ≤ 64)) = true
  rw [lay_ints, depthAll_ints]
  rfl
/-- x[0] != [] -/
def bLeft (i : Nat) : EM Bool := fun ρ => match dealAt ρ i with
  | some (_, L, _) => .ok (!L.isEmpty) ρ
  | none => .stuck
theorem ptd_left (hu : X.A.units + 64 < cLine) (i : Nat) {x : Str} {k : Nat} {p1 p2 p3 p4 pos : Pos} (hN : X.N[i]? = some x := by rfl) (hv : Vis X.env.scope x := by first | exact Or.inl rfl | exact Or.inr (Or.inl rfl) | exact Or.inr (Or.inr rfl))
    (hd : (x == ("__debug__" : Str)) = false := by decide) (hcd : (x == ("__classdict__" : Str)) = false := by decide) (hix : PlainIx (.Constant (.int 0) k p2) := by first | exact fun _ _ => rfl | decide) (hm : behindInMarks .NotEq (.List [] p4) = false := by rfl) :
    PTD X A W (.Compare (.Subscript (.Name x p1) (.Constant (.int 0) k p2) p3) [.NotEq] [.List [] p4] pos) (bLeft i) :=
  PT.imp (pt_cmpR (op_neD hu) (pe_ix ix_seq (pe_var hN hv hd hcd) pe_int hix) (pe_lst pa_nil) hm) fun σ H Q h => by
    obtain ⟨S, ρ, rfl, s, h⟩ := h
    unfold bLeft at h
    cases e : dealAt ρ i with
    | none =>
      rw [e] at h
      exact h.elim
    | some t =>
      obtain ⟨b, L, c⟩ := t
      rw [e] at h
      obtain ⟨p, q, e1, hp, hq, hne, _⟩ := s.mutD (dealAt_eq e)
      refine ⟨.ref p, e1, .inl ⟨p, [.ref q, .int c], 0, .ref q, rfl, rfl, SqL.of hp, rfl, ?_⟩⟩
      refine ⟨by show 0 ≤ sizeLine; exact Nat.zero_le _, fun n hn => ?_⟩
      have g : Gr S (S.raw n (.lst [])) := .raw s.sub hn
      have nq : q ≠ n := fun z => by
        rw [z, hn] at hq
        cases hq
      refine ⟨.list (L.map .int), .list [], .lst (SqL.of (by rw [upd_ne nq]; exact hq)) (dpAll_ints L), .lst (SqL.of upd_same) .nil, shaped_ints L, shaped_ints [], ?_⟩
      refine ⟨_, rfl, ?_⟩
      have e2 : (!PyData.eqv (.list (L.map .int)) (.list [])) = !L.isEmpty := by
        cases L <;> rfl
      rw [e2]
      exact h (S.raw n (.lst [])) g.ev (s.gr g)
/-- x[0][-1] -/
def eLast (i : Nat) : EM D := fun ρ => match dealAt ρ i with
  | some (_, L, _) => match L.getLast? with
    | some c => .ok (.int c) ρ
    | none => .stuck
  | none => .stuck
theorem last_map {L : List Int} {c : Int} (h : L.getLast? = some c) : (L.map V.int)[(L.map V.int).length - 1]? = some (.int c) := by
  rw [List.getLast?_eq_getElem?] at h
  rw [List.length_map, List.getElem?_map, h]
  rfl
theorem pd_last (i : Nat) {x : Str} {k k2 : Nat} {p1 p2 p3 p4 p5 pos : Pos} (hN : X.N[i]? = some x := by rfl) (hv : Vis X.env.scope x := by first | exact Or.inl rfl | exact Or.inr (Or.inl rfl) | exact Or.inr (Or.inr rfl))
    (hd : (x == ("__debug__" : Str)) = false := by decide) (hcd : (x == ("__classdict__" : Str)) = false := by decide) (hix : PlainIx (.Constant (.int 0) k p2) := by first | exact fun _ _ => rfl | decide) (hix2 : PlainIx (.UnaryOp .USub (.Constant (.int 1) k2 p4) p5) := by first | exact fun _ _ => rfl | decide) :
    PD X A W (.Subscript (.Subscript (.Name x p1) (.Constant (.int 0) k p2) p3) (.UnaryOp .USub (.Constant (.int 1) k2 p4) p5) pos) (eLast i) :=
  PE.imp (pe_ix ix_seq (pe_ix ix_seq (pe_var hN hv hd hcd) pe_int hix) (pe_un un_neg pe_int) hix2) fun σ H Q h => by
    obtain ⟨S, ρ, rfl, s, h⟩ := h
    unfold eLast at h
    cases e : dealAt ρ i with
    | none =>
      rw [e] at h
      exact h.elim
    | some t =>
      obtain ⟨b, L, c⟩ := t
      rw [e] at h
      obtain ⟨p, q, e1, hp, hq, hne, _⟩ := s.mutD (dealAt_eq e)
      have h' : PostE X.K X.mg A W Q S σ (match L.getLast? with
        | some c => .ok (.int c) ρ
        | none => .stuck) := h
      cases el : L.getLast? with
      | none =>
        rw [el] at h'
        exact h'.elim
      | some d =>
        rw [el] at h'
        refine ⟨.ref p, e1, .inl ⟨p, [.ref q, .int c], 0, .ref q, rfl, rfl, SqL.of hp, rfl, ?_⟩⟩
        refine ⟨1, rfl, .inl ⟨q, L.map V.int, -1, .int d, rfl, rfl, SqL.of hq, ?_, h' S _ (.refl S) s rfl⟩⟩
        have hl : 0 < L.length := by
          cases L with
          | nil => cases el
          | cons a b => simp
        have hm := last_map el
        have ei : ixN (L.map V.int).length (-1) = some (L.length - 1) := by
          unfold ixN
          rw [if_neg (by omega), if_pos (by rw [List.length_map]; omega), List.length_map]
          congr 1
          omega
        unfold atI
        rw [ei]
        rw [List.length_map] at hm
        exact hm
/-- x[1] -/
def eBlend (i : Nat) : EM D := fun ρ => match dealAt ρ i with
  | some (_, _, c) => .ok (.int c) ρ
  | none => .stuck
theorem pd_blend (i : Nat) {x : Str} {k : Nat} {p1 p2 pos : Pos} (hN : X.N[i]? = some x := by rfl) (hv : Vis X.env.scope x := by first | exact Or.inl rfl | exact Or.inr (Or.inl rfl) | exact Or.inr (Or.inr rfl))
    (hd : (x == ("__debug__" : Str)) = false := by decide) (hcd : (x == ("__classdict__" : Str)) = false := by decide) (hix : PlainIx (.Constant (.int 1) k p2) := by first | exact fun _ _ => rfl | decide) :
    PD X A W (.Subscript (.Name x p1) (.Constant (.int 1) k p2) pos) (eBlend i) :=
  PE.imp (pe_ix ix_seq (pe_var hN hv hd hcd) pe_int hix) fun σ H Q h => by
    obtain ⟨S, ρ, rfl, s, h⟩ := h
    unfold eBlend at h
    cases e : dealAt ρ i with
    | none =>
      rw [e] at h
      exact h.elim
    | some t =>
      obtain ⟨b, L, c⟩ := t
      rw [e] at h
      obtain ⟨p, q, e1, hp, hq, hne, _⟩ := s.mutD (dealAt_eq e)
      exact ⟨.ref p, e1, .inl ⟨p, [.ref q, .int c], 1, .int c, rfl, rfl, SqL.of hp, rfl, h S _ (.refl S) s rfl⟩⟩
/-- x[0].pop() -/
def eDPop (i : Nat) : EM D := fun ρ => match dealAt ρ i with
  | some (b, L, c) => match L.getLast? with
    | some d => .ok (.int d) (ρ.set i (.ow b (.deal L.dropLast c)))
    | none => .stuck
  | none => .stuck
theorem pd_dpop (i : Nat) {x : Str} {k : Nat} {p1 p2 p3 apos pos : Pos} (hN : X.N[i]? = some x := by rfl) (hv : Vis X.env.scope x := by first | exact Or.inl rfl | exact Or.inr (Or.inl rfl) | exact Or.inr (Or.inr rfl))
    (hd : (x == ("__debug__" : Str)) = false := by decide) (hcd : (x == ("__classdict__" : Str)) = false := by decide) (hix : PlainIx (.Constant (.int 0) k p2) := by first | exact fun _ _ => rfl | decide)
    (hbase : attributeBase (.Subscript (.Name x p1) (.Constant (.int 0) k p2) p3) "pop" X.env (eval (.Subscript (.Name x p1) (.Constant (.int 0) k p2) p3) X.env) = eval (.Subscript (.Name x p1) (.Constant (.int 0) k p2) p3) X.env := by rfl) (hline : (apos.endLine == pos.line) = true := by rfl) :
    PD X A W (.Call (.Attribute (.Subscript (.Name x p1) (.Constant (.int 0) k p2) p3) "pop" apos) [] [] pos) (eDPop i) :=
  PE.imp (pe_bm0 PySem.F.plainAttrs_list PySem.F.slot_list_pop PySem.F.type_list_pop mt_pop (pe_ix ix_seq (pe_var hN hv hd hcd) pe_int hix) hbase hline) fun σ H Q h => by
    obtain ⟨S, ρ, rfl, s, h⟩ := h
    unfold eDPop at h
    cases e : dealAt ρ i with
    | none =>
      rw [e] at h
      exact h.elim
    | some t =>
      obtain ⟨b, L, c⟩ := t
      rw [e] at h
      obtain ⟨p, q, e1, hp, hq, hne, k⟩ := s.mutD (dealAt_eq e)
      have h' : PostE X.K X.mg A W Q S σ (match L.getLast? with
        | some d => .ok (.int d) (ρ.set i (.ow b (.deal L.dropLast c)))
        | none => .stuck) := h
      cases el : L.getLast? with
      | none =>
        rw [el] at h'
        exact h'.elim
      | some d =>
        rw [el] at h'
        refine ⟨.ref p, e1, .inl ⟨p, [.ref q, .int c], 0, .ref q, rfl, rfl, SqL.of hp, rfl, ?_⟩⟩
        refine ⟨.inl ⟨rfl, _, SqL.of hq⟩, q, L.map V.int, .int d, rfl, rfl, hq, last_map el, ?_⟩
        obtain ⟨k1, k2⟩ := k (upd S.H q (.lst (L.map V.int).dropLast)) L.dropLast c (fun a _ n => upd_ne n) (by rw [upd_ne hne]; exact hp) (by rw [upd_same, List.map_dropLast])
        exact h' _ _ k1 k2 rfl
/-- x[0].append(y // z) -/
def sDApp (i a b : Nat) : SM := fun ρ => match dealAt ρ i, ρ[a]?, ρ[b]? with
  | some (o, L, c), some (.va (.int n)), some (.va (.int m)) => if L.length < 1000000 ∧ 0 < m ∧ m.natAbs.log2 < 9000 then .nx (ρ.set i (.ow o (.deal (L ++ [n / m]) c))) else .stuck
  | _, _, _ => .stuck
theorem psd_dapp (i a b : Nat) {x y z : Str} {k : Nat} {p1 p2 p3 py pz po apos pos p4 : Pos} (hN : X.N[i]? = some x := by rfl) (hv : Vis X.env.scope x := by first | exact Or.inl rfl | exact Or.inr (Or.inl rfl) | exact Or.inr (Or.inr rfl))
    (hNa : X.N[a]? = some y := by rfl) (hva : Vis X.env.scope y := by first | exact Or.inl rfl | exact Or.inr (Or.inl rfl) | exact Or.inr (Or.inr rfl)) (hNb : X.N[b]? = some z := by rfl) (hvb : Vis X.env.scope z := by first | exact Or.inl rfl | exact Or.inr (Or.inl rfl) | exact Or.inr (Or.inr rfl))
    (hd : (x == ("__debug__" : Str)) = false := by decide) (hcd : (x == ("__classdict__" : Str)) = false := by decide) (hda : (y == ("__debug__" : Str)) = false := by decide) (hcda : (y == ("__classdict__" : Str)) = false := by decide) (hdb : (z == ("__debug__" : Str)) = false := by decide) (hcdb : (z == ("__classdict__" : Str)) = false := by decide)
    (hix : PlainIx (.Constant (.int 0) k p2) := by first | exact fun _ _ => rfl | decide)
    (hbase : attributeBase (.Subscript (.Name x p1) (.Constant (.int 0) k p2) p3) "append" X.env (eval (.Subscript (.Name x p1) (.Constant (.int 0) k p2) p3) X.env) = eval (.Subscript (.Name x p1) (.Constant (.int 0) k p2) p3) X.env := by rfl)
    (hfew : ((backTo pos (starEach [.BinOp (.Name y py) .FloorDiv (.Name z pz) po] X.env)).all (fun x => !x.1) && (backToKw pos (keywordEach [] X.env)).all (fun x => x.1.isSome)
      && decide ([(.BinOp (.Name y py) .FloorDiv (.Name z pz) po : Expr)].length + ([] : List Keyword).length + (if ([] : List Keyword).isEmpty then 0 else 1) < 30)) = true := by rfl)
    (hline : (apos.endLine == pos.line) = true := by rfl) (hs1 : starEach [.BinOp (.Name y py) .FloorDiv (.Name z pz) po] X.env = (false, eval (.BinOp (.Name y py) .FloorDiv (.Name z pz) po) X.env) :: starEach [] X.env := by rfl) (hplain : (backTo pos (starEach [] X.env)).any (·.1) = false := by rfl)
    (hs : swapsWith (.Call (.Attribute (.Subscript (.Name x p1) (.Constant (.int 0) k p2) p3) "append" apos) [.BinOp (.Name y py) .FloorDiv (.Name z pz) po] [] pos) none p4.line X.env = pure false := by rfl) :
    PSD X A W (.Expr (.Call (.Attribute (.Subscript (.Name x p1) (.Constant (.int 0) k p2) p3) "append" apos) [.BinOp (.Name y py) .FloorDiv (.Name z pz) po] [] pos) p4) (sDApp i a b) :=
  PS.imp (ps_expr (pe_bm PySem.F.plainAttrs_list PySem.F.slot_list_append PySem.F.type_list_append mt_append (pe_ix ix_seq (pe_var hN hv hd hcd) pe_int hix) (pa_cons (pe_op op_fdivW (pe_var hNa hva hda hcda) (pe_var hNb hvb hdb hcdb)) pa_nil hs1) hbase hfew hline hs1 hplain) hs) fun D' σ H h => by
    obtain ⟨S, ρ, rfl, s, h⟩ := h
    unfold sDApp at h
    split at h
    · rename_i o L c n m e0 ea eb
      split at h
      · rename_i hl
        obtain ⟨p, q, e1, hp, hq, hne, k⟩ := s.mutD (dealAt_eq e0)
        obtain ⟨va, ea1, ea2⟩ := s.va ea
        obtain ⟨vb, eb1, eb2⟩ := s.va eb
        have ra : va = .int n := ea2
        have rb : vb = .int m := eb2
        subst ra rb
        refine ⟨.ref p, e1, .inl ⟨p, [.ref q, .int c], 0, .ref q, rfl, rfl, SqL.of hp, rfl, ?_⟩⟩
        refine ⟨.inl ⟨rfl, _, SqL.of hq⟩, ?_⟩
        refine ⟨_, ea1, _, eb1, n, m, rfl, rfl, hl.2, ?_⟩
        obtain ⟨k1, k2⟩ := k (upd S.H q (.lst (L.map V.int ++ [.int (n / m)]))) (L ++ [n / m]) c (fun a _ n => upd_ne n) (by rw [upd_ne hne]; exact hp) (by rw [upd_same, List.map_append]; rfl)
        exact ⟨q, L.map V.int, .int (n / m), rfl, rfl, hq, Nat.lt_of_lt_of_le (by rw [List.length_map]; exact hl.1) (by decide), h _ σ k1 k2⟩
      · exact (show False from h).elim
    · exact (show False from h).elim
/-- x[1] = e -/
def sBlend (i : Nat) (f : EM D) : SM := fun ρ => (f ρ).fl fun d ρ1 => match d, dealAt ρ1 i with
  | .int n, some (b, L, c) => .nx (ρ1.set i (.ow b (.deal L n)))
  | _, _ => .stuck
theorem psd_blend (i : Nat) {x : Str} {k : Nat} {e : Expr} {f : EM D} {p1 p2 p3 pos : Pos} (he : PD X A W e f) (hN : X.N[i]? = some x := by rfl) (hv : Vis X.env.scope x := by first | exact Or.inl rfl | exact Or.inr (Or.inl rfl) | exact Or.inr (Or.inr rfl))
    (hd : (x == ("__debug__" : Str)) = false := by decide) (hcd : (x == ("__classdict__" : Str)) = false := by decide)
    (ha : ∀ v, assign (.Subscript (.Name x p1) (.Constant (.int 1) k p2) p3) X.env v = (do
      let ov ← holding [v] (eval (.Name x p1) X.env)
      let iv ← holding [v, ov] (eval (.Constant (.int 1) k p2) X.env)
      standAt p3
      holding [v, ov, iv] (setItem ov iv v)
      release [v, ov, iv] []) := by intro _; rfl)
    (hs : swapsWithSole [.Subscript (.Name x p1) (.Constant (.int 1) k p2) p3] e pos.line X.env = pure false := by rfl) (hw : swappedStores [.Subscript (.Name x p1) (.Constant (.int 1) k p2) p3] e X.env = pure none := by rfl) (h1 : (assignEach [.Subscript (.Name x p1) (.Constant (.int 1) k p2) p3] X.env).map (·.2) = [assign (.Subscript (.Name x p1) (.Constant (.int 1) k p2) p3) X.env] := by rfl) :
    PSD X A W (.Assign [.Subscript (.Name x p1) (.Constant (.int 1) k p2) p3] e pos) (sBlend i f) := PS.imp (ps_asg he (pg_sub (pe_var hN hv hd hcd) pe_int set_list ha) hs hw h1) fun D' σ H h => by
  obtain ⟨S, ρ, rfl, s, h⟩ := h
  refine tD_fl s h fun d ρ1 S1 v hp1 ev s1 r => ?_
  cases d with
  | int n =>
    cases e0 : dealAt ρ1 i with
    | none =>
      simp only [e0] at hp1
      exact (show False from hp1).elim
    | some t =>
      obtain ⟨b, L, c⟩ := t
      simp only [e0] at hp1
      obtain ⟨p, q, e1, hp, hq, hne, k⟩ := s1.mutD (dealAt_eq e0)
      have rv : v = .int n := r
      subst rv
      obtain ⟨k1, k2⟩ := k (upd S1.H p (.lst [.ref q, .int n])) L n (fun a z _ => upd_ne z) upd_same (by rw [upd_ne (Ne.symm hne)]; exact hq)
      exact ⟨.ref p, e1, p, [.ref q, .int c], 1, 1, rfl, rfl, hp, rfl, hp1 _ σ (ev.trans k1) k2⟩
  | _ => exact (show False from hp1).elim
/-! ### powers -/
def dPow : D → D → Option D
  | .int i, .int j => if 0 ≤ j ∧ j ≤ 1000 ∧ i.natAbs < 2 ^ 64 then some (.int (i ^ j.toNat)) else none
  | _, _ => none
theorem vop_pow : VOp2 X dPow (rI CPow fun i j => .int (i ^ j.toNat)) := fun S x y z v u Q hS e rx ry k => by
  unfold dPow at e
  split at e
  · split at e
    · rename_i h
      cases e
      exact ⟨_, _, rx, ry, ⟨h.1, by omega, h.2.2⟩, k S _ (.refl hS) rfl⟩
    · cases e
  · cases e
def dNeg : D → Option D
  | .int i => some (.int (-i))
  | _ => none
theorem vop_neg : VOp1 X dNeg (rU fun i => .int (-i)) := fun S x z v Q hS e rx k => by
  unfold dNeg at e
  split at e
  · cases e
    exact ⟨_, rx, k S _ (.refl hS) rfl⟩
  · cases e
/-! ### {} -/
theorem pd_dict0 {pos : Pos} : PD X A W (.Dict [] [] pos) (eC (.dK [] [])) := by
  refine PE.imp pe_dnewK fun σ H Q h => ?_
  obtain ⟨S, ρ, rfl, s, h⟩ := h
  intro p hp
  have g : Gr S (S.fz p (.dK [])) := .fz s.sub hp
  exact h (S.fz p (.dK [])) (.ref p) g.ev (s.gr g) ⟨p, [], rfl, upd_same, rfl, rfl⟩
end
/-! ### a def that calls itself: nothing is promised of a call too deep -/
theorem fnG_stuck {P : Program} {w : World} {K : PySem.W.Frag} {mg : Str → Option Value} {base : Heap} {f : Addr} {fd : FuncData} {ps : List Str} {n : Nat} (hn : ps.length = n) : FnG P w K mg base 0 f fd ps (spD K mg n fun _ => .stuck) :=
  ⟨fun vs H Q E h => by rw [h.1, hn], fun B fr t H gs us vs Q E hr hgd he hb hv hs => by
    obtain ⟨_, S, qs, _, _, h⟩ := hs
    exact (show False from h).elim⟩
/-! ### keywords -/
def permL {α : Type} (perm : List Nat) (l : List α) : List α := perm.filterMap (l[·]?)
structure KwB (fd : FuncData) (ps : List Str) (n : Nat) (ks : List Str) (perm : List Nat) : Prop where
  to : ∀ (s : Shared) (us ws : List Value), us.length = n → ws.length = ks.length → BindsTo s fd ⟨us, ks.zip ws⟩ (ps.zip (permL perm (us ++ ws)))
theorem FunD.kwB {K : PySem.W.Frag} {x qual : Str} {params : Arguments} {body : List Stmt} {scope : Scope} {kws : List (Str × V)} {f : Addr} {fd : FuncData} {ps : List Str} (F : FunD K x qual params body scope [] kws f fd) (n : Nat) (ks : List Str) (perm : List Nat)
    (h : ∀ (kV doc pm : Value) (an : Option Addr) (cdv ct : Value) (us ws : List Value), us.length = n → ws.length = ks.length → bindArgs (PySem.W.fnOf x qual params body scope .none kV doc pm an cdv ct) ⟨us, ks.zip ws⟩ = pure (ps.zip (permL perm (us ++ ws)))) : KwB fd ps n ks perm := by
  obtain ⟨oc, od, dV, kV, doc, pm, an, cdv, ct, osl, rfl, lk, hcd, hD, hK⟩ := F.ex
  rcases hD with ⟨_, rfl⟩ | ⟨e, _⟩
  · exact ⟨fun s us ws h1 h2 => .of_eq (h kV doc pm an cdv ct us ws h1 h2)⟩
  · exact absurd rfl e
theorem vals_app : ∀ {vs : List V} {us : List Value} {zs : List V} {ws : List Value}, Vals vs us → Vals zs ws → Vals (vs ++ zs) (us ++ ws)
  | _, _, _, _, .nil, h => h
  | _, _, _, _, .cons r t, h => .cons r (vals_app t h)
theorem vals_perm {vs : List V} {us : List Value} (h : Vals vs us) : ∀ perm : List Nat, Vals (permL perm vs) (permL perm us)
  | [] => .nil
  | i :: perm => by
    unfold permL
    have hl := h.length
    cases e : vs[i]? with
    | none =>
      have e2 : us[i]? = none := by
        rw [List.getElem?_eq_none_iff] at e ⊢
        omega
      rw [List.filterMap_cons_none e, List.filterMap_cons_none e2]
      exact vals_perm h perm
    | some v =>
      obtain ⟨u, e2, r⟩ := h.get e
      rw [List.filterMap_cons_some e, List.filterMap_cons_some e2]
      exact .cons r (vals_perm h perm)
def tCallKG (sp : Sp) (perm : List Nat) (n m : Nat) (E : L2.St → XK) (t tk : TA) : TE := fun σ H Q => t σ H fun vs H1 => tk σ H1 fun zs H2 => vs.length = n ∧ zs.length = m ∧ sp (permL perm (vs ++ zs)) H2 Q (E σ)
section
variable {X : Cx} {k n : Nat} {f : Addr} {fd : FuncData} {ps ks : List Str} {sp : Sp} {E : L2.St → XK} {x : Str} {p pos : Pos} {e : Expr} {es : List Expr} {kws : List Keyword} {t tk : TA} {perm : List Nat}
theorem run_fnGK {pins : List (Addr × Obj)} {σ : L2.St} {H : Hp} {s : Shared} {Q : VK} {us ws : List Value} {vs zs : List V} (F : FnG X.prog X.w X.K X.mg X.base k f fd ps sp) (hr : Room k X.A) (hgd : X.A.guards = some []) (hb : KwB fd ps n ks perm) (hx : PassesAt (L2.CX X.prog X.w) X σ (E σ))
    (I : Inv X pins σ H s) (r : Vals vs us) (rz : Vals zs ws) (l1 : vs.length = n) (l2 : zs.length = ks.length) (h : sp (permL perm (vs ++ zs)) H Q (E σ)) : wpAny (model X.prog X.w) X.A (call (.ref f) us (ks.zip ws)) (EP X pins σ Q) X.xe s := by
  have r2 := vals_perm (vals_app r rz) perm
  refine wpAny_call (codeAny_mono (run_fnG F hr hgd (fun _ _ z => z) hx I r2 (hb.to s us ws (by rw [← r.length]; exact l1) (by rw [← rz.length]; exact l2)) h) fun r s' z => ?_)
  rcases r with e | fl
  · exact z
  · cases fl <;> exact z
theorem pe_callKG (F : FnG X.prog X.w X.K X.mg X.base k f fd ps sp) (hr : Room k X.A) (hgd : X.A.guards = some []) (hg : Gl X x) (hm : X.mg x = some (.ref f)) (hk : PySem.W.keepIn X.K (.ref f) = true) (hb : KwB fd ps n ks perm) (hx : ∀ σ, PassesAt (L2.CX X.prog X.w) X σ (E σ))
    (ha : PA X (e :: es) t) (hkw : PK X kws tk) (hall : (backToKw pos (keywordEach kws X.env)).all (·.1.isSome) = true := by rfl) (hks : (backToKw pos (keywordEach kws X.env)).filterMap (·.1) = ks := by rfl)
    (hdb : (x == ("__debug__" : Str)) = false := by decide) (he : starEach (e :: es) X.env = (false, eval e X.env) :: starEach es X.env := by rfl)
    (hpl : ((backTo pos (starEach (e :: es) X.env)).any (·.1) || (backToKw pos (keywordEach kws X.env)).any (·.1.isNone)) = false := by rfl) :
    PE X (.Call (.Name x p) (e :: es) kws pos) (tCallKG sp perm n ks.length E t tk) := by
  refine ⟨fun pins s σ H Q I h => ?_⟩
  refine wpAny_Call_Name_kw (ld_glob I hg hm ?_ hdb)
  refine PySem.W.callWith_KW (h₀ := X.base) I.ok.mod.kin hk hall (thn (ha.run pos pins s σ H _ I h) fun us s1 ⟨vs, H1, I1, r, q⟩ => ?_) hpl he
  refine thn (hkw.run pos pins s1 σ H1 _ I1 q) fun ws s2 ⟨zs, H2, I2, rz, l1, l2, q2⟩ => ⟨I2.kIn, ?_⟩
  rw [hks]
  exact run_fnGK F hr hgd hb (hx σ) I2 r rz l1 l2 q2
theorem pe_callKG0 (F : FnG X.prog X.w X.K X.mg X.base k f fd ps sp) (hr : Room k X.A) (hgd : X.A.guards = some []) (hg : Gl X x) (hm : X.mg x = some (.ref f)) (hk : PySem.W.keepIn X.K (.ref f) = true) (hb : KwB fd ps 0 ks perm) (hx : ∀ σ, PassesAt (L2.CX X.prog X.w) X σ (E σ))
    (hkw : PK X kws tk) (hall : (backToKw pos (keywordEach kws X.env)).all (·.1.isSome) = true := by rfl) (hks : (backToKw pos (keywordEach kws X.env)).filterMap (·.1) = ks := by rfl)
    (hdb : (x == ("__debug__" : Str)) = false := by decide) (hpl : ((backTo pos (starEach [] X.env)).any (·.1) || (backToKw pos (keywordEach kws X.env)).any (·.1.isNone)) = false := by rfl) :
    PE X (.Call (.Name x p) [] kws pos) (tCallKG sp perm 0 ks.length E tNil tk) := by
  refine ⟨fun pins s σ H Q I h => ?_⟩
  refine wpAny_Call_Name_kw (ld_glob I hg hm ?_ hdb)
  refine PySem.W.callWith_KW0 (h₀ := X.base) I.ok.mod.kin hk hall ?_ hpl
  refine thn (hkw.run pos pins s σ H _ I h) fun ws s2 ⟨zs, H2, I2, rz, l1, l2, q2⟩ => ⟨I2.kIn, ?_⟩
  rw [hks]
  exact run_fnGK (us := []) (vs := []) F hr hgd hb (hx σ) I2 .nil rz l1 l2 q2
end
abbrev PKr (X : Cx) (A : List V) (W : WX) (kws : List Keyword) (os : List Opd) : Prop := PK X kws (tArgs X.K X.mg A W os)
def eCallKw (sem : Sem') (perm : List Nat) (os kos : List Opd) : EM D := fun ρ => (argGo os ρ).bind fun ds ρ1 => (argGo kos ρ1).bind fun es ρ2 => eCallK sem (permL perm (os ++ kos)) (permL perm (ds ++ es)) ρ2
section
variable {X : Cx} {A : List V} {W : WX} {S S' : Cfg} {σ : L2.St} {ρ : Env'}
theorem pkr_nil : PKr X A W [] [] := pk_nil
theorem pkr_cons {nm : Option Str} {e : Expr} {kpos : Pos} {kws : List Keyword} {o : Opd} {os : List Opd} (ha : PO' X A W e o) (hr : PKr X A W kws os) : PKr X A W (⟨nm, e, kpos⟩ :: kws) (o :: os) := pk_cons ha hr
theorem ArgsOk.app : ∀ {vs zs : List V} {os kos : List Opd} {ds es : List D}, ArgsOk X A S σ vs os ds → ArgsOk X A S σ zs kos es → ArgsOk X A S σ (vs ++ zs) (os ++ kos) (ds ++ es)
  | [], _, [], _, [], _, _, h => h
  | _ :: _, _, _ :: _, _, _ :: _, _, h, k => ⟨h.1, ArgsOk.app h.2 k⟩
  | [], _, _ :: _, _, _, _, h, _ => h.elim
  | [], _, [], _, _ :: _, _, h, _ => h.elim
  | _ :: _, _, [], _, _, _, h, _ => h.elim
  | _ :: _, _, _ :: _, _, [], _, h, _ => h.elim
theorem ArgsOk.perm {vs : List V} {os : List Opd} {ds : List D} (h : ArgsOk X A S σ vs os ds) : ∀ perm : List Nat, ArgsOk X A S σ (permL perm vs) (permL perm os) (permL perm ds)
  | [] => trivial
  | i :: perm => by
    obtain ⟨l1, l2⟩ := h.lens
    unfold permL
    cases e : os[i]? with
    | none =>
      have e0 := List.getElem?_eq_none_iff.mp e
      have e2 : vs[i]? = none := List.getElem?_eq_none_iff.mpr (by omega)
      have e3 : ds[i]? = none := List.getElem?_eq_none_iff.mpr (by omega)
      rw [List.filterMap_cons_none e, List.filterMap_cons_none e2, List.filterMap_cons_none e3]
      exact ArgsOk.perm h perm
    | some o =>
      have hi := (List.getElem?_eq_some_iff.mp e).1
      have e3 : ds[i]? = some (ds[i]'(by omega)) := List.getElem?_eq_getElem _
      obtain ⟨v, e2, ok⟩ := h.get e e3
      rw [List.filterMap_cons_some e, List.filterMap_cons_some e2, List.filterMap_cons_some e3]
      exact ⟨ok, ArgsOk.perm h perm⟩
theorem kw_to {n m n' : Nat} {sem : Sem'} {perm : List Nat} {os kos : List Opd} (hn : os.length = n) (hm : kos.length = m) (hp : (permL perm (os ++ kos)).length = n') (σ : L2.St) (H : Hp) (Q : VK) (h : tD X.K X.mg A W (eCallKw sem perm os kos) σ H Q) :
    tCallKG (spD X.K X.mg n' sem) perm n m (WE W) (tArgs X.K X.mg A W os) (tArgs X.K X.mg A W kos) σ H Q := by
  obtain ⟨S, ρ, rfl, s, h⟩ := h
  refine args_bind (P := PostE X.K X.mg A W Q S σ) (fun z => z) (fun _ _ _ z => z) s h fun ds ρ1 S1 vs hp1 ev1 s1 ok1 => ?_
  refine args_bind (P := PostE X.K X.mg A W Q S σ) (fun z => z) (fun _ _ _ z => PostX.ev z ev1) s1 hp1 fun es ρ2 S2 zs hp2 ev2 s2 ok2 => ?_
  have ok := ((ok1.ev ev2).app ok2).perm perm
  exact ⟨by rw [ok1.lens.1, hn], by rw [ok2.lens.1, hm], call_sp hp s2 ok (PostE.ev hp2 (ev1.trans ev2))⟩
theorem pd_callKw {k n n' : Nat} {f : Addr} {fd : FuncData} {ps ks : List Str} {sem : Sem'} {perm : List Nat} {x : Str} {p pos : Pos} {e : Expr} {es : List Expr} {kws : List Keyword} {os kos : List Opd} (F : FnG X.prog X.w X.K X.mg X.base k f fd ps (spD X.K X.mg n' sem)) (hr : Room k X.A) (hgd : X.A.guards = some []) (hg : Gl X x) (hm : X.mg x = some (.ref f))
    (hk : PySem.W.keepIn X.K (.ref f) = true) (hb : KwB fd ps n ks perm) (tk : Takes X W) (hn : os.length = n) (hl : kos.length = ks.length) (hp : (permL perm (os ++ kos)).length = n') (ha : PAr X A W (e :: es) os) (hkw : PKr X A W kws kos)
    (hall : (backToKw pos (keywordEach kws X.env)).all (·.1.isSome) = true := by rfl) (hks : (backToKw pos (keywordEach kws X.env)).filterMap (·.1) = ks := by rfl)
    (hdb : (x == ("__debug__" : Str)) = false := by decide) (he : starEach (e :: es) X.env = (false, eval e X.env) :: starEach es X.env := by rfl)
    (hpl : ((backTo pos (starEach (e :: es) X.env)).any (·.1) || (backToKw pos (keywordEach kws X.env)).any (·.1.isNone)) = false := by rfl) : PD X A W (.Call (.Name x p) (e :: es) kws pos) (eCallKw sem perm os kos) :=
  PE.imp (pe_callKG F hr hgd hg hm hk hb (fun σ => passAt tk σ) ha hkw hall hks hdb he hpl) (kw_to hn hl hp)
theorem pd_callKw0 {k n' : Nat} {f : Addr} {fd : FuncData} {ps ks : List Str} {sem : Sem'} {perm : List Nat} {x : Str} {p pos : Pos} {kws : List Keyword} {kos : List Opd} (F : FnG X.prog X.w X.K X.mg X.base k f fd ps (spD X.K X.mg n' sem)) (hr : Room k X.A) (hgd : X.A.guards = some []) (hg : Gl X x) (hm : X.mg x = some (.ref f))
    (hk : PySem.W.keepIn X.K (.ref f) = true) (hb : KwB fd ps 0 ks perm) (tk : Takes X W) (hl : kos.length = ks.length) (hp : (permL perm ([] ++ kos)).length = n') (hkw : PKr X A W kws kos)
    (hall : (backToKw pos (keywordEach kws X.env)).all (·.1.isSome) = true := by rfl) (hks : (backToKw pos (keywordEach kws X.env)).filterMap (·.1) = ks := by rfl)
    (hdb : (x == ("__debug__" : Str)) = false := by decide) (hpl : ((backTo pos (starEach [] X.env)).any (·.1) || (backToKw pos (keywordEach kws X.env)).any (·.1.isNone)) = false := by rfl) : PD X A W (.Call (.Name x p) [] kws pos) (eCallKw sem perm [] kos) :=
  PE.imp (pe_callKG0 F hr hgd hg hm hk hb (fun σ => passAt tk σ) hkw hall hks hdb hpl) (kw_to (os := []) rfl hl hp)
end
end DL
end

section
set_option Elab.async false
set_option linter.all false
set_option maxRecDepth 100000
/-! A def that makes a source of draws. -/
namespace DL
open PySem PySem.Spec PyProof.Rows L2
abbrev Dl := List Int × Int
section
variable (K : PySem.W.Frag) (mg : Str → Option Value) (A : List V) (W : WX)
/-- a new source at v -/
def NewDl (S0 S : Cfg) (v : V) (L : List Int) (c : Int) : Prop := ∃ p q, v = .ref p ∧ S.H p = some (.lst [.ref q, .int c]) ∧ S.H q = some (.lst (L.map V.int)) ∧ p ≠ q ∧ S.F p = none ∧ S.F q = none ∧ ¬ S.O p ∧ ¬ S.O q ∧ S0.H p = none ∧ S0.H q = none
def PostDl (Q : VK) (S : Cfg) (σ : L2.St) : Out Dl → Prop
  | .ok r ρ' => ∀ S' v, Ev S S' → Sat K mg A S' σ ρ' → NewDl S S' v r.1 r.2 → Q v S'.H
  | .err c d ρ' => PostX K mg A W S c d ρ'
  | .stuck => False
def tDl (f : EM Dl) : TE := fun σ H Q => ∃ S ρ, S.H = H ∧ Sat K mg A S σ ρ ∧ PostDl K mg A W Q S σ (f ρ)
inductive FlD where
  | nx (ρ : Env') | dl (r : Dl) (ρ : Env') | er (c : Str) (d : D) (ρ : Env') | stuck
def PostSD (D' : Ends) (S : Cfg) : FlD → Prop
  | .nx ρ' => ∀ S' σ', Ev S S' → Sat K mg A S' σ' ρ' → D'.nx σ' S'.H
  | .dl r ρ' => ∀ S' σ' v, Ev S S' → Sat K mg A S' σ' ρ' → NewDl S S' v r.1 r.2 → D'.rt v S'.H
  | .er c d ρ' => PostX K mg A W S c d ρ'
  | .stuck => False
def tSD (f : Env' → FlD) : TS := fun D' σ H => ∃ S ρ, S.H = H ∧ Sat K mg A S σ ρ ∧ PostSD K mg A W D' S (f ρ)
end
theorem NewDl.ev {S0 S1 S : Cfg} {v : V} {L : List Int} {c : Int} (h : NewDl S1 S v L c) (e : Ev S0 S1) : NewDl S0 S v L c := by
  obtain ⟨p, q, h1, h2, h3, h4, h5, h6, h7, h8, h9, h10⟩ := h
  exact ⟨p, q, h1, h2, h3, h4, h5, h6, h7, h8, e.nil h9, e.nil h10⟩
abbrev PDl (X : Cx) (A : List V) (W : WX) (e : Expr) (f : EM Dl) : Prop := PE X e (tDl X.K X.mg A W f)
abbrev PSsDl (X : Cx) (A : List V) (W : WX) (b : List Stmt) (f : Env' → FlD) : Prop := PSs X b (tSD X.K X.mg A W f)
section
variable {X : Cx} {A : List V} {W : WX} {S S' : Cfg} {σ : L2.St} {ρ : Env'}
def sqD (f : SM) (g : Env' → FlD) : Env' → FlD := fun ρ => match f ρ with
  | .nx ρ1 => g ρ1
  | .er c d ρ1 => .er c d ρ1
  | _ => .stuck
theorem PostSD.ev {K : PySem.W.Frag} {mg : Str → Option Value} {D' : Ends} {r : FlD} (h : PostSD K mg A W D' S r) (e : Ev S S') : PostSD K mg A W D' S' r := by
  cases r with
  | nx ρ' => exact fun S2 σ2 e2 => h S2 σ2 (e.trans e2)
  | dl r ρ' => exact fun S2 σ2 v e2 s n => h S2 σ2 v (e.trans e2) s (n.ev e)
  | er c d ρ' => exact PostX.ev h e
  | stuck => exact h
theorem psdl_cons {st : Stmt} {rest : List Stmt} {f : SM} {g : Env' → FlD} (h1 : PSD X A W st f) (h2 : PSsDl X A W rest g) : PSsDl X A W (st :: rest) (sqD f g) := PSs.imp (pss_cons h1 h2) fun D σ H h => by
  obtain ⟨S, ρ, rfl, s, h⟩ := h
  refine ⟨S, ρ, rfl, s, ?_⟩
  have h' : PostSD X.K X.mg A W D S (match f ρ with
    | .nx ρ1 => g ρ1
    | .er c d ρ1 => .er c d ρ1
    | _ => .stuck) := h
  cases e : f ρ with
  | nx ρ1 =>
    rw [e] at h'
    exact fun S' σ' ev s' => ⟨S', ρ1, rfl, s', PostSD.ev h' ev⟩
  | rt d ρ1 => rw [e] at h'; exact (show False from h').elim
  | bk ρ1 => rw [e] at h'; exact (show False from h').elim
  | ct ρ1 => rw [e] at h'; exact (show False from h').elim
  | er c d ρ1 => rw [e] at h'; exact h'
  | stuck => rw [e] at h'; exact h'
def sRetDl (f : EM Dl) : Env' → FlD := fun ρ => match f ρ with
  | .ok r ρ1 => .dl r ρ1
  | .err c d ρ1 => .er c d ρ1
  | .stuck => .stuck
theorem psdl_ret {e : Expr} {f : EM Dl} {pos : Pos} (he : PDl X A W e f) : PSsDl X A W [.Return (some e) pos] (sRetDl f) := PSs.imp (pss_one (ps_ret he)) fun D σ H h => by
  obtain ⟨S, ρ, rfl, s, h⟩ := h
  refine ⟨S, ρ, rfl, s, ?_⟩
  have h' : PostSD X.K X.mg A W D S (match f ρ with
    | .ok r ρ1 => .dl r ρ1
    | .err c d ρ1 => .er c d ρ1
    | .stuck => .stuck) := h
  cases e : f ρ with
  | ok r ρ1 =>
    rw [e] at h'
    exact fun S' v ev s' n => h' S' σ v ev s' n
  | err c d ρ1 =>
    rw [e] at h'
    exact h'
  | stuck =>
    rw [e] at h'
    exact h'
/-- [xs[::-1], y], xs a new list, y a variable -/
def eDl (f : EM (List D)) (j : Nat) : EM Dl := fun ρ => (f ρ).bind fun xs ρ1 => match asIs xs, ρ1[j]? with
  | some is, some (.va (.int c)) => .ok (is.reverse, c) ρ1
  | _, _ => .stuck
theorem pdl_disp {e : Expr} {f : EM (List D)} (j : Nat) {x : Str} {k : Nat} {p1 p2 p3 p4 p5 pos : Pos} (he : PL X A W e f) (hN : X.N[j]? = some x := by rfl) (hv : Vis X.env.scope x := by first | exact Or.inl rfl | exact Or.inr (Or.inl rfl) | exact Or.inr (Or.inr rfl))
    (hd : (x == ("__debug__" : Str)) = false := by decide) (hcd : (x == ("__classdict__" : Str)) = false := by decide)
    (hs1 : starEach [.Subscript e (.Slice none none (some (.UnaryOp .USub (.Constant (.int 1) k p1) p2)) p3) p4, .Name x p5] X.env = (false, eval (.Subscript e (.Slice none none (some (.UnaryOp .USub (.Constant (.int 1) k p1) p2)) p3) p4) X.env) :: starEach [.Name x p5] X.env := by rfl) (hs2 : starEach [.Name x p5] X.env = (false, eval (.Name x p5) X.env) :: starEach [] X.env := by rfl) :
    PDl X A W (.List [.Subscript e (.Slice none none (some (.UnaryOp .USub (.Constant (.int 1) k p1) p2)) p3) p4, .Name x p5] pos) (eDl f j) := PE.imp (pe_lst (pa_cons (pe_revL he) (pa_cons (pe_var hN hv hd hcd) pa_nil hs2) hs1)) fun σ H Q h => by
  obtain ⟨S, ρ, rfl, s, h⟩ := h
  refine ⟨S, ρ, rfl, s, ?_⟩
  have h' : PostDl X.K X.mg A W Q S σ ((f ρ).bind fun xs ρ1 => match asIs xs, ρ1[j]? with
    | some is, some (.va (.int c)) => .ok (is.reverse, c) ρ1
    | _, _ => .stuck) := h
  cases e : f ρ with
  | err c d ρ1 =>
    rw [e] at h'
    exact h'
  | stuck =>
    rw [e] at h'
    exact h'
  | ok xs ρ1 =>
    rw [e] at h'
    intro S1 a vs ev s1 r ha hF hO h0
    refine ⟨a, vs, rfl, SqL.of ha, fun q hq => ?_⟩
    have h2 : PostDl X.K X.mg A W Q S σ (match asIs xs, ρ1[j]? with
      | some is, some (.va (.int c)) => .ok (is.reverse, c) ρ1
      | _, _ => .stuck) := h'
    cases e1 : asIs xs with
    | none =>
      simp only [e1] at h2
      exact (show False from h2).elim
    | some is =>
      cases e2 : ρ1[j]? with
      | none =>
        simp only [e1, e2] at h2
        exact (show False from h2).elim
      | some sl =>
        cases sl with
        | va d =>
          cases d with
          | int c =>
            simp only [e1, e2] at h2
            obtain ⟨v, z1, z2⟩ := s1.va e2
            have rv : v = .int c := z2
            subst rv
            refine ⟨_, z1, ?_⟩
            refine ⟨by show 2 ≤ sizeLine; decide, fun p hp => ?_⟩
            have hvs : vs = is.map V.int := by
              rw [asIs_eq e1] at r
              exact r.of_ints
            have g1 : Gr S1 (S1.raw q (.lst vs.reverse)) := .raw s1.sub hq
            have s2 := s1.gr g1
            have hp' : (S1.raw q (.lst vs.reverse)).H p = none := hp
            have g2 : Gr (S1.raw q (.lst vs.reverse)) ((S1.raw q (.lst vs.reverse)).raw p (.lst [.ref q, .int c])) := .raw s2.sub hp'
            have s3 := s2.gr g2
            have nO : ∀ a, S1.H a = none → ¬ S1.O a := fun a ha' hO' => by
              obtain ⟨o, e⟩ := s1.ownH a hO'
              rw [ha'] at e
              cases e
            have hne : p ≠ q := fun z => by
              rw [z] at hp'
              have : upd S1.H q (.lst vs.reverse) q = none := hp'
              rw [upd_same] at this
              cases this
            have hp1 : S1.H p = none := by
              have z : upd S1.H q (.lst vs.reverse) p = none := hp'
              rw [upd_ne hne] at z
              exact z
            refine h2 _ (.ref p) ((ev.trans g1.ev).trans g2.ev) s3 ⟨p, q, rfl, upd_same, ?_, hne, none_sub s1.sub hp1, none_sub s1.sub hq, nO p hp1, nO q hq, ev.nil hp1, ev.nil hq⟩
            show upd (upd S1.H q (.lst vs.reverse)) p (.lst [.ref q, .int c]) q = _
            rw [upd_ne (Ne.symm hne), upd_same, hvs, List.map_reverse]
          | _ =>
            simp only [e1, e2] at h2
            exact (show False from h2).elim
        | _ =>
          simp only [e1, e2] at h2
          exact (show False from h2).elim
end
/-! ### the contract -/
abbrev SemDl := List Sl → Out Dl
def runDl (n N : Nat) (body : Env' → FlD) : SemDl := fun ps => match body (ps ++ List.replicate (N - n) Sl.no) with
  | .dl r ρ => .ok r (outIo n ρ)
  | .er c d ρ => .err c d (outIo n ρ)
  | _ => .stuck
def PostFD (K : PySem.W.Frag) (mg : Str → Option Value) (Q : VK) (E : XK) (S : Cfg) (vs : List V) : Out Dl → Prop
  | .ok r ps' => ∀ S' v, Ev S S' → Sat K mg vs S' (vs.map some) ps' → NewDl S S' v r.1 r.2 → Q v S'.H
  | .err c d ps' => ∀ S' C cd v, mg c = some (.ref C) → Ev S S' → Sat K mg vs S' (vs.map some) ps' → S'.H cd = some (.xd [(("at" : Str), v)]) → RD K mg S'.F d v → E (.ref C) (some cd) S'.H
  | .stuck => False
def spDl (K : PySem.W.Frag) (mg : Str → Option Value) (n : Nat) (sem : SemDl) : Sp := fun vs H Q E => vs.length = n ∧ ∃ S ps, S.H = H ∧ Sat K mg vs S (vs.map some) ps ∧ PostFD K mg Q E S vs (sem ps)
theorem fnDl {P : Program} {w : World} {K : PySem.W.Frag} {mg : Str → Option Value} {base : Heap} {x qual : Str} {params : Arguments} {body : List Stmt} {scope : Scope} {dvs : List V} {kws : List (Str × V)} {f : Addr} {fd : FuncData} {N ps : List Str} {k : Nat} {sm : Env' → FlD}
    (F : FunD K x qual params body scope dvs kws f fd) (S : FnScope N ps scope) (hn : ps.length ≤ N.length)
    (hb : ∀ (cdv : Value) (A : Around) (outer : List Env) (s : Shared) (H : Hp) (vs : List V) (E : XK), Room k (A.deeper (envOfC qual scope s.heap.objs.size f cdv)) → (A.deeper (envOfC qual scope s.heap.objs.size f cdv)).guards = some [] →
      PSsDl (cxOf (L2.CX P w) P w K mg base N qual scope f cdv A outer s H E) vs (fun cls d _ H => E cls d H) body sm) : FnG P w K mg base (k + 1) f fd ps (spDl K mg ps.length (runDl ps.length N.length sm)) := by
  refine FunD.okG F S (fun vs H Q E h => h.1) (fun cdv A outer s H vs Q E hr hgd h => ⟨_, hb cdv A outer s H vs E hr hgd, ?_⟩)
  obtain ⟨hl, S, qs, rfl, sa, hq⟩ := h
  refine ⟨S, qs ++ List.replicate (N.length - ps.length) Sl.no, rfl, by rw [← hl]; exact sa.start (by rw [hl]; exact hn), ?_⟩
  unfold runDl at hq
  cases e : sm (qs ++ List.replicate (N.length - ps.length) Sl.no) with
  | dl r ρ =>
    rw [e] at hq
    exact fun S' σ' v ev s' n => hq S' v ev (by rw [← hl]; exact s'.out) n
  | nx ρ =>
    rw [e] at hq
    exact (show False from hq).elim
  | er c d ρ =>
    rw [e] at hq
    exact fun S' σ' C cd v hc ev s' hcd r => hq S' C cd v hc ev (by rw [← hl]; exact s'.out) hcd r
  | stuck =>
    rw [e] at hq
    exact (show False from hq).elim
section
variable {X : Cx} {A : List V} {W : WX} {S S' : Cfg} {σ : L2.St} {ρ : Env'}
/-- the callee's configuration where nothing is handed in to be changed -/
theorem call_ev {vs : List V} {ds : List D} (s : Sat X.K X.mg A S σ ρ) (r : RDs X.K X.mg S.F ds vs) : Sat X.K X.mg vs ⟨S.F, S.H, fun _ => False⟩ (vs.map some) (ds.map Sl.va) := by
  refine ⟨s.sub, fun _ h => h.elim, fun _ h => h.elim, by simp [r.length], ⟨fun _ _ => False, fun i sl e => ?_, fun _ _ h => h, fun _ _ _ h => h.elim⟩, fun i o e => ?_⟩
  · rw [List.getElem?_map] at e
    cases q : ds[i]? with
    | none =>
      rw [q] at e
      cases e
    | some d =>
      rw [q] at e
      cases e
      obtain ⟨v, e1, e2⟩ := r.get q
      exact ⟨some v, by rw [List.getElem?_map, e1]; rfl, v, rfl, e2⟩
  · rw [List.getElem?_map] at e
    cases q : ds[i]? with
    | none =>
      rw [q] at e
      cases e
    | some d =>
      rw [q] at e
      cases e
/-- x = f(e, ..), f makes a source of draws -/
def sMkDl (i : Nat) (sem : SemDl) (fs : List (EM D)) : SM := fun ρ => (argGo (fs.map Opd.ev) ρ).fl fun ds ρ1 => match sem (ds.map Sl.va) with
  | .ok r _ => putSl ρ1 i (.ow false (.deal r.1 r.2))
  | _ => .stuck
theorem psd_mkDl (i : Nat) {y : Str} {k n : Nat} {f : Addr} {fd : FuncData} {ps : List Str} {sem : SemDl} {x : Str} {p py pos spos : Pos} {e : Expr} {es : List Expr} {fs : List (EM D)} (F : FnG X.prog X.w X.K X.mg X.base k f fd ps (spDl X.K X.mg n sem)) (hr : Room k X.A) (hgd : X.A.guards = some []) (hg : Gl X x) (hm : X.mg x = some (.ref f))
    (hk : PySem.W.keepIn X.K (.ref f) = true) (hb : Binds X.K fd ps []) (tk : Takes X W) (hn : fs.length = n) (ha : PAr X A W (e :: es) (fs.map Opd.ev)) (hN : X.N.Nodup) (hi : X.N[i]? = some y := by rfl) (hy : Loc X.env.scope y := by first | exact Or.inl rfl | exact Or.inr rfl) (hdb : (x == ("__debug__" : Str)) = false := by decide)
    (he : starEach (e :: es) X.env = (false, eval e X.env) :: starEach es X.env := by rfl) (hpl : (backTo pos (starEach es X.env)).any (·.1) = false := by rfl)
    (hs : swapsWith (.Call (.Name x p) (e :: es) [] pos) (some (.Name y py)) spos.line X.env = pure false := by rfl) (hf : X.fn y = true ∨ X.env.scope.names.lookup y = some .local := by first | exact .inl rfl | exact .inr rfl | assumption) :
    PSD X A W (.Assign [.Name y py] (.Call (.Name x p) (e :: es) [] pos) spos) (sMkDl i sem fs) := PS.imp (ps_set hN hi hy (pe_callG F hr hgd hg hm hk hb (fun σ => passAt tk σ) ha hdb he hpl) hs hf) fun D' σ H h => by
  obtain ⟨S, ρ, rfl, s, h⟩ := h
  have h0 : PostS X.K X.mg A W D' S ((argGo (fs.map Opd.ev) ρ).fl fun ds ρ1 => match sem (ds.map Sl.va) with
    | .ok r _ => putSl ρ1 i (.ow false (.deal r.1 r.2))
    | _ => .stuck) := h
  refine args_bind (P := fun r : Out (List D) => PostS X.K X.mg A W D' S (r.fl fun ds ρ1 => match sem (ds.map Sl.va) with
    | .ok r _ => putSl ρ1 i (.ow false (.deal r.1 r.2))
    | _ => .stuck)) (g := fun ds ρ1 => .ok ds ρ1) (fun z => z) (fun _ _ _ z => z) s ?_ fun ds ρ1 S1 vs hp ev s1 ok => ?_
  · cases e : argGo (fs.map Opd.ev) ρ with
    | ok ds ρ1 =>
      rw [e] at h0
      exact h0
    | err c d ρ1 =>
      rw [e] at h0
      exact h0
    | stuck =>
      rw [e] at h0
      exact h0
  · have r := ok.rdsEv
    have hp1 : PostS X.K X.mg A W D' S (match sem (ds.map Sl.va) with
      | .ok r _ => putSl ρ1 i (.ow false (.deal r.1 r.2))
      | _ => .stuck) := hp
    refine ⟨by rw [(ok.lens).1, List.length_map, hn], ⟨S1.F, S1.H, fun _ => False⟩, ds.map Sl.va, rfl, call_ev s1 r, ?_⟩
    cases e2 : sem (ds.map Sl.va) with
    | stuck =>
      rw [e2] at hp1
      exact (show False from hp1).elim
    | err c d ps' =>
      rw [e2] at hp1
      exact (show False from hp1).elim
    | ok rr ps' =>
      rw [e2] at hp1
      obtain ⟨k1, k2⟩ := putSl_ok hp1
      intro S' v ev2 s2 nd
      obtain ⟨pp, q, rfl, h2, h3, h4, h5, h6, h7, h8, h9, h10⟩ := nd
      have evb : Ev S1 ⟨S'.F, S'.H, fun a => S1.O a ∨ S'.O a⟩ := ⟨fun a o e n => ev2.same a o e fun z => z, ev2.frz, fun a o e n => ev2.newF a o e fun z => z, fun a ha => by
        rcases ha with ha | ha
        · exact .inl ha
        · exact .inr (by
            rcases ev2.own a ha with z | z
            · exact z.elim
            · exact z), ev2.there⟩
      have sb : Sat X.K X.mg A ⟨S'.F, S'.H, fun a => S1.O a ∨ S'.O a⟩ σ ρ1 := by
        obtain ⟨fp, t1, t2, t3⟩ := s1.sl
        refine ⟨s2.sub, fun a ha => ?_, fun a ha => ?_, s1.len, ⟨fp, fun j sl e => ?_, fun j a ha => .inl (t2 j a ha), t3⟩, s1.io⟩
        · rcases ha with ha | ha
          · obtain ⟨o, e⟩ := s1.ownH a ha
            show S'.F a = none
            rw [ev2.newF a o e fun z => z]
            exact s1.ownF a ha
          · exact s2.ownF a ha
        · rcases ha with ha | ha
          · obtain ⟨o, e⟩ := s1.ownH a ha
            exact ⟨o, ev2.same a o e fun z => z⟩
          · exact s2.ownH a ha
        · obtain ⟨u, q1, q2⟩ := t1 j sl e
          exact ⟨u, q1, q2.grow ev2.frz fun a o _ e => ev2.same a o e fun z => z⟩
      have np : ¬ (S1.O pp ∨ S'.O pp) := fun z => by
        rcases z with z | z
        · obtain ⟨o, e⟩ := s1.ownH pp z
          have h9' : S1.H pp = none := h9
          rw [h9'] at e
          cases e
        · exact h7 z
      have nq : ¬ (S1.O q ∨ S'.O q) := fun z => by
        rcases z with z | z
        · obtain ⟨o, e⟩ := s1.ownH q z
          have h10' : S1.H q = none := h10
          rw [h10'] at e
          cases e
        · exact h8 z
      let S3 : Cfg := ⟨S'.F, S'.H, fun a => (S1.O a ∨ S'.O a) ∨ a = pp ∨ a = q⟩
      have ev3 : Ev S S3 := by
        have e0 := ev.trans evb
        refine ⟨e0.same, e0.frz, e0.newF, fun a ha => ?_, e0.there⟩
        rcases ha with ha | ha | ha
        · exact e0.own a ha
        · rw [ha]
          exact .inr (ev.nil h9)
        · rw [ha]
          exact .inr (ev.nil h10)
      have s3 : Sat X.K X.mg A S3 (σ.set i (some (.ref pp))) (ρ1.set i (.ow false (.deal rr.1 rr.2))) := by
        have sc : Sat X.K X.mg A S3 σ ρ1 := by
          obtain ⟨fp, t1, t2, t3⟩ := sb.sl
          refine ⟨sb.sub, fun a ha => ?_, fun a ha => ?_, sb.len, ⟨fp, fun j sl e => ?_, fun j a ha => .inl (t2 j a ha), t3⟩, sb.io⟩
          · rcases ha with ha | ha | ha
            · exact sb.ownF a ha
            · rw [ha]; exact h5
            · rw [ha]; exact h6
          · rcases ha with ha | ha | ha
            · exact sb.ownH a ha
            · rw [ha]; exact ⟨_, h2⟩
            · rw [ha]; exact ⟨_, h3⟩
          · obtain ⟨u, q1, q2⟩ := t1 j sl e
            exact ⟨u, q1, q2.grow (fun _ _ z => z) fun _ _ _ z => z⟩
        obtain ⟨fp, t1, t2, t3⟩ := sb.sl
        refine ⟨sc.sub, sc.ownF, sc.ownH, by simp [sc.len], ⟨fun j a => if j = i then (a = pp ∨ a = q) else fp j a, fun j sl e => ?_, fun j a ha => ?_, fun j l a h1 h2' => ?_⟩, fun j o e => ?_⟩
        · by_cases hj : j = i
          · subst hj
            have hlt : j < ρ1.length := by
              have := (List.getElem?_eq_some_iff.mp e).1
              simpa using this
            rw [List.getElem?_set_self hlt] at e
            cases e
            refine ⟨some (.ref pp), List.getElem?_set_self (by rw [sb.len]; exact hlt), .ref pp, rfl, pp, q, rfl, h2, h3, h4, ?_, ?_⟩
            · show if j = j then (pp = pp ∨ pp = q) else fp j pp
              rw [if_pos rfl]
              exact .inl rfl
            · show if j = j then (q = pp ∨ q = q) else fp j q
              rw [if_pos rfl]
              exact .inr rfl
          · rw [List.getElem?_set_ne (Ne.symm hj)] at e
            obtain ⟨u, q1, q2⟩ := t1 j sl e
            refine ⟨u, by rw [List.getElem?_set_ne (Ne.symm hj)]; exact q1, (q2.grow (S' := S3) (fun _ _ z => z) fun _ _ _ z => z).wide fun a ha => ?_⟩
            show if j = i then (a = pp ∨ a = q) else fp j a
            rw [if_neg hj]
            exact ha
        · have ha' : if j = i then (a = pp ∨ a = q) else fp j a := ha
          by_cases hj : j = i
          · rw [if_pos hj] at ha'
            exact .inr ha'
          · rw [if_neg hj] at ha'
            exact .inl (t2 j a ha')
        · have h1' : if j = i then (a = pp ∨ a = q) else fp j a := h1
          have h2'' : if l = i then (a = pp ∨ a = q) else fp l a := h2'
          have bad : ∀ {m}, (a = pp ∨ a = q) → fp m a → False := fun {m} z1 z2 => by
            have z3 := t2 m a z2
            rcases z1 with z1 | z1
            · rw [z1] at z3
              exact np z3
            · rw [z1] at z3
              exact nq z3
          by_cases hj : j = i
          · by_cases hl : l = i
            · rw [hj, hl]
            · rw [if_pos hj] at h1'
              rw [if_neg hl] at h2''
              exact (bad h1' h2'').elim
          · rw [if_neg hj] at h1'
            by_cases hl : l = i
            · rw [if_pos hl] at h2''
              exact (bad h2'' h1').elim
            · rw [if_neg hl] at h2''
              exact t3 j l a h1' h2''
        · by_cases hj : j = i
          · subst hj
            have hlt : j < ρ1.length := by
              have := (List.getElem?_eq_some_iff.mp e).1
              simpa using this
            rw [List.getElem?_set_self hlt] at e
            cases e
          · rw [List.getElem?_set_ne (Ne.symm hj)] at e ⊢
            exact sc.io j o e
      exact k2 S3 _ ev3 s3
end
end DL
end

section
set_option Elab.async false
set_option linter.all false
set_option maxRecDepth 100000
namespace DL
open PySem PySem.Spec PyProof.Rows L2
theorem takesW0 {X : Cx} : Takes X W0 := fun _ _ ⟨_, _, _, _, _, _, _, _, _, _, _, _, _, _, _, _, w⟩ => w.elim
theorem hu64 {k : Nat} {A : Around} (h : Room k A) : A.units + 64 < cLine := by
  have := h.un
  omega
theorem hu65 {k : Nat} {A : Around} (h : Room k A) : A.units + 65 < cLine := by
  have := h.un
  omega
theorem hu40 {k : Nat} {A : Around} (h : Room k A) : A.units + 40 < cLine := by
  have := h.un
  omega
/-- BlkOk as a check -/
def blkB (N : List Str) (sc scope : Scope) (own : List (Str × Nat)) : Bool := decide (scope.kind = .function) && ((scope.names.all fun y => decide (scope.names.lookup y.1 = some y.2)) && ((own.all fun p => decide (N[p.2]? = some p.1)) &&
  ((scope.names.all fun y => !decide (y.2 = .free) || (decide (sc.names.lookup y.1 = some .cell) || decide (sc.names.lookup y.1 = some .free))) &&
  (scope.names.all fun y => !(decide (y.2 = .local) || decide (y.2 = .cell)) || (decide (y.1 ∈ own.map (·.1)) || !decide (y.1 ∈ N))))))
theorem blk_of {N : List Str} {sc scope : Scope} {own : List (Str × Nat)} (h : blkB N sc scope own = true) : BlkOk N sc scope own := by
  unfold blkB at h
  simp only [Bool.and_eq_true, List.all_eq_true, decide_eq_true_eq, Bool.or_eq_true, Bool.not_eq_true', decide_eq_false_iff_not] at h
  obtain ⟨h1, h2, h3, h4, h5⟩ := h
  refine ⟨h1, h2, h3, fun y hy e => ?_, fun y hy e => ?_⟩
  · rcases h4 y hy with z | z
    · exact absurd e z
    · exact z
  · rcases h5 y hy with z | z
    · simp only [Bool.or_eq_false_iff, decide_eq_false_iff_not] at z
      rcases e with e | e
      · exact absurd e z.1
      · exact absurd e z.2
    · exact z
end DL
end

section
set_option Elab.async false
set_option linter.all false
set_option maxRecDepth 100000
set_option maxHeartbeats 0
namespace Wk
open PySem PySem.Spec PyProof.Rows L2 DL
abbrev top (i : Nat) : Stmt := PySem.Challenge.pw_bothplans_k33_whole_weighted_sums.main.body.getD i (.Pass ⟨0, 0, 0, 0⟩)
structure Fx (K : PySem.W.Frag) (mg : Str → Option Value) where
  f_is_integer : Addr
  fd_is_integer : FuncData
  F_is_integer : FunD K "is_integer" "is_integer" (defArgs (top 1)) (defBody (top 1)) (defScope (top 1)) [] [] f_is_integer fd_is_integer
  g_is_integer : mg "is_integer" = some (.ref f_is_integer)
  f_is_number : Addr
  fd_is_number : FuncData
  F_is_number : FunD K "is_number" "is_number" (defArgs (top 2)) (defBody (top 2)) (defScope (top 2)) [] [] f_is_number fd_is_number
  g_is_number : mg "is_number" = some (.ref f_is_number)
  f_is_index : Addr
  fd_is_index : FuncData
  F_is_index : FunD K "is_index" "is_index" (defArgs (top 3)) (defBody (top 3)) (defScope (top 3)) [] [] f_is_index fd_is_index
  g_is_index : mg "is_index" = some (.ref f_is_index)
  f_is_sequence : Addr
  fd_is_sequence : FuncData
  F_is_sequence : FunD K "is_sequence" "is_sequence" (defArgs (top 4)) (defBody (top 4)) (defScope (top 4)) [] [] f_is_sequence fd_is_sequence
  g_is_sequence : mg "is_sequence" = some (.ref f_is_sequence)
  f_is_row_below : Addr
  fd_is_row_below : FuncData
  F_is_row_below : FunD K "is_row_below" "is_row_below" (defArgs (top 6)) (defBody (top 6)) (defScope (top 6)) [] [] f_is_row_below fd_is_row_below
  g_is_row_below : mg "is_row_below" = some (.ref f_is_row_below)
  f_weighed : Addr
  fd_weighed : FuncData
  F_weighed : FunD K "weighed" "weighed" (defArgs (top 8)) (defBody (top 8)) (defScope (top 8)) [] [] f_weighed fd_weighed
  g_weighed : mg "weighed" = some (.ref f_weighed)
  f_is_cut : Addr
  fd_is_cut : FuncData
  F_is_cut : FunD K "is_cut" "is_cut" (defArgs (top 9)) (defBody (top 9)) (defScope (top 9)) [] [] f_is_cut fd_is_cut
  g_is_cut : mg "is_cut" = some (.ref f_is_cut)
  f_first_within : Addr
  fd_first_within : FuncData
  F_first_within : FunD K "first_within" "first_within" (defArgs (top 10)) (defBody (top 10)) (defScope (top 10)) [] [] f_first_within fd_first_within
  g_first_within : mg "first_within" = some (.ref f_first_within)
  f_first_row : Addr
  fd_first_row : FuncData
  F_first_row : FunD K "first_row" "first_row" (defArgs (top 11)) (defBody (top 11)) (defScope (top 11)) [] [] f_first_row fd_first_row
  g_first_row : mg "first_row" = some (.ref f_first_row)
  f_two_cut : Addr
  fd_two_cut : FuncData
  F_two_cut : FunD K "two_cut" "two_cut" (defArgs (top 12)) (defBody (top 12)) (defScope (top 12)) [] [] f_two_cut fd_two_cut
  g_two_cut : mg "two_cut" = some (.ref f_two_cut)
  f_heaviest : Addr
  fd_heaviest : FuncData
  F_heaviest : FunD K "heaviest" "heaviest" (defArgs (top 13)) (defBody (top 13)) (defScope (top 13)) [] [] f_heaviest fd_heaviest
  g_heaviest : mg "heaviest" = some (.ref f_heaviest)
  f_enough_slack : Addr
  fd_enough_slack : FuncData
  F_enough_slack : FunD K "enough_slack" "enough_slack" (defArgs (top 14)) (defBody (top 14)) (defScope (top 14)) [] [] f_enough_slack fd_enough_slack
  g_enough_slack : mg "enough_slack" = some (.ref f_enough_slack)
  f_slack_cut : Addr
  fd_slack_cut : FuncData
  F_slack_cut : FunD K "slack_cut" "slack_cut" (defArgs (top 15)) (defBody (top 15)) (defScope (top 15)) [] [] f_slack_cut fd_slack_cut
  g_slack_cut : mg "slack_cut" = some (.ref f_slack_cut)
  f__law_draw : Addr
  fd__law_draw : FuncData
  F__law_draw : FunD K "_law_draw" "_law_draw" (defArgs (top 17)) (defBody (top 17)) (defScope (top 17)) [] [] f__law_draw fd__law_draw
  g__law_draw : mg "_law_draw" = some (.ref f__law_draw)
  f__law_any : Addr
  fd__law_any : FuncData
  F__law_any : FunD K "_law_any" "_law_any" (defArgs (top 18)) (defBody (top 18)) (defScope (top 18)) [] [] f__law_any fd__law_any
  g__law_any : mg "_law_any" = some (.ref f__law_any)
  f__law_of : Addr
  fd__law_of : FuncData
  F__law_of : FunD K "_law_of" "_law_of" (defArgs (top 19)) (defBody (top 19)) (defScope (top 19)) [] [] f__law_of fd__law_of
  g__law_of : mg "_law_of" = some (.ref f__law_of)
  f__law_great : Addr
  fd__law_great : FuncData
  F__law_great : FunD K "_law_great" "_law_great" (defArgs (top 20)) (defBody (top 20)) (defScope (top 20)) [] [] f__law_great fd__law_great
  g__law_great : mg "_law_great" = some (.ref f__law_great)
  f__law_weighed : Addr
  fd__law_weighed : FuncData
  F__law_weighed : FunD K "_law_weighed" "_law_weighed" (defArgs (top 21)) (defBody (top 21)) (defScope (top 21)) [] [] f__law_weighed fd__law_weighed
  g__law_weighed : mg "_law_weighed" = some (.ref f__law_weighed)
  f__law_rows : Addr
  fd__law_rows : FuncData
  F__law_rows : FunD K "_law_rows" "_law_rows" (defArgs (top 22)) (defBody (top 22)) (defScope (top 22)) [] [] f__law_rows fd__law_rows
  g__law_rows : mg "_law_rows" = some (.ref f__law_rows)
  f__law_allowed : Addr
  fd__law_allowed : FuncData
  F__law_allowed : FunD K "_law_allowed" "_law_allowed" (defArgs (top 23)) (defBody (top 23)) (defScope (top 23)) [] [] f__law_allowed fd__law_allowed
  g__law_allowed : mg "_law_allowed" = some (.ref f__law_allowed)
  f__law_cut : Addr
  fd__law_cut : FuncData
  F__law_cut : FunD K "_law_cut" "_law_cut" (defArgs (top 24)) (defBody (top 24)) (defScope (top 24)) [] [] f__law_cut fd__law_cut
  g__law_cut : mg "_law_cut" = some (.ref f__law_cut)
  f__law_reached : Addr
  fd__law_reached : FuncData
  F__law_reached : FunD K "_law_reached" "_law_reached" (defArgs (top 25)) (defBody (top 25)) (defScope (top 25)) [] [] f__law_reached fd__law_reached
  g__law_reached : mg "_law_reached" = some (.ref f__law_reached)
  f__law_two : Addr
  fd__law_two : FuncData
  F__law_two : FunD K "_law_two" "_law_two" (defArgs (top 26)) (defBody (top 26)) (defScope (top 26)) [] [] f__law_two fd__law_two
  g__law_two : mg "_law_two" = some (.ref f__law_two)
  f__law_small : Addr
  fd__law_small : FuncData
  F__law_small : FunD K "_law_small" "_law_small" (defArgs (top 27)) (defBody (top 27)) (defScope (top 27)) [] [] f__law_small fd__law_small
  g__law_small : mg "_law_small" = some (.ref f__law_small)
  f__law_wide : Addr
  fd__law_wide : FuncData
  F__law_wide : FunD K "_law_wide" "_law_wide" (defArgs (top 28)) (defBody (top 28)) (defScope (top 28)) [] [] f__law_wide fd__law_wide
  g__law_wide : mg "_law_wide" = some (.ref f__law_wide)
  f__law_near : Addr
  fd__law_near : FuncData
  F__law_near : FunD K "_law_near" "_law_near" (defArgs (top 29)) (defBody (top 29)) (defScope (top 29)) [] [] f__law_near fd__law_near
  g__law_near : mg "_law_near" = some (.ref f__law_near)
  f__law_near_cuts : Addr
  fd__law_near_cuts : FuncData
  F__law_near_cuts : FunD K "_law_near_cuts" "_law_near_cuts" (defArgs (top 30)) (defBody (top 30)) (defScope (top 30)) [] [] f__law_near_cuts fd__law_near_cuts
  g__law_near_cuts : mg "_law_near_cuts" = some (.ref f__law_near_cuts)
  f__law_enough : Addr
  fd__law_enough : FuncData
  F__law_enough : FunD K "_law_enough" "_law_enough" (defArgs (top 31)) (defBody (top 31)) (defScope (top 31)) [] [] f__law_enough fd__law_enough
  g__law_enough : mg "_law_enough" = some (.ref f__law_enough)
  f__law_slack : Addr
  fd__law_slack : FuncData
  F__law_slack : FunD K "_law_slack" "_law_slack" (defArgs (top 32)) (defBody (top 32)) (defScope (top 32)) [] [] f__law_slack fd__law_slack
  g__law_slack : mg "_law_slack" = some (.ref f__law_slack)
  f_law : Addr
  fd_law : FuncData
  F_law : FunD K "law" "law" (defArgs (top 33)) (defBody (top 33)) (defScope (top 33)) [] [] f_law fd_law
  g_law : mg "law" = some (.ref f_law)
  n_abs : mg "abs" = none
  n_all : mg "all" = none
  n_bool : mg "bool" = none
  n_enumerate : mg "enumerate" = none
  n_int : mg "int" = none
  n_isinstance : mg "isinstance" = none
  n_len : mg "len" = none
  n_list : mg "list" = none
  n_max : mg "max" = none
  n_min : mg "min" = none
  n_range : mg "range" = none
  n_repr : mg "repr" = none
  n_sorted : mg "sorted" = none
  n_sum : mg "sum" = none
  n_tuple : mg "tuple" = none
  n_zip : mg "zip" = none
abbrev n_is_integer : List Str := ["value"]
theorem sc_is_integer : FnScope n_is_integer ["value"] (defScope (top 1)) := ⟨rfl, rfl, rfl, by decide +kernel, rfl, by decide +kernel, by decide +kernel⟩
theorem bd_is_integer {K : PySem.W.Frag} {mg : Str → Option Value} (C : Fx K mg) : Binds K C.fd_is_integer ["value"] [] := C.F_is_integer.bindsN fun _ _ _ _ _ _ us hl => match us, hl with | [_], _ => rfl
abbrev n_is_number : List Str := ["value"]
theorem sc_is_number : FnScope n_is_number ["value"] (defScope (top 2)) := ⟨rfl, rfl, rfl, by decide +kernel, rfl, by decide +kernel, by decide +kernel⟩
theorem bd_is_number {K : PySem.W.Frag} {mg : Str → Option Value} (C : Fx K mg) : Binds K C.fd_is_number ["value"] [] := C.F_is_number.bindsN fun _ _ _ _ _ _ us hl => match us, hl with | [_], _ => rfl
abbrev n_is_index : List Str := ["value", "many"]
theorem sc_is_index : FnScope n_is_index ["value", "many"] (defScope (top 3)) := ⟨rfl, rfl, rfl, by decide +kernel, rfl, by decide +kernel, by decide +kernel⟩
theorem bd_is_index {K : PySem.W.Frag} {mg : Str → Option Value} (C : Fx K mg) : Binds K C.fd_is_index ["value", "many"] [] := C.F_is_index.bindsN fun _ _ _ _ _ _ us hl => match us, hl with | [_, _], _ => rfl
abbrev n_is_sequence : List Str := ["value"]
theorem sc_is_sequence : FnScope n_is_sequence ["value"] (defScope (top 4)) := ⟨rfl, rfl, rfl, by decide +kernel, rfl, by decide +kernel, by decide +kernel⟩
theorem bd_is_sequence {K : PySem.W.Frag} {mg : Str → Option Value} (C : Fx K mg) : Binds K C.fd_is_sequence ["value"] [] := C.F_is_sequence.bindsN fun _ _ _ _ _ _ us hl => match us, hl with | [_], _ => rfl
abbrev n_is_row_below : List Str := ["caps", "value", "one", "cap"]
theorem sc_is_row_below : FnScope n_is_row_below ["caps", "value"] (defScope (top 6)) := ⟨rfl, rfl, rfl, by decide +kernel, rfl, by decide +kernel, by decide +kernel⟩
theorem bd_is_row_below {K : PySem.W.Frag} {mg : Str → Option Value} (C : Fx K mg) : Binds K C.fd_is_row_below ["caps", "value"] [] := C.F_is_row_below.bindsN fun _ _ _ _ _ _ us hl => match us, hl with | [_, _], _ => rfl
abbrev n_weighed : List Str := ["weights", "row", "weight", "value"]
theorem sc_weighed : FnScope n_weighed ["weights", "row"] (defScope (top 8)) := ⟨rfl, rfl, rfl, by decide +kernel, rfl, by decide +kernel, by decide +kernel⟩
theorem bd_weighed {K : PySem.W.Frag} {mg : Str → Option Value} (C : Fx K mg) : Binds K C.fd_weighed ["weights", "row"] [] := C.F_weighed.bindsN fun _ _ _ _ _ _ us hl => match us, hl with | [_, _], _ => rfl
abbrev n_is_cut : List Str := ["caps", "weights", "low", "high", "value", "row", "one", "other", "up", "down", "key"]
theorem sc_is_cut : FnScope n_is_cut ["caps", "weights", "low", "high", "value"] (defScope (top 9)) := ⟨rfl, rfl, rfl, by decide +kernel, rfl, by decide +kernel, by decide +kernel⟩
theorem bd_is_cut {K : PySem.W.Frag} {mg : Str → Option Value} (C : Fx K mg) : Binds K C.fd_is_cut ["caps", "weights", "low", "high", "value"] [] := C.F_is_cut.bindsN fun _ _ _ _ _ _ us hl => match us, hl with | [_, _, _, _, _], _ => rfl
abbrev n_first_within : List Str := ["step", "modulus", "low", "high", "many", "turns"]
theorem sc_first_within : FnScope n_first_within ["step", "modulus", "low", "high"] (defScope (top 10)) := ⟨rfl, rfl, rfl, by decide +kernel, rfl, by decide +kernel, by decide +kernel⟩
theorem bd_first_within {K : PySem.W.Frag} {mg : Str → Option Value} (C : Fx K mg) : Binds K C.fd_first_within ["step", "modulus", "low", "high"] [] := C.F_first_within.bindsN fun _ _ _ _ _ _ us hl => match us, hl with | [_, _, _, _], _ => rfl
abbrev n_first_row : List Str := ["caps", "weights", "low", "high", "start", "first", "second", "begin", "rest", "wide", "turns", "value"]
theorem sc_first_row : FnScope n_first_row ["caps", "weights", "low", "high", "start"] (defScope (top 11)) := ⟨rfl, rfl, rfl, by decide +kernel, rfl, by decide +kernel, by decide +kernel⟩
theorem bd_first_row {K : PySem.W.Frag} {mg : Str → Option Value} (C : Fx K mg) : Binds K C.fd_first_row ["caps", "weights", "low", "high", "start"] [] := C.F_first_row.bindsN fun _ _ _ _ _ _ us hl => match us, hl with | [_, _, _, _, _], _ => rfl
abbrev n_two_cut : List Str := ["caps", "weights", "low", "high", "other", "least", "most", "one"]
theorem sc_two_cut : FnScope n_two_cut ["caps", "weights", "low", "high"] (defScope (top 12)) := ⟨rfl, rfl, rfl, by decide +kernel, rfl, by decide +kernel, by decide +kernel⟩
theorem bd_two_cut {K : PySem.W.Frag} {mg : Str → Option Value} (C : Fx K mg) : Binds K C.fd_two_cut ["caps", "weights", "low", "high"] [] := C.F_two_cut.bindsN fun _ _ _ _ _ _ us hl => match us, hl with | [_, _, _, _], _ => rfl
abbrev n_heaviest : List Str := ["caps", "weights", "some", "key", "weight"]
theorem sc_heaviest : FnScope n_heaviest ["caps", "weights"] (defScope (top 13)) := ⟨rfl, rfl, rfl, by decide +kernel, rfl, by decide +kernel, by decide +kernel⟩
theorem bd_heaviest {K : PySem.W.Frag} {mg : Str → Option Value} (C : Fx K mg) : Binds K C.fd_heaviest ["caps", "weights"] [] := C.F_heaviest.bindsN fun _ _ _ _ _ _ us hl => match us, hl with | [_, _], _ => rfl
abbrev n_enough_slack : List Str := ["caps", "weights", "keys"]
theorem sc_enough_slack : FnScope n_enough_slack ["caps", "weights"] (defScope (top 14)) := ⟨rfl, rfl, rfl, by decide +kernel, rfl, by decide +kernel, by decide +kernel⟩
theorem bd_enough_slack {K : PySem.W.Frag} {mg : Str → Option Value} (C : Fx K mg) : Binds K C.fd_enough_slack ["caps", "weights"] [] := C.F_enough_slack.bindsN fun _ _ _ _ _ _ us hl => match us, hl with | [_, _], _ => rfl
abbrev n_slack_cut : List Str := ["caps", "weights", "keys", "units", "unit", "key"]
theorem sc_slack_cut : FnScope n_slack_cut ["caps", "weights"] (defScope (top 15)) := ⟨rfl, rfl, rfl, by decide +kernel, rfl, by decide +kernel, by decide +kernel⟩
theorem bd_slack_cut {K : PySem.W.Frag} {mg : Str → Option Value} (C : Fx K mg) : Binds K C.fd_slack_cut ["caps", "weights"] [] := C.F_slack_cut.bindsN fun _ _ _ _ _ _ us hl => match us, hl with | [_, _], _ => rfl
abbrev n__law_draw : List Str := ["_law_script", "_law_salt", "_law_cell", "_law_cells", "_law_blend"]
theorem sc__law_draw : FnScope n__law_draw ["_law_script", "_law_salt"] (defScope (top 17)) := ⟨rfl, rfl, rfl, by decide +kernel, rfl, by decide +kernel, by decide +kernel⟩
theorem bd__law_draw {K : PySem.W.Frag} {mg : Str → Option Value} (C : Fx K mg) : Binds K C.fd__law_draw ["_law_script", "_law_salt"] [] := C.F__law_draw.bindsN fun _ _ _ _ _ _ us hl => match us, hl with | [_, _], _ => rfl
abbrev n__law_any : List Str := ["_law_deal", "_law_bound", "_law_rest"]
theorem sc__law_any : FnScope n__law_any ["_law_deal", "_law_bound"] (defScope (top 18)) := ⟨rfl, rfl, rfl, by decide +kernel, rfl, by decide +kernel, by decide +kernel⟩
theorem bd__law_any {K : PySem.W.Frag} {mg : Str → Option Value} (C : Fx K mg) : Binds K C.fd__law_any ["_law_deal", "_law_bound"] [] := C.F__law_any.bindsN fun _ _ _ _ _ _ us hl => match us, hl with | [_, _], _ => rfl
abbrev n__law_of : List Str := ["_law_deal", "_law_some"]
theorem sc__law_of : FnScope n__law_of ["_law_deal", "_law_some"] (defScope (top 19)) := ⟨rfl, rfl, rfl, by decide +kernel, rfl, by decide +kernel, by decide +kernel⟩
theorem bd__law_of {K : PySem.W.Frag} {mg : Str → Option Value} (C : Fx K mg) : Binds K C.fd__law_of ["_law_deal", "_law_some"] [] := C.F__law_of.bindsN fun _ _ _ _ _ _ us hl => match us, hl with | [_, _], _ => rfl
abbrev n__law_great : List Str := ["_law_deal", "_law_bound", "_law_number", "_law_turn"]
theorem sc__law_great : FnScope n__law_great ["_law_deal", "_law_bound"] (defScope (top 20)) := ⟨rfl, rfl, rfl, by decide +kernel, rfl, by decide +kernel, by decide +kernel⟩
theorem bd__law_great {K : PySem.W.Frag} {mg : Str → Option Value} (C : Fx K mg) : Binds K C.fd__law_great ["_law_deal", "_law_bound"] [] := C.F__law_great.bindsN fun _ _ _ _ _ _ us hl => match us, hl with | [_, _], _ => rfl
abbrev n__law_weighed : List Str := ["_law_weights", "_law_row", "_law_weight", "_law_value"]
theorem sc__law_weighed : FnScope n__law_weighed ["_law_weights", "_law_row"] (defScope (top 21)) := ⟨rfl, rfl, rfl, by decide +kernel, rfl, by decide +kernel, by decide +kernel⟩
theorem bd__law_weighed {K : PySem.W.Frag} {mg : Str → Option Value} (C : Fx K mg) : Binds K C.fd__law_weighed ["_law_weights", "_law_row"] [] := C.F__law_weighed.bindsN fun _ _ _ _ _ _ us hl => match us, hl with | [_, _], _ => rfl
abbrev n__law_rows : List Str := ["_law_caps", "_law_weights", "_law_low", "_law_high", "_law_found", "_law_cap", "_law_longer", "_law_row", "_law_value"]
theorem sc__law_rows : FnScope n__law_rows ["_law_caps", "_law_weights", "_law_low", "_law_high"] (defScope (top 22)) := ⟨rfl, rfl, rfl, by decide +kernel, rfl, by decide +kernel, by decide +kernel⟩
theorem bd__law_rows {K : PySem.W.Frag} {mg : Str → Option Value} (C : Fx K mg) : Binds K C.fd__law_rows ["_law_caps", "_law_weights", "_law_low", "_law_high"] [] := C.F__law_rows.bindsN fun _ _ _ _ _ _ us hl => match us, hl with | [_, _, _, _], _ => rfl
abbrev n__law_allowed : List Str := ["_law_caps", "_law_weights", "_law_low", "_law_high", "_law_row", "_law_value", "_law_cap"]
theorem sc__law_allowed : FnScope n__law_allowed ["_law_caps", "_law_weights", "_law_low", "_law_high", "_law_row"] (defScope (top 23)) := ⟨rfl, rfl, rfl, by decide +kernel, rfl, by decide +kernel, by decide +kernel⟩
theorem bd__law_allowed {K : PySem.W.Frag} {mg : Str → Option Value} (C : Fx K mg) : Binds K C.fd__law_allowed ["_law_caps", "_law_weights", "_law_low", "_law_high", "_law_row"] [] := C.F__law_allowed.bindsN fun _ _ _ _ _ _ us hl => match us, hl with | [_, _, _, _, _], _ => rfl
abbrev n__law_cut : List Str := ["_law_caps", "_law_weights", "_law_low", "_law_high", "_law_told", "_law_one", "_law_other", "_law_up", "_law_down", "_law_total", "_law_key"]
theorem sc__law_cut : FnScope n__law_cut ["_law_caps", "_law_weights", "_law_low", "_law_high", "_law_told"] (defScope (top 24)) := ⟨rfl, rfl, rfl, by decide +kernel, rfl, by decide +kernel, by decide +kernel⟩
theorem bd__law_cut {K : PySem.W.Frag} {mg : Str → Option Value} (C : Fx K mg) : Binds K C.fd__law_cut ["_law_caps", "_law_weights", "_law_low", "_law_high", "_law_told"] [] := C.F__law_cut.bindsN fun _ _ _ _ _ _ us hl => match us, hl with | [_, _, _, _, _], _ => rfl
abbrev n__law_reached : List Str := ["_law_rows_here", "_law_one", "_law_found", "_law_fresh", "_law_left", "_law_turn", "_law_row", "_law_near_here", "_law_k"]
theorem sc__law_reached : FnScope n__law_reached ["_law_rows_here", "_law_one"] (defScope (top 25)) := ⟨rfl, rfl, rfl, by decide +kernel, rfl, by decide +kernel, by decide +kernel⟩
theorem bd__law_reached {K : PySem.W.Frag} {mg : Str → Option Value} (C : Fx K mg) : Binds K C.fd__law_reached ["_law_rows_here", "_law_one"] [] := C.F__law_reached.bindsN fun _ _ _ _ _ _ us hl => match us, hl with | [_, _], _ => rfl
abbrev n__law_two : List Str := ["_law_caps", "_law_weights", "_law_low", "_law_high", "_law_joined", "_law_turn", "_law_told"]
theorem sc__law_two : FnScope n__law_two ["_law_caps", "_law_weights", "_law_low", "_law_high", "_law_joined"] (defScope (top 26)) := ⟨rfl, rfl, rfl, by decide +kernel, rfl, by decide +kernel, by decide +kernel⟩
theorem bd__law_two {K : PySem.W.Frag} {mg : Str → Option Value} (C : Fx K mg) : Binds K C.fd__law_two ["_law_caps", "_law_weights", "_law_low", "_law_high", "_law_joined"] [] := C.F__law_two.bindsN fun _ _ _ _ _ _ us hl => match us, hl with | [_, _, _, _, _], _ => rfl
abbrev n__law_small : List Str := ["_law_deal", "_law_caps", "_law_weights", "_law_low", "_law_high", "_law_rows_here", "_law_joined", "_law_times", "_law_least", "_law_most", "_law_weight"]
theorem sc__law_small : FnScope n__law_small ["_law_deal"] (defScope (top 27)) := ⟨rfl, rfl, rfl, by decide +kernel, rfl, by decide +kernel, by decide +kernel⟩
theorem bd__law_small {K : PySem.W.Frag} {mg : Str → Option Value} (C : Fx K mg) : Binds K C.fd__law_small ["_law_deal"] [] := C.F__law_small.bindsN fun _ _ _ _ _ _ us hl => match us, hl with | [_], _ => rfl
abbrev n__law_wide : List Str := ["_law_deal", "_law_weights", "_law_one", "_law_caps", "_law_total", "_law_moved", "_law_low", "_law_high", "_law_turn"]
theorem sc__law_wide : FnScope n__law_wide ["_law_deal"] (defScope (top 28)) := ⟨rfl, rfl, rfl, by decide +kernel, rfl, by decide +kernel, by decide +kernel⟩
theorem bd__law_wide {K : PySem.W.Frag} {mg : Str → Option Value} (C : Fx K mg) : Binds K C.fd__law_wide ["_law_deal"] [] := C.F__law_wide.bindsN fun _ _ _ _ _ _ us hl => match us, hl with | [_], _ => rfl
abbrev n__law_near : List Str := ["_law_deal", "_law_rows_here", "_law_caps", "_law_pair", "_law_one", "_law_other", "_law_key", "_law_bent", "_law_some"]
theorem sc__law_near : FnScope n__law_near ["_law_deal", "_law_rows_here", "_law_caps", "_law_pair"] (defScope (top 29)) := ⟨rfl, rfl, rfl, by decide +kernel, rfl, by decide +kernel, by decide +kernel⟩
theorem bd__law_near {K : PySem.W.Frag} {mg : Str → Option Value} (C : Fx K mg) : Binds K C.fd__law_near ["_law_deal", "_law_rows_here", "_law_caps", "_law_pair"] [] := C.F__law_near.bindsN fun _ _ _ _ _ _ us hl => match us, hl with | [_, _, _, _], _ => rfl
abbrev n__law_near_cuts : List Str := ["_law_deal", "_law_caps", "_law_weights", "_law_low", "_law_high", "_law_rows_here", "_law_turn", "_law_one", "_law_cuts", "_law_other", "_law_value", "_law_due", "_law_row", "_law_key"]
theorem sc__law_near_cuts : FnScope n__law_near_cuts ["_law_deal", "_law_caps", "_law_weights", "_law_low", "_law_high"] (defScope (top 30)) := ⟨rfl, rfl, rfl, by decide +kernel, rfl, by decide +kernel, by decide +kernel⟩
theorem bd__law_near_cuts {K : PySem.W.Frag} {mg : Str → Option Value} (C : Fx K mg) : Binds K C.fd__law_near_cuts ["_law_deal", "_law_caps", "_law_weights", "_law_low", "_law_high"] [] := C.F__law_near_cuts.bindsN fun _ _ _ _ _ _ us hl => match us, hl with | [_, _, _, _, _], _ => rfl
abbrev n__law_enough : List Str := ["_law_caps", "_law_weights", "_law_some", "_law_weight", "_law_cap"]
theorem sc__law_enough : FnScope n__law_enough ["_law_caps", "_law_weights"] (defScope (top 31)) := ⟨rfl, rfl, rfl, by decide +kernel, rfl, by decide +kernel, by decide +kernel⟩
theorem bd__law_enough {K : PySem.W.Frag} {mg : Str → Option Value} (C : Fx K mg) : Binds K C.fd__law_enough ["_law_caps", "_law_weights"] [] := C.F__law_enough.bindsN fun _ _ _ _ _ _ us hl => match us, hl with | [_, _], _ => rfl
abbrev n__law_slack : List Str := ["_law_caps", "_law_weights", "_law_due", "_law_told", "_law_low", "_law_one", "_law_other"]
theorem sc__law_slack : FnScope n__law_slack ["_law_caps", "_law_weights"] (defScope (top 32)) := ⟨rfl, rfl, rfl, by decide +kernel, rfl, by decide +kernel, by decide +kernel⟩
theorem bd__law_slack {K : PySem.W.Frag} {mg : Str → Option Value} (C : Fx K mg) : Binds K C.fd__law_slack ["_law_caps", "_law_weights"] [] := C.F__law_slack.bindsN fun _ _ _ _ _ _ us hl => match us, hl with | [_, _], _ => rfl
abbrev n_law : List Str := ["_law_script", "_law_deal", "_law_caps", "_law_weights", "_law_low", "_law_rows_here", "_law_one", "_law_other", "_law_agree", "_law_great_here", "_law_key", "_law_cap", "_law_row"]
theorem sc_law : FnScope n_law ["_law_script"] (defScope (top 33)) := ⟨rfl, rfl, rfl, by decide +kernel, rfl, by decide +kernel, by decide +kernel⟩
theorem bd_law {K : PySem.W.Frag} {mg : Str → Option Value} (C : Fx K mg) : Binds K C.fd_law ["_law_script"] [] := C.F_law.bindsN fun _ _ _ _ _ _ us hl => match us, hl with | [_], _ => rfl
theorem kw_two_cut_0_high_low_weights_caps {K : PySem.W.Frag} {mg : Str → Option Value} (C : Fx K mg) : KwB C.fd_two_cut ["caps", "weights", "low", "high"] 0 ["high", "low", "weights", "caps"] [3, 2, 1, 0] := FunD.kwB C.F_two_cut _ _ _ fun _ _ _ _ _ _ us ws h1 h2 => match us, h1, ws, h2 with | [], _, [_, _, _, _], _ => rfl
theorem kw_is_cut_0_value_high_low_weights_caps {K : PySem.W.Frag} {mg : Str → Option Value} (C : Fx K mg) : KwB C.fd_is_cut ["caps", "weights", "low", "high", "value"] 0 ["value", "high", "low", "weights", "caps"] [4, 3, 2, 1, 0] := FunD.kwB C.F_is_cut _ _ _ fun _ _ _ _ _ _ us ws h1 h2 => match us, h1, ws, h2 with | [], _, [_, _, _, _, _], _ => rfl
theorem kw_enough_slack_0_weights_caps {K : PySem.W.Frag} {mg : Str → Option Value} (C : Fx K mg) : KwB C.fd_enough_slack ["caps", "weights"] 0 ["weights", "caps"] [1, 0] := FunD.kwB C.F_enough_slack _ _ _ fun _ _ _ _ _ _ us ws h1 h2 => match us, h1, ws, h2 with | [], _, [_, _], _ => rfl
theorem kw_slack_cut_0_weights_caps {K : PySem.W.Frag} {mg : Str → Option Value} (C : Fx K mg) : KwB C.fd_slack_cut ["caps", "weights"] 0 ["weights", "caps"] [1, 0] := FunD.kwB C.F_slack_cut _ _ _ fun _ _ _ _ _ _ us ws h1 h2 => match us, h1, ws, h2 with | [], _, [_, _], _ => rfl
end Wk
end

section
set_option Elab.async false
set_option linter.all false
set_option maxRecDepth 100000
set_option maxHeartbeats 0
namespace Wk
open PySem PySem.Spec PyProof.Rows L2 DL
def b_is_integer : SM :=
  (sRet (eAnd (e1 (dIsi "int") (.ev (eVar 0))) (eNot (e1 (dIsi "bool") (.ev (eVar 0))))))
def s_is_integer : Sem' := runDef 1 1 b_is_integer
theorem ok_is_integer {P : Program} {w : World} {K : PySem.W.Frag} {mg : Str → Option Value} {base : Heap} (C : Fx K mg) : FnG P w K mg base 1 C.f_is_integer C.fd_is_integer ["value"] (spD K mg 1 s_is_integer) :=
  fnD (k := 0) (N := n_is_integer) (sm := b_is_integer) C.F_is_integer sc_is_integer (by decide) fun cdv A outer s H vs E hr hgd =>
  (psd_one (psd_ret (pd_and (pd_isi rfl C.n_isinstance rfl C.n_int (po_ev (pd_var 0))) (pd_one (pd_not (pd_isi rfl C.n_isinstance rfl C.n_bool (po_ev (pd_var 0))))))))

def b_is_number : SM :=
  (sRet (eAnd (eCall s_is_integer [(.ev (eVar 0))]) (e2 dGe (.ev (eVar 0)) (.ev (eC (.int 0))))))
def s_is_number : Sem' := runDef 1 1 b_is_number
theorem ok_is_number {P : Program} {w : World} {K : PySem.W.Frag} {mg : Str → Option Value} {base : Heap} (C : Fx K mg) : FnG P w K mg base 2 C.f_is_number C.fd_is_number ["value"] (spD K mg 1 s_is_number) :=
  fnD (k := 1) (N := n_is_number) (sm := b_is_number) C.F_is_number sc_is_number (by decide) fun cdv A outer s H vs E hr hgd =>
  (psd_one (psd_ret (pd_and (pd_call ((ok_is_integer C).mono (by decide)) hr hgd rfl C.g_is_integer C.F_is_integer.kp (bd_is_integer C) (takes_of rfl rfl rfl rfl) rfl (par_cons (po_ev (pd_var 0)) par_nil)) (pd_one (pd_cmp op_ge (vop_cmp _) (po_ev (pd_var 0)) (po_ev pd_int) (by rfl))))))

def b_is_index : SM :=
  (sRet (eAnd (eCall s_is_number [(.ev (eVar 0))]) (e2 dLt (.ev (eVar 0)) (.ev (eVar 1)))))
def s_is_index : Sem' := runDef 2 2 b_is_index
theorem ok_is_index {P : Program} {w : World} {K : PySem.W.Frag} {mg : Str → Option Value} {base : Heap} (C : Fx K mg) : FnG P w K mg base 3 C.f_is_index C.fd_is_index ["value", "many"] (spD K mg 2 s_is_index) :=
  fnD (k := 2) (N := n_is_index) (sm := b_is_index) C.F_is_index sc_is_index (by decide) fun cdv A outer s H vs E hr hgd =>
  (psd_one (psd_ret (pd_and (pd_call ((ok_is_number C).mono (by decide)) hr hgd rfl C.g_is_number C.F_is_number.kp (bd_is_number C) (takes_of rfl rfl rfl rfl) rfl (par_cons (po_ev (pd_var 0)) par_nil)) (pd_one (pd_cmp op_lt (vop_cmp _) (po_ev (pd_var 0)) (po_ev (pd_var 1)) (by rfl))))))

def b_is_sequence : SM :=
  (sRet (e1 (dIsis ["list", "tuple"]) (.ev (eVar 0))))
def s_is_sequence : Sem' := runDef 1 1 b_is_sequence
theorem ok_is_sequence {P : Program} {w : World} {K : PySem.W.Frag} {mg : Str → Option Value} {base : Heap} (C : Fx K mg) : FnG P w K mg base 1 C.f_is_sequence C.fd_is_sequence ["value"] (spD K mg 1 s_is_sequence) :=
  fnD (k := 0) (N := n_is_sequence) (sm := b_is_sequence) C.F_is_sequence sc_is_sequence (by decide) fun cdv A outer s H vs E hr hgd =>
  (psd_one (psd_ret (pd_isi2 rfl C.n_isinstance rfl C.n_list rfl C.n_tuple (po_ev (pd_var 0)))))

def b_is_row_below : SM :=
  (sSeq (sIf (tOrB (tNotB (eT (eCall s_is_sequence [(.ev (eVar 1))]))) (eT (e2 dNe (.ev (eB (on1 dLen) [(.ev (eVar 1))])) (.ev (eB (on1 dLen) [(.ev (eVar 0))]))))) (sRet (eC (.bl false))) sNx)
  (sRet (eB (on1 dAll) [(.ev (eL (eComp (iZp (eVar 1) (eVar 0)) [2, 3] (gS 2 (gsCons (gN 2) (gsCons (gN 3) gsNil))) cYes (eCall s_is_index [(.ev (eVar 2)), (.ev (e2 dAdd (.ev (eVar 3)) (.ev (eC (.int 1)))))]))))])))
def s_is_row_below : Sem' := runDef 2 4 b_is_row_below
theorem ok_is_row_below {P : Program} {w : World} {K : PySem.W.Frag} {mg : Str → Option Value} {base : Heap} (C : Fx K mg) : FnG P w K mg base 4 C.f_is_row_below C.fd_is_row_below ["caps", "value"] (spD K mg 2 s_is_row_below) :=
  fnD (k := 3) (N := n_is_row_below) (sm := b_is_row_below) C.F_is_row_below sc_is_row_below (by decide) fun cdv A outer s H vs E hr hgd =>
  (psd_cons (psd_if (ptd_w (pwd_or (ptd_not (ptd_val (pd_call ((ok_is_sequence C).mono (by decide)) hr hgd rfl C.g_is_sequence C.F_is_sequence.kp (bd_is_sequence C) (takes_of rfl rfl rfl rfl) rfl (par_cons (po_ev (pd_var 1)) par_nil)))) (pwd_or1 (ptd_cmp (op_neD (hu64 hr)) vop_ne (po_ev (pd_b call_lenD' vop_len rfl C.n_len (par_cons (po_ev (pd_var 1)) par_nil))) (po_ev (pd_b call_lenD' vop_len rfl C.n_len (par_cons (po_ev (pd_var 0)) par_nil))) (by rfl))))) (psd_one (psd_ret pd_bl)) psd_nil)
  (psd_one (psd_ret (pd_b (cr_all rfl) (vop_onBs _) rfl C.n_all (par_cons (po_ev (pl_pd (pl_comp [("one", 2), ("cap", 3)] rfl sc_is_row_below.nd (pid_zip rfl C.n_zip (pd_var 1) (pd_var 0)) (show BlkOk n_is_row_below (defScope (top 6)) _ _ from ⟨rfl, by decide +kernel, by decide +kernel, by decide +kernel, by decide +kernel⟩) (fun _ _ _ _ _ => (pgd_seq rfl (pgsd_cons (pgd_name 2 [2, 3] (by decide) sc_is_row_below.nd) (pgsd_cons (pgd_name 3 [2, 3] (by decide) sc_is_row_below.nd) pgsd_nil)))) (fun _ _ _ _ _ => ptsd_nil) (fun _ _ _ _ _ => (pd_call ((ok_is_index C).mono (by decide)) hr hgd rfl C.g_is_index C.F_is_index.kp (bd_is_index C) takesW0 rfl (par_cons (po_ev (pd_var 2)) (par_cons (po_ev (pd_bin op_addD vop_add (po_ev (pd_var 3)) (po_ev pd_int))) par_nil))))))) par_nil)))))

def b_weighed : SM :=
  (sRet (eB (on1 dSum) [(.ev (eL (eComp (iZp (eVar 0) (eVar 1)) [2, 3] (gS 2 (gsCons (gN 2) (gsCons (gN 3) gsNil))) cYes (e2 dMul (.ev (eVar 2)) (.ev (eVar 3))))))]))
def s_weighed : Sem' := runDef 2 4 b_weighed
theorem ok_weighed {P : Program} {w : World} {K : PySem.W.Frag} {mg : Str → Option Value} {base : Heap} (C : Fx K mg) : FnG P w K mg base 1 C.f_weighed C.fd_weighed ["weights", "row"] (spD K mg 2 s_weighed) :=
  fnD (k := 0) (N := n_weighed) (sm := b_weighed) C.F_weighed sc_weighed (by decide) fun cdv A outer s H vs E hr hgd =>
  (psd_one (psd_ret (pd_b (cr_sum rfl) vop_sum rfl C.n_sum (par_cons (po_ev (pl_pd (pl_comp [("weight", 2), ("value", 3)] rfl sc_weighed.nd (pid_zip rfl C.n_zip (pd_var 0) (pd_var 1)) (show BlkOk n_weighed (defScope (top 8)) _ _ from ⟨rfl, by decide +kernel, by decide +kernel, by decide +kernel, by decide +kernel⟩) (fun _ _ _ _ _ => (pgd_seq rfl (pgsd_cons (pgd_name 2 [2, 3] (by decide) sc_weighed.nd) (pgsd_cons (pgd_name 3 [2, 3] (by decide) sc_weighed.nd) pgsd_nil)))) (fun _ _ _ _ _ => ptsd_nil) (fun _ _ _ _ _ => (pd_bin op_mulD vop_mul (po_ev (pd_var 2)) (po_ev (pd_var 3))))))) par_nil))))

def b_is_cut : SM :=
  (sSeq (sIf (tOrB (tNotB (eT (e1 (dIsi "tuple") (.ev (eVar 4))))) (eT (e2 dNe (.ev (eB (on1 dLen) [(.ev (eVar 4))])) (.ev (eC (.int 2)))))) (sRet (eC (.bl false))) sNx)
  (sSeq (sFor (iS (eVar 4)) (gN 5) (sIf (tOrB (tNotB (eT (e1 (dIsi "tuple") (.ev (eVar 5))))) (tOrB (tNotB (eT (eCall s_is_row_below [(.ev (eVar 0)), (.ev (eVar 5))]))) (tNotB (eT (eChain dLe dLe (eVar 2) (eCall s_weighed [(.ev (eVar 1)), (.ev (eVar 5))]) (eVar 3)))))) (sRet (eC (.bl false))) sNx))
  (sSeq (sAsg (eVar 4) (gS 2 (gsCons (gN 6) (gsCons (gN 7) gsNil))))
  (sSeq (sSet 8 (eL (eComp (iR1 (.ev (eB (on1 dLen) [(.ev (eVar 0))]))) [10] (gN 10) (eT (e2 dGt (.ev (e2 dIx (.ev (eVar 7)) (.ev (eVar 10)))) (.ev (e2 dIx (.ev (eVar 6)) (.ev (eVar 10)))))) (eVar 10))))
  (sSeq (sSet 9 (eL (eComp (iR1 (.ev (eB (on1 dLen) [(.ev (eVar 0))]))) [10] (gN 10) (eT (e2 dLt (.ev (e2 dIx (.ev (eVar 7)) (.ev (eVar 10)))) (.ev (e2 dIx (.ev (eVar 6)) (.ev (eVar 10)))))) (eVar 10))))
  (sSeq (sIf (tOrB (eT (e2 dNe (.ev (eB (on1 dLen) [(.ev (eVar 8))])) (.ev (eC (.int 1))))) (eT (e2 dNe (.ev (eB (on1 dLen) [(.ev (eVar 9))])) (.ev (eC (.int 1)))))) (sRet (eC (.bl false))) sNx)
  (sRet (eAnd (e2 dGt (.ev (e2 dAdd (.ev (eCall s_weighed [(.ev (eVar 1)), (.ev (eVar 6))])) (.ev (e2 dIx (.ev (eVar 1)) (.ev (e2 dIx (.ev (eVar 8)) (.ev (eC (.int 0))))))))) (.ev (eVar 3))) (e2 dLt (.ev (e2 dSub (.ev (eCall s_weighed [(.ev (eVar 1)), (.ev (eVar 6))])) (.ev (e2 dIx (.ev (eVar 1)) (.ev (e2 dIx (.ev (eVar 9)) (.ev (eC (.int 0))))))))) (.ev (eVar 2)))))))))))
def s_is_cut : Sem' := runDef 5 11 b_is_cut
theorem ok_is_cut {P : Program} {w : World} {K : PySem.W.Frag} {mg : Str → Option Value} {base : Heap} (C : Fx K mg) : FnG P w K mg base 5 C.f_is_cut C.fd_is_cut ["caps", "weights", "low", "high", "value"] (spD K mg 5 s_is_cut) :=
  fnD (k := 4) (N := n_is_cut) (sm := b_is_cut) C.F_is_cut sc_is_cut (by decide) fun cdv A outer s H vs E hr hgd =>
  (psd_cons (psd_if (ptd_w (pwd_or (ptd_not (ptd_val (pd_isi rfl C.n_isinstance rfl C.n_tuple (po_ev (pd_var 4))))) (pwd_or1 (ptd_cmp (op_neD (hu64 hr)) vop_ne (po_ev (pd_b call_lenD' vop_len rfl C.n_len (par_cons (po_ev (pd_var 4)) par_nil))) (po_ev pd_int) (by rfl))))) (psd_one (psd_ret pd_bl)) psd_nil)
  (psd_cons (psd_for (passes_of rfl) rfl (pid_seq (pd_var 4)) (pgd_name 5 [5] (by decide) sc_is_cut.nd) (psd_one (psd_if (ptd_w (pwd_or (ptd_not (ptd_val (pd_isi rfl C.n_isinstance rfl C.n_tuple (po_ev (pd_var 5))))) (pwd_or (ptd_not (ptd_val (pd_call ((ok_is_row_below C).mono (by decide)) hr hgd rfl C.g_is_row_below C.F_is_row_below.kp (bd_is_row_below C) (takes_of rfl rfl rfl rfl) rfl (par_cons (po_ev (pd_var 0)) (par_cons (po_ev (pd_var 5)) par_nil))))) (pwd_or1 (ptd_not (ptd_chain op_le op_le (vop_cmp _) (vop_cmp _) (pd_var 2) (pd_call ((ok_weighed C).mono (by decide)) hr hgd rfl C.g_weighed C.F_weighed.kp (bd_weighed C) (takes_of rfl rfl rfl rfl) rfl (par_cons (po_ev (pd_var 1)) (par_cons (po_ev (pd_var 5)) par_nil))) (pd_var 3))))))) (psd_one (psd_ret pd_bl)) psd_nil)))
  (psd_cons (psd_asg (pd_var 4) (pgd_seq rfl (pgsd_cons (pgd_name 6 [6, 7] (by decide) sc_is_cut.nd) (pgsd_cons (pgd_name 7 [6, 7] (by decide) sc_is_cut.nd) pgsd_nil))))
  (psd_cons (psd_setLc 8 [("key", 10)] rfl sc_is_cut.nd (pid_range1 rfl C.n_range (par_cons (po_ev (pd_b call_lenD' vop_len rfl C.n_len (par_cons (po_ev (pd_var 0)) par_nil))) par_nil)) (show BlkOk n_is_cut (defScope (top 9)) _ _ from ⟨rfl, by decide +kernel, by decide +kernel, by decide +kernel, by decide +kernel⟩) (fun _ _ _ _ _ => (pgd_name 10 [10] (by decide) sc_is_cut.nd)) (fun _ _ _ _ _ => (ptsd_one (ptd_cmp op_gt (vop_cmp _) (po_ev (pd_sub ix_seq vop_ix (po_ev (pd_var 7)) (po_ev (pd_var 10)) (by first | exact fun _ _ => rfl | decide))) (po_ev (pd_sub ix_seq vop_ix (po_ev (pd_var 6)) (po_ev (pd_var 10)) (by first | exact fun _ _ => rfl | decide))) (by rfl)))) (fun _ _ _ _ _ => (pd_var 10)) rfl)
  (psd_cons (psd_setLc 9 [("key", 10)] rfl sc_is_cut.nd (pid_range1 rfl C.n_range (par_cons (po_ev (pd_b call_lenD' vop_len rfl C.n_len (par_cons (po_ev (pd_var 0)) par_nil))) par_nil)) (show BlkOk n_is_cut (defScope (top 9)) _ _ from ⟨rfl, by decide +kernel, by decide +kernel, by decide +kernel, by decide +kernel⟩) (fun _ _ _ _ _ => (pgd_name 10 [10] (by decide) sc_is_cut.nd)) (fun _ _ _ _ _ => (ptsd_one (ptd_cmp op_lt (vop_cmp _) (po_ev (pd_sub ix_seq vop_ix (po_ev (pd_var 7)) (po_ev (pd_var 10)) (by first | exact fun _ _ => rfl | decide))) (po_ev (pd_sub ix_seq vop_ix (po_ev (pd_var 6)) (po_ev (pd_var 10)) (by first | exact fun _ _ => rfl | decide))) (by rfl)))) (fun _ _ _ _ _ => (pd_var 10)) rfl)
  (psd_cons (psd_if (ptd_w (pwd_or (ptd_cmp (op_neD (hu64 hr)) vop_ne (po_ev (pd_b call_lenD' vop_len rfl C.n_len (par_cons (po_ev (pd_var 8)) par_nil))) (po_ev pd_int) (by rfl)) (pwd_or1 (ptd_cmp (op_neD (hu64 hr)) vop_ne (po_ev (pd_b call_lenD' vop_len rfl C.n_len (par_cons (po_ev (pd_var 9)) par_nil))) (po_ev pd_int) (by rfl))))) (psd_one (psd_ret pd_bl)) psd_nil)
  (psd_one (psd_ret (pd_and (pd_cmp op_gt (vop_cmp _) (po_ev (pd_bin op_addD vop_add (po_ev (pd_call ((ok_weighed C).mono (by decide)) hr hgd rfl C.g_weighed C.F_weighed.kp (bd_weighed C) (takes_of rfl rfl rfl rfl) rfl (par_cons (po_ev (pd_var 1)) (par_cons (po_ev (pd_var 6)) par_nil)))) (po_ev (pd_sub ix_seq vop_ix (po_ev (pd_var 1)) (po_ev (pd_sub ix_seq vop_ix (po_ev (pd_var 8)) (po_ev pd_int) (by first | exact fun _ _ => rfl | decide))) (by first | exact fun _ _ => rfl | decide))))) (po_ev (pd_var 3)) (by rfl)) (pd_one (pd_cmp op_lt (vop_cmp _) (po_ev (pd_bin op_sub vop_sub (po_ev (pd_call ((ok_weighed C).mono (by decide)) hr hgd rfl C.g_weighed C.F_weighed.kp (bd_weighed C) (takes_of rfl rfl rfl rfl) rfl (par_cons (po_ev (pd_var 1)) (par_cons (po_ev (pd_var 6)) par_nil)))) (po_ev (pd_sub ix_seq vop_ix (po_ev (pd_var 1)) (po_ev (pd_sub ix_seq vop_ix (po_ev (pd_var 9)) (po_ev pd_int) (by first | exact fun _ _ => rfl | decide))) (by first | exact fun _ _ => rfl | decide))))) (po_ev (pd_var 2)) (by rfl))))))))))))

def b_first_within (rec : Sem') : SM :=
  (sSeq (sIf (eT (e2 dEq (.ev (eVar 0)) (.ev (eC (.int 0))))) (sRet (eC .non)) sNx)
  (sSeq (sIf (eT (e2 dGt (.ev (e2 dMul (.ev (eC (.int 2))) (.ev (eVar 0)))) (.ev (eVar 1)))) (sRet (eCall rec [(.ev (e2 dSub (.ev (eVar 1)) (.ev (eVar 0)))), (.ev (eVar 1)), (.ev (e2 dSub (.ev (eVar 1)) (.ev (eVar 3)))), (.ev (e2 dSub (.ev (eVar 1)) (.ev (eVar 2))))])) sNx)
  (sSeq (sSet 4 (e2 dDivW (.ev (e2 dSub (.ev (e2 dAdd (.ev (eVar 2)) (.ev (eVar 0)))) (.ev (eC (.int 1))))) (.ev (eVar 0))))
  (sSeq (sIf (eT (e2 dLe (.ev (e2 dMul (.ev (eVar 4)) (.ev (eVar 0)))) (.ev (eVar 3)))) (sRet (eVar 4)) sNx)
  (sSeq (sSet 5 (eCall rec [(.ev (e2 dMod (.ev (e2 dSub (.ev (eC (.int 0))) (.ev (eVar 1)))) (.ev (eVar 0)))), (.ev (eVar 0)), (.ev (e2 dMod (.ev (eVar 2)) (.ev (eVar 0)))), (.ev (e2 dMod (.ev (eVar 3)) (.ev (eVar 0))))]))
  (sRet (eIf (eT (e2 dIsN (.ev (eVar 5)) (.ev (eC .non)))) (eC .non) (e2 dDivW (.ev (e2 dSub (.ev (e2 dAdd (.ev (e2 dAdd (.ev (e2 dMul (.ev (eVar 1)) (.ev (eVar 5)))) (.ev (eVar 2)))) (.ev (eVar 0)))) (.ev (eC (.int 1))))) (.ev (eVar 0))))))))))
def s_first_within : Nat → Sem'
  | 0 => fun _ => .stuck
  | m + 1 => runDef 4 6 (b_first_within (s_first_within m))
theorem ok_first_within : ∀ (m : Nat) {P : Program} {w : World} {K : PySem.W.Frag} {mg : Str → Option Value} {base : Heap} (C : Fx K mg), FnG P w K mg base m C.f_first_within C.fd_first_within ["step", "modulus", "low", "high"] (spD K mg 4 (s_first_within m))
  | 0, _, _, _, _, _, C => fnG_stuck rfl
  | m + 1, P, w, K, mg, base, C => by
    have ih : FnG P w K mg base m C.f_first_within C.fd_first_within ["step", "modulus", "low", "high"] (spD K mg 4 (s_first_within m)) := ok_first_within m C
    refine fnD (k := m) (N := n_first_within) (sm := b_first_within (s_first_within m)) C.F_first_within sc_first_within (by decide) fun cdv A outer s H vs E hr hgd => ?_
    exact (psd_cons (psd_if (ptd_cmp (op_eqD (hu64 hr)) vop_eq (po_ev (pd_var 0)) (po_ev pd_int) (by rfl)) (psd_one (psd_ret pd_non)) psd_nil)
  (psd_cons (psd_if (ptd_cmp op_gt (vop_cmp _) (po_ev (pd_bin op_mulD vop_mul (po_ev pd_int) (po_ev (pd_var 0)))) (po_ev (pd_var 1)) (by rfl)) (psd_one (psd_ret (pd_call ih hr hgd rfl C.g_first_within C.F_first_within.kp (bd_first_within C) (takes_of rfl rfl rfl rfl) rfl (par_cons (po_ev (pd_bin op_sub vop_sub (po_ev (pd_var 1)) (po_ev (pd_var 0)))) (par_cons (po_ev (pd_var 1)) (par_cons (po_ev (pd_bin op_sub vop_sub (po_ev (pd_var 1)) (po_ev (pd_var 3)))) (par_cons (po_ev (pd_bin op_sub vop_sub (po_ev (pd_var 1)) (po_ev (pd_var 2)))) par_nil))))))) psd_nil)
  (psd_cons (psd_set 4 sc_first_within.nd (pd_bin op_fdivW vop_divW (po_ev (pd_bin op_sub vop_sub (po_ev (pd_bin op_addD vop_add (po_ev (pd_var 2)) (po_ev (pd_var 0)))) (po_ev pd_int))) (po_ev (pd_var 0))))
  (psd_cons (psd_if (ptd_cmp op_le (vop_cmp _) (po_ev (pd_bin op_mulD vop_mul (po_ev (pd_var 4)) (po_ev (pd_var 0)))) (po_ev (pd_var 3)) (by rfl)) (psd_one (psd_ret (pd_var 4))) psd_nil)
  (psd_cons (psd_set 5 sc_first_within.nd (pd_call ih hr hgd rfl C.g_first_within C.F_first_within.kp (bd_first_within C) (takes_of rfl rfl rfl rfl) rfl (par_cons (po_ev (pd_bin op_mod vop_mod (po_ev (pd_bin op_sub vop_sub (po_ev pd_int) (po_ev (pd_var 1)))) (po_ev (pd_var 0)))) (par_cons (po_ev (pd_var 0)) (par_cons (po_ev (pd_bin op_mod vop_mod (po_ev (pd_var 2)) (po_ev (pd_var 0)))) (par_cons (po_ev (pd_bin op_mod vop_mod (po_ev (pd_var 3)) (po_ev (pd_var 0)))) par_nil))))))
  (psd_one (psd_ret (pd_if (ptd_cmp op_isN vop_isN (po_ev (pd_var 5)) (po_ev pd_non) (by rfl)) pd_non (pd_bin op_fdivW vop_divW (po_ev (pd_bin op_sub vop_sub (po_ev (pd_bin op_addD vop_add (po_ev (pd_bin op_addD vop_add (po_ev (pd_bin op_mulD vop_mul (po_ev (pd_var 1)) (po_ev (pd_var 5)))) (po_ev (pd_var 2)))) (po_ev (pd_var 0)))) (po_ev pd_int))) (po_ev (pd_var 0)))))))))))
end Wk
end

section
set_option Elab.async false
set_option linter.all false
set_option maxRecDepth 100000
set_option maxHeartbeats 0
namespace Wk
open PySem PySem.Spec PyProof.Rows L2 DL
def b_first_row : SM :=
  (sSeq (sAsg (eVar 1) (gS 2 (gsCons (gN 5) (gsCons (gN 6) gsNil))))
  (sSeq (sSet 7 (eB (on2 dMax2) [(.ev (eVar 4)), (.ev (e2 dDivW (.ev (e2 dSub (.ev (e2 dAdd (.ev (e2 dSub (.ev (eVar 2)) (.ev (e2 dMul (.ev (e2 dIx (.ev (eVar 0)) (.ev (eC (.int 0))))) (.ev (eVar 5)))))) (.ev (eVar 6)))) (.ev (eC (.int 1))))) (.ev (eVar 6))))]))
  (sSeq (sIf (tOrB (eT (e2 dGt (.ev (eVar 2)) (.ev (eVar 3)))) (eT (e2 dGt (.ev (eVar 7)) (.ev (eB (on2 dMin2) [(.ev (e2 dIx (.ev (eVar 0)) (.ev (eC (.int 1))))), (.ev (e2 dDivW (.ev (eVar 3)) (.ev (eVar 6))))]))))) (sRet (eC .non)) sNx)
  (sSeq (sPar3 8 9 10 (.fz (e2 dMod (.ev (e2 dSub (.ev (e2 dMul (.ev (eVar 6)) (.ev (eVar 7)))) (.ev (eVar 2)))) (.ev (eVar 5)))) (.fz (e2 dSub (.ev (eVar 3)) (.ev (eVar 2)))) (.fz (eC (.int 0))))
  (sSeq (sIf (eT (e2 dGt (.ev (eVar 8)) (.ev (eVar 9)))) (sSet 10 (eCall (s_first_within 100) [(.ev (e2 dMod (.ev (eVar 6)) (.ev (eVar 5)))), (.ev (eVar 5)), (.ev (e2 dSub (.ev (eVar 5)) (.ev (eVar 8)))), (.ev (e2 dAdd (.ev (e2 dSub (.ev (eVar 5)) (.ev (eVar 8)))) (.ev (eVar 9))))])) sNx)
  (sSeq (sIf (tOrB (eT (e2 dIsN (.ev (eVar 10)) (.ev (eC .non)))) (eT (e2 dGt (.ev (e2 dAdd (.ev (eVar 7)) (.ev (eVar 10)))) (.ev (eB (on2 dMin2) [(.ev (e2 dIx (.ev (eVar 0)) (.ev (eC (.int 1))))), (.ev (e2 dDivW (.ev (eVar 3)) (.ev (eVar 6))))]))))) (sRet (eC .non)) sNx)
  (sSeq (sSet 11 (e2 dAdd (.ev (eVar 7)) (.ev (eVar 10))))
  (sRet (eTup [(eB (on2 dMax2) [(.ev (eC (.int 0))), (.ev (e2 dDivW (.ev (e2 dSub (.ev (e2 dAdd (.ev (e2 dSub (.ev (eVar 2)) (.ev (e2 dMul (.ev (eVar 6)) (.ev (eVar 11)))))) (.ev (eVar 5)))) (.ev (eC (.int 1))))) (.ev (eVar 5))))]), (eVar 11)])))))))))
def s_first_row : Sem' := runDef 5 12 b_first_row
theorem ok_first_row {P : Program} {w : World} {K : PySem.W.Frag} {mg : Str → Option Value} {base : Heap} (C : Fx K mg) : FnG P w K mg base 101 C.f_first_row C.fd_first_row ["caps", "weights", "low", "high", "start"] (spD K mg 5 s_first_row) :=
  fnD (k := 100) (N := n_first_row) (sm := b_first_row) C.F_first_row sc_first_row (by decide) fun cdv A outer s H vs E hr hgd =>
  (psd_cons (psd_asg (pd_var 1) (pgd_seq rfl (pgsd_cons (pgd_name 5 [5, 6] (by decide) sc_first_row.nd) (pgsd_cons (pgd_name 6 [5, 6] (by decide) sc_first_row.nd) pgsd_nil))))
  (psd_cons (psd_set 7 sc_first_row.nd (pd_b (call_max2 rfl) vop_max2 rfl C.n_max (par_cons (po_ev (pd_var 4)) (par_cons (po_ev (pd_bin op_fdivW vop_divW (po_ev (pd_bin op_sub vop_sub (po_ev (pd_bin op_addD vop_add (po_ev (pd_bin op_sub vop_sub (po_ev (pd_var 2)) (po_ev (pd_bin op_mulD vop_mul (po_ev (pd_sub ix_seq vop_ix (po_ev (pd_var 0)) (po_ev pd_int) (by first | exact fun _ _ => rfl | decide))) (po_ev (pd_var 5)))))) (po_ev (pd_var 6)))) (po_ev pd_int))) (po_ev (pd_var 6)))) par_nil))))
  (psd_cons (psd_if (ptd_w (pwd_or (ptd_cmp op_gt (vop_cmp _) (po_ev (pd_var 2)) (po_ev (pd_var 3)) (by rfl)) (pwd_or1 (ptd_cmp op_gt (vop_cmp _) (po_ev (pd_var 7)) (po_ev (pd_b (call_min2 rfl) vop_min2 rfl C.n_min (par_cons (po_ev (pd_sub ix_seq vop_ix (po_ev (pd_var 0)) (po_ev pd_int) (by first | exact fun _ _ => rfl | decide))) (par_cons (po_ev (pd_bin op_fdivW vop_divW (po_ev (pd_var 3)) (po_ev (pd_var 6)))) par_nil)))) (by rfl))))) (psd_one (psd_ret pd_non)) psd_nil)
  (psd_cons (psd_par3 (i := 8) (j := 9) (l := 10) rfl sc_first_row.nd (pel_fz (pd_bin op_mod vop_mod (po_ev (pd_bin op_sub vop_sub (po_ev (pd_bin op_mulD vop_mul (po_ev (pd_var 6)) (po_ev (pd_var 7)))) (po_ev (pd_var 2)))) (po_ev (pd_var 5)))) (pel_fz (pd_bin op_sub vop_sub (po_ev (pd_var 3)) (po_ev (pd_var 2)))) (pel_fz pd_int))
  (psd_cons (psd_if (ptd_cmp op_gt (vop_cmp _) (po_ev (pd_var 8)) (po_ev (pd_var 9)) (by rfl)) (psd_one (psd_set 10 sc_first_row.nd (pd_call ((ok_first_within 100 C).mono (by decide)) hr hgd rfl C.g_first_within C.F_first_within.kp (bd_first_within C) (takes_of rfl rfl rfl rfl) rfl (par_cons (po_ev (pd_bin op_mod vop_mod (po_ev (pd_var 6)) (po_ev (pd_var 5)))) (par_cons (po_ev (pd_var 5)) (par_cons (po_ev (pd_bin op_sub vop_sub (po_ev (pd_var 5)) (po_ev (pd_var 8)))) (par_cons (po_ev (pd_bin op_addD vop_add (po_ev (pd_bin op_sub vop_sub (po_ev (pd_var 5)) (po_ev (pd_var 8)))) (po_ev (pd_var 9)))) par_nil))))))) psd_nil)
  (psd_cons (psd_if (ptd_w (pwd_or (ptd_cmp op_isN vop_isN (po_ev (pd_var 10)) (po_ev pd_non) (by rfl)) (pwd_or1 (ptd_cmp op_gt (vop_cmp _) (po_ev (pd_bin op_addD vop_add (po_ev (pd_var 7)) (po_ev (pd_var 10)))) (po_ev (pd_b (call_min2 rfl) vop_min2 rfl C.n_min (par_cons (po_ev (pd_sub ix_seq vop_ix (po_ev (pd_var 0)) (po_ev pd_int) (by first | exact fun _ _ => rfl | decide))) (par_cons (po_ev (pd_bin op_fdivW vop_divW (po_ev (pd_var 3)) (po_ev (pd_var 6)))) par_nil)))) (by rfl))))) (psd_one (psd_ret pd_non)) psd_nil)
  (psd_cons (psd_set 11 sc_first_row.nd (pd_bin op_addD vop_add (po_ev (pd_var 7)) (po_ev (pd_var 10))))
  (psd_one (psd_ret (pd_tup (fs := [(eB (on2 dMax2) [(.ev (eC (.int 0))), (.ev (e2 dDivW (.ev (e2 dSub (.ev (e2 dAdd (.ev (e2 dSub (.ev (eVar 2)) (.ev (e2 dMul (.ev (eVar 6)) (.ev (eVar 11)))))) (.ev (eVar 5)))) (.ev (eC (.int 1))))) (.ev (eVar 5))))]), (eVar 11)]) (par_cons (po_ev (pd_b (call_max2 rfl) vop_max2 rfl C.n_max (par_cons (po_ev pd_int) (par_cons (po_ev (pd_bin op_fdivW vop_divW (po_ev (pd_bin op_sub vop_sub (po_ev (pd_bin op_addD vop_add (po_ev (pd_bin op_sub vop_sub (po_ev (pd_var 2)) (po_ev (pd_bin op_mulD vop_mul (po_ev (pd_var 6)) (po_ev (pd_var 11)))))) (po_ev (pd_var 5)))) (po_ev pd_int))) (po_ev (pd_var 5)))) par_nil)))) (par_cons (po_ev (pd_var 11)) par_nil)) (by decide)))))))))))

def b_two_cut : SM :=
  (sSeq (sSet 4 (eCall s_first_row [(.ev (eVar 0)), (.ev (eVar 1)), (.ev (eVar 2)), (.ev (eVar 3)), (.ev (eC (.int 0)))]))
  (sSeq (sIf (eT (e2 dIsN (.ev (eVar 4)) (.ev (eC .non)))) (sRet (eC .non)) sNx)
  (sSeq (sPar 5 6 (.fz (eB (on2 dMax2) [(.ev (eVar 2)), (.ev (e2 dAdd (.ev (e2 dSub (.ev (eVar 3)) (.ev (e2 dIx (.ev (eVar 1)) (.ev (eC (.int 0))))))) (.ev (eC (.int 1)))))])) (.fz (eB (on2 dMin2) [(.ev (eVar 3)), (.ev (e2 dSub (.ev (e2 dAdd (.ev (eVar 2)) (.ev (e2 dIx (.ev (eVar 1)) (.ev (eC (.int 1))))))) (.ev (eC (.int 1)))))])))
  (sSeq (sSet 7 (eCall s_first_row [(.ev (eVar 0)), (.ev (eVar 1)), (.ev (eVar 5)), (.ev (eVar 6)), (.ev (e2 dAdd (.ev (e2 dIx (.ev (eVar 4)) (.ev (eC (.int 1))))) (.ev (eC (.int 1)))))]))
  (sRet (eIf (eT (e2 dIsN (.ev (eVar 7)) (.ev (eC .non)))) (eC .non) (eTup [(eVar 7), (eVar 4)])))))))
def s_two_cut : Sem' := runDef 4 8 b_two_cut
theorem ok_two_cut {P : Program} {w : World} {K : PySem.W.Frag} {mg : Str → Option Value} {base : Heap} (C : Fx K mg) : FnG P w K mg base 102 C.f_two_cut C.fd_two_cut ["caps", "weights", "low", "high"] (spD K mg 4 s_two_cut) :=
  fnD (k := 101) (N := n_two_cut) (sm := b_two_cut) C.F_two_cut sc_two_cut (by decide) fun cdv A outer s H vs E hr hgd =>
  (psd_cons (psd_set 4 sc_two_cut.nd (pd_call ((ok_first_row C).mono (by decide)) hr hgd rfl C.g_first_row C.F_first_row.kp (bd_first_row C) (takes_of rfl rfl rfl rfl) rfl (par_cons (po_ev (pd_var 0)) (par_cons (po_ev (pd_var 1)) (par_cons (po_ev (pd_var 2)) (par_cons (po_ev (pd_var 3)) (par_cons (po_ev pd_int) par_nil)))))))
  (psd_cons (psd_if (ptd_cmp op_isN vop_isN (po_ev (pd_var 4)) (po_ev pd_non) (by rfl)) (psd_one (psd_ret pd_non)) psd_nil)
  (psd_cons (psd_par (i := 5) (j := 6) rfl sc_two_cut.nd (pel_fz (pd_b (call_max2 rfl) vop_max2 rfl C.n_max (par_cons (po_ev (pd_var 2)) (par_cons (po_ev (pd_bin op_addD vop_add (po_ev (pd_bin op_sub vop_sub (po_ev (pd_var 3)) (po_ev (pd_sub ix_seq vop_ix (po_ev (pd_var 1)) (po_ev pd_int) (by first | exact fun _ _ => rfl | decide))))) (po_ev pd_int))) par_nil)))) (pel_fz (pd_b (call_min2 rfl) vop_min2 rfl C.n_min (par_cons (po_ev (pd_var 3)) (par_cons (po_ev (pd_bin op_sub vop_sub (po_ev (pd_bin op_addD vop_add (po_ev (pd_var 2)) (po_ev (pd_sub ix_seq vop_ix (po_ev (pd_var 1)) (po_ev pd_int) (by first | exact fun _ _ => rfl | decide))))) (po_ev pd_int))) par_nil)))))
  (psd_cons (psd_set 7 sc_two_cut.nd (pd_call ((ok_first_row C).mono (by decide)) hr hgd rfl C.g_first_row C.F_first_row.kp (bd_first_row C) (takes_of rfl rfl rfl rfl) rfl (par_cons (po_ev (pd_var 0)) (par_cons (po_ev (pd_var 1)) (par_cons (po_ev (pd_var 5)) (par_cons (po_ev (pd_var 6)) (par_cons (po_ev (pd_bin op_addD vop_add (po_ev (pd_sub ix_seq vop_ix (po_ev (pd_var 4)) (po_ev pd_int) (by first | exact fun _ _ => rfl | decide))) (po_ev pd_int))) par_nil)))))))
  (psd_one (psd_ret (pd_if (ptd_cmp op_isN vop_isN (po_ev (pd_var 7)) (po_ev pd_non) (by rfl)) pd_non (pd_tup (fs := [(eVar 7), (eVar 4)]) (par_cons (po_ev (pd_var 7)) (par_cons (po_ev (pd_var 4)) par_nil)) (by decide)))))))))

def b_heaviest : SM :=
  (sSeq (sSet 2 (eB (on1 dSortDat) [(.ev (eL (eComp (iEn (eVar 1)) [3, 4] (gS 2 (gsCons (gN 3) (gsCons (gN 4) gsNil))) (eT (e2 dGt (.ev (e2 dIx (.ev (eVar 0)) (.ev (eVar 3)))) (.ev (eC (.int 0))))) (eTup [(e2 dSub (.ev (eC (.int 0))) (.ev (eVar 4))), (eVar 3)]))))]))
  (sRet (eL (eComp (iS (eSl (.ev (eVar 2)) none (some (eC (.int 2))))) [4, 3] (gS 2 (gsCons (gN 4) (gsCons (gN 3) gsNil))) cYes (eVar 3)))))
def s_heaviest : Sem' := runDef 2 5 b_heaviest
theorem ok_heaviest {P : Program} {w : World} {K : PySem.W.Frag} {mg : Str → Option Value} {base : Heap} (C : Fx K mg) : FnG P w K mg base 1 C.f_heaviest C.fd_heaviest ["caps", "weights"] (spD K mg 2 s_heaviest) :=
  fnD (k := 0) (N := n_heaviest) (sm := b_heaviest) C.F_heaviest sc_heaviest (by decide) fun cdv A outer s H vs E hr hgd =>
  (psd_cons (psd_set 2 sc_heaviest.nd (pd_b (cr_sortDat (hu40 hr)) vop_sortDat rfl C.n_sorted (par_cons (po_ev (pl_pd (pl_comp [("key", 3), ("weight", 4)] rfl sc_heaviest.nd (pid_enum rfl C.n_enumerate (pd_var 1)) (show BlkOk n_heaviest (defScope (top 13)) _ _ from ⟨rfl, by decide +kernel, by decide +kernel, by decide +kernel, by decide +kernel⟩) (fun _ _ _ _ _ => (pgd_seq rfl (pgsd_cons (pgd_name 3 [3, 4] (by decide) sc_heaviest.nd) (pgsd_cons (pgd_name 4 [3, 4] (by decide) sc_heaviest.nd) pgsd_nil)))) (fun _ _ _ _ _ => (ptsd_one (ptd_cmp op_gt (vop_cmp _) (po_ev (pd_sub ix_seq vop_ix (po_ev (pd_var 0)) (po_ev (pd_var 3)) (by first | exact fun _ _ => rfl | decide))) (po_ev pd_int) (by rfl)))) (fun _ _ _ _ _ => (pd_tup (fs := [(e2 dSub (.ev (eC (.int 0))) (.ev (eVar 4))), (eVar 3)]) (par_cons (po_ev (pd_bin op_sub vop_sub (po_ev pd_int) (po_ev (pd_var 4)))) (par_cons (po_ev (pd_var 3)) par_nil)) (by decide)))))) par_nil)))
  (psd_one (psd_ret (pl_pd (pl_comp [("weight", 4), ("key", 3)] rfl sc_heaviest.nd (pid_seq (pd_slice (ol := none) (oh := (some (eC (.int 2)))) (po_ev (pd_var 2)) trivial pd_int)) (show BlkOk n_heaviest (defScope (top 13)) _ _ from ⟨rfl, by decide +kernel, by decide +kernel, by decide +kernel, by decide +kernel⟩) (fun _ _ _ _ _ => (pgd_seq rfl (pgsd_cons (pgd_name 4 [4, 3] (by decide) sc_heaviest.nd) (pgsd_cons (pgd_name 3 [4, 3] (by decide) sc_heaviest.nd) pgsd_nil)))) (fun _ _ _ _ _ => ptsd_nil) (fun _ _ _ _ _ => (pd_var 3)))))))

def b_enough_slack : SM :=
  (sSeq (sSet 2 (eCall s_heaviest [(.ev (eVar 0)), (.ev (eVar 1))]))
  (sRet (eIf (eT (e2 dEq (.ev (eB (on1 dLen) [(.ev (eVar 2))])) (.ev (eC (.int 2))))) (e2 dSub (.ev (e2 dAdd (.ev (e2 dIx (.ev (eVar 1)) (.ev (e2 dIx (.ev (eVar 2)) (.ev (eC (.int 0))))))) (.ev (e2 dIx (.ev (eVar 1)) (.ev (e2 dIx (.ev (eVar 2)) (.ev (eC (.int 1))))))))) (.ev (eC (.int 1)))) (eC (.int 0)))))
def s_enough_slack : Sem' := runDef 2 3 b_enough_slack
theorem ok_enough_slack {P : Program} {w : World} {K : PySem.W.Frag} {mg : Str → Option Value} {base : Heap} (C : Fx K mg) : FnG P w K mg base 2 C.f_enough_slack C.fd_enough_slack ["caps", "weights"] (spD K mg 2 s_enough_slack) :=
  fnD (k := 1) (N := n_enough_slack) (sm := b_enough_slack) C.F_enough_slack sc_enough_slack (by decide) fun cdv A outer s H vs E hr hgd =>
  (psd_cons (psd_set 2 sc_enough_slack.nd (pd_call ((ok_heaviest C).mono (by decide)) hr hgd rfl C.g_heaviest C.F_heaviest.kp (bd_heaviest C) (takes_of rfl rfl rfl rfl) rfl (par_cons (po_ev (pd_var 0)) (par_cons (po_ev (pd_var 1)) par_nil))))
  (psd_one (psd_ret (pd_if (ptd_cmp (op_eqD (hu64 hr)) vop_eq (po_ev (pd_b call_lenD' vop_len rfl C.n_len (par_cons (po_ev (pd_var 2)) par_nil))) (po_ev pd_int) (by rfl)) (pd_bin op_sub vop_sub (po_ev (pd_bin op_addD vop_add (po_ev (pd_sub ix_seq vop_ix (po_ev (pd_var 1)) (po_ev (pd_sub ix_seq vop_ix (po_ev (pd_var 2)) (po_ev pd_int) (by first | exact fun _ _ => rfl | decide))) (by first | exact fun _ _ => rfl | decide))) (po_ev (pd_sub ix_seq vop_ix (po_ev (pd_var 1)) (po_ev (pd_sub ix_seq vop_ix (po_ev (pd_var 2)) (po_ev pd_int) (by first | exact fun _ _ => rfl | decide))) (by first | exact fun _ _ => rfl | decide))))) (po_ev pd_int)) pd_int))))

def b_slack_cut : SM :=
  (sSeq (sSet 2 (eCall s_heaviest [(.ev (eVar 0)), (.ev (eVar 1))]))
  (sSeq (sIf (eT (e2 dLt (.ev (eB (on1 dLen) [(.ev (eVar 2))])) (.ev (eC (.int 2))))) (sRet (eC .non)) sNx)
  (sSeq (sSet 3 (eL (eComp (iS (eVar 2)) [4] (gN 4) cYes (eB (on1 dTuple) [(.ev (eL (eComp (iR1 (.ev (eB (on1 dLen) [(.ev (eVar 0))]))) [5] (gN 5) cYes (eIf (eT (e2 dEq (.ev (eVar 5)) (.ev (eVar 4)))) (eC (.int 1)) (eC (.int 0))))))]))))
  (sRet (eTup [(eC (.int 1)), (e2 dIx (.ev (eVar 3)) (.ev (eC (.int 0)))), (e2 dIx (.ev (eVar 3)) (.ev (eC (.int 1))))])))))
def s_slack_cut : Sem' := runDef 2 6 b_slack_cut
theorem ok_slack_cut {P : Program} {w : World} {K : PySem.W.Frag} {mg : Str → Option Value} {base : Heap} (C : Fx K mg) : FnG P w K mg base 2 C.f_slack_cut C.fd_slack_cut ["caps", "weights"] (spD K mg 2 s_slack_cut) :=
  fnD (k := 1) (N := n_slack_cut) (sm := b_slack_cut) C.F_slack_cut sc_slack_cut (by decide) fun cdv A outer s H vs E hr hgd =>
  (psd_cons (psd_set 2 sc_slack_cut.nd (pd_call ((ok_heaviest C).mono (by decide)) hr hgd rfl C.g_heaviest C.F_heaviest.kp (bd_heaviest C) (takes_of rfl rfl rfl rfl) rfl (par_cons (po_ev (pd_var 0)) (par_cons (po_ev (pd_var 1)) par_nil))))
  (psd_cons (psd_if (ptd_cmp op_lt (vop_cmp _) (po_ev (pd_b call_lenD' vop_len rfl C.n_len (par_cons (po_ev (pd_var 2)) par_nil))) (po_ev pd_int) (by rfl)) (psd_one (psd_ret pd_non)) psd_nil)
  (psd_cons (psd_setLc 3 [("unit", 4)] rfl sc_slack_cut.nd (pid_seq (pd_var 2)) (show BlkOk n_slack_cut (defScope (top 15)) _ _ from ⟨rfl, by decide +kernel, by decide +kernel, by decide +kernel, by decide +kernel⟩) (fun _ _ _ _ _ => (pgd_name 4 [4] (by decide) sc_slack_cut.nd)) (fun _ _ _ _ _ => ptsd_nil) (fun _ _ _ _ _ => (pd_ty call_tuple_of vop_tuple rfl C.n_tuple (par_cons (po_ev (pl_pd (pl_comp [("key", 5)] rfl sc_slack_cut.nd (pid_range1 rfl C.n_range (par_cons (po_ev (pd_b call_lenD' vop_len rfl C.n_len (par_cons (po_ev (pd_var 0)) par_nil))) par_nil)) (blk_of (by kernel_rfl)) (fun _ _ _ _ _ => (pgd_name 5 [5] (by decide) sc_slack_cut.nd)) (fun _ _ _ _ _ => ptsd_nil) (fun _ _ _ _ _ => (pd_if (ptd_cmp (op_eqD (hu64 hr)) vop_eq (po_ev (pd_var 5)) (po_ev (pd_var 4)) (by rfl)) pd_int pd_int))))) par_nil))) rfl)
  (psd_one (psd_ret (pd_tup (fs := [(eC (.int 1)), (e2 dIx (.ev (eVar 3)) (.ev (eC (.int 0)))), (e2 dIx (.ev (eVar 3)) (.ev (eC (.int 1))))]) (par_cons (po_ev pd_int) (par_cons (po_ev (pd_sub ix_seq vop_ix (po_ev (pd_var 3)) (po_ev pd_int) (by first | exact fun _ _ => rfl | decide))) (par_cons (po_ev (pd_sub ix_seq vop_ix (po_ev (pd_var 3)) (po_ev pd_int) (by first | exact fun _ _ => rfl | decide))) par_nil))) (by decide)))))))

def b__law_draw : Env' → FlD :=
  (sqD (sSet 3 (eL (eComp (iS (eSl (.ev (eVar 0)) none (some (eC (.int 48))))) [2] (gN 2) cYes (eB (on1 dAbs) [(.ev (eB (on1 dInt) [(.ev (eVar 2))]))]))))
  (sqD (sSet 4 (e2 dAdd (.ev (eC (.int 7919))) (.ev (e2 dMul (.ev (eC (.int 104729))) (.ev (eVar 1))))))
  (sqD (sFor (iS (eVar 3)) (gN 2) (sSet 4 (e2 dMod (.ev (eB (on1 dInt) [(.ev (e2 dAdd (.ev (e2 dAdd (.ev (e2 dMul (.ev (eVar 4)) (.ev (eC (.int 48271))))) (.ev (e2 dMod (.ev (eVar 2)) (.ev (eC (.int 2147483549))))))) (.ev (eC (.int 11)))))])) (.ev (eC (.int 2147483647))))))
  (sRetDl (eDl (eComp (iS (eVar 3)) [2] (gN 2) (eT (e2 dGe (.ev (eVar 2)) (.ev (e2 dPow (.ev (eC (.int 10))) (.ev (eC (.int 18))))))) (eVar 2)) 4)))))
def s__law_draw : SemDl := runDl 2 5 b__law_draw
theorem ok__law_draw {P : Program} {w : World} {K : PySem.W.Frag} {mg : Str → Option Value} {base : Heap} (C : Fx K mg) : FnG P w K mg base 1 C.f__law_draw C.fd__law_draw ["_law_script", "_law_salt"] (spDl K mg 2 s__law_draw) :=
  fnDl (k := 0) (N := n__law_draw) (sm := b__law_draw) C.F__law_draw sc__law_draw (by decide) fun cdv A outer s H vs E hr hgd =>
  (psdl_cons (psd_setLc 3 [("_law_cell", 2)] rfl sc__law_draw.nd (pid_seq (pd_slice (ol := none) (oh := (some (eC (.int 48)))) (po_ev (pd_var 0)) trivial pd_int)) (show BlkOk n__law_draw (defScope (top 17)) _ _ from ⟨rfl, by decide +kernel, by decide +kernel, by decide +kernel, by decide +kernel⟩) (fun _ _ _ _ _ => (pgd_name 2 [2] (by decide) sc__law_draw.nd)) (fun _ _ _ _ _ => ptsd_nil) (fun _ _ _ _ _ => (pd_b call_abs vop_abs rfl C.n_abs (par_cons (po_ev (pd_ty call_int1 vop_int rfl C.n_int (par_cons (po_ev (pd_var 2)) par_nil))) par_nil))) rfl)
  (psdl_cons (psd_set 4 sc__law_draw.nd (pd_bin op_addD vop_add (po_ev pd_int) (po_ev (pd_bin op_mulD vop_mul (po_ev pd_int) (po_ev (pd_var 1))))))
  (psdl_cons (psd_for (passes_of rfl) rfl (pid_seq (pd_var 3)) (pgd_name 2 [2] (by decide) sc__law_draw.nd) (psd_one (psd_set 4 sc__law_draw.nd (pd_bin op_mod vop_mod (po_ev (pd_ty call_int1 vop_int rfl C.n_int (par_cons (po_ev (pd_bin op_addD vop_add (po_ev (pd_bin op_addD vop_add (po_ev (pd_bin op_mulD vop_mul (po_ev (pd_var 4)) (po_ev pd_int))) (po_ev (pd_bin op_mod vop_mod (po_ev (pd_var 2)) (po_ev pd_int))))) (po_ev pd_int))) par_nil))) (po_ev pd_int)))))
  (psdl_ret (pdl_disp 4 (pl_comp [("_law_cell", 2)] rfl sc__law_draw.nd (pid_seq (pd_var 3)) (show BlkOk n__law_draw (defScope (top 17)) _ _ from ⟨rfl, by decide +kernel, by decide +kernel, by decide +kernel, by decide +kernel⟩) (fun _ _ _ _ _ => (pgd_name 2 [2] (by decide) sc__law_draw.nd)) (fun _ _ _ _ _ => (ptsd_one (ptd_cmp op_ge (vop_cmp _) (po_ev (pd_var 2)) (po_ev (pd_bin op_pow vop_pow (po_ev pd_int) (po_ev pd_int))) (by rfl)))) (fun _ _ _ _ _ => (pd_var 2))))))))

def b__law_any : SM :=
  (sSeq (whileF (tAndB (bLeft 0) (eT (e2 dEq (.ev (eLast 0)) (.ev (eC (.int 0)))))) (sDrop (eDPop 0)) 60)
  (sSeq (sIf (bLeft 0) (sSeq (sSet 2 (eB (on1 dInt) [(.ev (eDPop 0))]))
  (sSeq (sDApp 0 2 1)
  (sRet (e2 dMod (.ev (eVar 2)) (.ev (eVar 1)))))) sNx)
  (sSeq (sBlend 0 (e2 dMod (.ev (eB (on1 dInt) [(.ev (e2 dAdd (.ev (e2 dMul (.ev (eBlend 0)) (.ev (eC (.int 40693))))) (.ev (eC (.int 71)))))])) (.ev (eC (.int 2147483647)))))
  (sRet (e2 dMod (.ev (eB (on1 dInt) [(.ev (e2 dDivW (.ev (eBlend 0)) (.ev (eC (.int 64)))))])) (.ev (eVar 1)))))))
def s__law_any : Sem' := runDef 2 3 b__law_any
theorem ok__law_any {P : Program} {w : World} {K : PySem.W.Frag} {mg : Str → Option Value} {base : Heap} (C : Fx K mg) : FnG P w K mg base 1 C.f__law_any C.fd__law_any ["_law_deal", "_law_bound"] (spD K mg 2 s__law_any) :=
  fnD (k := 0) (N := n__law_any) (sm := b__law_any) C.F__law_any sc__law_any (by decide) fun cdv A outer s H vs E hr hgd =>
  (psd_cons (psd_while 60 (passes_of rfl) (ptd_w (pwd_and (ptd_left (hu64 hr) 0) (pwd_and1 (ptd_cmp (op_eqD (hu64 hr)) vop_eq (po_ev (pd_last 0)) (po_ev pd_int) (by rfl))))) (psd_one (psd_expr (pd_dpop 0))))
  (psd_cons (psd_if (ptd_left (hu64 hr) 0) (psd_cons (psd_set 2 sc__law_any.nd (pd_ty call_int1 vop_int rfl C.n_int (par_cons (po_ev (pd_dpop 0)) par_nil)))
  (psd_cons (psd_dapp 0 2 1)
  (psd_one (psd_ret (pd_bin op_mod vop_mod (po_ev (pd_var 2)) (po_ev (pd_var 1))))))) psd_nil)
  (psd_cons (psd_blend 0 (pd_bin op_mod vop_mod (po_ev (pd_ty call_int1 vop_int rfl C.n_int (par_cons (po_ev (pd_bin op_addD vop_add (po_ev (pd_bin op_mulD vop_mul (po_ev (pd_blend 0)) (po_ev pd_int))) (po_ev pd_int))) par_nil))) (po_ev pd_int)))
  (psd_one (psd_ret (pd_bin op_mod vop_mod (po_ev (pd_ty call_int1 vop_int rfl C.n_int (par_cons (po_ev (pd_bin op_fdivW vop_divW (po_ev (pd_blend 0)) (po_ev pd_int))) par_nil))) (po_ev (pd_var 1))))))))

def b__law_of : SM :=
  (sRet (e2 dIx (.ev (eVar 1)) (.ev (eCall s__law_any [(.io 0), (.ev (eB (on1 dLen) [(.ev (eVar 1))]))]))))
def s__law_of : Sem' := runDef 2 2 b__law_of
theorem ok__law_of {P : Program} {w : World} {K : PySem.W.Frag} {mg : Str → Option Value} {base : Heap} (C : Fx K mg) : FnG P w K mg base 2 C.f__law_of C.fd__law_of ["_law_deal", "_law_some"] (spD K mg 2 s__law_of) :=
  fnD (k := 1) (N := n__law_of) (sm := b__law_of) C.F__law_of sc__law_of (by decide) fun cdv A outer s H vs E hr hgd =>
  (psd_one (psd_ret (pd_sub ix_seq vop_ix (po_ev (pd_var 1)) (po_ev (pd_call ((ok__law_any C).mono (by decide)) hr hgd rfl C.g__law_any C.F__law_any.kp (bd__law_any C) (takes_of rfl rfl rfl rfl) rfl (par_cons (po_io 0) (par_cons (po_ev (pd_b call_lenD' vop_len rfl C.n_len (par_cons (po_ev (pd_var 1)) par_nil))) par_nil)))) (by first | exact fun _ _ => rfl | decide))))
end Wk
end

section
set_option Elab.async false
set_option linter.all false
set_option maxRecDepth 100000
set_option maxHeartbeats 0
namespace Wk
open PySem PySem.Spec PyProof.Rows L2 DL
def b__law_great : SM :=
  (sSeq (sSet 2 (eC (.int 0)))
  (sSeq (sFor (iR1 (.ev (eC (.int 6)))) (gN 3) (sSet 2 (e2 dAdd (.ev (e2 dMul (.ev (eVar 2)) (.ev (eC (.int 100000))))) (.ev (eCall s__law_any [(.io 0), (.ev (eC (.int 100000)))])))))
  (sRet (e2 dMod (.ev (eB (on1 dInt) [(.ev (eVar 2))])) (.ev (eVar 1))))))
def s__law_great : Sem' := runDef 2 4 b__law_great
theorem ok__law_great {P : Program} {w : World} {K : PySem.W.Frag} {mg : Str → Option Value} {base : Heap} (C : Fx K mg) : FnG P w K mg base 2 C.f__law_great C.fd__law_great ["_law_deal", "_law_bound"] (spD K mg 2 s__law_great) :=
  fnD (k := 1) (N := n__law_great) (sm := b__law_great) C.F__law_great sc__law_great (by decide) fun cdv A outer s H vs E hr hgd =>
  (psd_cons (psd_set 2 sc__law_great.nd pd_int)
  (psd_cons (psd_for (passes_of rfl) rfl (pid_range1 rfl C.n_range (par_cons (po_ev pd_int) par_nil)) (pgd_name 3 [3] (by decide) sc__law_great.nd) (psd_one (psd_set 2 sc__law_great.nd (pd_bin op_addD vop_add (po_ev (pd_bin op_mulD vop_mul (po_ev (pd_var 2)) (po_ev pd_int))) (po_ev (pd_call ((ok__law_any C).mono (by decide)) hr hgd rfl C.g__law_any C.F__law_any.kp (bd__law_any C) (takes_of rfl rfl rfl rfl) rfl (par_cons (po_io 0) (par_cons (po_ev pd_int) par_nil))))))))
  (psd_one (psd_ret (pd_bin op_mod vop_mod (po_ev (pd_ty call_int1 vop_int rfl C.n_int (par_cons (po_ev (pd_var 2)) par_nil))) (po_ev (pd_var 1)))))))

def b__law_weighed : SM :=
  (sRet (eB (on1 dSum) [(.ev (eL (eComp (iZp (eVar 0) (eVar 1)) [2, 3] (gS 2 (gsCons (gN 2) (gsCons (gN 3) gsNil))) cYes (e2 dMul (.ev (eVar 2)) (.ev (eVar 3))))))]))
def s__law_weighed : Sem' := runDef 2 4 b__law_weighed
theorem ok__law_weighed {P : Program} {w : World} {K : PySem.W.Frag} {mg : Str → Option Value} {base : Heap} (C : Fx K mg) : FnG P w K mg base 1 C.f__law_weighed C.fd__law_weighed ["_law_weights", "_law_row"] (spD K mg 2 s__law_weighed) :=
  fnD (k := 0) (N := n__law_weighed) (sm := b__law_weighed) C.F__law_weighed sc__law_weighed (by decide) fun cdv A outer s H vs E hr hgd =>
  (psd_one (psd_ret (pd_b (cr_sum rfl) vop_sum rfl C.n_sum (par_cons (po_ev (pl_pd (pl_comp [("_law_weight", 2), ("_law_value", 3)] rfl sc__law_weighed.nd (pid_zip rfl C.n_zip (pd_var 0) (pd_var 1)) (show BlkOk n__law_weighed (defScope (top 21)) _ _ from ⟨rfl, by decide +kernel, by decide +kernel, by decide +kernel, by decide +kernel⟩) (fun _ _ _ _ _ => (pgd_seq rfl (pgsd_cons (pgd_name 2 [2, 3] (by decide) sc__law_weighed.nd) (pgsd_cons (pgd_name 3 [2, 3] (by decide) sc__law_weighed.nd) pgsd_nil)))) (fun _ _ _ _ _ => ptsd_nil) (fun _ _ _ _ _ => (pd_bin op_mulD vop_mul (po_ev (pd_var 2)) (po_ev (pd_var 3))))))) par_nil))))

def b__law_rows : SM :=
  (sSeq (sSet 4 (eL (argGo (([(eTup [])] : List (EM D)).map Opd.ev))))
  (sSeq (sFor (iS (eVar 0)) (gN 5) (sSeq (sSet 6 (eL (argGo (([] : List (EM D)).map Opd.ev))))
  (sSeq (sFor (iS (eVar 4)) (gN 7) (sSet 6 (e2 dAdd (.ev (eVar 6)) (.ev (eL (eComp (iR1 (.ev (e2 dAdd (.ev (eVar 5)) (.ev (eC (.int 1)))))) [8] (gN 8) cYes (e2 dAdd (.ev (eVar 7)) (.ev (eTup [(eVar 8)])))))))))
  (sSet 4 (eVar 6)))))
  (sRet (eL (eComp (iS (eVar 4)) [7] (gN 7) (eT (eChain dLe dLe (eVar 2) (eCall s__law_weighed [(.ev (eVar 1)), (.ev (eVar 7))]) (eVar 3))) (eVar 7))))))
def s__law_rows : Sem' := runDef 4 9 b__law_rows
theorem ok__law_rows {P : Program} {w : World} {K : PySem.W.Frag} {mg : Str → Option Value} {base : Heap} (C : Fx K mg) : FnG P w K mg base 2 C.f__law_rows C.fd__law_rows ["_law_caps", "_law_weights", "_law_low", "_law_high"] (spD K mg 4 s__law_rows) :=
  fnD (k := 1) (N := n__law_rows) (sm := b__law_rows) C.F__law_rows sc__law_rows (by decide) fun cdv A outer s H vs E hr hgd =>
  (psd_cons (psd_set 4 sc__law_rows.nd (pl_pd (pl_disp (fs := [(eTup [])]) (par_cons (po_ev (pd_tup (fs := []) par_nil (by decide))) par_nil) (by decide))))
  (psd_cons (psd_for (passes_of rfl) rfl (pid_seq (pd_var 0)) (pgd_name 5 [5] (by decide) sc__law_rows.nd) (psd_cons (psd_set 6 sc__law_rows.nd (pl_pd (pl_disp (fs := []) par_nil (by decide))))
  (psd_cons (psd_for (passes_of rfl) rfl (pid_seq (pd_var 4)) (pgd_name 7 [7] (by decide) sc__law_rows.nd) (psd_one (psd_set 6 sc__law_rows.nd (pd_bin op_addD vop_add (po_ev (pd_var 6)) (po_ev (pl_pd (pl_comp [("_law_value", 8)] rfl sc__law_rows.nd (pid_range1 rfl C.n_range (par_cons (po_ev (pd_bin op_addD vop_add (po_ev (pd_var 5)) (po_ev pd_int))) par_nil)) (show BlkOk n__law_rows (defScope (top 22)) _ _ from ⟨rfl, by decide +kernel, by decide +kernel, by decide +kernel, by decide +kernel⟩) (fun _ _ _ _ _ => (pgd_name 8 [8] (by decide) sc__law_rows.nd)) (fun _ _ _ _ _ => ptsd_nil) (fun _ _ _ _ _ => (pd_bin op_addD vop_add (po_ev (pd_var 7)) (po_ev (pd_tup (fs := [(eVar 8)]) (par_cons (po_ev (pd_var 8)) par_nil) (by decide))))))))))))
  (psd_one (psd_set 4 sc__law_rows.nd (pd_var 6))))))
  (psd_one (psd_ret (pl_pd (pl_comp [("_law_row", 7)] rfl sc__law_rows.nd (pid_seq (pd_var 4)) (show BlkOk n__law_rows (defScope (top 22)) _ _ from ⟨rfl, by decide +kernel, by decide +kernel, by decide +kernel, by decide +kernel⟩) (fun _ _ _ _ _ => (pgd_name 7 [7] (by decide) sc__law_rows.nd)) (fun _ _ _ _ _ => (ptsd_one (ptd_chain op_le op_le (vop_cmp _) (vop_cmp _) (pd_var 2) (pd_call ((ok__law_weighed C).mono (by decide)) hr hgd rfl C.g__law_weighed C.F__law_weighed.kp (bd__law_weighed C) takesW0 rfl (par_cons (po_ev (pd_var 1)) (par_cons (po_ev (pd_var 7)) par_nil))) (pd_var 3)))) (fun _ _ _ _ _ => (pd_var 7))))))))

def b__law_allowed : SM :=
  (sSeq (sIf (tOrB (tNotB (eT (e1 (dIsi "tuple") (.ev (eVar 4))))) (eT (e2 dNe (.ev (eB (on1 dLen) [(.ev (eVar 4))])) (.ev (eB (on1 dLen) [(.ev (eVar 0))]))))) (sRet (eC (.bl false))) sNx)
  (sSeq (sFor (iZp (eVar 4) (eVar 0)) (gS 2 (gsCons (gN 5) (gsCons (gN 6) gsNil))) (sIf (tOrB (tNotB (eT (e1 (dIsi "int") (.ev (eVar 5))))) (tOrB (eT (e1 (dIsi "bool") (.ev (eVar 5)))) (tOrB (eT (e2 dLt (.ev (eVar 5)) (.ev (eC (.int 0))))) (eT (e2 dGt (.ev (eVar 5)) (.ev (eVar 6))))))) (sRet (eC (.bl false))) sNx))
  (sRet (eChain dLe dLe (eVar 2) (eCall s__law_weighed [(.ev (eVar 1)), (.ev (eVar 4))]) (eVar 3)))))
def s__law_allowed : Sem' := runDef 5 7 b__law_allowed
theorem ok__law_allowed {P : Program} {w : World} {K : PySem.W.Frag} {mg : Str → Option Value} {base : Heap} (C : Fx K mg) : FnG P w K mg base 2 C.f__law_allowed C.fd__law_allowed ["_law_caps", "_law_weights", "_law_low", "_law_high", "_law_row"] (spD K mg 5 s__law_allowed) :=
  fnD (k := 1) (N := n__law_allowed) (sm := b__law_allowed) C.F__law_allowed sc__law_allowed (by decide) fun cdv A outer s H vs E hr hgd =>
  (psd_cons (psd_if (ptd_w (pwd_or (ptd_not (ptd_val (pd_isi rfl C.n_isinstance rfl C.n_tuple (po_ev (pd_var 4))))) (pwd_or1 (ptd_cmp (op_neD (hu64 hr)) vop_ne (po_ev (pd_b call_lenD' vop_len rfl C.n_len (par_cons (po_ev (pd_var 4)) par_nil))) (po_ev (pd_b call_lenD' vop_len rfl C.n_len (par_cons (po_ev (pd_var 0)) par_nil))) (by rfl))))) (psd_one (psd_ret pd_bl)) psd_nil)
  (psd_cons (psd_for (passes_of rfl) rfl (pid_zip rfl C.n_zip (pd_var 4) (pd_var 0)) (pgd_seq rfl (pgsd_cons (pgd_name 5 [5, 6] (by decide) sc__law_allowed.nd) (pgsd_cons (pgd_name 6 [5, 6] (by decide) sc__law_allowed.nd) pgsd_nil))) (psd_one (psd_if (ptd_w (pwd_or (ptd_not (ptd_val (pd_isi rfl C.n_isinstance rfl C.n_int (po_ev (pd_var 5))))) (pwd_or (ptd_val (pd_isi rfl C.n_isinstance rfl C.n_bool (po_ev (pd_var 5)))) (pwd_or (ptd_cmp op_lt (vop_cmp _) (po_ev (pd_var 5)) (po_ev pd_int) (by rfl)) (pwd_or1 (ptd_cmp op_gt (vop_cmp _) (po_ev (pd_var 5)) (po_ev (pd_var 6)) (by rfl))))))) (psd_one (psd_ret pd_bl)) psd_nil)))
  (psd_one (psd_ret (pd_chain op_le op_le (vop_cmp _) (vop_cmp _) (pd_var 2) (pd_call ((ok__law_weighed C).mono (by decide)) hr hgd rfl C.g__law_weighed C.F__law_weighed.kp (bd__law_weighed C) (takes_of rfl rfl rfl rfl) rfl (par_cons (po_ev (pd_var 1)) (par_cons (po_ev (pd_var 4)) par_nil))) (pd_var 3))))))

def b__law_cut : SM :=
  (sSeq (sIf (tOrB (tNotB (eT (e1 (dIsi "tuple") (.ev (eVar 4))))) (eT (e2 dNe (.ev (eB (on1 dLen) [(.ev (eVar 4))])) (.ev (eC (.int 2)))))) (sRet (eC (.bl false))) sNx)
  (sSeq (sAsg (eVar 4) (gS 2 (gsCons (gN 5) (gsCons (gN 6) gsNil))))
  (sSeq (sIf (tOrB (tNotB (eT (eCall s__law_allowed [(.ev (eVar 0)), (.ev (eVar 1)), (.ev (eVar 2)), (.ev (eVar 3)), (.ev (eVar 5))]))) (tNotB (eT (eCall s__law_allowed [(.ev (eVar 0)), (.ev (eVar 1)), (.ev (eVar 2)), (.ev (eVar 3)), (.ev (eVar 6))])))) (sRet (eC (.bl false))) sNx)
  (sSeq (sSet 7 (eL (eComp (iR1 (.ev (eB (on1 dLen) [(.ev (eVar 0))]))) [10] (gN 10) (eT (e2 dLt (.ev (e2 dIx (.ev (eVar 5)) (.ev (eVar 10)))) (.ev (e2 dIx (.ev (eVar 6)) (.ev (eVar 10)))))) (eVar 10))))
  (sSeq (sSet 8 (eL (eComp (iR1 (.ev (eB (on1 dLen) [(.ev (eVar 0))]))) [10] (gN 10) (eT (e2 dGt (.ev (e2 dIx (.ev (eVar 5)) (.ev (eVar 10)))) (.ev (e2 dIx (.ev (eVar 6)) (.ev (eVar 10)))))) (eVar 10))))
  (sSeq (sIf (tOrB (eT (e2 dNe (.ev (eB (on1 dLen) [(.ev (eVar 7))])) (.ev (eC (.int 1))))) (eT (e2 dNe (.ev (eB (on1 dLen) [(.ev (eVar 8))])) (.ev (eC (.int 1)))))) (sRet (eC (.bl false))) sNx)
  (sSeq (sSet 9 (eCall s__law_weighed [(.ev (eVar 1)), (.ev (eVar 5))]))
  (sRet (eAnd (e2 dGt (.ev (e2 dAdd (.ev (eVar 9)) (.ev (e2 dIx (.ev (eVar 1)) (.ev (e2 dIx (.ev (eVar 7)) (.ev (eC (.int 0))))))))) (.ev (eVar 3))) (e2 dLt (.ev (e2 dSub (.ev (eVar 9)) (.ev (e2 dIx (.ev (eVar 1)) (.ev (e2 dIx (.ev (eVar 8)) (.ev (eC (.int 0))))))))) (.ev (eVar 2))))))))))))
def s__law_cut : Sem' := runDef 5 11 b__law_cut
theorem ok__law_cut {P : Program} {w : World} {K : PySem.W.Frag} {mg : Str → Option Value} {base : Heap} (C : Fx K mg) : FnG P w K mg base 3 C.f__law_cut C.fd__law_cut ["_law_caps", "_law_weights", "_law_low", "_law_high", "_law_told"] (spD K mg 5 s__law_cut) :=
  fnD (k := 2) (N := n__law_cut) (sm := b__law_cut) C.F__law_cut sc__law_cut (by decide) fun cdv A outer s H vs E hr hgd =>
  (psd_cons (psd_if (ptd_w (pwd_or (ptd_not (ptd_val (pd_isi rfl C.n_isinstance rfl C.n_tuple (po_ev (pd_var 4))))) (pwd_or1 (ptd_cmp (op_neD (hu64 hr)) vop_ne (po_ev (pd_b call_lenD' vop_len rfl C.n_len (par_cons (po_ev (pd_var 4)) par_nil))) (po_ev pd_int) (by rfl))))) (psd_one (psd_ret pd_bl)) psd_nil)
  (psd_cons (psd_asg (pd_var 4) (pgd_seq rfl (pgsd_cons (pgd_name 5 [5, 6] (by decide) sc__law_cut.nd) (pgsd_cons (pgd_name 6 [5, 6] (by decide) sc__law_cut.nd) pgsd_nil))))
  (psd_cons (psd_if (ptd_w (pwd_or (ptd_not (ptd_val (pd_call ((ok__law_allowed C).mono (by decide)) hr hgd rfl C.g__law_allowed C.F__law_allowed.kp (bd__law_allowed C) (takes_of rfl rfl rfl rfl) rfl (par_cons (po_ev (pd_var 0)) (par_cons (po_ev (pd_var 1)) (par_cons (po_ev (pd_var 2)) (par_cons (po_ev (pd_var 3)) (par_cons (po_ev (pd_var 5)) par_nil)))))))) (pwd_or1 (ptd_not (ptd_val (pd_call ((ok__law_allowed C).mono (by decide)) hr hgd rfl C.g__law_allowed C.F__law_allowed.kp (bd__law_allowed C) (takes_of rfl rfl rfl rfl) rfl (par_cons (po_ev (pd_var 0)) (par_cons (po_ev (pd_var 1)) (par_cons (po_ev (pd_var 2)) (par_cons (po_ev (pd_var 3)) (par_cons (po_ev (pd_var 6)) par_nil))))))))))) (psd_one (psd_ret pd_bl)) psd_nil)
  (psd_cons (psd_setLc 7 [("_law_key", 10)] rfl sc__law_cut.nd (pid_range1 rfl C.n_range (par_cons (po_ev (pd_b call_lenD' vop_len rfl C.n_len (par_cons (po_ev (pd_var 0)) par_nil))) par_nil)) (show BlkOk n__law_cut (defScope (top 24)) _ _ from ⟨rfl, by decide +kernel, by decide +kernel, by decide +kernel, by decide +kernel⟩) (fun _ _ _ _ _ => (pgd_name 10 [10] (by decide) sc__law_cut.nd)) (fun _ _ _ _ _ => (ptsd_one (ptd_cmp op_lt (vop_cmp _) (po_ev (pd_sub ix_seq vop_ix (po_ev (pd_var 5)) (po_ev (pd_var 10)) (by first | exact fun _ _ => rfl | decide))) (po_ev (pd_sub ix_seq vop_ix (po_ev (pd_var 6)) (po_ev (pd_var 10)) (by first | exact fun _ _ => rfl | decide))) (by rfl)))) (fun _ _ _ _ _ => (pd_var 10)) rfl)
  (psd_cons (psd_setLc 8 [("_law_key", 10)] rfl sc__law_cut.nd (pid_range1 rfl C.n_range (par_cons (po_ev (pd_b call_lenD' vop_len rfl C.n_len (par_cons (po_ev (pd_var 0)) par_nil))) par_nil)) (show BlkOk n__law_cut (defScope (top 24)) _ _ from ⟨rfl, by decide +kernel, by decide +kernel, by decide +kernel, by decide +kernel⟩) (fun _ _ _ _ _ => (pgd_name 10 [10] (by decide) sc__law_cut.nd)) (fun _ _ _ _ _ => (ptsd_one (ptd_cmp op_gt (vop_cmp _) (po_ev (pd_sub ix_seq vop_ix (po_ev (pd_var 5)) (po_ev (pd_var 10)) (by first | exact fun _ _ => rfl | decide))) (po_ev (pd_sub ix_seq vop_ix (po_ev (pd_var 6)) (po_ev (pd_var 10)) (by first | exact fun _ _ => rfl | decide))) (by rfl)))) (fun _ _ _ _ _ => (pd_var 10)) rfl)
  (psd_cons (psd_if (ptd_w (pwd_or (ptd_cmp (op_neD (hu64 hr)) vop_ne (po_ev (pd_b call_lenD' vop_len rfl C.n_len (par_cons (po_ev (pd_var 7)) par_nil))) (po_ev pd_int) (by rfl)) (pwd_or1 (ptd_cmp (op_neD (hu64 hr)) vop_ne (po_ev (pd_b call_lenD' vop_len rfl C.n_len (par_cons (po_ev (pd_var 8)) par_nil))) (po_ev pd_int) (by rfl))))) (psd_one (psd_ret pd_bl)) psd_nil)
  (psd_cons (psd_set 9 sc__law_cut.nd (pd_call ((ok__law_weighed C).mono (by decide)) hr hgd rfl C.g__law_weighed C.F__law_weighed.kp (bd__law_weighed C) (takes_of rfl rfl rfl rfl) rfl (par_cons (po_ev (pd_var 1)) (par_cons (po_ev (pd_var 5)) par_nil))))
  (psd_one (psd_ret (pd_and (pd_cmp op_gt (vop_cmp _) (po_ev (pd_bin op_addD vop_add (po_ev (pd_var 9)) (po_ev (pd_sub ix_seq vop_ix (po_ev (pd_var 1)) (po_ev (pd_sub ix_seq vop_ix (po_ev (pd_var 7)) (po_ev pd_int) (by first | exact fun _ _ => rfl | decide))) (by first | exact fun _ _ => rfl | decide))))) (po_ev (pd_var 3)) (by rfl)) (pd_one (pd_cmp op_lt (vop_cmp _) (po_ev (pd_bin op_sub vop_sub (po_ev (pd_var 9)) (po_ev (pd_sub ix_seq vop_ix (po_ev (pd_var 1)) (po_ev (pd_sub ix_seq vop_ix (po_ev (pd_var 8)) (po_ev pd_int) (by first | exact fun _ _ => rfl | decide))) (by first | exact fun _ _ => rfl | decide))))) (po_ev (pd_var 2)) (by rfl)))))))))))))

def b__law_reached : SM :=
  (sSeq (sAsg (eTup [(eL (argGo (([(eVar 1)] : List (EM D)).map Opd.ev))), (eL (argGo (([(eVar 1)] : List (EM D)).map Opd.ev))), (eL (eComp (iS (eVar 0)) [6] (gN 6) (eT (e2 dNe (.ev (eVar 6)) (.ev (eVar 1)))) (eVar 6)))]) (gS 3 (gsCons (gN 2) (gsCons (gN 3) (gsCons (gN 4) gsNil)))))
  (sSeq (sFor (iR1 (.ev (eB (on1 dLen) [(.ev (eVar 0))]))) (gN 5) (sSeq (sIf (eT (e2 dEq (.ev (eVar 3)) (.ev (eL (argGo (([] : List (EM D)).map Opd.ev)))))) (fun ρ => .bk ρ) sNx)
  (sSeq (sSet 3 (eL (eComp (iS (eVar 4)) [6] (gN 6) (eT (e2 dNe (.ev (eL (eComp (iS (eVar 3)) [7] (gN 7) (eT (e2 dEq (.ev (eB (on1 dLen) [(.ev (eL (eComp (iR1 (.ev (eB (on1 dLen) [(.ev (eVar 6))]))) [8] (gN 8) (eT (e2 dNe (.ev (e2 dIx (.ev (eVar 6)) (.ev (eVar 8)))) (.ev (e2 dIx (.ev (eVar 7)) (.ev (eVar 8)))))) (eVar 8))))])) (.ev (eC (.int 1))))) (eVar 7)))) (.ev (eL (argGo (([] : List (EM D)).map Opd.ev)))))) (eVar 6))))
  (sSeq (sSet 4 (eL (eComp (iS (eVar 4)) [6] (gN 6) (eT (e2 dNotIn (.ev (eVar 6)) (.ev (eVar 3)))) (eVar 6))))
  (sSet 2 (e2 dAdd (.ev (eVar 2)) (.ev (eVar 3))))))))
  (sRet (eVar 2))))
def s__law_reached : Sem' := runDef 2 9 b__law_reached
theorem ok__law_reached {P : Program} {w : World} {K : PySem.W.Frag} {mg : Str → Option Value} {base : Heap} (C : Fx K mg) : FnG P w K mg base 1 C.f__law_reached C.fd__law_reached ["_law_rows_here", "_law_one"] (spD K mg 2 s__law_reached) :=
  fnD (k := 0) (N := n__law_reached) (sm := b__law_reached) C.F__law_reached sc__law_reached (by decide) fun cdv A outer s H vs E hr hgd =>
  (psd_cons (psd_asg (pd_tup (fs := [(eL (argGo (([(eVar 1)] : List (EM D)).map Opd.ev))), (eL (argGo (([(eVar 1)] : List (EM D)).map Opd.ev))), (eL (eComp (iS (eVar 0)) [6] (gN 6) (eT (e2 dNe (.ev (eVar 6)) (.ev (eVar 1)))) (eVar 6)))]) (par_cons (po_ev (pl_pd (pl_disp (fs := [(eVar 1)]) (par_cons (po_ev (pd_var 1)) par_nil) (by decide)))) (par_cons (po_ev (pl_pd (pl_disp (fs := [(eVar 1)]) (par_cons (po_ev (pd_var 1)) par_nil) (by decide)))) (par_cons (po_ev (pl_pd (pl_comp [("_law_row", 6)] rfl sc__law_reached.nd (pid_seq (pd_var 0)) (show BlkOk n__law_reached (defScope (top 25)) _ _ from ⟨rfl, by decide +kernel, by decide +kernel, by decide +kernel, by decide +kernel⟩) (fun _ _ _ _ _ => (pgd_name 6 [6] (by decide) sc__law_reached.nd)) (fun _ _ _ _ _ => (ptsd_one (ptd_cmp (op_neD (hu64 hr)) vop_ne (po_ev (pd_var 6)) (po_ev (pd_var 1)) (by rfl)))) (fun _ _ _ _ _ => (pd_var 6))))) par_nil))) (by decide)) (pgd_seq rfl (pgsd_cons (pgd_name 2 [2, 3, 4] (by decide) sc__law_reached.nd) (pgsd_cons (pgd_name 3 [2, 3, 4] (by decide) sc__law_reached.nd) (pgsd_cons (pgd_name 4 [2, 3, 4] (by decide) sc__law_reached.nd) pgsd_nil)))))
  (psd_cons (psd_for (passes_of rfl) rfl (pid_range1 rfl C.n_range (par_cons (po_ev (pd_b call_lenD' vop_len rfl C.n_len (par_cons (po_ev (pd_var 0)) par_nil))) par_nil)) (pgd_name 5 [5] (by decide) sc__law_reached.nd) (psd_cons (psd_if (ptd_cmp (op_eqD (hu64 hr)) vop_eq (po_ev (pd_var 3)) (po_ev (pl_pd (pl_disp (fs := []) par_nil (by decide)))) (by rfl)) (psd_one psd_break) psd_nil)
  (psd_cons (psd_set 3 sc__law_reached.nd (pl_pd (pl_comp [("_law_row", 6)] rfl sc__law_reached.nd (pid_seq (pd_var 4)) (show BlkOk n__law_reached (defScope (top 25)) _ _ from ⟨rfl, by decide +kernel, by decide +kernel, by decide +kernel, by decide +kernel⟩) (fun _ _ _ _ _ => (pgd_name 6 [6] (by decide) sc__law_reached.nd)) (fun _ _ _ _ _ => (ptsd_one (ptd_cmp (op_neD (hu64 hr)) vop_ne (po_ev (pl_pd (pl_comp [("_law_near_here", 7)] rfl sc__law_reached.nd (pid_seq (pd_var 3)) (blk_of (by kernel_rfl)) (fun _ _ _ _ _ => (pgd_name 7 [7] (by decide) sc__law_reached.nd)) (fun _ _ _ _ _ => (ptsd_one (ptd_cmp (op_eqD (hu64 hr)) vop_eq (po_ev (pd_b call_lenD' vop_len rfl C.n_len (par_cons (po_ev (pl_pd (pl_comp [("_law_k", 8)] rfl sc__law_reached.nd (pid_range1 rfl C.n_range (par_cons (po_ev (pd_b call_lenD' vop_len rfl C.n_len (par_cons (po_ev (pd_var 6)) par_nil))) par_nil)) (blk_of (by kernel_rfl)) (fun _ _ _ _ _ => (pgd_name 8 [8] (by decide) sc__law_reached.nd)) (fun _ _ _ _ _ => (ptsd_one (ptd_cmp (op_neD (hu64 hr)) vop_ne (po_ev (pd_sub ix_seq vop_ix (po_ev (pd_var 6)) (po_ev (pd_var 8)) (by first | exact fun _ _ => rfl | decide))) (po_ev (pd_sub ix_seq vop_ix (po_ev (pd_var 7)) (po_ev (pd_var 8)) (by first | exact fun _ _ => rfl | decide))) (by rfl)))) (fun _ _ _ _ _ => (pd_var 8))))) par_nil))) (po_ev pd_int) (by rfl)))) (fun _ _ _ _ _ => (pd_var 7))))) (po_ev (pl_pd (pl_disp (fs := []) par_nil (by decide)))) (by rfl)))) (fun _ _ _ _ _ => (pd_var 6)))))
  (psd_cons (psd_setLc 4 [("_law_row", 6)] rfl sc__law_reached.nd (pid_seq (pd_var 4)) (show BlkOk n__law_reached (defScope (top 25)) _ _ from ⟨rfl, by decide +kernel, by decide +kernel, by decide +kernel, by decide +kernel⟩) (fun _ _ _ _ _ => (pgd_name 6 [6] (by decide) sc__law_reached.nd)) (fun _ _ _ _ _ => (ptsd_one (ptd_cmp (op_notInD (hu65 hr)) vop_notIn (po_ev (pd_var 6)) (po_ev (pd_var 3)) (by rfl)))) (fun _ _ _ _ _ => (pd_var 6)) rfl)
  (psd_one (psd_set 2 sc__law_reached.nd (pd_bin op_addD vop_add (po_ev (pd_var 2)) (po_ev (pd_var 3)))))))))
  (psd_one (psd_ret (pd_var 2)))))

def b__law_two : SM :=
  (sSeq (sFor (iR1 (.ev (eC (.int 2)))) (gN 5) (sSeq (sSet 6 (eIf (eT (e2 dEq (.ev (eVar 5)) (.ev (eC (.int 0))))) (eCall s_two_cut [(.ev (eB (on1 dTuple) [(.ev (eVar 0))])), (.ev (eVar 1)), (.ev (eVar 2)), (.ev (eVar 3))]) (eCallKw s_two_cut [3, 2, 1, 0] [] [(.ev (eVar 3)), (.ev (eVar 2)), (.ev (eB (on1 dTuple) [(.ev (eVar 1))])), (.ev (eB (on1 dList) [(.ev (eVar 0))]))])))
  (sIf (eT (eVar 4)) (sIf (eT (e2 dNotN (.ev (eVar 6)) (.ev (eC .non)))) (sRet (eC (.bl false))) sNx) (sIf (tOrB (tNotB (eT (eCall s__law_cut [(.ev (eVar 0)), (.ev (eVar 1)), (.ev (eVar 2)), (.ev (eVar 3)), (.ev (eVar 6))]))) (eT (e2 dNotB (.ev (eCallKw s_is_cut [4, 3, 2, 1, 0] [] [(.ev (eVar 6)), (.ev (eVar 3)), (.ev (eVar 2)), (.ev (eVar 1)), (.ev (eVar 0))])) (.ev (eC (.bl true)))))) (sRet (eC (.bl false))) sNx))))
  (sRet (eC (.bl true))))
def s__law_two : Sem' := runDef 5 7 b__law_two
theorem ok__law_two {P : Program} {w : World} {K : PySem.W.Frag} {mg : Str → Option Value} {base : Heap} (C : Fx K mg) : FnG P w K mg base 103 C.f__law_two C.fd__law_two ["_law_caps", "_law_weights", "_law_low", "_law_high", "_law_joined"] (spD K mg 5 s__law_two) :=
  fnD (k := 102) (N := n__law_two) (sm := b__law_two) C.F__law_two sc__law_two (by decide) fun cdv A outer s H vs E hr hgd =>
  (psd_cons (psd_for (passes_of rfl) rfl (pid_range1 rfl C.n_range (par_cons (po_ev pd_int) par_nil)) (pgd_name 5 [5] (by decide) sc__law_two.nd) (psd_cons (psd_set 6 sc__law_two.nd (pd_if (ptd_cmp (op_eqD (hu64 hr)) vop_eq (po_ev (pd_var 5)) (po_ev pd_int) (by rfl)) (pd_call ((ok_two_cut C).mono (by decide)) hr hgd rfl C.g_two_cut C.F_two_cut.kp (bd_two_cut C) (takes_of rfl rfl rfl rfl) rfl (par_cons (po_ev (pd_ty call_tuple_of vop_tuple rfl C.n_tuple (par_cons (po_ev (pd_var 0)) par_nil))) (par_cons (po_ev (pd_var 1)) (par_cons (po_ev (pd_var 2)) (par_cons (po_ev (pd_var 3)) par_nil))))) (pd_callKw0 ((ok_two_cut C).mono (by decide)) hr hgd rfl C.g_two_cut C.F_two_cut.kp (kw_two_cut_0_high_low_weights_caps C) (takes_of rfl rfl rfl rfl) rfl rfl (pkr_cons (po_ev (pd_var 3)) (pkr_cons (po_ev (pd_var 2)) (pkr_cons (po_ev (pd_ty call_tuple_of vop_tuple rfl C.n_tuple (par_cons (po_ev (pd_var 1)) par_nil))) (pkr_cons (po_ev (pd_ty call_list_of vop_list rfl C.n_list (par_cons (po_ev (pd_var 0)) par_nil))) pkr_nil)))))))
  (psd_one (psd_if (ptd_val (pd_var 4)) (psd_one (psd_if (ptd_cmp op_notN vop_notN (po_ev (pd_var 6)) (po_ev pd_non) (by rfl)) (psd_one (psd_ret pd_bl)) psd_nil)) (psd_one (psd_if (ptd_w (pwd_or (ptd_not (ptd_val (pd_call ((ok__law_cut C).mono (by decide)) hr hgd rfl C.g__law_cut C.F__law_cut.kp (bd__law_cut C) (takes_of rfl rfl rfl rfl) rfl (par_cons (po_ev (pd_var 0)) (par_cons (po_ev (pd_var 1)) (par_cons (po_ev (pd_var 2)) (par_cons (po_ev (pd_var 3)) (par_cons (po_ev (pd_var 6)) par_nil)))))))) (pwd_or1 (ptd_cmp op_isnot_bl vop_notB (po_ev (pd_callKw0 ((ok_is_cut C).mono (by decide)) hr hgd rfl C.g_is_cut C.F_is_cut.kp (kw_is_cut_0_value_high_low_weights_caps C) (takes_of rfl rfl rfl rfl) rfl rfl (pkr_cons (po_ev (pd_var 6)) (pkr_cons (po_ev (pd_var 3)) (pkr_cons (po_ev (pd_var 2)) (pkr_cons (po_ev (pd_var 1)) (pkr_cons (po_ev (pd_var 0)) pkr_nil))))))) (po_ev pd_bl) (by rfl))))) (psd_one (psd_ret pd_bl)) psd_nil))))))
  (psd_one (psd_ret pd_bl)))

def b__law_small : SM :=
  (sSeq (sPar 1 2 (.fz (eL (argGo (([(eCall s__law_any [(.io 0), (.ev (eC (.int 6)))]), (eCall s__law_any [(.io 0), (.ev (eC (.int 6)))])] : List (EM D)).map Opd.ev)))) (.fz (eL (argGo (([(e2 dAdd (.ev (eC (.int 1))) (.ev (eCall s__law_any [(.io 0), (.ev (eC (.int 7)))]))), (e2 dAdd (.ev (eC (.int 1))) (.ev (eCall s__law_any [(.io 0), (.ev (eC (.int 7)))])))] : List (EM D)).map Opd.ev)))))
  (sSeq (sSet 3 (eCall s__law_any [(.io 0), (.ev (e2 dAdd (.ev (eCall s__law_weighed [(.ev (eVar 2)), (.ev (eVar 1))])) (.ev (eC (.int 2)))))]))
  (sSeq (sSet 4 (e2 dAdd (.ev (eVar 3)) (.ev (eCall s__law_any [(.io 0), (.ev (e2 dAdd (.ev (eC (.int 1))) (.ev (eB (on1 dSum) [(.ev (eVar 2))]))))]))))
  (sSeq (sSet 5 (eCall s__law_rows [(.ev (eVar 1)), (.ev (eVar 2)), (.ev (eVar 3)), (.ev (eVar 4))]))
  (sSeq (sSet 6 (eOr (e2 dEq (.ev (eVar 5)) (.ev (eL (argGo (([] : List (EM D)).map Opd.ev))))) (e2 dEq (.ev (eB (on1 dLen) [(.ev (eCall s__law_reached [(.ev (eVar 5)), (.ev (e2 dIx (.ev (eVar 5)) (.ev (eC (.int 0)))))]))])) (.ev (eB (on1 dLen) [(.ev (eVar 5))])))))
  (sSeq (sIf (tNotB (eT (eCall s__law_two [(.ev (eVar 1)), (.ev (eVar 2)), (.ev (eVar 3)), (.ev (eVar 4)), (.ev (eVar 6))]))) (sRet (eC (.bl false))) sNx)
  (sSeq (sSet 7 (e2 dAdd (.ev (eC (.int 1))) (.ev (eCall s__law_great [(.io 0), (.ev (e2 dPow (.ev (eC (.int 10))) (.ev (eC (.int 28)))))]))))
  (sSeq (sPar 8 9 (.fz (eB (on2 dMax2) [(.ev (eC (.int 0))), (.ev (e2 dSub (.ev (e2 dMul (.ev (eVar 3)) (.ev (eVar 7)))) (.ev (eCall s__law_great [(.io 0), (.ev (eVar 7))]))))])) (.fz (e2 dAdd (.ev (e2 dMul (.ev (eVar 4)) (.ev (eVar 7)))) (.ev (eCall s__law_great [(.io 0), (.ev (eVar 7))])))))
  (sRet (eCall s__law_two [(.ev (eVar 1)), (.ev (eL (eComp (iS (eVar 2)) [10] (gN 10) cYes (e2 dMul (.ev (eVar 10)) (.ev (eVar 7)))))), (.ev (eVar 8)), (.ev (eVar 9)), (.ev (eVar 6))]))))))))))
def s__law_small : Sem' := runDef 1 11 b__law_small
theorem ok__law_small {P : Program} {w : World} {K : PySem.W.Frag} {mg : Str → Option Value} {base : Heap} (C : Fx K mg) : FnG P w K mg base 104 C.f__law_small C.fd__law_small ["_law_deal"] (spD K mg 1 s__law_small) :=
  fnD (k := 103) (N := n__law_small) (sm := b__law_small) C.F__law_small sc__law_small (by decide) fun cdv A outer s H vs E hr hgd =>
  (psd_cons (psd_par (i := 1) (j := 2) rfl sc__law_small.nd (pel_fz (pl_pd (pl_disp (fs := [(eCall s__law_any [(.io 0), (.ev (eC (.int 6)))]), (eCall s__law_any [(.io 0), (.ev (eC (.int 6)))])]) (par_cons (po_ev (pd_call ((ok__law_any C).mono (by decide)) hr hgd rfl C.g__law_any C.F__law_any.kp (bd__law_any C) (takes_of rfl rfl rfl rfl) rfl (par_cons (po_io 0) (par_cons (po_ev pd_int) par_nil)))) (par_cons (po_ev (pd_call ((ok__law_any C).mono (by decide)) hr hgd rfl C.g__law_any C.F__law_any.kp (bd__law_any C) (takes_of rfl rfl rfl rfl) rfl (par_cons (po_io 0) (par_cons (po_ev pd_int) par_nil)))) par_nil)) (by decide)))) (pel_fz (pl_pd (pl_disp (fs := [(e2 dAdd (.ev (eC (.int 1))) (.ev (eCall s__law_any [(.io 0), (.ev (eC (.int 7)))]))), (e2 dAdd (.ev (eC (.int 1))) (.ev (eCall s__law_any [(.io 0), (.ev (eC (.int 7)))])))]) (par_cons (po_ev (pd_bin op_addD vop_add (po_ev pd_int) (po_ev (pd_call ((ok__law_any C).mono (by decide)) hr hgd rfl C.g__law_any C.F__law_any.kp (bd__law_any C) (takes_of rfl rfl rfl rfl) rfl (par_cons (po_io 0) (par_cons (po_ev pd_int) par_nil)))))) (par_cons (po_ev (pd_bin op_addD vop_add (po_ev pd_int) (po_ev (pd_call ((ok__law_any C).mono (by decide)) hr hgd rfl C.g__law_any C.F__law_any.kp (bd__law_any C) (takes_of rfl rfl rfl rfl) rfl (par_cons (po_io 0) (par_cons (po_ev pd_int) par_nil)))))) par_nil)) (by decide)))))
  (psd_cons (psd_set 3 sc__law_small.nd (pd_call ((ok__law_any C).mono (by decide)) hr hgd rfl C.g__law_any C.F__law_any.kp (bd__law_any C) (takes_of rfl rfl rfl rfl) rfl (par_cons (po_io 0) (par_cons (po_ev (pd_bin op_addD vop_add (po_ev (pd_call ((ok__law_weighed C).mono (by decide)) hr hgd rfl C.g__law_weighed C.F__law_weighed.kp (bd__law_weighed C) (takes_of rfl rfl rfl rfl) rfl (par_cons (po_ev (pd_var 2)) (par_cons (po_ev (pd_var 1)) par_nil)))) (po_ev pd_int))) par_nil))))
  (psd_cons (psd_set 4 sc__law_small.nd (pd_bin op_addD vop_add (po_ev (pd_var 3)) (po_ev (pd_call ((ok__law_any C).mono (by decide)) hr hgd rfl C.g__law_any C.F__law_any.kp (bd__law_any C) (takes_of rfl rfl rfl rfl) rfl (par_cons (po_io 0) (par_cons (po_ev (pd_bin op_addD vop_add (po_ev pd_int) (po_ev (pd_b (cr_sum rfl) vop_sum rfl C.n_sum (par_cons (po_ev (pd_var 2)) par_nil))))) par_nil))))))
  (psd_cons (psd_set 5 sc__law_small.nd (pd_call ((ok__law_rows C).mono (by decide)) hr hgd rfl C.g__law_rows C.F__law_rows.kp (bd__law_rows C) (takes_of rfl rfl rfl rfl) rfl (par_cons (po_ev (pd_var 1)) (par_cons (po_ev (pd_var 2)) (par_cons (po_ev (pd_var 3)) (par_cons (po_ev (pd_var 4)) par_nil))))))
  (psd_cons (psd_set 6 sc__law_small.nd (pd_or (pd_cmp (op_eqD (hu64 hr)) vop_eq (po_ev (pd_var 5)) (po_ev (pl_pd (pl_disp (fs := []) par_nil (by decide)))) (by rfl)) (pd_one (pd_cmp (op_eqD (hu64 hr)) vop_eq (po_ev (pd_b call_lenD' vop_len rfl C.n_len (par_cons (po_ev (pd_call ((ok__law_reached C).mono (by decide)) hr hgd rfl C.g__law_reached C.F__law_reached.kp (bd__law_reached C) (takes_of rfl rfl rfl rfl) rfl (par_cons (po_ev (pd_var 5)) (par_cons (po_ev (pd_sub ix_seq vop_ix (po_ev (pd_var 5)) (po_ev pd_int) (by first | exact fun _ _ => rfl | decide))) par_nil)))) par_nil))) (po_ev (pd_b call_lenD' vop_len rfl C.n_len (par_cons (po_ev (pd_var 5)) par_nil))) (by rfl)))))
  (psd_cons (psd_if (ptd_not (ptd_val (pd_call ((ok__law_two C).mono (by decide)) hr hgd rfl C.g__law_two C.F__law_two.kp (bd__law_two C) (takes_of rfl rfl rfl rfl) rfl (par_cons (po_ev (pd_var 1)) (par_cons (po_ev (pd_var 2)) (par_cons (po_ev (pd_var 3)) (par_cons (po_ev (pd_var 4)) (par_cons (po_ev (pd_var 6)) par_nil)))))))) (psd_one (psd_ret pd_bl)) psd_nil)
  (psd_cons (psd_set 7 sc__law_small.nd (pd_bin op_addD vop_add (po_ev pd_int) (po_ev (pd_call ((ok__law_great C).mono (by decide)) hr hgd rfl C.g__law_great C.F__law_great.kp (bd__law_great C) (takes_of rfl rfl rfl rfl) rfl (par_cons (po_io 0) (par_cons (po_ev (pd_bin op_pow vop_pow (po_ev pd_int) (po_ev pd_int))) par_nil))))))
  (psd_cons (psd_par (i := 8) (j := 9) rfl sc__law_small.nd (pel_fz (pd_b (call_max2 rfl) vop_max2 rfl C.n_max (par_cons (po_ev pd_int) (par_cons (po_ev (pd_bin op_sub vop_sub (po_ev (pd_bin op_mulD vop_mul (po_ev (pd_var 3)) (po_ev (pd_var 7)))) (po_ev (pd_call ((ok__law_great C).mono (by decide)) hr hgd rfl C.g__law_great C.F__law_great.kp (bd__law_great C) (takes_of rfl rfl rfl rfl) rfl (par_cons (po_io 0) (par_cons (po_ev (pd_var 7)) par_nil)))))) par_nil)))) (pel_fz (pd_bin op_addD vop_add (po_ev (pd_bin op_mulD vop_mul (po_ev (pd_var 4)) (po_ev (pd_var 7)))) (po_ev (pd_call ((ok__law_great C).mono (by decide)) hr hgd rfl C.g__law_great C.F__law_great.kp (bd__law_great C) (takes_of rfl rfl rfl rfl) rfl (par_cons (po_io 0) (par_cons (po_ev (pd_var 7)) par_nil)))))))
  (psd_one (psd_ret (pd_call ((ok__law_two C).mono (by decide)) hr hgd rfl C.g__law_two C.F__law_two.kp (bd__law_two C) (takes_of rfl rfl rfl rfl) rfl (par_cons (po_ev (pd_var 1)) (par_cons (po_ev (pl_pd (pl_comp [("_law_weight", 10)] rfl sc__law_small.nd (pid_seq (pd_var 2)) (show BlkOk n__law_small (defScope (top 27)) _ _ from ⟨rfl, by decide +kernel, by decide +kernel, by decide +kernel, by decide +kernel⟩) (fun _ _ _ _ _ => (pgd_name 10 [10] (by decide) sc__law_small.nd)) (fun _ _ _ _ _ => ptsd_nil) (fun _ _ _ _ _ => (pd_bin op_mulD vop_mul (po_ev (pd_var 10)) (po_ev (pd_var 7))))))) (par_cons (po_ev (pd_var 8)) (par_cons (po_ev (pd_var 9)) (par_cons (po_ev (pd_var 6)) par_nil))))))))))))))))
end Wk
end

section
set_option Elab.async false
set_option linter.all false
set_option maxRecDepth 100000
set_option maxHeartbeats 0
namespace Wk
open PySem PySem.Spec PyProof.Rows L2 DL
def b__law_wide : SM :=
  (sSeq (sSet 1 (eL (eComp (iR1 (.ev (eC (.int 2)))) [8] (gN 8) cYes (e2 dAdd (.ev (eC (.int 1))) (.ev (eCall s__law_great [(.io 0), (.ev (eCall s__law_of [(.io 0), (.ev (eL (argGo (([(eC (.int 9)), (e2 dPow (.ev (eC (.int 10))) (.ev (eC (.int 6)))), (e2 dPow (.ev (eC (.int 10))) (.ev (eC (.int 14))))] : List (EM D)).map Opd.ev))))]))]))))))
  (sSeq (sOwn 2 (eComp (iR1 (.ev (eC (.int 2)))) [8] (gN 8) cYes (eCall s__law_great [(.io 0), (.ev (eCall s__law_of [(.io 0), (.ev (eL (argGo (([(eC (.int 2)), (eC (.int 100)), (e2 dPow (.ev (eC (.int 10))) (.ev (eC (.int 15))))] : List (EM D)).map Opd.ev))))]))])))
  (sSeq (sSetIt 2 (eC (.int 1)) (e2 dAdd (.ev (e2 dIx (.br 2) (.ev (eC (.int 1))))) (.ev (eC (.int 1)))))
  (sSeq (sSet 3 (eL (argGo (([(e2 dAdd (.ev (e2 dAdd (.ev (e2 dIx (.ev (eVar 2)) (.ev (eC (.int 0))))) (.ev (eC (.int 1))))) (.ev (eCall s__law_great [(.io 0), (.ev (eCall s__law_of [(.io 0), (.ev (eL (argGo (([(eC (.int 1)), (eC (.int 10)), (e2 dPow (.ev (eC (.int 10))) (.ev (eC (.int 15))))] : List (EM D)).map Opd.ev))))]))]))), (e2 dAdd (.ev (e2 dIx (.ev (eVar 2)) (.ev (eC (.int 1))))) (.ev (eCall s__law_great [(.io 0), (.ev (eCall s__law_of [(.io 0), (.ev (eL (argGo (([(eC (.int 1)), (eC (.int 10)), (e2 dPow (.ev (eC (.int 10))) (.ev (eC (.int 15))))] : List (EM D)).map Opd.ev))))]))])))] : List (EM D)).map Opd.ev))))
  (sSeq (sPar 4 5 (.fz (eCall s__law_weighed [(.ev (eVar 1)), (.ev (eVar 2))])) (.fz (eCall s__law_weighed [(.ev (eVar 1)), (.ev (eL (argGo (([(e2 dAdd (.ev (e2 dIx (.ev (eVar 2)) (.ev (eC (.int 0))))) (.ev (eC (.int 1)))), (e2 dSub (.ev (e2 dIx (.ev (eVar 2)) (.ev (eC (.int 1))))) (.ev (eC (.int 1))))] : List (EM D)).map Opd.ev))))])))
  (sSeq (sSet 6 (e2 dSub (.ev (eB (on2 dMin2) [(.ev (eVar 4)), (.ev (eVar 5))])) (.ev (eCall s__law_great [(.io 0), (.ev (e2 dAdd (.ev (e2 dSub (.ev (eB (on2 dMin2) [(.ev (eVar 4)), (.ev (eVar 5))])) (.ev (e2 dAdd (.ev (e2 dSub (.ev (eVar 4)) (.ev (e2 dIx (.ev (eVar 1)) (.ev (eC (.int 1))))))) (.ev (eC (.int 1))))))) (.ev (eC (.int 1)))))]))))
  (sSeq (sSet 7 (e2 dAdd (.ev (eB (on2 dMax2) [(.ev (eVar 4)), (.ev (eVar 5))])) (.ev (eCall s__law_great [(.io 0), (.ev (e2 dAdd (.ev (e2 dSub (.ev (e2 dSub (.ev (e2 dAdd (.ev (eVar 4)) (.ev (e2 dIx (.ev (eVar 1)) (.ev (eC (.int 0))))))) (.ev (eC (.int 1))))) (.ev (eB (on2 dMax2) [(.ev (eVar 4)), (.ev (eVar 5))])))) (.ev (eC (.int 1)))))]))))
  (sSeq (sIf (tNotB (eT (eCall s__law_cut [(.ev (eVar 3)), (.ev (eVar 1)), (.ev (eVar 6)), (.ev (eVar 7)), (.ev (eTup [(eB (on1 dTuple) [(.ev (eVar 2))]), (eTup [(e2 dAdd (.ev (e2 dIx (.ev (eVar 2)) (.ev (eC (.int 0))))) (.ev (eC (.int 1)))), (e2 dSub (.ev (e2 dIx (.ev (eVar 2)) (.ev (eC (.int 1))))) (.ev (eC (.int 1))))])]))]))) (sRet (eC (.bl false))) sNx)
  (sSeq (sIf (tOrB (tNotB (eT (eCall s__law_two [(.ev (eVar 3)), (.ev (eVar 1)), (.ev (eVar 6)), (.ev (eVar 7)), (.ev (eC (.bl false)))]))) (tNotB (eT (eCall s__law_two [(.ev (eRev (eVar 3))), (.ev (eRev (eVar 1))), (.ev (eVar 6)), (.ev (eVar 7)), (.ev (eC (.bl false)))])))) (sRet (eC (.bl false))) sNx)
  (sRet (eCall s__law_two [(.ev (eVar 3)), (.ev (eVar 1)), (.ev (eVar 6)), (.ev (e2 dAdd (.ev (e2 dSub (.ev (e2 dAdd (.ev (eVar 6)) (.ev (eB (on1 dSum) [(.ev (eVar 1))])))) (.ev (eC (.int 1))))) (.ev (eCall s__law_great [(.io 0), (.ev (eCall s__law_of [(.io 0), (.ev (eL (argGo (([(eC (.int 1)), (e2 dPow (.ev (eC (.int 10))) (.ev (eC (.int 14))))] : List (EM D)).map Opd.ev))))]))])))), (.ev (eC (.bl true)))])))))))))))
def s__law_wide : Sem' := runDef 1 9 b__law_wide
theorem ok__law_wide {P : Program} {w : World} {K : PySem.W.Frag} {mg : Str → Option Value} {base : Heap} (C : Fx K mg) : FnG P w K mg base 104 C.f__law_wide C.fd__law_wide ["_law_deal"] (spD K mg 1 s__law_wide) :=
  fnD (k := 103) (N := n__law_wide) (sm := b__law_wide) C.F__law_wide sc__law_wide (by decide) fun cdv A outer s H vs E hr hgd =>
  (psd_cons (psd_setLc 1 [("_law_turn", 8)] rfl sc__law_wide.nd (pid_range1 rfl C.n_range (par_cons (po_ev pd_int) par_nil)) (show BlkOk n__law_wide (defScope (top 28)) _ _ from ⟨rfl, by decide +kernel, by decide +kernel, by decide +kernel, by decide +kernel⟩) (fun _ _ _ _ _ => (pgd_name 8 [8] (by decide) sc__law_wide.nd)) (fun _ _ _ _ _ => ptsd_nil) (fun _ _ _ _ _ => (pd_bin op_addD vop_add (po_ev pd_int) (po_ev (pd_call ((ok__law_great C).mono (by decide)) hr hgd rfl C.g__law_great C.F__law_great.kp (bd__law_great C) takesW0 rfl (par_cons (po_io 0) (par_cons (po_ev (pd_call ((ok__law_of C).mono (by decide)) hr hgd rfl C.g__law_of C.F__law_of.kp (bd__law_of C) takesW0 rfl (par_cons (po_io 0) (par_cons (po_ev (pl_pd (pl_disp (fs := [(eC (.int 9)), (e2 dPow (.ev (eC (.int 10))) (.ev (eC (.int 6)))), (e2 dPow (.ev (eC (.int 10))) (.ev (eC (.int 14))))]) (par_cons (po_ev pd_int) (par_cons (po_ev (pd_bin op_pow vop_pow (po_ev pd_int) (po_ev pd_int))) (par_cons (po_ev (pd_bin op_pow vop_pow (po_ev pd_int) (po_ev pd_int))) par_nil))) (by decide)))) par_nil)))) par_nil)))))) rfl)
  (psd_cons (psd_ownLc 2 [("_law_turn", 8)] rfl sc__law_wide.nd (pid_range1 rfl C.n_range (par_cons (po_ev pd_int) par_nil)) (show BlkOk n__law_wide (defScope (top 28)) _ _ from ⟨rfl, by decide +kernel, by decide +kernel, by decide +kernel, by decide +kernel⟩) (fun _ _ _ _ _ => (pgd_name 8 [8] (by decide) sc__law_wide.nd)) (fun _ _ _ _ _ => ptsd_nil) (fun _ _ _ _ _ => (pd_call ((ok__law_great C).mono (by decide)) hr hgd rfl C.g__law_great C.F__law_great.kp (bd__law_great C) takesW0 rfl (par_cons (po_io 0) (par_cons (po_ev (pd_call ((ok__law_of C).mono (by decide)) hr hgd rfl C.g__law_of C.F__law_of.kp (bd__law_of C) takesW0 rfl (par_cons (po_io 0) (par_cons (po_ev (pl_pd (pl_disp (fs := [(eC (.int 2)), (eC (.int 100)), (e2 dPow (.ev (eC (.int 10))) (.ev (eC (.int 15))))]) (par_cons (po_ev pd_int) (par_cons (po_ev pd_int) (par_cons (po_ev (pd_bin op_pow vop_pow (po_ev pd_int) (po_ev pd_int))) par_nil))) (by decide)))) par_nil)))) par_nil)))) rfl)
  (psd_cons (psd_setIt 2 (pd_bin op_addD vop_add (po_ev (pd_sub ix_seq vop_ix (po_br 2) (po_ev pd_int) (by first | exact fun _ _ => rfl | decide))) (po_ev pd_int)) pd_int)
  (psd_cons (psd_set 3 sc__law_wide.nd (pl_pd (pl_disp (fs := [(e2 dAdd (.ev (e2 dAdd (.ev (e2 dIx (.ev (eVar 2)) (.ev (eC (.int 0))))) (.ev (eC (.int 1))))) (.ev (eCall s__law_great [(.io 0), (.ev (eCall s__law_of [(.io 0), (.ev (eL (argGo (([(eC (.int 1)), (eC (.int 10)), (e2 dPow (.ev (eC (.int 10))) (.ev (eC (.int 15))))] : List (EM D)).map Opd.ev))))]))]))), (e2 dAdd (.ev (e2 dIx (.ev (eVar 2)) (.ev (eC (.int 1))))) (.ev (eCall s__law_great [(.io 0), (.ev (eCall s__law_of [(.io 0), (.ev (eL (argGo (([(eC (.int 1)), (eC (.int 10)), (e2 dPow (.ev (eC (.int 10))) (.ev (eC (.int 15))))] : List (EM D)).map Opd.ev))))]))])))]) (par_cons (po_ev (pd_bin op_addD vop_add (po_ev (pd_bin op_addD vop_add (po_ev (pd_sub ix_seq vop_ix (po_ev (pd_var 2)) (po_ev pd_int) (by first | exact fun _ _ => rfl | decide))) (po_ev pd_int))) (po_ev (pd_call ((ok__law_great C).mono (by decide)) hr hgd rfl C.g__law_great C.F__law_great.kp (bd__law_great C) (takes_of rfl rfl rfl rfl) rfl (par_cons (po_io 0) (par_cons (po_ev (pd_call ((ok__law_of C).mono (by decide)) hr hgd rfl C.g__law_of C.F__law_of.kp (bd__law_of C) (takes_of rfl rfl rfl rfl) rfl (par_cons (po_io 0) (par_cons (po_ev (pl_pd (pl_disp (fs := [(eC (.int 1)), (eC (.int 10)), (e2 dPow (.ev (eC (.int 10))) (.ev (eC (.int 15))))]) (par_cons (po_ev pd_int) (par_cons (po_ev pd_int) (par_cons (po_ev (pd_bin op_pow vop_pow (po_ev pd_int) (po_ev pd_int))) par_nil))) (by decide)))) par_nil)))) par_nil)))))) (par_cons (po_ev (pd_bin op_addD vop_add (po_ev (pd_sub ix_seq vop_ix (po_ev (pd_var 2)) (po_ev pd_int) (by first | exact fun _ _ => rfl | decide))) (po_ev (pd_call ((ok__law_great C).mono (by decide)) hr hgd rfl C.g__law_great C.F__law_great.kp (bd__law_great C) (takes_of rfl rfl rfl rfl) rfl (par_cons (po_io 0) (par_cons (po_ev (pd_call ((ok__law_of C).mono (by decide)) hr hgd rfl C.g__law_of C.F__law_of.kp (bd__law_of C) (takes_of rfl rfl rfl rfl) rfl (par_cons (po_io 0) (par_cons (po_ev (pl_pd (pl_disp (fs := [(eC (.int 1)), (eC (.int 10)), (e2 dPow (.ev (eC (.int 10))) (.ev (eC (.int 15))))]) (par_cons (po_ev pd_int) (par_cons (po_ev pd_int) (par_cons (po_ev (pd_bin op_pow vop_pow (po_ev pd_int) (po_ev pd_int))) par_nil))) (by decide)))) par_nil)))) par_nil)))))) par_nil)) (by decide))))
  (psd_cons (psd_par (i := 4) (j := 5) rfl sc__law_wide.nd (pel_fz (pd_call ((ok__law_weighed C).mono (by decide)) hr hgd rfl C.g__law_weighed C.F__law_weighed.kp (bd__law_weighed C) (takes_of rfl rfl rfl rfl) rfl (par_cons (po_ev (pd_var 1)) (par_cons (po_ev (pd_var 2)) par_nil)))) (pel_fz (pd_call ((ok__law_weighed C).mono (by decide)) hr hgd rfl C.g__law_weighed C.F__law_weighed.kp (bd__law_weighed C) (takes_of rfl rfl rfl rfl) rfl (par_cons (po_ev (pd_var 1)) (par_cons (po_ev (pl_pd (pl_disp (fs := [(e2 dAdd (.ev (e2 dIx (.ev (eVar 2)) (.ev (eC (.int 0))))) (.ev (eC (.int 1)))), (e2 dSub (.ev (e2 dIx (.ev (eVar 2)) (.ev (eC (.int 1))))) (.ev (eC (.int 1))))]) (par_cons (po_ev (pd_bin op_addD vop_add (po_ev (pd_sub ix_seq vop_ix (po_ev (pd_var 2)) (po_ev pd_int) (by first | exact fun _ _ => rfl | decide))) (po_ev pd_int))) (par_cons (po_ev (pd_bin op_sub vop_sub (po_ev (pd_sub ix_seq vop_ix (po_ev (pd_var 2)) (po_ev pd_int) (by first | exact fun _ _ => rfl | decide))) (po_ev pd_int))) par_nil)) (by decide)))) par_nil)))))
  (psd_cons (psd_set 6 sc__law_wide.nd (pd_bin op_sub vop_sub (po_ev (pd_b (call_min2 rfl) vop_min2 rfl C.n_min (par_cons (po_ev (pd_var 4)) (par_cons (po_ev (pd_var 5)) par_nil)))) (po_ev (pd_call ((ok__law_great C).mono (by decide)) hr hgd rfl C.g__law_great C.F__law_great.kp (bd__law_great C) (takes_of rfl rfl rfl rfl) rfl (par_cons (po_io 0) (par_cons (po_ev (pd_bin op_addD vop_add (po_ev (pd_bin op_sub vop_sub (po_ev (pd_b (call_min2 rfl) vop_min2 rfl C.n_min (par_cons (po_ev (pd_var 4)) (par_cons (po_ev (pd_var 5)) par_nil)))) (po_ev (pd_bin op_addD vop_add (po_ev (pd_bin op_sub vop_sub (po_ev (pd_var 4)) (po_ev (pd_sub ix_seq vop_ix (po_ev (pd_var 1)) (po_ev pd_int) (by first | exact fun _ _ => rfl | decide))))) (po_ev pd_int))))) (po_ev pd_int))) par_nil))))))
  (psd_cons (psd_set 7 sc__law_wide.nd (pd_bin op_addD vop_add (po_ev (pd_b (call_max2 rfl) vop_max2 rfl C.n_max (par_cons (po_ev (pd_var 4)) (par_cons (po_ev (pd_var 5)) par_nil)))) (po_ev (pd_call ((ok__law_great C).mono (by decide)) hr hgd rfl C.g__law_great C.F__law_great.kp (bd__law_great C) (takes_of rfl rfl rfl rfl) rfl (par_cons (po_io 0) (par_cons (po_ev (pd_bin op_addD vop_add (po_ev (pd_bin op_sub vop_sub (po_ev (pd_bin op_sub vop_sub (po_ev (pd_bin op_addD vop_add (po_ev (pd_var 4)) (po_ev (pd_sub ix_seq vop_ix (po_ev (pd_var 1)) (po_ev pd_int) (by first | exact fun _ _ => rfl | decide))))) (po_ev pd_int))) (po_ev (pd_b (call_max2 rfl) vop_max2 rfl C.n_max (par_cons (po_ev (pd_var 4)) (par_cons (po_ev (pd_var 5)) par_nil)))))) (po_ev pd_int))) par_nil))))))
  (psd_cons (psd_if (ptd_not (ptd_val (pd_call ((ok__law_cut C).mono (by decide)) hr hgd rfl C.g__law_cut C.F__law_cut.kp (bd__law_cut C) (takes_of rfl rfl rfl rfl) rfl (par_cons (po_ev (pd_var 3)) (par_cons (po_ev (pd_var 1)) (par_cons (po_ev (pd_var 6)) (par_cons (po_ev (pd_var 7)) (par_cons (po_ev (pd_tup (fs := [(eB (on1 dTuple) [(.ev (eVar 2))]), (eTup [(e2 dAdd (.ev (e2 dIx (.ev (eVar 2)) (.ev (eC (.int 0))))) (.ev (eC (.int 1)))), (e2 dSub (.ev (e2 dIx (.ev (eVar 2)) (.ev (eC (.int 1))))) (.ev (eC (.int 1))))])]) (par_cons (po_ev (pd_ty call_tuple_of vop_tuple rfl C.n_tuple (par_cons (po_ev (pd_var 2)) par_nil))) (par_cons (po_ev (pd_tup (fs := [(e2 dAdd (.ev (e2 dIx (.ev (eVar 2)) (.ev (eC (.int 0))))) (.ev (eC (.int 1)))), (e2 dSub (.ev (e2 dIx (.ev (eVar 2)) (.ev (eC (.int 1))))) (.ev (eC (.int 1))))]) (par_cons (po_ev (pd_bin op_addD vop_add (po_ev (pd_sub ix_seq vop_ix (po_ev (pd_var 2)) (po_ev pd_int) (by first | exact fun _ _ => rfl | decide))) (po_ev pd_int))) (par_cons (po_ev (pd_bin op_sub vop_sub (po_ev (pd_sub ix_seq vop_ix (po_ev (pd_var 2)) (po_ev pd_int) (by first | exact fun _ _ => rfl | decide))) (po_ev pd_int))) par_nil)) (by decide))) par_nil)) (by decide))) par_nil)))))))) (psd_one (psd_ret pd_bl)) psd_nil)
  (psd_cons (psd_if (ptd_w (pwd_or (ptd_not (ptd_val (pd_call ((ok__law_two C).mono (by decide)) hr hgd rfl C.g__law_two C.F__law_two.kp (bd__law_two C) (takes_of rfl rfl rfl rfl) rfl (par_cons (po_ev (pd_var 3)) (par_cons (po_ev (pd_var 1)) (par_cons (po_ev (pd_var 6)) (par_cons (po_ev (pd_var 7)) (par_cons (po_ev pd_bl) par_nil)))))))) (pwd_or1 (ptd_not (ptd_val (pd_call ((ok__law_two C).mono (by decide)) hr hgd rfl C.g__law_two C.F__law_two.kp (bd__law_two C) (takes_of rfl rfl rfl rfl) rfl (par_cons (po_ev (pd_rev (pd_var 3))) (par_cons (po_ev (pd_rev (pd_var 1))) (par_cons (po_ev (pd_var 6)) (par_cons (po_ev (pd_var 7)) (par_cons (po_ev pd_bl) par_nil))))))))))) (psd_one (psd_ret pd_bl)) psd_nil)
  (psd_one (psd_ret (pd_call ((ok__law_two C).mono (by decide)) hr hgd rfl C.g__law_two C.F__law_two.kp (bd__law_two C) (takes_of rfl rfl rfl rfl) rfl (par_cons (po_ev (pd_var 3)) (par_cons (po_ev (pd_var 1)) (par_cons (po_ev (pd_var 6)) (par_cons (po_ev (pd_bin op_addD vop_add (po_ev (pd_bin op_sub vop_sub (po_ev (pd_bin op_addD vop_add (po_ev (pd_var 6)) (po_ev (pd_b (cr_sum rfl) vop_sum rfl C.n_sum (par_cons (po_ev (pd_var 1)) par_nil))))) (po_ev pd_int))) (po_ev (pd_call ((ok__law_great C).mono (by decide)) hr hgd rfl C.g__law_great C.F__law_great.kp (bd__law_great C) (takes_of rfl rfl rfl rfl) rfl (par_cons (po_io 0) (par_cons (po_ev (pd_call ((ok__law_of C).mono (by decide)) hr hgd rfl C.g__law_of C.F__law_of.kp (bd__law_of C) (takes_of rfl rfl rfl rfl) rfl (par_cons (po_io 0) (par_cons (po_ev (pl_pd (pl_disp (fs := [(eC (.int 1)), (e2 dPow (.ev (eC (.int 10))) (.ev (eC (.int 14))))]) (par_cons (po_ev pd_int) (par_cons (po_ev (pd_bin op_pow vop_pow (po_ev pd_int) (po_ev pd_int))) par_nil)) (by decide)))) par_nil)))) par_nil)))))) (par_cons (po_ev pd_bl) par_nil)))))))))))))))))

def b__law_near : SM :=
  (sSeq (sAsg (eVar 3) (gS 2 (gsCons (gN 4) (gsCons (gN 5) gsNil))))
  (sSeq (sSet 6 (eCall s__law_any [(.io 0), (.ev (eB (on1 dLen) [(.ev (eVar 4))]))]))
  (sSeq (sSet 7 (e2 dAdd (.ev (e2 dAdd (.ev (eSl (.ev (eVar 4)) none (some (eVar 6)))) (.ev (eTup [(eCall s__law_of [(.io 0), (.ev (eL (argGo (([(e2 dAdd (.ev (e2 dIx (.ev (eVar 4)) (.ev (eVar 6)))) (.ev (eC (.int 1)))), (e2 dSub (.ev (e2 dIx (.ev (eVar 4)) (.ev (eVar 6)))) (.ev (eC (.int 1)))), (eC .non), (eC (.str "0")), (eC (.bl true)), (e2 dAdd (.ev (e2 dIx (.ev (eVar 2)) (.ev (eVar 6)))) (.ev (eC (.int 1))))] : List (EM D)).map Opd.ev))))])])))) (.ev (eSl (.ev (eVar 4)) (some (e2 dAdd (.ev (eVar 6)) (.ev (eC (.int 1))))) none))))
  (sSeq (sSet 8 (eL (argGo (([(eL (argGo (([(eVar 4), (eVar 5)] : List (EM D)).map Opd.ev))), (eTup [(eVar 4)]), (eTup [(eVar 4), (eVar 5), (eVar 5)]), (eTup [(eB (on1 dList) [(.ev (eVar 4))]), (eVar 5)]), (eTup [(eVar 4), (eB (on1 dList) [(.ev (eVar 5))])]), (eTup [(eVar 7), (eVar 5)]), (eTup [(eVar 5), (eVar 7)]), (eC .non), (eC (.int 3)), (eTup [(eVar 4), (eVar 4)])] : List (EM D)).map Opd.ev))))
  (sRet (eCall s__law_of [(.io 0), (.ev (e2 dAdd (.ev (eVar 8)) (.ev (eL (argGo (([(eTup [(eVar 4), (eVar 7)]), (eTup [(eVar 5), (eVar 4)]), (eTup [(eVar 4), (eCall s__law_of [(.io 0), (.ev (eVar 1))])]), (eC (.str "01")), (eC (.dK [] [])), (eTup [(e2 dAdd (.ev (eVar 4)) (.ev (eTup [(eC (.int 0))]))), (eVar 5)])] : List (EM D)).map Opd.ev))))))]))))))
def s__law_near : Sem' := runDef 4 9 b__law_near
theorem ok__law_near {P : Program} {w : World} {K : PySem.W.Frag} {mg : Str → Option Value} {base : Heap} (C : Fx K mg) : FnG P w K mg base 3 C.f__law_near C.fd__law_near ["_law_deal", "_law_rows_here", "_law_caps", "_law_pair"] (spD K mg 4 s__law_near) :=
  fnD (k := 2) (N := n__law_near) (sm := b__law_near) C.F__law_near sc__law_near (by decide) fun cdv A outer s H vs E hr hgd =>
  (psd_cons (psd_asg (pd_var 3) (pgd_seq rfl (pgsd_cons (pgd_name 4 [4, 5] (by decide) sc__law_near.nd) (pgsd_cons (pgd_name 5 [4, 5] (by decide) sc__law_near.nd) pgsd_nil))))
  (psd_cons (psd_set 6 sc__law_near.nd (pd_call ((ok__law_any C).mono (by decide)) hr hgd rfl C.g__law_any C.F__law_any.kp (bd__law_any C) (takes_of rfl rfl rfl rfl) rfl (par_cons (po_io 0) (par_cons (po_ev (pd_b call_lenD' vop_len rfl C.n_len (par_cons (po_ev (pd_var 4)) par_nil))) par_nil))))
  (psd_cons (psd_set 7 sc__law_near.nd (pd_bin op_addD vop_add (po_ev (pd_bin op_addD vop_add (po_ev (pd_slice (ol := none) (oh := (some (eVar 6))) (po_ev (pd_var 4)) trivial (pd_var 6))) (po_ev (pd_tup (fs := [(eCall s__law_of [(.io 0), (.ev (eL (argGo (([(e2 dAdd (.ev (e2 dIx (.ev (eVar 4)) (.ev (eVar 6)))) (.ev (eC (.int 1)))), (e2 dSub (.ev (e2 dIx (.ev (eVar 4)) (.ev (eVar 6)))) (.ev (eC (.int 1)))), (eC .non), (eC (.str "0")), (eC (.bl true)), (e2 dAdd (.ev (e2 dIx (.ev (eVar 2)) (.ev (eVar 6)))) (.ev (eC (.int 1))))] : List (EM D)).map Opd.ev))))])]) (par_cons (po_ev (pd_call ((ok__law_of C).mono (by decide)) hr hgd rfl C.g__law_of C.F__law_of.kp (bd__law_of C) (takes_of rfl rfl rfl rfl) rfl (par_cons (po_io 0) (par_cons (po_ev (pl_pd (pl_disp (fs := [(e2 dAdd (.ev (e2 dIx (.ev (eVar 4)) (.ev (eVar 6)))) (.ev (eC (.int 1)))), (e2 dSub (.ev (e2 dIx (.ev (eVar 4)) (.ev (eVar 6)))) (.ev (eC (.int 1)))), (eC .non), (eC (.str "0")), (eC (.bl true)), (e2 dAdd (.ev (e2 dIx (.ev (eVar 2)) (.ev (eVar 6)))) (.ev (eC (.int 1))))]) (par_cons (po_ev (pd_bin op_addD vop_add (po_ev (pd_sub ix_seq vop_ix (po_ev (pd_var 4)) (po_ev (pd_var 6)) (by first | exact fun _ _ => rfl | decide))) (po_ev pd_int))) (par_cons (po_ev (pd_bin op_sub vop_sub (po_ev (pd_sub ix_seq vop_ix (po_ev (pd_var 4)) (po_ev (pd_var 6)) (by first | exact fun _ _ => rfl | decide))) (po_ev pd_int))) (par_cons (po_ev pd_non) (par_cons (po_ev pd_str) (par_cons (po_ev pd_bl) (par_cons (po_ev (pd_bin op_addD vop_add (po_ev (pd_sub ix_seq vop_ix (po_ev (pd_var 2)) (po_ev (pd_var 6)) (by first | exact fun _ _ => rfl | decide))) (po_ev pd_int))) par_nil)))))) (by decide)))) par_nil)))) par_nil) (by decide))))) (po_ev (pd_slice (ol := (some (e2 dAdd (.ev (eVar 6)) (.ev (eC (.int 1)))))) (oh := none) (po_ev (pd_var 4)) (pd_bin op_addD vop_add (po_ev (pd_var 6)) (po_ev pd_int)) trivial))))
  (psd_cons (psd_set 8 sc__law_near.nd (pl_pd (pl_disp (fs := [(eL (argGo (([(eVar 4), (eVar 5)] : List (EM D)).map Opd.ev))), (eTup [(eVar 4)]), (eTup [(eVar 4), (eVar 5), (eVar 5)]), (eTup [(eB (on1 dList) [(.ev (eVar 4))]), (eVar 5)]), (eTup [(eVar 4), (eB (on1 dList) [(.ev (eVar 5))])]), (eTup [(eVar 7), (eVar 5)]), (eTup [(eVar 5), (eVar 7)]), (eC .non), (eC (.int 3)), (eTup [(eVar 4), (eVar 4)])]) (par_cons (po_ev (pl_pd (pl_disp (fs := [(eVar 4), (eVar 5)]) (par_cons (po_ev (pd_var 4)) (par_cons (po_ev (pd_var 5)) par_nil)) (by decide)))) (par_cons (po_ev (pd_tup (fs := [(eVar 4)]) (par_cons (po_ev (pd_var 4)) par_nil) (by decide))) (par_cons (po_ev (pd_tup (fs := [(eVar 4), (eVar 5), (eVar 5)]) (par_cons (po_ev (pd_var 4)) (par_cons (po_ev (pd_var 5)) (par_cons (po_ev (pd_var 5)) par_nil))) (by decide))) (par_cons (po_ev (pd_tup (fs := [(eB (on1 dList) [(.ev (eVar 4))]), (eVar 5)]) (par_cons (po_ev (pd_ty call_list_of vop_list rfl C.n_list (par_cons (po_ev (pd_var 4)) par_nil))) (par_cons (po_ev (pd_var 5)) par_nil)) (by decide))) (par_cons (po_ev (pd_tup (fs := [(eVar 4), (eB (on1 dList) [(.ev (eVar 5))])]) (par_cons (po_ev (pd_var 4)) (par_cons (po_ev (pd_ty call_list_of vop_list rfl C.n_list (par_cons (po_ev (pd_var 5)) par_nil))) par_nil)) (by decide))) (par_cons (po_ev (pd_tup (fs := [(eVar 7), (eVar 5)]) (par_cons (po_ev (pd_var 7)) (par_cons (po_ev (pd_var 5)) par_nil)) (by decide))) (par_cons (po_ev (pd_tup (fs := [(eVar 5), (eVar 7)]) (par_cons (po_ev (pd_var 5)) (par_cons (po_ev (pd_var 7)) par_nil)) (by decide))) (par_cons (po_ev pd_non) (par_cons (po_ev pd_int) (par_cons (po_ev (pd_tup (fs := [(eVar 4), (eVar 4)]) (par_cons (po_ev (pd_var 4)) (par_cons (po_ev (pd_var 4)) par_nil)) (by decide))) par_nil)))))))))) (by decide))))
  (psd_one (psd_ret (pd_call ((ok__law_of C).mono (by decide)) hr hgd rfl C.g__law_of C.F__law_of.kp (bd__law_of C) (takes_of rfl rfl rfl rfl) rfl (par_cons (po_io 0) (par_cons (po_ev (pd_bin op_addD vop_add (po_ev (pd_var 8)) (po_ev (pl_pd (pl_disp (fs := [(eTup [(eVar 4), (eVar 7)]), (eTup [(eVar 5), (eVar 4)]), (eTup [(eVar 4), (eCall s__law_of [(.io 0), (.ev (eVar 1))])]), (eC (.str "01")), (eC (.dK [] [])), (eTup [(e2 dAdd (.ev (eVar 4)) (.ev (eTup [(eC (.int 0))]))), (eVar 5)])]) (par_cons (po_ev (pd_tup (fs := [(eVar 4), (eVar 7)]) (par_cons (po_ev (pd_var 4)) (par_cons (po_ev (pd_var 7)) par_nil)) (by decide))) (par_cons (po_ev (pd_tup (fs := [(eVar 5), (eVar 4)]) (par_cons (po_ev (pd_var 5)) (par_cons (po_ev (pd_var 4)) par_nil)) (by decide))) (par_cons (po_ev (pd_tup (fs := [(eVar 4), (eCall s__law_of [(.io 0), (.ev (eVar 1))])]) (par_cons (po_ev (pd_var 4)) (par_cons (po_ev (pd_call ((ok__law_of C).mono (by decide)) hr hgd rfl C.g__law_of C.F__law_of.kp (bd__law_of C) (takes_of rfl rfl rfl rfl) rfl (par_cons (po_io 0) (par_cons (po_ev (pd_var 1)) par_nil)))) par_nil)) (by decide))) (par_cons (po_ev pd_str) (par_cons (po_ev pd_dict0) (par_cons (po_ev (pd_tup (fs := [(e2 dAdd (.ev (eVar 4)) (.ev (eTup [(eC (.int 0))]))), (eVar 5)]) (par_cons (po_ev (pd_bin op_addD vop_add (po_ev (pd_var 4)) (po_ev (pd_tup (fs := [(eC (.int 0))]) (par_cons (po_ev pd_int) par_nil) (by decide))))) (par_cons (po_ev (pd_var 5)) par_nil)) (by decide))) par_nil)))))) (by decide)))))) par_nil)))))))))

def b__law_near_cuts : SM :=
  (sSeq (sSet 5 (eCall s__law_rows [(.ev (eVar 1)), (.ev (eVar 2)), (.ev (eVar 3)), (.ev (eVar 4))]))
  (sSeq (sFor (iR1 (.ev (eIf (eT (e2 dNe (.ev (eVar 5)) (.ev (eL (argGo (([] : List (EM D)).map Opd.ev)))))) (eC (.int 4)) (eC (.int 0))))) (gN 6) (sSeq (sSet 7 (eCall s__law_of [(.io 0), (.ev (eVar 5))]))
  (sSeq (sSet 8 (eL (eComp (iS (eVar 5)) [12] (gN 12) (eT (e2 dEq (.ev (eB (on1 dLen) [(.ev (eL (eComp (iR1 (.ev (eB (on1 dLen) [(.ev (eVar 12))]))) [13] (gN 13) (eT (e2 dNe (.ev (e2 dIx (.ev (eVar 12)) (.ev (eVar 13)))) (.ev (e2 dIx (.ev (eVar 7)) (.ev (eVar 13)))))) (eVar 13))))])) (.ev (eC (.int 2))))) (eVar 12))))
  (sSeq (sSet 8 (eL (eComp (iS (eVar 8)) [12] (gN 12) (eT (eCall s__law_cut [(.ev (eVar 1)), (.ev (eVar 2)), (.ev (eVar 3)), (.ev (eVar 4)), (.ev (eTup [(eVar 7), (eVar 12)]))])) (eVar 12))))
  (sSeq (sSet 9 (eIf (eT (e2 dNe (.ev (eVar 8)) (.ev (eL (argGo (([] : List (EM D)).map Opd.ev)))))) (eCall s__law_of [(.io 0), (.ev (eVar 8))]) (eCall s__law_of [(.io 0), (.ev (eVar 5))])))
  (sFor (iS (eL (argGo (([(eTup [(eVar 7), (eVar 9)]), (eCall s__law_near [(.io 0), (.ev (eVar 5)), (.ev (eVar 1)), (.ev (eTup [(eVar 7), (eVar 9)]))])] : List (EM D)).map Opd.ev)))) (gN 10) (sSeq (sSet 11 (eB (on1 dRepr) [(.ev (eCall s__law_cut [(.ev (eVar 1)), (.ev (eVar 2)), (.ev (eVar 3)), (.ev (eVar 4)), (.ev (eVar 10))]))]))
  (sIf (tOrB (eT (e2 dNe (.ev (eB (on1 dRepr) [(.ev (eCall s_is_cut [(.ev (eVar 1)), (.ev (eVar 2)), (.ev (eVar 3)), (.ev (eVar 4)), (.ev (eVar 10))]))])) (.ev (eVar 11)))) (eT (e2 dNe (.ev (eB (on1 dRepr) [(.ev (eCall s_is_cut [(.ev (eVar 1)), (.ev (eVar 2)), (.ev (eVar 3)), (.ev (eVar 4)), (.ev (eVar 10))]))])) (.ev (eVar 11))))) (sRet (eC (.bl false))) sNx))))))))
  (sRet (eC (.bl true)))))
def s__law_near_cuts : Sem' := runDef 5 14 b__law_near_cuts
theorem ok__law_near_cuts {P : Program} {w : World} {K : PySem.W.Frag} {mg : Str → Option Value} {base : Heap} (C : Fx K mg) : FnG P w K mg base 6 C.f__law_near_cuts C.fd__law_near_cuts ["_law_deal", "_law_caps", "_law_weights", "_law_low", "_law_high"] (spD K mg 5 s__law_near_cuts) :=
  fnD (k := 5) (N := n__law_near_cuts) (sm := b__law_near_cuts) C.F__law_near_cuts sc__law_near_cuts (by decide) fun cdv A outer s H vs E hr hgd =>
  (psd_cons (psd_set 5 sc__law_near_cuts.nd (pd_call ((ok__law_rows C).mono (by decide)) hr hgd rfl C.g__law_rows C.F__law_rows.kp (bd__law_rows C) (takes_of rfl rfl rfl rfl) rfl (par_cons (po_ev (pd_var 1)) (par_cons (po_ev (pd_var 2)) (par_cons (po_ev (pd_var 3)) (par_cons (po_ev (pd_var 4)) par_nil))))))
  (psd_cons (psd_for (passes_of rfl) rfl (pid_range1 rfl C.n_range (par_cons (po_ev (pd_if (ptd_cmp (op_neD (hu64 hr)) vop_ne (po_ev (pd_var 5)) (po_ev (pl_pd (pl_disp (fs := []) par_nil (by decide)))) (by rfl)) pd_int pd_int)) par_nil)) (pgd_name 6 [6] (by decide) sc__law_near_cuts.nd) (psd_cons (psd_set 7 sc__law_near_cuts.nd (pd_call ((ok__law_of C).mono (by decide)) hr hgd rfl C.g__law_of C.F__law_of.kp (bd__law_of C) (takes_of rfl rfl rfl rfl) rfl (par_cons (po_io 0) (par_cons (po_ev (pd_var 5)) par_nil))))
  (psd_cons (psd_setLc 8 [("_law_row", 12)] rfl sc__law_near_cuts.nd (pid_seq (pd_var 5)) (show BlkOk n__law_near_cuts (defScope (top 30)) _ _ from ⟨rfl, by decide +kernel, by decide +kernel, by decide +kernel, by decide +kernel⟩) (fun _ _ _ _ _ => (pgd_name 12 [12] (by decide) sc__law_near_cuts.nd)) (fun _ _ _ _ _ => (ptsd_one (ptd_cmp (op_eqD (hu64 hr)) vop_eq (po_ev (pd_b call_lenD' vop_len rfl C.n_len (par_cons (po_ev (pl_pd (pl_comp [("_law_key", 13)] rfl sc__law_near_cuts.nd (pid_range1 rfl C.n_range (par_cons (po_ev (pd_b call_lenD' vop_len rfl C.n_len (par_cons (po_ev (pd_var 12)) par_nil))) par_nil)) (blk_of (by kernel_rfl)) (fun _ _ _ _ _ => (pgd_name 13 [13] (by decide) sc__law_near_cuts.nd)) (fun _ _ _ _ _ => (ptsd_one (ptd_cmp (op_neD (hu64 hr)) vop_ne (po_ev (pd_sub ix_seq vop_ix (po_ev (pd_var 12)) (po_ev (pd_var 13)) (by first | exact fun _ _ => rfl | decide))) (po_ev (pd_sub ix_seq vop_ix (po_ev (pd_var 7)) (po_ev (pd_var 13)) (by first | exact fun _ _ => rfl | decide))) (by rfl)))) (fun _ _ _ _ _ => (pd_var 13))))) par_nil))) (po_ev pd_int) (by rfl)))) (fun _ _ _ _ _ => (pd_var 12)) rfl)
  (psd_cons (psd_setLc 8 [("_law_row", 12)] rfl sc__law_near_cuts.nd (pid_seq (pd_var 8)) (show BlkOk n__law_near_cuts (defScope (top 30)) _ _ from ⟨rfl, by decide +kernel, by decide +kernel, by decide +kernel, by decide +kernel⟩) (fun _ _ _ _ _ => (pgd_name 12 [12] (by decide) sc__law_near_cuts.nd)) (fun _ _ _ _ _ => (ptsd_one (ptd_val (pd_call ((ok__law_cut C).mono (by decide)) hr hgd rfl C.g__law_cut C.F__law_cut.kp (bd__law_cut C) takesW0 rfl (par_cons (po_ev (pd_var 1)) (par_cons (po_ev (pd_var 2)) (par_cons (po_ev (pd_var 3)) (par_cons (po_ev (pd_var 4)) (par_cons (po_ev (pd_tup (fs := [(eVar 7), (eVar 12)]) (par_cons (po_ev (pd_var 7)) (par_cons (po_ev (pd_var 12)) par_nil)) (by decide))) par_nil))))))))) (fun _ _ _ _ _ => (pd_var 12)) rfl)
  (psd_cons (psd_set 9 sc__law_near_cuts.nd (pd_if (ptd_cmp (op_neD (hu64 hr)) vop_ne (po_ev (pd_var 8)) (po_ev (pl_pd (pl_disp (fs := []) par_nil (by decide)))) (by rfl)) (pd_call ((ok__law_of C).mono (by decide)) hr hgd rfl C.g__law_of C.F__law_of.kp (bd__law_of C) (takes_of rfl rfl rfl rfl) rfl (par_cons (po_io 0) (par_cons (po_ev (pd_var 8)) par_nil))) (pd_call ((ok__law_of C).mono (by decide)) hr hgd rfl C.g__law_of C.F__law_of.kp (bd__law_of C) (takes_of rfl rfl rfl rfl) rfl (par_cons (po_io 0) (par_cons (po_ev (pd_var 5)) par_nil)))))
  (psd_one (psd_for (passes_of rfl) rfl (pid_seq (pl_pd (pl_disp (fs := [(eTup [(eVar 7), (eVar 9)]), (eCall s__law_near [(.io 0), (.ev (eVar 5)), (.ev (eVar 1)), (.ev (eTup [(eVar 7), (eVar 9)]))])]) (par_cons (po_ev (pd_tup (fs := [(eVar 7), (eVar 9)]) (par_cons (po_ev (pd_var 7)) (par_cons (po_ev (pd_var 9)) par_nil)) (by decide))) (par_cons (po_ev (pd_call ((ok__law_near C).mono (by decide)) hr hgd rfl C.g__law_near C.F__law_near.kp (bd__law_near C) (takes_of rfl rfl rfl rfl) rfl (par_cons (po_io 0) (par_cons (po_ev (pd_var 5)) (par_cons (po_ev (pd_var 1)) (par_cons (po_ev (pd_tup (fs := [(eVar 7), (eVar 9)]) (par_cons (po_ev (pd_var 7)) (par_cons (po_ev (pd_var 9)) par_nil)) (by decide))) par_nil)))))) par_nil)) (by decide)))) (pgd_name 10 [10] (by decide) sc__law_near_cuts.nd) (psd_cons (psd_set 11 sc__law_near_cuts.nd (pd_b call_reprD vop_repr rfl C.n_repr (par_cons (po_ev (pd_call ((ok__law_cut C).mono (by decide)) hr hgd rfl C.g__law_cut C.F__law_cut.kp (bd__law_cut C) (takes_of rfl rfl rfl rfl) rfl (par_cons (po_ev (pd_var 1)) (par_cons (po_ev (pd_var 2)) (par_cons (po_ev (pd_var 3)) (par_cons (po_ev (pd_var 4)) (par_cons (po_ev (pd_var 10)) par_nil))))))) par_nil)))
  (psd_one (psd_if (ptd_w (pwd_or (ptd_cmp (op_neD (hu64 hr)) vop_ne (po_ev (pd_b call_reprD vop_repr rfl C.n_repr (par_cons (po_ev (pd_call ((ok_is_cut C).mono (by decide)) hr hgd rfl C.g_is_cut C.F_is_cut.kp (bd_is_cut C) (takes_of rfl rfl rfl rfl) rfl (par_cons (po_ev (pd_var 1)) (par_cons (po_ev (pd_var 2)) (par_cons (po_ev (pd_var 3)) (par_cons (po_ev (pd_var 4)) (par_cons (po_ev (pd_var 10)) par_nil))))))) par_nil))) (po_ev (pd_var 11)) (by rfl)) (pwd_or1 (ptd_cmp (op_neD (hu64 hr)) vop_ne (po_ev (pd_b call_reprD vop_repr rfl C.n_repr (par_cons (po_ev (pd_call ((ok_is_cut C).mono (by decide)) hr hgd rfl C.g_is_cut C.F_is_cut.kp (bd_is_cut C) (takes_of rfl rfl rfl rfl) rfl (par_cons (po_ev (pd_var 1)) (par_cons (po_ev (pd_var 2)) (par_cons (po_ev (pd_var 3)) (par_cons (po_ev (pd_var 4)) (par_cons (po_ev (pd_var 10)) par_nil))))))) par_nil))) (po_ev (pd_var 11)) (by rfl))))) (psd_one (psd_ret pd_bl)) psd_nil))))))))))
  (psd_one (psd_ret pd_bl))))

def b__law_enough : SM :=
  (sSeq (sSet 2 (eSl (.ev (eB (on1 dSortDat) [(.ev (eL (eComp (iZp (eVar 1) (eVar 0)) [3, 4] (gS 2 (gsCons (gN 3) (gsCons (gN 4) gsNil))) (eT (e2 dGt (.ev (eVar 4)) (.ev (eC (.int 0))))) (eVar 3))))])) (some (e1 dNeg (.ev (eC (.int 2))))) none))
  (sRet (eIf (eT (e2 dEq (.ev (eB (on1 dLen) [(.ev (eVar 2))])) (.ev (eC (.int 2))))) (e2 dSub (.ev (eB (on1 dSum) [(.ev (eVar 2))])) (.ev (eC (.int 1)))) (eC (.int 0)))))
def s__law_enough : Sem' := runDef 2 5 b__law_enough
theorem ok__law_enough {P : Program} {w : World} {K : PySem.W.Frag} {mg : Str → Option Value} {base : Heap} (C : Fx K mg) : FnG P w K mg base 1 C.f__law_enough C.fd__law_enough ["_law_caps", "_law_weights"] (spD K mg 2 s__law_enough) :=
  fnD (k := 0) (N := n__law_enough) (sm := b__law_enough) C.F__law_enough sc__law_enough (by decide) fun cdv A outer s H vs E hr hgd =>
  (psd_cons (psd_set 2 sc__law_enough.nd (pd_slice (ol := (some (e1 dNeg (.ev (eC (.int 2)))))) (oh := none) (po_ev (pd_b (cr_sortDat (hu40 hr)) vop_sortDat rfl C.n_sorted (par_cons (po_ev (pl_pd (pl_comp [("_law_weight", 3), ("_law_cap", 4)] rfl sc__law_enough.nd (pid_zip rfl C.n_zip (pd_var 1) (pd_var 0)) (show BlkOk n__law_enough (defScope (top 31)) _ _ from ⟨rfl, by decide +kernel, by decide +kernel, by decide +kernel, by decide +kernel⟩) (fun _ _ _ _ _ => (pgd_seq rfl (pgsd_cons (pgd_name 3 [3, 4] (by decide) sc__law_enough.nd) (pgsd_cons (pgd_name 4 [3, 4] (by decide) sc__law_enough.nd) pgsd_nil)))) (fun _ _ _ _ _ => (ptsd_one (ptd_cmp op_gt (vop_cmp _) (po_ev (pd_var 4)) (po_ev pd_int) (by rfl)))) (fun _ _ _ _ _ => (pd_var 3))))) par_nil))) (pd_un un_neg vop_neg (po_ev pd_int)) trivial))
  (psd_one (psd_ret (pd_if (ptd_cmp (op_eqD (hu64 hr)) vop_eq (po_ev (pd_b call_lenD' vop_len rfl C.n_len (par_cons (po_ev (pd_var 2)) par_nil))) (po_ev pd_int) (by rfl)) (pd_bin op_sub vop_sub (po_ev (pd_b (cr_sum rfl) vop_sum rfl C.n_sum (par_cons (po_ev (pd_var 2)) par_nil))) (po_ev pd_int)) pd_int))))

def b__law_slack : SM :=
  (sSeq (sSet 2 (eCall s__law_enough [(.ev (eVar 0)), (.ev (eVar 1))]))
  (sSeq (sIf (tOrB (eT (e2 dNe (.ev (eB (on1 dRepr) [(.ev (eCall s_enough_slack [(.ev (eVar 0)), (.ev (eVar 1))]))])) (.ev (eB (on1 dRepr) [(.ev (eVar 2))])))) (eT (e2 dNe (.ev (eB (on1 dRepr) [(.ev (eCallKw s_enough_slack [1, 0] [] [(.ev (eB (on1 dTuple) [(.ev (eVar 1))])), (.ev (eB (on1 dTuple) [(.ev (eVar 0))]))]))])) (.ev (eB (on1 dRepr) [(.ev (eVar 2))]))))) (sRet (eC (.bl false))) sNx)
  (sSeq (sFor (iS (eL (argGo (([(eCall s_slack_cut [(.ev (eVar 0)), (.ev (eVar 1))]), (eCallKw s_slack_cut [1, 0] [] [(.ev (eB (on1 dTuple) [(.ev (eVar 1))])), (.ev (eB (on1 dTuple) [(.ev (eVar 0))]))])] : List (EM D)).map Opd.ev)))) (gN 3) (sIf (eT (e2 dEq (.ev (eVar 2)) (.ev (eC (.int 0))))) (sIf (eT (e2 dNotN (.ev (eVar 3)) (.ev (eC .non)))) (sRet (eC (.bl false))) sNx) (sSeq (sIf (tOrB (tNotB (eT (e1 (dIsi "tuple") (.ev (eVar 3))))) (eT (e2 dNe (.ev (eB (on1 dLen) [(.ev (eVar 3))])) (.ev (eC (.int 3)))))) (sRet (eC (.bl false))) sNx)
  (sSeq (sAsg (eVar 3) (gS 3 (gsCons (gN 4) (gsCons (gN 5) (gsCons (gN 6) gsNil)))))
  (sSeq (sIf (tOrB (tNotB (eT (e1 (dIsi "int") (.ev (eVar 4))))) (tOrB (eT (e1 (dIsi "bool") (.ev (eVar 4)))) (eT (e2 dLt (.ev (eVar 4)) (.ev (eC (.int 0))))))) (sRet (eC (.bl false))) sNx)
  (sIf (tNotB (eT (eCall s__law_cut [(.ev (eVar 0)), (.ev (eVar 1)), (.ev (eVar 4)), (.ev (e2 dSub (.ev (e2 dAdd (.ev (eVar 4)) (.ev (eVar 2)))) (.ev (eC (.int 1))))), (.ev (eTup [(eVar 5), (eVar 6)]))]))) (sRet (eC (.bl false))) sNx))))))
  (sRet (eC (.bl true))))))
def s__law_slack : Sem' := runDef 2 7 b__law_slack
theorem ok__law_slack {P : Program} {w : World} {K : PySem.W.Frag} {mg : Str → Option Value} {base : Heap} (C : Fx K mg) : FnG P w K mg base 4 C.f__law_slack C.fd__law_slack ["_law_caps", "_law_weights"] (spD K mg 2 s__law_slack) :=
  fnD (k := 3) (N := n__law_slack) (sm := b__law_slack) C.F__law_slack sc__law_slack (by decide) fun cdv A outer s H vs E hr hgd =>
  (psd_cons (psd_set 2 sc__law_slack.nd (pd_call ((ok__law_enough C).mono (by decide)) hr hgd rfl C.g__law_enough C.F__law_enough.kp (bd__law_enough C) (takes_of rfl rfl rfl rfl) rfl (par_cons (po_ev (pd_var 0)) (par_cons (po_ev (pd_var 1)) par_nil))))
  (psd_cons (psd_if (ptd_w (pwd_or (ptd_cmp (op_neD (hu64 hr)) vop_ne (po_ev (pd_b call_reprD vop_repr rfl C.n_repr (par_cons (po_ev (pd_call ((ok_enough_slack C).mono (by decide)) hr hgd rfl C.g_enough_slack C.F_enough_slack.kp (bd_enough_slack C) (takes_of rfl rfl rfl rfl) rfl (par_cons (po_ev (pd_var 0)) (par_cons (po_ev (pd_var 1)) par_nil)))) par_nil))) (po_ev (pd_b call_reprD vop_repr rfl C.n_repr (par_cons (po_ev (pd_var 2)) par_nil))) (by rfl)) (pwd_or1 (ptd_cmp (op_neD (hu64 hr)) vop_ne (po_ev (pd_b call_reprD vop_repr rfl C.n_repr (par_cons (po_ev (pd_callKw0 ((ok_enough_slack C).mono (by decide)) hr hgd rfl C.g_enough_slack C.F_enough_slack.kp (kw_enough_slack_0_weights_caps C) (takes_of rfl rfl rfl rfl) rfl rfl (pkr_cons (po_ev (pd_ty call_tuple_of vop_tuple rfl C.n_tuple (par_cons (po_ev (pd_var 1)) par_nil))) (pkr_cons (po_ev (pd_ty call_tuple_of vop_tuple rfl C.n_tuple (par_cons (po_ev (pd_var 0)) par_nil))) pkr_nil)))) par_nil))) (po_ev (pd_b call_reprD vop_repr rfl C.n_repr (par_cons (po_ev (pd_var 2)) par_nil))) (by rfl))))) (psd_one (psd_ret pd_bl)) psd_nil)
  (psd_cons (psd_for (passes_of rfl) rfl (pid_seq (pl_pd (pl_disp (fs := [(eCall s_slack_cut [(.ev (eVar 0)), (.ev (eVar 1))]), (eCallKw s_slack_cut [1, 0] [] [(.ev (eB (on1 dTuple) [(.ev (eVar 1))])), (.ev (eB (on1 dTuple) [(.ev (eVar 0))]))])]) (par_cons (po_ev (pd_call ((ok_slack_cut C).mono (by decide)) hr hgd rfl C.g_slack_cut C.F_slack_cut.kp (bd_slack_cut C) (takes_of rfl rfl rfl rfl) rfl (par_cons (po_ev (pd_var 0)) (par_cons (po_ev (pd_var 1)) par_nil)))) (par_cons (po_ev (pd_callKw0 ((ok_slack_cut C).mono (by decide)) hr hgd rfl C.g_slack_cut C.F_slack_cut.kp (kw_slack_cut_0_weights_caps C) (takes_of rfl rfl rfl rfl) rfl rfl (pkr_cons (po_ev (pd_ty call_tuple_of vop_tuple rfl C.n_tuple (par_cons (po_ev (pd_var 1)) par_nil))) (pkr_cons (po_ev (pd_ty call_tuple_of vop_tuple rfl C.n_tuple (par_cons (po_ev (pd_var 0)) par_nil))) pkr_nil)))) par_nil)) (by decide)))) (pgd_name 3 [3] (by decide) sc__law_slack.nd) (psd_one (psd_if (ptd_cmp (op_eqD (hu64 hr)) vop_eq (po_ev (pd_var 2)) (po_ev pd_int) (by rfl)) (psd_one (psd_if (ptd_cmp op_notN vop_notN (po_ev (pd_var 3)) (po_ev pd_non) (by rfl)) (psd_one (psd_ret pd_bl)) psd_nil)) (psd_cons (psd_if (ptd_w (pwd_or (ptd_not (ptd_val (pd_isi rfl C.n_isinstance rfl C.n_tuple (po_ev (pd_var 3))))) (pwd_or1 (ptd_cmp (op_neD (hu64 hr)) vop_ne (po_ev (pd_b call_lenD' vop_len rfl C.n_len (par_cons (po_ev (pd_var 3)) par_nil))) (po_ev pd_int) (by rfl))))) (psd_one (psd_ret pd_bl)) psd_nil)
  (psd_cons (psd_asg (pd_var 3) (pgd_seq rfl (pgsd_cons (pgd_name 4 [4, 5, 6] (by decide) sc__law_slack.nd) (pgsd_cons (pgd_name 5 [4, 5, 6] (by decide) sc__law_slack.nd) (pgsd_cons (pgd_name 6 [4, 5, 6] (by decide) sc__law_slack.nd) pgsd_nil)))))
  (psd_cons (psd_if (ptd_w (pwd_or (ptd_not (ptd_val (pd_isi rfl C.n_isinstance rfl C.n_int (po_ev (pd_var 4))))) (pwd_or (ptd_val (pd_isi rfl C.n_isinstance rfl C.n_bool (po_ev (pd_var 4)))) (pwd_or1 (ptd_cmp op_lt (vop_cmp _) (po_ev (pd_var 4)) (po_ev pd_int) (by rfl)))))) (psd_one (psd_ret pd_bl)) psd_nil)
  (psd_one (psd_if (ptd_not (ptd_val (pd_call ((ok__law_cut C).mono (by decide)) hr hgd rfl C.g__law_cut C.F__law_cut.kp (bd__law_cut C) (takes_of rfl rfl rfl rfl) rfl (par_cons (po_ev (pd_var 0)) (par_cons (po_ev (pd_var 1)) (par_cons (po_ev (pd_var 4)) (par_cons (po_ev (pd_bin op_sub vop_sub (po_ev (pd_bin op_addD vop_add (po_ev (pd_var 4)) (po_ev (pd_var 2)))) (po_ev pd_int))) (par_cons (po_ev (pd_tup (fs := [(eVar 5), (eVar 6)]) (par_cons (po_ev (pd_var 5)) (par_cons (po_ev (pd_var 6)) par_nil)) (by decide))) par_nil)))))))) (psd_one (psd_ret pd_bl)) psd_nil))))))))
  (psd_one (psd_ret pd_bl)))))

def b_law : SM :=
  (sSeq (sMkDl 1 s__law_draw [(eVar 0), (eC (.int 33))])
  (sSeq (sIf (tOrB (tNotB (eT (eCall s__law_small [(.io 1)]))) (tNotB (eT (eCall s__law_wide [(.io 1)])))) (sRet (eC (.bl false))) sNx)
  (sSeq (sSet 2 (eL (eComp (iR1 (.ev (eCall s__law_of [(.io 1), (.ev (eL (argGo (([(eC (.int 1)), (eC (.int 2)), (eC (.int 3)), (eC (.int 3)), (eC (.int 3)), (eC (.int 3))] : List (EM D)).map Opd.ev))))]))) [10] (gN 10) cYes (eCall s__law_of [(.io 1), (.ev (eL (argGo (([(eC (.int 0)), (eC (.int 1)), (eC (.int 1)), (eC (.int 2)), (eC (.int 2)), (eC (.int 3))] : List (EM D)).map Opd.ev))))]))))
  (sSeq (sSet 3 (eL (eComp (iS (eVar 2)) [11] (gN 11) cYes (e2 dAdd (.ev (eC (.int 1))) (.ev (eCall s__law_any [(.io 1), (.ev (eC (.int 5)))]))))))
  (sSeq (sIf (tNotB (eT (eCall s__law_slack [(.ev (eVar 2)), (.ev (eVar 3))]))) (sRet (eC (.bl false))) sNx)
  (sSeq (sSet 4 (eCall s__law_any [(.io 1), (.ev (e2 dAdd (.ev (eCall s__law_weighed [(.ev (eVar 3)), (.ev (eVar 2))])) (.ev (eC (.int 1)))))]))
  (sSeq (sIf (tNotB (eT (eCall s__law_near_cuts [(.io 1), (.ev (eVar 2)), (.ev (eVar 3)), (.ev (eVar 4)), (.ev (e2 dAdd (.ev (eVar 4)) (.ev (eCall s__law_any [(.io 1), (.ev (e2 dAdd (.ev (eB (on1 dSum) [(.ev (eVar 3))])) (.ev (eC (.int 1)))))]))))]))) (sRet (eC (.bl false))) sNx)
  (sSeq (sSet 5 (eCall s__law_rows [(.ev (eVar 2)), (.ev (eVar 3)), (.ev (eVar 4)), (.ev (e2 dAdd (.ev (eVar 4)) (.ev (eCall s__law_enough [(.ev (eVar 2)), (.ev (eVar 3))]))))]))
  (sSeq (sIf (eT (e2 dNe (.ev (eVar 5)) (.ev (eL (argGo (([] : List (EM D)).map Opd.ev)))))) (sSeq (sAsg (eTup [(eCall s__law_of [(.io 1), (.ev (eVar 5))]), (eCall s__law_of [(.io 1), (.ev (eVar 5))])]) (gS 2 (gsCons (gN 6) (gsCons (gN 7) gsNil))))
  (sSeq (sSet 8 (eL (eComp (iR1 (.ev (eB (on1 dLen) [(.ev (eVar 2))]))) [10] (gN 10) (eT (e2 dEq (.ev (e2 dIx (.ev (eVar 6)) (.ev (eVar 10)))) (.ev (e2 dIx (.ev (eVar 7)) (.ev (eVar 10)))))) (eVar 10))))
  (sIf (eT (e2 dNotIn (.ev (eVar 7)) (.ev (eCall s__law_reached [(.ev (eL (eComp (iS (eVar 5)) [12] (gN 12) (eT (e2 dEq (.ev (eL (eComp (iS (eVar 8)) [10] (gN 10) (eT (e2 dNe (.ev (e2 dIx (.ev (eVar 12)) (.ev (eVar 10)))) (.ev (e2 dIx (.ev (eVar 6)) (.ev (eVar 10)))))) (eVar 10)))) (.ev (eL (argGo (([] : List (EM D)).map Opd.ev)))))) (eVar 12)))), (.ev (eVar 6))])))) (sRet (eC (.bl false))) sNx))) sNx)
  (sSeq (sSet 9 (eL (eComp (iR1 (.ev (e2 dAdd (.ev (eC (.int 1))) (.ev (eCall s__law_any [(.io 1), (.ev (eC (.int 12)))]))))) [10] (gN 10) cYes (eCall s__law_of [(.io 1), (.ev (eL (argGo (([(eC (.int 0)), (eC (.int 1)), (eCall s__law_great [(.io 1), (.ev (e2 dPow (.ev (eC (.int 10))) (.ev (eC (.int 30)))))])] : List (EM D)).map Opd.ev))))]))))
  (sRet (eCall s__law_slack [(.ev (eVar 9)), (.ev (eL (eComp (iS (eVar 9)) [11] (gN 11) cYes (e2 dAdd (.ev (eC (.int 1))) (.ev (eCall s__law_great [(.io 1), (.ev (eCall s__law_of [(.io 1), (.ev (eL (argGo (([(eC (.int 3)), (e2 dPow (.ev (eC (.int 10))) (.ev (eC (.int 28))))] : List (EM D)).map Opd.ev))))]))]))))))]))))))))))))
def s_law : Sem' := runDef 1 13 b_law
theorem ok_law {P : Program} {w : World} {K : PySem.W.Frag} {mg : Str → Option Value} {base : Heap} (C : Fx K mg) : FnG P w K mg base 105 C.f_law C.fd_law ["_law_script"] (spD K mg 1 s_law) :=
  fnD (k := 104) (N := n_law) (sm := b_law) C.F_law sc_law (by decide) fun cdv A outer s H vs E hr hgd =>
  (psd_cons (psd_mkDl 1 (fs := [(eVar 0), (eC (.int 33))]) ((ok__law_draw C).mono (by decide)) hr hgd rfl C.g__law_draw C.F__law_draw.kp (bd__law_draw C) (takes_of rfl rfl rfl rfl) rfl (par_cons (po_ev (pd_var 0)) (par_cons (po_ev pd_int) par_nil)) sc_law.nd)
  (psd_cons (psd_if (ptd_w (pwd_or (ptd_not (ptd_val (pd_call ((ok__law_small C).mono (by decide)) hr hgd rfl C.g__law_small C.F__law_small.kp (bd__law_small C) (takes_of rfl rfl rfl rfl) rfl (par_cons (po_io 1) par_nil)))) (pwd_or1 (ptd_not (ptd_val (pd_call ((ok__law_wide C).mono (by decide)) hr hgd rfl C.g__law_wide C.F__law_wide.kp (bd__law_wide C) (takes_of rfl rfl rfl rfl) rfl (par_cons (po_io 1) par_nil))))))) (psd_one (psd_ret pd_bl)) psd_nil)
  (psd_cons (psd_setLc 2 [("_law_key", 10)] rfl sc_law.nd (pid_range1 rfl C.n_range (par_cons (po_ev (pd_call ((ok__law_of C).mono (by decide)) hr hgd rfl C.g__law_of C.F__law_of.kp (bd__law_of C) (takes_of rfl rfl rfl rfl) rfl (par_cons (po_io 1) (par_cons (po_ev (pl_pd (pl_disp (fs := [(eC (.int 1)), (eC (.int 2)), (eC (.int 3)), (eC (.int 3)), (eC (.int 3)), (eC (.int 3))]) (par_cons (po_ev pd_int) (par_cons (po_ev pd_int) (par_cons (po_ev pd_int) (par_cons (po_ev pd_int) (par_cons (po_ev pd_int) (par_cons (po_ev pd_int) par_nil)))))) (by decide)))) par_nil)))) par_nil)) (show BlkOk n_law (defScope (top 33)) _ _ from ⟨rfl, by decide +kernel, by decide +kernel, by decide +kernel, by decide +kernel⟩) (fun _ _ _ _ _ => (pgd_name 10 [10] (by decide) sc_law.nd)) (fun _ _ _ _ _ => ptsd_nil) (fun _ _ _ _ _ => (pd_call ((ok__law_of C).mono (by decide)) hr hgd rfl C.g__law_of C.F__law_of.kp (bd__law_of C) takesW0 rfl (par_cons (po_io 1) (par_cons (po_ev (pl_pd (pl_disp (fs := [(eC (.int 0)), (eC (.int 1)), (eC (.int 1)), (eC (.int 2)), (eC (.int 2)), (eC (.int 3))]) (par_cons (po_ev pd_int) (par_cons (po_ev pd_int) (par_cons (po_ev pd_int) (par_cons (po_ev pd_int) (par_cons (po_ev pd_int) (par_cons (po_ev pd_int) par_nil)))))) (by decide)))) par_nil)))) rfl)
  (psd_cons (psd_setLc 3 [("_law_cap", 11)] rfl sc_law.nd (pid_seq (pd_var 2)) (show BlkOk n_law (defScope (top 33)) _ _ from ⟨rfl, by decide +kernel, by decide +kernel, by decide +kernel, by decide +kernel⟩) (fun _ _ _ _ _ => (pgd_name 11 [11] (by decide) sc_law.nd)) (fun _ _ _ _ _ => ptsd_nil) (fun _ _ _ _ _ => (pd_bin op_addD vop_add (po_ev pd_int) (po_ev (pd_call ((ok__law_any C).mono (by decide)) hr hgd rfl C.g__law_any C.F__law_any.kp (bd__law_any C) takesW0 rfl (par_cons (po_io 1) (par_cons (po_ev pd_int) par_nil)))))) rfl)
  (psd_cons (psd_if (ptd_not (ptd_val (pd_call ((ok__law_slack C).mono (by decide)) hr hgd rfl C.g__law_slack C.F__law_slack.kp (bd__law_slack C) (takes_of rfl rfl rfl rfl) rfl (par_cons (po_ev (pd_var 2)) (par_cons (po_ev (pd_var 3)) par_nil))))) (psd_one (psd_ret pd_bl)) psd_nil)
  (psd_cons (psd_set 4 sc_law.nd (pd_call ((ok__law_any C).mono (by decide)) hr hgd rfl C.g__law_any C.F__law_any.kp (bd__law_any C) (takes_of rfl rfl rfl rfl) rfl (par_cons (po_io 1) (par_cons (po_ev (pd_bin op_addD vop_add (po_ev (pd_call ((ok__law_weighed C).mono (by decide)) hr hgd rfl C.g__law_weighed C.F__law_weighed.kp (bd__law_weighed C) (takes_of rfl rfl rfl rfl) rfl (par_cons (po_ev (pd_var 3)) (par_cons (po_ev (pd_var 2)) par_nil)))) (po_ev pd_int))) par_nil))))
  (psd_cons (psd_if (ptd_not (ptd_val (pd_call ((ok__law_near_cuts C).mono (by decide)) hr hgd rfl C.g__law_near_cuts C.F__law_near_cuts.kp (bd__law_near_cuts C) (takes_of rfl rfl rfl rfl) rfl (par_cons (po_io 1) (par_cons (po_ev (pd_var 2)) (par_cons (po_ev (pd_var 3)) (par_cons (po_ev (pd_var 4)) (par_cons (po_ev (pd_bin op_addD vop_add (po_ev (pd_var 4)) (po_ev (pd_call ((ok__law_any C).mono (by decide)) hr hgd rfl C.g__law_any C.F__law_any.kp (bd__law_any C) (takes_of rfl rfl rfl rfl) rfl (par_cons (po_io 1) (par_cons (po_ev (pd_bin op_addD vop_add (po_ev (pd_b (cr_sum rfl) vop_sum rfl C.n_sum (par_cons (po_ev (pd_var 3)) par_nil))) (po_ev pd_int))) par_nil)))))) par_nil)))))))) (psd_one (psd_ret pd_bl)) psd_nil)
  (psd_cons (psd_set 5 sc_law.nd (pd_call ((ok__law_rows C).mono (by decide)) hr hgd rfl C.g__law_rows C.F__law_rows.kp (bd__law_rows C) (takes_of rfl rfl rfl rfl) rfl (par_cons (po_ev (pd_var 2)) (par_cons (po_ev (pd_var 3)) (par_cons (po_ev (pd_var 4)) (par_cons (po_ev (pd_bin op_addD vop_add (po_ev (pd_var 4)) (po_ev (pd_call ((ok__law_enough C).mono (by decide)) hr hgd rfl C.g__law_enough C.F__law_enough.kp (bd__law_enough C) (takes_of rfl rfl rfl rfl) rfl (par_cons (po_ev (pd_var 2)) (par_cons (po_ev (pd_var 3)) par_nil)))))) par_nil))))))
  (psd_cons (psd_if (ptd_cmp (op_neD (hu64 hr)) vop_ne (po_ev (pd_var 5)) (po_ev (pl_pd (pl_disp (fs := []) par_nil (by decide)))) (by rfl)) (psd_cons (psd_asg (pd_tup (fs := [(eCall s__law_of [(.io 1), (.ev (eVar 5))]), (eCall s__law_of [(.io 1), (.ev (eVar 5))])]) (par_cons (po_ev (pd_call ((ok__law_of C).mono (by decide)) hr hgd rfl C.g__law_of C.F__law_of.kp (bd__law_of C) (takes_of rfl rfl rfl rfl) rfl (par_cons (po_io 1) (par_cons (po_ev (pd_var 5)) par_nil)))) (par_cons (po_ev (pd_call ((ok__law_of C).mono (by decide)) hr hgd rfl C.g__law_of C.F__law_of.kp (bd__law_of C) (takes_of rfl rfl rfl rfl) rfl (par_cons (po_io 1) (par_cons (po_ev (pd_var 5)) par_nil)))) par_nil)) (by decide)) (pgd_seq rfl (pgsd_cons (pgd_name 6 [6, 7] (by decide) sc_law.nd) (pgsd_cons (pgd_name 7 [6, 7] (by decide) sc_law.nd) pgsd_nil))))
  (psd_cons (psd_set 8 sc_law.nd (pl_pd (pl_comp [("_law_key", 10)] rfl sc_law.nd (pid_range1 rfl C.n_range (par_cons (po_ev (pd_b call_lenD' vop_len rfl C.n_len (par_cons (po_ev (pd_var 2)) par_nil))) par_nil)) (show BlkOk n_law (defScope (top 33)) _ _ from ⟨rfl, by decide +kernel, by decide +kernel, by decide +kernel, by decide +kernel⟩) (fun _ _ _ _ _ => (pgd_name 10 [10] (by decide) sc_law.nd)) (fun _ _ _ _ _ => (ptsd_one (ptd_cmp (op_eqD (hu64 hr)) vop_eq (po_ev (pd_sub ix_seq vop_ix (po_ev (pd_var 6)) (po_ev (pd_var 10)) (by first | exact fun _ _ => rfl | decide))) (po_ev (pd_sub ix_seq vop_ix (po_ev (pd_var 7)) (po_ev (pd_var 10)) (by first | exact fun _ _ => rfl | decide))) (by rfl)))) (fun _ _ _ _ _ => (pd_var 10)))))
  (psd_one (psd_if (ptd_cmp (op_notInD (hu65 hr)) vop_notIn (po_ev (pd_var 7)) (po_ev (pd_call ((ok__law_reached C).mono (by decide)) hr hgd rfl C.g__law_reached C.F__law_reached.kp (bd__law_reached C) (takes_of rfl rfl rfl rfl) rfl (par_cons (po_ev (pl_pd (pl_comp [("_law_row", 12)] rfl sc_law.nd (pid_seq (pd_var 5)) (show BlkOk n_law (defScope (top 33)) _ _ from ⟨rfl, by decide +kernel, by decide +kernel, by decide +kernel, by decide +kernel⟩) (fun _ _ _ _ _ => (pgd_name 12 [12] (by decide) sc_law.nd)) (fun _ _ _ _ _ => (ptsd_one (ptd_cmp (op_eqD (hu64 hr)) vop_eq (po_ev (pl_pd (pl_comp [("_law_key", 10)] rfl sc_law.nd (pid_seq (pd_var 8)) (blk_of (by kernel_rfl)) (fun _ _ _ _ _ => (pgd_name 10 [10] (by decide) sc_law.nd)) (fun _ _ _ _ _ => (ptsd_one (ptd_cmp (op_neD (hu64 hr)) vop_ne (po_ev (pd_sub ix_seq vop_ix (po_ev (pd_var 12)) (po_ev (pd_var 10)) (by first | exact fun _ _ => rfl | decide))) (po_ev (pd_sub ix_seq vop_ix (po_ev (pd_var 6)) (po_ev (pd_var 10)) (by first | exact fun _ _ => rfl | decide))) (by rfl)))) (fun _ _ _ _ _ => (pd_var 10))))) (po_ev (pl_pd (pl_disp (fs := []) par_nil (by decide)))) (by rfl)))) (fun _ _ _ _ _ => (pd_var 12))))) (par_cons (po_ev (pd_var 6)) par_nil)))) (by rfl)) (psd_one (psd_ret pd_bl)) psd_nil)))) psd_nil)
  (psd_cons (psd_setLc 9 [("_law_key", 10)] rfl sc_law.nd (pid_range1 rfl C.n_range (par_cons (po_ev (pd_bin op_addD vop_add (po_ev pd_int) (po_ev (pd_call ((ok__law_any C).mono (by decide)) hr hgd rfl C.g__law_any C.F__law_any.kp (bd__law_any C) (takes_of rfl rfl rfl rfl) rfl (par_cons (po_io 1) (par_cons (po_ev pd_int) par_nil)))))) par_nil)) (show BlkOk n_law (defScope (top 33)) _ _ from ⟨rfl, by decide +kernel, by decide +kernel, by decide +kernel, by decide +kernel⟩) (fun _ _ _ _ _ => (pgd_name 10 [10] (by decide) sc_law.nd)) (fun _ _ _ _ _ => ptsd_nil) (fun _ _ _ _ _ => (pd_call ((ok__law_of C).mono (by decide)) hr hgd rfl C.g__law_of C.F__law_of.kp (bd__law_of C) takesW0 rfl (par_cons (po_io 1) (par_cons (po_ev (pl_pd (pl_disp (fs := [(eC (.int 0)), (eC (.int 1)), (eCall s__law_great [(.io 1), (.ev (e2 dPow (.ev (eC (.int 10))) (.ev (eC (.int 30)))))])]) (par_cons (po_ev pd_int) (par_cons (po_ev pd_int) (par_cons (po_ev (pd_call ((ok__law_great C).mono (by decide)) hr hgd rfl C.g__law_great C.F__law_great.kp (bd__law_great C) takesW0 rfl (par_cons (po_io 1) (par_cons (po_ev (pd_bin op_pow vop_pow (po_ev pd_int) (po_ev pd_int))) par_nil)))) par_nil))) (by decide)))) par_nil)))) rfl)
  (psd_one (psd_ret (pd_call ((ok__law_slack C).mono (by decide)) hr hgd rfl C.g__law_slack C.F__law_slack.kp (bd__law_slack C) (takes_of rfl rfl rfl rfl) rfl (par_cons (po_ev (pd_var 9)) (par_cons (po_ev (pl_pd (pl_comp [("_law_cap", 11)] rfl sc_law.nd (pid_seq (pd_var 9)) (show BlkOk n_law (defScope (top 33)) _ _ from ⟨rfl, by decide +kernel, by decide +kernel, by decide +kernel, by decide +kernel⟩) (fun _ _ _ _ _ => (pgd_name 11 [11] (by decide) sc_law.nd)) (fun _ _ _ _ _ => ptsd_nil) (fun _ _ _ _ _ => (pd_bin op_addD vop_add (po_ev pd_int) (po_ev (pd_call ((ok__law_great C).mono (by decide)) hr hgd rfl C.g__law_great C.F__law_great.kp (bd__law_great C) takesW0 rfl (par_cons (po_io 1) (par_cons (po_ev (pd_call ((ok__law_of C).mono (by decide)) hr hgd rfl C.g__law_of C.F__law_of.kp (bd__law_of C) takesW0 rfl (par_cons (po_io 1) (par_cons (po_ev (pl_pd (pl_disp (fs := [(eC (.int 3)), (e2 dPow (.ev (eC (.int 10))) (.ev (eC (.int 28))))]) (par_cons (po_ev pd_int) (par_cons (po_ev (pd_bin op_pow vop_pow (po_ev pd_int) (po_ev pd_int))) par_nil)) (by decide)))) par_nil)))) par_nil))))))))) par_nil)))))))))))))))
end Wk
end

section
set_option maxRecDepth 100000
set_option linter.all false
/-! first_within, in plain numbers -/
namespace Nu
/-- none: too deep -/
def fw : Nat → Int → Int → Int → Int → Option (Option Int)
  | 0, _, _, _, _ => none
  | k + 1, s, m, lo, hi => if s = 0 then some none else if 2 * s > m then fw k (m - s) m (m - hi) (m - lo) else
    if (lo + s - 1) / s * s ≤ hi then some (some ((lo + s - 1) / s)) else match fw k ((0 - m) % s) s (lo % s) (hi % s) with
      | none => none
      | some none => some none
      | some (some t) => some (some ((m * t + lo + s - 1) / s))
def Hit (s m lo hi n : Int) : Prop := lo ≤ n * s % m ∧ n * s % m ≤ hi
/-- the least one, or none -/
def Best (P : Int → Prop) : Option Int → Prop
  | none => ∀ n, 0 ≤ n → ¬ P n
  | some n => 0 ≤ n ∧ P n ∧ ∀ n', 0 ≤ n' → n' < n → ¬ P n'
theorem Best.congr {P Q : Int → Prop} (h : ∀ n, 0 ≤ n → (P n ↔ Q n)) : ∀ {r : Option Int}, Best P r → Best Q r
  | none, b => fun n hn q => b n hn ((h n hn).mpr q)
  | some n, ⟨b1, b2, b3⟩ => ⟨b1, (h n b1).mp b2, fun n' h1 h2 q => b3 n' h1 h2 ((h n' h1).mpr q)⟩
theorem ceil_spec {a s : Int} (hs : 0 < s) : a ≤ (a + s - 1) / s * s ∧ (a + s - 1) / s * s < a + s := by
  have h1 := Int.emod_add_mul_ediv (a + s - 1) s
  have h2 := Int.emod_nonneg (a + s - 1) (by omega : s ≠ 0)
  have h3 := Int.emod_lt_of_pos (a + s - 1) hs
  have h4 : s * ((a + s - 1) / s) = (a + s - 1) / s * s := Int.mul_comm _ _
  constructor <;> omega
theorem ceil_le {a s n : Int} (hs : 0 < s) (h : a ≤ n * s) : (a + s - 1) / s ≤ n := by
  have h1 := (ceil_spec (a := a) hs).2
  refine Classical.byContradiction fun hc => ?_
  have h2 : n + 1 ≤ (a + s - 1) / s := by omega
  have h3 : (n + 1) * s ≤ (a + s - 1) / s * s := Int.mul_le_mul_of_nonneg_right h2 (by omega)
  rw [Int.add_mul, Int.one_mul] at h3
  omega
theorem flip {s m lo hi n : Int} (hm : 0 < m) (h1 : 0 < lo) (h3 : hi < m) : Hit (m - s) m (m - hi) (m - lo) n ↔ Hit s m lo hi n := by
  unfold Hit
  have e1 : n * (m - s) = -(n * s) + m * n := by
    rw [Int.mul_sub, Int.mul_comm n m]
    omega
  rw [e1, Int.add_mul_emod_self_left]
  have r1 := Int.emod_nonneg (n * s) (by omega : m ≠ 0)
  have r2 := Int.emod_lt_of_pos (n * s) hm
  by_cases h0 : n * s % m = 0
  · have : -(n * s) % m = 0 := by
      rw [← Int.dvd_iff_emod_eq_zero] at h0 ⊢
      exact Int.dvd_neg.mpr h0
    rw [this, h0]
    omega
  · have : -(n * s) % m = m - n * s % m := by
      have e2 := Int.emod_add_mul_ediv (n * s) m
      have e3 : -(n * s) = (m - n * s % m) + m * (-(n * s / m) - 1) := by
        rw [Int.mul_sub, Int.mul_neg, Int.mul_one]
        omega
      rw [e3, Int.add_mul_emod_self_left, Int.emod_eq_of_lt (by omega) (by omega)]
    rw [this]
    omega
theorem fw_ok : ∀ (k : Nat) {s m lo hi : Int} {r : Option Int}, 0 ≤ s → s < m → 0 < lo → lo ≤ hi → hi < m → fw k s m lo hi = some r → Best (Hit s m lo hi) r
  | 0, _, _, _, _, _, _, _, _, _, _, e => by cases e
  | k + 1, s, m, lo, hi, r, h0, h1, h2, h3, h4, e => by
    unfold fw at e
    split at e
    · rename_i hs
      cases e
      subst hs
      intro n hn ⟨q1, q2⟩
      rw [Int.mul_zero, Int.zero_emod] at q1
      omega
    · rename_i hs
      split at e
      · rename_i hf
        exact (fw_ok k (by omega) (by omega) (by omega) (by omega) (by omega) e).congr fun n _ => flip (by omega) h2 h4
      · rename_i hf
        have hsp : 0 < s := by omega
        have hm : 0 < m := by omega
        obtain ⟨c1, c2⟩ := ceil_spec (a := lo) hsp
        have cpos : 0 ≤ (lo + s - 1) / s := Int.ediv_nonneg (by omega) (by omega)
        split at e
        · rename_i hh
          cases e
          refine ⟨cpos, ?_, fun n' n0 nl q => ?_⟩
          · unfold Hit
            rw [Int.emod_eq_of_lt (by omega) (by omega)]
            exact ⟨c1, hh⟩
          · have z : n' * s < lo := by
              refine Classical.byContradiction fun hc => ?_
              have := ceil_le hsp (show lo ≤ n' * s by omega)
              omega
            have z0 : 0 ≤ n' * s := Int.mul_nonneg n0 (by omega)
            have q1 := q.1
            rw [Int.emod_eq_of_lt z0 (by omega)] at q1
            omega
        · rename_i hh
          -- no multiple of s between lo and hi
          have l1 := Int.emod_nonneg lo (by omega : s ≠ 0)
          have l2 := Int.emod_lt_of_pos lo hsp
          have l3 := Int.emod_add_mul_ediv lo s
          have g1 := Int.emod_nonneg hi (by omega : s ≠ 0)
          have g2 := Int.emod_lt_of_pos hi hsp
          have g3 := Int.emod_add_mul_ediv hi s
          have nomul : ∀ q : Int, lo ≤ q * s → hi < q * s := fun q hq => by
            have := ceil_le hsp hq
            have h5 : (lo + s - 1) / s * s ≤ q * s := Int.mul_le_mul_of_nonneg_right this (by omega)
            omega
          have hq : lo / s = hi / s := by
            have a1 : lo / s ≤ hi / s := Int.ediv_le_ediv hsp h3
            refine Classical.byContradiction fun hne => ?_
            have a2 : lo / s + 1 ≤ hi / s := by omega
            have a3 : (lo / s + 1) * s ≤ hi / s * s := Int.mul_le_mul_of_nonneg_right a2 (by omega)
            have a4 := nomul (hi / s) (by
              rw [Int.add_mul, Int.one_mul, Int.mul_comm (lo / s) s] at a3
              omega)
            rw [Int.mul_comm (hi / s) s] at a4
            omega
          have hl0 : 0 < lo % s := by
            refine Classical.byContradiction fun hc => ?_
            have := nomul (lo / s) (by rw [Int.mul_comm]; omega)
            rw [Int.mul_comm] at this
            omega
          have hlh : lo % s ≤ hi % s := by
            rw [hq] at l3
            omega
          -- between the two problems
          have key : ∀ t : Int, Hit ((0 - m) % s) s (lo % s) (hi % s) t ↔ ∃ q : Int, lo + m * t ≤ q * s ∧ q * s ≤ hi + m * t := fun t => by
            unfold Hit
            have e1 : t * ((0 - m) % s) % s = (-(m * t)) % s := by
              rw [Int.mul_emod, Int.emod_emod, ← Int.mul_emod]
              congr 1
              rw [Int.zero_sub, Int.mul_neg, Int.mul_comm]
            rw [e1]
            have b1 := Int.emod_nonneg (-(m * t)) (by omega : s ≠ 0)
            have b2 := Int.emod_lt_of_pos (-(m * t)) hsp
            have b3 := Int.emod_add_mul_ediv (-(m * t)) s
            constructor
            · rintro ⟨z1, z2⟩
              refine ⟨lo / s - (-(m * t)) / s, ?_⟩
              rw [Int.sub_mul, Int.mul_comm (lo / s) s, Int.mul_comm (-(m * t) / s) s]
              rw [← hq] at g3
              omega
            · rintro ⟨q, z1, z2⟩
              have e2 : -(m * t) = (q * s - m * t - s * (lo / s)) + s * (lo / s - q) := by
                rw [Int.mul_sub, Int.mul_comm s q]
                omega
              have e3 : -(m * t) % s = q * s - m * t - s * (lo / s) := by
                rw [e2, Int.add_mul_emod_self_left]
                rw [← hq] at g3
                exact Int.emod_eq_of_lt (by omega) (by omega)
              rw [e3]
              rw [← hq] at g3
              omega
          have back : ∀ n : Int, 0 ≤ n → Hit s m lo hi n → 0 ≤ n * s / m ∧ Hit ((0 - m) % s) s (lo % s) (hi % s) (n * s / m) ∧ lo + m * (n * s / m) ≤ n * s := fun n hn hit => by
            have d1 := Int.emod_add_mul_ediv (n * s) m
            have hit1 := hit.1
            have hit2 := hit.2
            refine ⟨Int.ediv_nonneg (Int.mul_nonneg hn (by omega)) (by omega), (key _).mpr ⟨n, by omega, by omega⟩, by omega⟩
          cases er : fw k ((0 - m) % s) s (lo % s) (hi % s) with
          | none =>
            rw [er] at e
            cases e
          | some r' =>
            rw [er] at e
            have ih := fw_ok k (Int.emod_nonneg _ (by omega)) (Int.emod_lt_of_pos _ hsp) hl0 hlh g2 er
            cases r' with
            | none =>
              cases e
              intro n hn hit
              obtain ⟨z1, z2, z3⟩ := back n hn hit
              exact ih _ z1 z2
            | some t =>
              cases e
              obtain ⟨i1, i2, i3⟩ := ih
              obtain ⟨q, q1, q2⟩ := (key t).mp i2
              have mt : 0 ≤ m * t := Int.mul_nonneg (by omega) i1
              have hN : (m * t + lo + s - 1) / s = q := by
                obtain ⟨c3, c4⟩ := ceil_spec (a := m * t + lo) hsp
                have c5 := ceil_le hsp (show m * t + lo ≤ q * s by omega)
                refine Int.le_antisymm c5 ?_
                refine Classical.byContradiction fun hc => ?_
                have h5 : (m * t + lo + s - 1) / s + 1 ≤ q := by omega
                have h6 : ((m * t + lo + s - 1) / s + 1) * s ≤ q * s := Int.mul_le_mul_of_nonneg_right h5 (by omega)
                rw [Int.add_mul, Int.one_mul] at h6
                rw [hq] at l3
                omega
              rw [hN]
              have hq0 : 0 ≤ q := by
                refine Classical.byContradiction fun hc => ?_
                have : q * s ≤ 0 := Int.mul_nonpos_of_nonpos_of_nonneg (by omega) (by omega)
                omega
              refine ⟨hq0, ?_, fun n' n0 nl hit => ?_⟩
              · unfold Hit
                have e4 : q * s = (q * s - m * t) + m * t := by omega
                rw [e4, Int.add_mul_emod_self_left, Int.emod_eq_of_lt (by omega) (by omega)]
                omega
              · obtain ⟨z1, z2, z3⟩ := back n' n0 hit
                have z4 : ¬ n' * s / m < t := fun z => i3 _ z1 z z2
                have z5 : m * t ≤ m * (n' * s / m) := Int.mul_le_mul_of_nonneg_left (by omega) (by omega)
                have z6 := ceil_le hsp (show m * t + lo ≤ n' * s by omega)
                omega
/-- deep enough -/
theorem fw_some {g : Int} (hg : 0 < g) : ∀ (k j : Nat) {s m lo hi : Int}, 2 * k + 2 ≤ j → 0 ≤ s → s < m → g ∣ s → g ∣ m → m ≤ g * 2 ^ k → ∃ r, fw j s m lo hi = some r
  | k, 0, _, _, _, _, hj, _, _, _, _, _ => by omega
  | k, j + 1, s, m, lo, hi, hj, h0, h1, d1, d2, hm => by
    unfold fw
    split
    · exact ⟨_, rfl⟩
    · rename_i hs
      cases k with
      | zero =>
        exfalso
        have a1 := Int.le_of_dvd (by omega) d1
        simp at hm
        omega
      | succ k =>
        have low : ∀ (j : Nat) {s lo hi : Int}, 2 * k + 3 ≤ j → 0 < s → 2 * s ≤ m → g ∣ s → ∃ r, fw j s m lo hi = some r := fun j s lo hi hj hs h2 ds => by
          cases j with
          | zero => omega
          | succ j =>
            unfold fw
            rw [if_neg (by omega), if_neg (by omega)]
            split
            · exact ⟨_, rfl⟩
            · have hp : g * 2 ^ (k + 1) = 2 * (g * 2 ^ k) := by
                rw [Int.pow_succ, ← Int.mul_assoc, Int.mul_comm]
              have dr : g ∣ (0 - m) % s := by
                have e1 := Int.emod_add_mul_ediv (0 - m) s
                have e2 : (0 - m) % s = (0 - m) - s * ((0 - m) / s) := by omega
                rw [e2]
                exact Int.dvd_sub (Int.dvd_sub (Int.dvd_zero _) d2) (Int.dvd_mul_of_dvd_left ds)
              obtain ⟨r, e⟩ := fw_some hg k j (s := (0 - m) % s) (m := s) (lo := lo % s) (hi := hi % s) (by omega) (Int.emod_nonneg _ (by omega)) (Int.emod_lt_of_pos _ hs) dr ds (by omega)
              rw [e]
              cases r <;> exact ⟨_, rfl⟩
        split
        · rename_i hf
          exact low j (by omega) (by omega) (by omega) (Int.dvd_sub d2 d1)
        · rename_i hf
          have := low (j + 1) (lo := lo) (hi := hi) (by omega) (show 0 < s by omega) (by omega) d1
          unfold fw at this
          rw [if_neg hs, if_neg hf] at this
          exact this
end Nu
namespace Nu
/-- the smaller problem is of the same kind -/
theorem fw_between {k : Nat} {s m lo hi : Int} (h0 : 0 ≤ s) (h1 : s < m) (h2 : 0 < lo) (h3 : lo ≤ hi) (h4 : hi < m) (hs : ¬ s = 0) (hf : ¬ 2 * s > m) (hh : ¬ (lo + s - 1) / s * s ≤ hi) : 0 < lo % s ∧ lo % s ≤ hi % s ∧ hi % s < s := by
  have hsp : 0 < s := by omega
  obtain ⟨c1, c2⟩ := ceil_spec (a := lo) hsp
  have l1 := Int.emod_nonneg lo (by omega : s ≠ 0)
  have l3 := Int.emod_add_mul_ediv lo s
  have g2 := Int.emod_lt_of_pos hi hsp
  have g3 := Int.emod_add_mul_ediv hi s
  have nomul : ∀ q : Int, lo ≤ q * s → hi < q * s := fun q hq => by
    have := ceil_le hsp hq
    have h5 : (lo + s - 1) / s * s ≤ q * s := Int.mul_le_mul_of_nonneg_right this (by omega)
    omega
  have g1 := Int.emod_nonneg hi (by omega : s ≠ 0)
  have hq : lo / s = hi / s := by
    have a1 : lo / s ≤ hi / s := Int.ediv_le_ediv hsp h3
    refine Classical.byContradiction fun hne => ?_
    have a2 : lo / s + 1 ≤ hi / s := by omega
    have a3 : (lo / s + 1) * s ≤ hi / s * s := Int.mul_le_mul_of_nonneg_right a2 (by omega)
    have l2 := Int.emod_lt_of_pos lo hsp
    have a4 := nomul (hi / s) (by
      rw [Int.add_mul, Int.one_mul, Int.mul_comm (lo / s) s] at a3
      omega)
    rw [Int.mul_comm (hi / s) s] at a4
    omega
  refine ⟨?_, ?_, g2⟩
  · refine Classical.byContradiction fun hc => ?_
    have := nomul (lo / s) (by rw [Int.mul_comm]; omega)
    rw [Int.mul_comm] at this
    omega
  · rw [hq] at l3
    omega
end Nu
end

section
set_option maxRecDepth 100000
set_option linter.all false
/-! first_row, two_cut, in plain numbers -/
namespace Nu
def mx (a b : Int) : Int := if b > a then b else a
def mn (a b : Int) : Int := if b < a then b else a
theorem mx_le {a b : Int} : a ≤ mx a b ∧ b ≤ mx a b := by
  unfold mx
  split <;> omega
theorem mn_le {a b c : Int} : c ≤ mn a b ↔ c ≤ a ∧ c ≤ b := by
  unfold mn
  split <;> omega
def fr (k : Nat) (c0 c1 w0 w1 low high start : Int) : Option (Option (Int × Int)) :=
  let b := mx start ((low - c0 * w0 + w1 - 1) / w1)
  if low > high ∨ b > mn c1 (high / w1) then some none else
  let rest := (w1 * b - low) % w0
  match (if rest > high - low then fw k (w1 % w0) w0 (w0 - rest) (w0 - rest + (high - low)) else some (some 0)) with
  | none => none
  | some none => some none
  | some (some t) => if b + t > mn c1 (high / w1) then some none else some (some (mx 0 ((low - w1 * (b + t) + w0 - 1) / w0), b + t))
/-- allowed -/
structure Al (c0 c1 w0 w1 low high x y : Int) : Prop where
  x0 : 0 ≤ x
  x1 : x ≤ c0
  y0 : 0 ≤ y
  y1 : y ≤ c1
  lo : low ≤ w0 * x + w1 * y
  hi : w0 * x + w1 * y ≤ high
/-- a row y has allowed places exactly then -/
def Line (c0 w0 w1 low high y : Int) : Prop := low - w1 * y ≤ c0 * w0 ∧ w1 * y ≤ high ∧ (w1 * y - low) % w0 ≤ high - low
theorem emod_sub {x w : Int} (h : w ≤ x) (h2 : x < 2 * w) : x % w = x - w := by
  rw [← Int.sub_emod_right x w, Int.emod_eq_of_lt (by omega) (by omega)]
theorem line_iff {c0 c1 w0 w1 low high y : Int} (h0 : 0 < w0) (hc : 0 ≤ c0) (hy0 : 0 ≤ y) (hy1 : y ≤ c1) : (∃ x, Al c0 c1 w0 w1 low high x y) ↔ Line c0 w0 w1 low high y := by
  have e0 := Int.emod_nonneg (w1 * y - low) (by omega : w0 ≠ 0)
  have e1 := Int.emod_lt_of_pos (w1 * y - low) h0
  have e2 := Int.emod_add_mul_ediv (w1 * y - low) w0
  constructor
  · rintro ⟨x, a⟩
    have a1 := a.lo
    have a2 := a.hi
    have z1 : w0 * x ≤ c0 * w0 := by
      rw [Int.mul_comm c0 w0]
      exact Int.mul_le_mul_of_nonneg_left a.x1 (by omega)
    have z2 : 0 ≤ w0 * x := Int.mul_nonneg (by omega) a.x0
    refine ⟨by omega, by omega, ?_⟩
    have e3 : w1 * y - low = (w0 * x + w1 * y - low) + w0 * (-x) := by
      rw [Int.mul_neg]
      omega
    rw [e3, Int.add_mul_emod_self_left]
    by_cases hq : w0 * x + w1 * y - low < w0
    · rw [Int.emod_eq_of_lt (by omega) hq]
      omega
    · have := Int.emod_lt_of_pos (w0 * x + w1 * y - low) h0
      omega
  · rintro ⟨l1, l2, l3⟩
    by_cases hn : low - w1 * y ≤ 0
    · refine ⟨0, ⟨by omega, hc, hy0, hy1, by omega, by omega⟩⟩
    · obtain ⟨c1', c2'⟩ := ceil_spec (a := low - w1 * y) h0
      have c3 := ceil_le h0 l1
      refine ⟨(low - w1 * y + w0 - 1) / w0, ⟨Int.ediv_nonneg (by omega) (by omega), c3, hy0, hy1, ?_, ?_⟩⟩
      · rw [Int.mul_comm]
        omega
      · have e4 : (w1 * y - low) % w0 = (low - w1 * y + w0 - 1) / w0 * w0 - (low - w1 * y) := by
          have e5 : w1 * y - low = ((low - w1 * y + w0 - 1) / w0 * w0 - (low - w1 * y)) + w0 * (-((low - w1 * y + w0 - 1) / w0)) := by
            rw [Int.mul_neg, Int.mul_comm w0]
            omega
          rw [e5, Int.add_mul_emod_self_left]
          have e6 : ((low - w1 * y + w0 - 1) / w0 * w0 - (low - w1 * y) + w0 * -((low - w1 * y + w0 - 1) / w0)) = w1 * y - low := e5.symm
          exact Int.emod_eq_of_lt (by omega) (by omega)
        rw [Int.mul_comm]
        omega
/-- the least x of a line -/
theorem line_least {c0 c1 w0 w1 low high y : Int} (h0 : 0 < w0) (hc : 0 ≤ c0) (hy0 : 0 ≤ y) (hy1 : y ≤ c1) (l : Line c0 w0 w1 low high y) : Al c0 c1 w0 w1 low high (mx 0 ((low - w1 * y + w0 - 1) / w0)) y := by
  obtain ⟨x, a⟩ := (line_iff (c1 := c1) h0 hc hy0 hy1).mpr l
  obtain ⟨c1', c2'⟩ := ceil_spec (a := low - w1 * y) h0
  have a1 := a.lo
  have a2 := a.hi
  have c3 := ceil_le h0 (show low - w1 * y ≤ x * w0 by rw [Int.mul_comm x w0]; omega)
  have m := mx_le (a := 0) (b := (low - w1 * y + w0 - 1) / w0)
  have m2 : mx 0 ((low - w1 * y + w0 - 1) / w0) ≤ x := by
    have := a.x0
    unfold mx
    split <;> omega
  have m3 : (low - w1 * y + w0 - 1) / w0 * w0 ≤ mx 0 ((low - w1 * y + w0 - 1) / w0) * w0 := Int.mul_le_mul_of_nonneg_right m.2 (by omega)
  have m4 : mx 0 ((low - w1 * y + w0 - 1) / w0) * w0 ≤ x * w0 := Int.mul_le_mul_of_nonneg_right m2 (by omega)
  have a3 := a.x1
  refine ⟨m.1, by omega, hy0, hy1, ?_, ?_⟩ <;> rw [Int.mul_comm w0] <;> rw [Int.mul_comm w0 x] at a1 a2 <;> omega
def FrOk (c0 c1 w0 w1 low high start : Int) : Option (Int × Int) → Prop
  | none => ∀ x y, Al c0 c1 w0 w1 low high x y → y < start
  | some (x, y) => Al c0 c1 w0 w1 low high x y ∧ start ≤ y ∧ ∀ x' y', Al c0 c1 w0 w1 low high x' y' → start ≤ y' → y ≤ y'
theorem fr_ok {k : Nat} {c0 c1 w0 w1 low high start : Int} {r : Option (Int × Int)} (h0 : 0 < w0) (h1 : 0 < w1) (hc : 0 ≤ c0) (hs : 0 ≤ start) (e : fr k c0 c1 w0 w1 low high start = some r) : FrOk c0 c1 w0 w1 low high start r := by
  -- rows from the first on
  have B := mx_le (a := start) (b := (low - c0 * w0 + w1 - 1) / w1)
  have inB : ∀ x y, Al c0 c1 w0 w1 low high x y → start ≤ y → mx start ((low - c0 * w0 + w1 - 1) / w1) ≤ y ∧ y ≤ mn c1 (high / w1) := fun x y a hy => by
    have l := (line_iff (c1 := c1) h0 hc a.y0 a.y1).mp ⟨x, a⟩
    obtain ⟨l1, l2, l3⟩ := l
    have q1 := ceil_le h1 (show low - c0 * w0 ≤ y * w1 by rw [Int.mul_comm y]; omega)
    refine ⟨?_, mn_le.mpr ⟨a.y1, ?_⟩⟩
    · unfold mx
      split <;> omega
    · exact (Int.le_ediv_iff_mul_le h1).mpr (by rw [Int.mul_comm]; exact l2)
  have isL : ∀ y, mx start ((low - c0 * w0 + w1 - 1) / w1) ≤ y → y ≤ mn c1 (high / w1) → (w1 * y - low) % w0 ≤ high - low → Line c0 w0 w1 low high y := fun y q1 q2 q3 => by
    obtain ⟨q4, q5⟩ := mn_le.mp q2
    have q6 := (Int.le_ediv_iff_mul_le h1).mp q5
    obtain ⟨c3, _⟩ := ceil_spec (a := low - c0 * w0) h1
    have q7 : (low - c0 * w0 + w1 - 1) / w1 * w1 ≤ y * w1 := Int.mul_le_mul_of_nonneg_right (by omega) (by omega)
    refine ⟨?_, by rw [Int.mul_comm]; exact q6, q3⟩
    rw [Int.mul_comm w1]
    omega
  unfold fr at e
  simp only at e
  generalize hb : mx start ((low - c0 * w0 + w1 - 1) / w1) = b at e inB isL B
  split at e
  · rename_i hcond
    cases e
    intro x y a
    refine Classical.byContradiction fun hy => ?_
    obtain ⟨q1, q2⟩ := inB x y a (by omega)
    have a1 := a.lo
    have a2 := a.hi
    omega
  · rename_i hcond
    have hlh : low ≤ high := by omega
    have hbm : b ≤ mn c1 (high / w1) := by omega
    have r0 := Int.emod_nonneg (w1 * b - low) (by omega : w0 ≠ 0)
    have r1 := Int.emod_lt_of_pos (w1 * b - low) h0
    -- the turn at n
    have turn : ∀ n : Int, (w1 * (b + n) - low) % w0 = ((w1 * b - low) % w0 + n * (w1 % w0) % w0) % w0 := fun n => by
      rw [Int.mul_add]
      have e1 : w1 * b + w1 * n - low = (w1 * b - low) + n * w1 := by rw [Int.mul_comm n]; omega
      rw [e1, Int.add_emod, Int.mul_emod n w1, Int.mul_emod n (w1 % w0), Int.emod_emod]
      
    have best : Best (fun n => (w1 * (b + n) - low) % w0 ≤ high - low) = Best (fun n => (w1 * (b + n) - low) % w0 ≤ high - low) := rfl
    have fin : ∀ t : Option Int, Best (fun n => (w1 * (b + n) - low) % w0 ≤ high - low) t → (match t with
        | none => some none
        | some t => if b + t > mn c1 (high / w1) then some none else some (some (mx 0 ((low - w1 * (b + t) + w0 - 1) / w0), b + t))) = some r → FrOk c0 c1 w0 w1 low high start r := fun t bt et => by
      cases t with
      | none =>
        cases et
        intro x y a
        refine Classical.byContradiction fun hy => ?_
        obtain ⟨q1, q2⟩ := inB x y a (by omega)
        obtain ⟨l1, l2, l3⟩ := (line_iff (c1 := c1) h0 hc a.y0 a.y1).mp ⟨x, a⟩
        refine bt (y - b) (by omega) ?_
        show (w1 * (b + (y - b)) - low) % w0 ≤ high - low
        rw [show b + (y - b) = y by omega]
        exact l3
      | some t =>
        obtain ⟨b1, b2, b3⟩ := bt
        simp only at et
        split at et
        · rename_i hgt
          cases et
          intro x y a
          refine Classical.byContradiction fun hy => ?_
          obtain ⟨q1, q2⟩ := inB x y a (by omega)
          obtain ⟨l1, l2, l3⟩ := (line_iff (c1 := c1) h0 hc a.y0 a.y1).mp ⟨x, a⟩
          refine b3 (y - b) (by omega) (by omega) ?_
          show (w1 * (b + (y - b)) - low) % w0 ≤ high - low
          rw [show b + (y - b) = y by omega]
          exact l3
        · rename_i hgt
          cases et
          have L := isL (b + t) (by omega) (by omega) b2
          have hy1 := (mn_le.mp (show b + t ≤ mn c1 (high / w1) by omega)).1
          refine ⟨line_least h0 hc (by omega) hy1 L, by omega, fun x' y' a hy' => ?_⟩
          refine Classical.byContradiction fun hlt => ?_
          obtain ⟨q1, q2⟩ := inB x' y' a hy'
          obtain ⟨l1, l2, l3⟩ := (line_iff (c1 := c1) h0 hc a.y0 a.y1).mp ⟨x', a⟩
          refine b3 (y' - b) (by omega) (by omega) ?_
          show (w1 * (b + (y' - b)) - low) % w0 ≤ high - low
          rw [show b + (y' - b) = y' by omega]
          exact l3
    by_cases hrest : (w1 * b - low) % w0 > high - low
    · rw [if_pos hrest] at e
      cases ef : fw k (w1 % w0) w0 (w0 - (w1 * b - low) % w0) (w0 - (w1 * b - low) % w0 + (high - low)) with
      | none =>
        rw [ef] at e
        cases e
      | some t =>
        rw [ef] at e
        have bt := fw_ok k (Int.emod_nonneg w1 (by omega)) (Int.emod_lt_of_pos w1 h0) (by omega) (by omega) (by omega) ef
        refine fin t (bt.congr fun n hn => ?_) ?_
        · unfold Hit
          rw [turn n]
          have n0 := Int.emod_nonneg (n * (w1 % w0)) (by omega : w0 ≠ 0)
          have n1 := Int.emod_lt_of_pos (n * (w1 % w0)) h0
          by_cases hw : (w1 * b - low) % w0 + n * (w1 % w0) % w0 < w0
          · rw [Int.emod_eq_of_lt (by omega) hw]
            omega
          · rw [emod_sub (x := (w1 * b - low) % w0 + n * (w1 % w0) % w0) (w := w0) (by omega) (by omega)]
            omega
        · cases t <;> exact e
    · rw [if_neg hrest] at e
      refine fin (some 0) ⟨by omega, ?_, fun n' q1 q2 => by omega⟩ e
      show (w1 * (b + 0) - low) % w0 ≤ high - low
      rw [Int.add_zero]
      omega
end Nu
end

section
set_option maxRecDepth 100000
set_option linter.all false
/-! two_cut, in plain numbers: a cut, or all is joined -/
namespace Nu
/-- rows of two, joined by changes of one of them -/
inductive Rc2 (P : Int → Int → Prop) (a b : Int) : Int → Int → Prop
  | refl : Rc2 P a b a b
  | sx {x y x' : Int} : Rc2 P a b x y → P x' y → Rc2 P a b x' y
  | sy {x y y' : Int} : Rc2 P a b x y → P x y' → Rc2 P a b x y'
theorem Rc2.swap {P : Int → Int → Prop} {a b x y : Int} (h : Rc2 (fun x y => P y x) a b x y) : Rc2 P b a y x := by
  induction h with
  | refl => exact .refl
  | sx _ p ih => exact .sy ih p
  | sy _ p ih => exact .sx ih p
theorem Rc2.trans {P : Int → Int → Prop} {a b c d x y : Int} (h1 : Rc2 P a b c d) (h2 : Rc2 P c d x y) : Rc2 P a b x y := by
  induction h2 with
  | refl => exact h1
  | sx _ p ih => exact .sx ih p
  | sy _ p ih => exact .sy ih p
theorem Rc2.mem {P : Int → Int → Prop} {a b x y : Int} (h : Rc2 P a b x y) (p : P a b) : P x y := by
  cases h with
  | refl => exact p
  | sx _ p => exact p
  | sy _ p => exact p
theorem Rc2.symm {P : Int → Int → Prop} {a b x y : Int} (h : Rc2 P a b x y) (p : P a b) : Rc2 P x y a b := by
  induction h with
  | refl => exact .refl
  | @sx x y x' h q ih => exact Rc2.trans (Rc2.sx .refl (h.mem p)) ih
  | @sy x y y' h q ih => exact Rc2.trans (Rc2.sy .refl (h.mem p)) ih
structure Cut (c0 c1 w0 w1 low high x1 y1 x2 y2 : Int) : Prop where
  one : Al c0 c1 w0 w1 low high x1 y1
  other : Al c0 c1 w0 w1 low high x2 y2
  up : x1 < x2
  down : y2 < y1
  hi : w0 * x1 + w1 * y1 + w0 > high
  lo : w0 * x1 + w1 * y1 - w1 < low
/-- across a cut no change of one key leads -/
theorem Cut.side {c0 c1 w0 w1 low high x1 y1 x2 y2 : Int} (h0 : 0 < w0) (h1 : 0 < w1) (c : Cut c0 c1 w0 w1 low high x1 y1 x2 y2) {x y : Int} (a : Al c0 c1 w0 w1 low high x y) : (x ≤ x1 ↔ y1 ≤ y) := by
  have a1 := a.lo
  have a2 := a.hi
  have a3 := c.hi
  have a4 := c.lo
  constructor
  · intro hx
    refine Classical.byContradiction fun hy => ?_
    have z1 : w0 * x ≤ w0 * x1 := Int.mul_le_mul_of_nonneg_left hx (by omega)
    have z2 : w1 * y ≤ w1 * (y1 - 1) := Int.mul_le_mul_of_nonneg_left (by omega) (by omega)
    rw [Int.mul_sub, Int.mul_one] at z2
    omega
  · intro hy
    refine Classical.byContradiction fun hx => ?_
    have z1 : w0 * (x1 + 1) ≤ w0 * x := Int.mul_le_mul_of_nonneg_left (by omega) (by omega)
    have z2 : w1 * y1 ≤ w1 * y := Int.mul_le_mul_of_nonneg_left hy (by omega)
    rw [Int.mul_add, Int.mul_one] at z1
    omega
theorem Cut.apart {c0 c1 w0 w1 low high x1 y1 x2 y2 : Int} (h0 : 0 < w0) (h1 : 0 < w1) (c : Cut c0 c1 w0 w1 low high x1 y1 x2 y2) : ¬ Rc2 (Al c0 c1 w0 w1 low high) x1 y1 x2 y2 := by
  have key : ∀ x y, Rc2 (Al c0 c1 w0 w1 low high) x1 y1 x y → Al c0 c1 w0 w1 low high x y ∧ x ≤ x1 := fun x y h => by
    induction h with
    | refl => exact ⟨c.one, Int.le_refl _⟩
    | @sx x y x' h p ih =>
      obtain ⟨i1, i2⟩ := ih
      exact ⟨p, (c.side h0 h1 p).mpr ((c.side h0 h1 i1).mp i2)⟩
    | @sy x y y' h p ih =>
      obtain ⟨i1, i2⟩ := ih
      exact ⟨p, i2⟩
  intro h
  have := (key _ _ h).2
  have := c.up
  omega
def tc (k : Nat) (c0 c1 w0 w1 low high : Int) : Option (Option ((Int × Int) × (Int × Int))) := match fr k c0 c1 w0 w1 low high 0 with
  | none => none
  | some none => some none
  | some (some (x0, y0)) => match fr k c0 c1 w0 w1 (mx low (high - w0 + 1)) (mn high (low + w1 - 1)) (y0 + 1) with
    | none => none
    | some none => some none
    | some (some one) => some (some (one, (x0, y0)))
theorem al_window {c0 c1 w0 w1 low high x y : Int} : Al c0 c1 w0 w1 (mx low (high - w0 + 1)) (mn high (low + w1 - 1)) x y ↔ (Al c0 c1 w0 w1 low high x y ∧ w0 * x + w1 * y + w0 > high ∧ w0 * x + w1 * y - w1 < low) := by
  have m1 : ∀ a b c : Int, mx a b ≤ c ↔ a ≤ c ∧ b ≤ c := fun a b c => by
    unfold mx
    split <;> omega
  constructor
  · intro a
    have q1 := (m1 _ _ _).mp a.lo
    have q2 := mn_le.mp a.hi
    exact ⟨⟨a.x0, a.x1, a.y0, a.y1, q1.1, q2.1⟩, by omega, by omega⟩
  · rintro ⟨a, q1, q2⟩
    exact ⟨a.x0, a.x1, a.y0, a.y1, (m1 _ _ _).mpr ⟨a.lo, by omega⟩, mn_le.mpr ⟨a.hi, by omega⟩⟩
def TcOk (c0 c1 w0 w1 low high : Int) : Option ((Int × Int) × (Int × Int)) → Prop
  | none => ∀ x y x' y', Al c0 c1 w0 w1 low high x y → Al c0 c1 w0 w1 low high x' y' → Rc2 (Al c0 c1 w0 w1 low high) x y x' y'
  | some (one, other) => Cut c0 c1 w0 w1 low high one.1 one.2 other.1 other.2
theorem tc_ok {k : Nat} {c0 c1 w0 w1 low high : Int} {r : Option ((Int × Int) × (Int × Int))} (h0 : 0 < w0) (h1 : 0 < w1) (hc : 0 ≤ c0) (e : tc k c0 c1 w0 w1 low high = some r) : TcOk c0 c1 w0 w1 low high r := by
  unfold tc at e
  cases e1 : fr k c0 c1 w0 w1 low high 0 with
  | none =>
    rw [e1] at e
    cases e
  | some r1 =>
    have f1 := fr_ok h0 h1 hc (Int.le_refl 0) e1
    rw [e1] at e
    cases r1 with
    | none =>
      cases e
      intro x y x' y' a
      have := f1 x y a
      have := a.y0
      omega
    | some p =>
      obtain ⟨x0, y0⟩ := p
      obtain ⟨g1, g2, g3⟩ := f1
      simp only at e
      cases e2 : fr k c0 c1 w0 w1 (mx low (high - w0 + 1)) (mn high (low + w1 - 1)) (y0 + 1) with
      | none =>
        rw [e2] at e
        cases e
      | some r2 =>
        have f2 := fr_ok h0 h1 hc (by omega) e2
        rw [e2] at e
        cases r2 with
        | some q =>
          obtain ⟨x1, y1⟩ := q
          cases e
          obtain ⟨w, s1, s2⟩ := f2
          obtain ⟨a, q1, q2⟩ := al_window.mp w
          refine ⟨a, g1, ?_, by show y0 < y1; omega, q1, q2⟩
          show x1 < x0
          refine Classical.byContradiction fun hx => ?_
          have z1 : w0 * x0 ≤ w0 * x1 := Int.mul_le_mul_of_nonneg_left (by omega) (by omega)
          have z2 : w1 * y0 ≤ w1 * (y1 - 1) := Int.mul_le_mul_of_nonneg_left (by omega) (by omega)
          rw [Int.mul_sub, Int.mul_one] at z2
          have := g1.lo
          omega
        | none =>
          cases e
          have up : ∀ (n : Nat) x y, y.toNat ≤ n → Al c0 c1 w0 w1 low high x y → Rc2 (Al c0 c1 w0 w1 low high) x0 y0 x y := fun n => by
            induction n with
            | zero =>
              intro x y hn a
              have q1 := g3 x y a a.y0
              have q2 := a.y0
              have q3 : y = y0 := by omega
              subst q3
              exact .sx .refl a
            | succ n ih =>
              intro x y hn a
              have q1 := g3 x y a a.y0
              by_cases hy : y = y0
              · subst hy
                exact .sx .refl a
              · have a1 := a.lo
                have a2 := a.hi
                -- the greatest x of the line
                have m1 : x ≤ mn c0 ((high - w1 * y) / w0) := mn_le.mpr ⟨a.x1, (Int.le_ediv_iff_mul_le h0).mpr (by rw [Int.mul_comm]; omega)⟩
                obtain ⟨m2, m3⟩ := mn_le.mp (Int.le_refl (mn c0 ((high - w1 * y) / w0)))
                have m4 := (Int.le_ediv_iff_mul_le h0).mp m3
                have m5 : w0 * x ≤ w0 * mn c0 ((high - w1 * y) / w0) := Int.mul_le_mul_of_nonneg_left m1 (by omega)
                have m6 : mn c0 ((high - w1 * y) / w0) = c0 ∨ mn c0 ((high - w1 * y) / w0) = (high - w1 * y) / w0 := by
                  unfold mn
                  split
                  · exact .inr rfl
                  · exact .inl rfl
                generalize hm : mn c0 ((high - w1 * y) / w0) = m at m1 m2 m3 m4 m5 m6
                have m7 : m * w0 = w0 * m := Int.mul_comm _ _
                have am : Al c0 c1 w0 w1 low high m y := ⟨by have := a.x0; omega, m2, a.y0, a.y1, by omega, by omega⟩
                by_cases hp : Al c0 c1 w0 w1 low high m (y - 1)
                · exact .sx (.sy (ih m (y - 1) (by have := a.y0; have := g1.y0; omega) hp) am) a
                · exfalso
                  have y0' := g1.y0
                  have z0 : w1 * (y - 1) = w1 * y - w1 := by rw [Int.mul_sub, Int.mul_one]
                  have lo' : w0 * m + w1 * y - w1 < low := by
                    refine Classical.byContradiction fun hl => hp ⟨am.x0, am.x1, by omega, by have := a.y1; omega, ?_, ?_⟩ <;> rw [z0] <;> omega
                  have hi' : w0 * m + w1 * y + w0 > high := by
                    rcases m6 with q | q
                    · exfalso
                      have z1 : w0 * x0 ≤ w0 * m := Int.mul_le_mul_of_nonneg_left (by rw [q]; exact g1.x1) (by omega)
                      have z2 : w1 * y0 ≤ w1 * (y - 1) := Int.mul_le_mul_of_nonneg_left (by omega) (by omega)
                      have := g1.lo
                      omega
                    · have d1 := Int.emod_add_mul_ediv (high - w1 * y) w0
                      have d2 := Int.emod_lt_of_pos (high - w1 * y) h0
                      rw [← q] at d1
                      omega
                  have := f2 m y (al_window.mpr ⟨am, hi', lo'⟩)
                  omega
          intro x y x' y' a a'
          exact ((up _ x y (Nat.le_refl _) a).symm g1).trans (up _ x' y' (Nat.le_refl _) a')
end Nu
namespace Nu
theorem fr_some {g c0 c1 w0 w1 low high start : Int} (hg : 0 < g) (h0 : 0 < w0) (d0 : g ∣ w0) (d1 : g ∣ w1) (hb : w0 ≤ g * 2 ^ 49) : ∃ r, fr 100 c0 c1 w0 w1 low high start = some r := by
  unfold fr
  simp only
  split
  · exact ⟨_, rfl⟩
  · have dr : g ∣ w1 % w0 := by
      have e1 := Int.emod_add_mul_ediv w1 w0
      have e2 : w1 % w0 = w1 - w0 * (w1 / w0) := by omega
      rw [e2]
      exact Int.dvd_sub d1 (Int.dvd_mul_of_dvd_left d0)
    split
    · rename_i h
      split at h
      · obtain ⟨r, e⟩ := fw_some (lo := w0 - (w1 * mx start ((low - c0 * w0 + w1 - 1) / w1) - low) % w0) (hi := w0 - (w1 * mx start ((low - c0 * w0 + w1 - 1) / w1) - low) % w0 + (high - low)) hg 49 100 (by decide) (Int.emod_nonneg w1 (by omega)) (Int.emod_lt_of_pos w1 h0) dr d0 hb
        rw [e] at h
        cases h
      · cases h
    · exact ⟨_, rfl⟩
    · split <;> exact ⟨_, rfl⟩
theorem tc_some {g c0 c1 w0 w1 low high : Int} (hg : 0 < g) (h0 : 0 < w0) (d0 : g ∣ w0) (d1 : g ∣ w1) (hb : w0 ≤ g * 2 ^ 49) : ∃ r, tc 100 c0 c1 w0 w1 low high = some r := by
  unfold tc
  obtain ⟨r, e⟩ := fr_some (c0 := c0) (c1 := c1) (low := low) (high := high) (start := 0) hg h0 d0 d1 hb
  rw [e]
  cases r with
  | none => exact ⟨_, rfl⟩
  | some p =>
    obtain ⟨x0, y0⟩ := p
    obtain ⟨r2, e2⟩ := fr_some (c0 := c0) (c1 := c1) (low := mx low (high - w0 + 1)) (high := mn high (low + w1 - 1)) (start := y0 + 1) hg h0 d0 d1 hb
    simp only [e2]
    cases r2 <;> exact ⟨_, rfl⟩
end Nu
end

section
set_option maxRecDepth 100000
set_option linter.all false
/-! rows, single changes, what is reached -/
namespace Nu
abbrev Row := List Int
def dif (r s : Row) : Nat := ((List.range r.length).filter fun k => decide (r[k]? ≠ s[k]?)).length
inductive Rc (rows : List Row) (a : Row) : Row → Prop
  | refl : Rc rows a a
  | step {b c : Row} : Rc rows a b → c ∈ rows → dif c b = 1 → Rc rows a c
theorem Rc.trans {rows : List Row} {a b c : Row} (h1 : Rc rows a b) (h2 : Rc rows b c) : Rc rows a c := by
  induction h2 with
  | refl => exact h1
  | step _ m d ih => exact .step ih m d
theorem Rc.mem {rows : List Row} {a b : Row} (h : Rc rows a b) (ha : a ∈ rows) : b ∈ rows := by
  cases h with
  | refl => exact ha
  | step _ m _ => exact m
/-- one round -/
def nxt (fresh left : List Row) : List Row := left.filter fun r => fresh.any fun s => decide (dif r s = 1)
def rest (fresh' left : List Row) : List Row := left.filter fun r => !decide (r ∈ fresh')
def bfs : Nat → List Row → List Row → List Row → List Row
  | 0, found, _, _ => found
  | n + 1, found, fresh, left => if fresh = [] then found else bfs n (found ++ nxt fresh left) (nxt fresh left) (rest (nxt fresh left) left)
def reached (rows : List Row) (one : Row) : List Row := bfs rows.length [one] [one] (rows.filter fun r => decide (r ≠ one))
theorem mem_nxt {fresh left : List Row} {r : Row} : r ∈ nxt fresh left ↔ r ∈ left ∧ ∃ s ∈ fresh, dif r s = 1 := by
  unfold nxt
  rw [List.mem_filter, List.any_eq_true]
  simp
theorem mem_rest {fresh' left : List Row} {r : Row} : r ∈ rest fresh' left ↔ r ∈ left ∧ r ∉ fresh' := by
  unfold rest
  rw [List.mem_filter]
  simp
theorem rest_len {fresh left : List Row} (h : nxt fresh left ≠ []) : (rest (nxt fresh left) left).length + 1 ≤ left.length := by
  obtain ⟨r, hr⟩ := List.exists_mem_of_ne_nil _ h
  have h1 := (mem_nxt.mp hr).1
  have : (rest (nxt fresh left) left).length < left.length := by
    unfold rest
    exact List.length_filter_lt_length_iff_exists.mpr ⟨r, h1, by simp [hr]⟩
  omega
theorem bfs_sound {rows : List Row} {one : Row} : ∀ (n : Nat) {found fresh left : List Row}, (∀ b ∈ found, b = one ∨ (b ∈ rows ∧ Rc rows one b)) → (∀ b ∈ fresh, b ∈ found) → (∀ b ∈ left, b ∈ rows) → ∀ b ∈ bfs n found fresh left, b = one ∨ (b ∈ rows ∧ Rc rows one b)
  | 0, _, _, _, h, _, _ => h
  | n + 1, found, fresh, left, h, h2, h3 => by
    unfold bfs
    split
    · exact h
    · have new : ∀ b ∈ nxt fresh left, b ∈ rows ∧ Rc rows one b := fun b hb => by
        obtain ⟨m, s, hs, d⟩ := mem_nxt.mp hb
        have hm := h3 b m
        rcases h s (h2 s hs) with q | q
        · rw [q] at d
          exact ⟨hm, .step .refl hm d⟩
        · exact ⟨hm, .step q.2 hm d⟩
      refine bfs_sound n (fun b hb => ?_) (fun b hb => List.mem_append_right _ hb) fun b hb => h3 b (mem_rest.mp hb).1
      rcases List.mem_append.mp hb with q | q
      · exact h b q
      · exact .inr (new b q)
theorem reached_sound {rows : List Row} {one b : Row} (h : b ∈ reached rows one) : b = one ∨ (b ∈ rows ∧ Rc rows one b) := by
  refine bfs_sound _ (fun b hb => ?_) (fun b hb => hb) (fun b hb => (List.mem_filter.mp hb).1) b h
  exact .inl (by simpa using hb)
theorem bfs_closed {rows : List Row} : ∀ (n : Nat) {found fresh left : List Row}, (fresh = [] ∨ left.length + 1 ≤ n) → (∀ r ∈ rows, r ∈ found ∨ r ∈ left) → (∀ x ∈ found, x ∉ fresh → ∀ r ∈ left, dif r x ≠ 1) →
    (∀ x ∈ found, x ∈ bfs n found fresh left) ∧ ∀ x ∈ bfs n found fresh left, ∀ r ∈ rows, dif r x = 1 → r ∈ bfs n found fresh left
  | 0, found, fresh, left, hn, h1, h2 => by
    have hf : fresh = [] := by
      rcases hn with q | q
      · exact q
      · omega
    refine ⟨fun x hx => hx, fun x hx r hr d => ?_⟩
    rcases h1 r hr with q | q
    · exact q
    · exact absurd d (h2 x hx (by rw [hf]; simp) r q)
  | n + 1, found, fresh, left, hn, h1, h2 => by
    unfold bfs
    split
    · rename_i hf
      refine ⟨fun x hx => hx, fun x hx r hr d => ?_⟩
      rcases h1 r hr with q | q
      · exact q
      · exact absurd d (h2 x hx (by rw [hf]; simp) r q)
    · rename_i hf
      have ih := bfs_closed (rows := rows) n (found := found ++ nxt fresh left) (fresh := nxt fresh left) (left := rest (nxt fresh left) left) (by
        by_cases he : nxt fresh left = []
        · exact .inl he
        · have := rest_len he
          rcases hn with q | q
          · exact absurd q hf
          · exact .inr (by omega)) (fun r hr => by
        rcases h1 r hr with q | q
        · exact .inl (List.mem_append_left _ q)
        · by_cases hx : r ∈ nxt fresh left
          · exact .inl (List.mem_append_right _ hx)
          · exact .inr (mem_rest.mpr ⟨q, hx⟩)) (fun x hx hn r hr d => by
        obtain ⟨r1, r2⟩ := mem_rest.mp hr
        rcases List.mem_append.mp hx with q | q
        · by_cases hfx : x ∈ fresh
          · exact r2 (mem_nxt.mpr ⟨r1, x, hfx, d⟩)
          · exact h2 x q hfx r r1 d
        · exact hn q)
      exact ⟨fun x hx => ih.1 x (List.mem_append_left _ hx), ih.2⟩
theorem reached_all {rows : List Row} {one b : Row} (h1 : one ∈ rows) (h : Rc rows one b) : b ∈ reached rows one := by
  have hlen : (rows.filter fun r => decide (r ≠ one)).length + 1 ≤ rows.length := by
    have : (rows.filter fun r => decide (r ≠ one)).length < rows.length := List.length_filter_lt_length_iff_exists.mpr ⟨one, h1, by simp⟩
    omega
  obtain ⟨k1, k2⟩ := bfs_closed (rows := rows) rows.length (found := [one]) (fresh := [one]) (left := rows.filter fun r => decide (r ≠ one)) (.inr hlen) (fun r hr => by
    by_cases q : r = one
    · exact .inl (by simp [q])
    · exact .inr (List.mem_filter.mpr ⟨hr, by simp [q]⟩)) (fun x hx hn => absurd hx hn)
  show b ∈ bfs rows.length [one] [one] (rows.filter fun r => decide (r ≠ one))
  induction h with
  | refl => exact k1 one (by simp)
  | step hb m d ih => exact k2 _ ih _ m d
theorem bfs_nodup : ∀ (n : Nat) {found fresh left : List Row}, found.Nodup → left.Nodup → (∀ r ∈ left, r ∉ found) → (bfs n found fresh left).Nodup
  | 0, _, _, _, h, _, _ => h
  | n + 1, found, fresh, left, h1, h2, h3 => by
    unfold bfs
    split
    · exact h1
    · have s1 : (nxt fresh left).Nodup := h2.filter _
      refine bfs_nodup n (List.nodup_append.mpr ⟨h1, s1, fun a ha b hb e => ?_⟩) (h2.filter _) fun r hr hm => ?_
      · subst e
        exact h3 a (mem_nxt.mp hb).1 ha
      · obtain ⟨r1, r2⟩ := mem_rest.mp hr
        rcases List.mem_append.mp hm with q | q
        · exact h3 r r1 q
        · exact r2 q
theorem reached_nodup {rows : List Row} {one : Row} (h : rows.Nodup) : (reached rows one).Nodup :=
  bfs_nodup _ (by simp) (h.filter _) fun r hr => by
    have := (List.mem_filter.mp hr).2
    simpa using this
theorem sub_len : ∀ {l1 l2 : List Row}, l1.Nodup → (∀ x ∈ l1, x ∈ l2) → l1.length ≤ l2.length
  | [], _, _, _ => Nat.zero_le _
  | a :: l1, l2, h, k => by
    obtain ⟨h1, h2⟩ := List.nodup_cons.mp h
    have ha := k a List.mem_cons_self
    have ih := sub_len (l1 := l1) (l2 := l2.erase a) h2 fun x hx => (List.mem_erase_of_ne fun e => h1 (by rw [← e]; exact hx)).mpr (k x (List.mem_cons_of_mem _ hx))
    rw [List.length_erase_of_mem ha] at ih
    have := List.length_pos_of_mem ha
    rw [List.length_cons]
    omega
theorem sub_eq {l1 l2 : List Row} (h : l1.Nodup) (k : ∀ x ∈ l1, x ∈ l2) (hl : l2.length ≤ l1.length) : ∀ x ∈ l2, x ∈ l1 := fun x hx => by
  refine Classical.byContradiction fun hn => ?_
  have := sub_len (l1 := x :: l1) (l2 := l2) (List.nodup_cons.mpr ⟨hn, h⟩) fun y hy => by
    rcases List.mem_cons.mp hy with q | q
    · rw [q]
      exact hx
    · exact k y q
  rw [List.length_cons] at this
  omega
/-- as many as there are, exactly if all is joined -/
theorem reached_len {rows : List Row} {one : Row} (h : rows.Nodup) (h1 : one ∈ rows) : (reached rows one).length = rows.length ↔ ∀ b ∈ rows, Rc rows one b := by
  have sub : ∀ b ∈ reached rows one, b ∈ rows := fun b hb => by
    rcases reached_sound hb with q | q
    · rw [q]
      exact h1
    · exact q.1
  have nd := reached_nodup (one := one) h
  constructor
  · intro e b hb
    rcases reached_sound (sub_eq nd sub (Nat.le_of_eq e.symm) b hb) with q | q
    · rw [q]
      exact .refl
    · exact q.2
  · intro k
    have sub2 : ∀ b ∈ rows, b ∈ reached rows one := fun b hb => reached_all h1 (k b hb)
    have l1 := sub_len nd sub
    have l2 := sub_len h sub2
    omega
end Nu
end

section
set_option maxRecDepth 100000
set_option linter.all false
/-! slack enough: any two allowed rows are joined -/
namespace Nu
def wgt (ws xs : List Int) : Int := ((ws.zip xs).map fun p => p.1 * p.2).sum
def at_ (r : List Int) (k : Nat) : Int := r.getD k 0
theorem wgt_cons (w x : Int) (ws xs : List Int) : wgt (w :: ws) (x :: xs) = w * x + wgt ws xs := by
  simp [wgt]
theorem wgt_set : ∀ (ws xs : List Int) (k : Nat) (v : Int), k < ws.length → k < xs.length → wgt ws (xs.set k v) = wgt ws xs + at_ ws k * (v - at_ xs k)
  | [], _, _, _, h, _ => by simp at h
  | _ :: _, [], _, _, _, h => by simp at h
  | w :: ws, x :: xs, 0, v, _, _ => by
    simp only [List.set_cons_zero, wgt_cons, at_, List.getD_cons_zero, Int.mul_sub]
    omega
  | w :: ws, x :: xs, k + 1, v, h1, h2 => by
    simp only [List.set_cons_succ, wgt_cons, at_, List.getD_cons_succ]
    have := wgt_set ws xs k v (by simpa using h1) (by simpa using h2)
    simp only [at_] at this
    omega
theorem wgt_mono : ∀ (ws xs ys : List Int), xs.length = ys.length → (∀ w ∈ ws, 0 ≤ w) → (∀ k, k < xs.length → at_ xs k ≤ at_ ys k) → wgt ws xs ≤ wgt ws ys
  | [], _, _, _, _, _ => by simp [wgt]
  | _ :: _, [], [], _, _, _ => by simp [wgt]
  | _ :: _, [], _ :: _, h, _, _ => by simp at h
  | _ :: _, _ :: _, [], h, _, _ => by simp at h
  | w :: ws, x :: xs, y :: ys, h, hw, hk => by
    rw [wgt_cons, wgt_cons]
    have h0 : x ≤ y := hk 0 (by simp)
    have h1 := Int.mul_le_mul_of_nonneg_left h0 (hw w List.mem_cons_self)
    have := wgt_mono ws xs ys (by simpa using h) (fun v hv => hw v (List.mem_cons_of_mem _ hv)) fun k hk' => by
      have := hk (k + 1) (by simpa using hk')
      simpa [at_] using this
    omega
def dist (xs ys : List Int) : Nat := ((xs.zip ys).map fun p => (p.1 - p.2).natAbs).sum
theorem dist_cons (x y : Int) (xs ys : List Int) : dist (x :: xs) (y :: ys) = (x - y).natAbs + dist xs ys := by
  simp [dist]
theorem dist_set : ∀ (xs ys : List Int) (k : Nat) (v : Int), k < xs.length → k < ys.length → dist (xs.set k v) ys + (at_ xs k - at_ ys k).natAbs = dist xs ys + (v - at_ ys k).natAbs
  | [], _, _, _, h, _ => by simp at h
  | _ :: _, [], _, _, _, h => by simp at h
  | x :: xs, y :: ys, 0, v, _, _ => by
    simp only [List.set_cons_zero, dist_cons, at_, List.getD_cons_zero]
    omega
  | x :: xs, y :: ys, k + 1, v, h1, h2 => by
    simp only [List.set_cons_succ, dist_cons, at_, List.getD_cons_succ]
    have := dist_set xs ys k v (by simpa using h1) (by simpa using h2)
    simp only [at_] at this
    omega
theorem dist_zero : ∀ (xs ys : List Int), xs.length = ys.length → dist xs ys = 0 → xs = ys
  | [], [], _, _ => rfl
  | [], _ :: _, h, _ => by simp at h
  | _ :: _, [], h, _ => by simp at h
  | x :: xs, y :: ys, h, e => by
    rw [dist_cons] at e
    have h1 : x = y := by omega
    rw [h1, dist_zero xs ys (by simpa using h) (by omega)]
theorem at_set {r : List Int} {k : Nat} {v : Int} (hk : k < r.length) (i : Nat) : at_ (r.set k v) i = if i = k then v else at_ r i := by
  by_cases h : i = k
  · subst h
    simp [at_, List.getD, hk]
  · have : ¬ k = i := fun z => h z.symm
    simp [at_, List.getD, List.getElem?_set_ne this, h]
theorem range_one : ∀ (n k : Nat), k < n → ((List.range n).filter fun i => decide (i = k)).length = 1
  | 0, _, h => by omega
  | n + 1, k, h => by
    rw [List.range_succ, List.filter_append, List.length_append]
    by_cases hk : k = n
    · subst hk
      have : (List.range k).filter (fun i => decide (i = k)) = [] := List.filter_eq_nil_iff.mpr fun i hi => by
        have := List.mem_range.mp hi
        simp
        omega
      rw [this]
      simp
    · rw [range_one n k (by omega)]
      have : ¬ n = k := fun z => hk z.symm
      simp [this]
theorem dif_set {r : Row} {k : Nat} {v : Int} (hk : k < r.length) (hv : v ≠ at_ r k) : dif (r.set k v) r = 1 := by
  unfold dif
  rw [List.length_set]
  have : ((List.range r.length).filter fun i => decide ((r.set k v)[i]? ≠ r[i]?)) = (List.range r.length).filter fun i => decide (i = k) := by
    refine List.filter_congr fun i hi => ?_
    have hi' := List.mem_range.mp hi
    by_cases h : i = k
    · subst h
      have e : r[i]? = some r[i] := List.getElem?_eq_getElem hk
      have e2 : at_ r i = r[i] := by simp [at_, List.getD, e]
      rw [e2] at hv
      rw [List.getElem?_set_self hk, e]
      simp [hv]
    · have : ¬ k = i := fun z => h z.symm
      rw [List.getElem?_set_ne this]
      simp [h]
  rw [this]
  exact range_one _ _ hk
/-- allowed rows -/
structure Ok (cs ws : List Int) (low high : Int) (r : Row) : Prop where
  len : r.length = cs.length
  box : ∀ k, k < cs.length → 0 ≤ at_ r k ∧ at_ r k ≤ at_ cs k
  lo : low ≤ wgt ws r
  hi : wgt ws r ≤ high
theorem slack_joined {cs ws : List Int} {low high : Int} {rows : List Row} {one other : Row} (hl : ws.length = cs.length) (hw : ∀ w ∈ ws, 0 < w)
    (hs : ∀ k j, k < cs.length → j < cs.length → k ≠ j → 0 < at_ cs k → 0 < at_ cs j → at_ ws k + at_ ws j ≤ high - low + 1)
    (hrows : ∀ r, Ok cs ws low high r → (∀ k, k < cs.length → at_ one k = at_ other k → at_ r k = at_ one k) → r ∈ rows) (h1 : Ok cs ws low high one) (h2 : Ok cs ws low high other) : Rc rows one other := by
  have key : ∀ (n : Nat) (cur : Row), dist cur other ≤ n → Ok cs ws low high cur → (∀ k, k < cs.length → at_ one k = at_ other k → at_ cur k = at_ one k) → Rc rows cur other := by
    intro n
    induction n with
    | zero =>
      intro cur hn ho _
      have := dist_zero cur other (by rw [ho.len, h2.len]) (by omega)
      rw [this]
      exact .refl
    | succ n ih =>
      intro cur hn ho hag
      -- one more, one less
      have up : ∀ k, k < cs.length → at_ cur k < at_ other k → wgt ws cur + at_ ws k ≤ high → Rc rows cur other := fun k hk hlt hwk => by
        have hkc : k < cur.length := by rw [ho.len]; exact hk
        have hko : k < other.length := by rw [h2.len]; exact hk
        have wpos : 0 < at_ ws k := by
          have hkw : k < ws.length := by omega
          have e : at_ ws k = ws[k] := by simp [at_, List.getD, List.getElem?_eq_getElem hkw]
          rw [e]
          exact hw _ (List.getElem_mem hkw)
        have e1 := wgt_set ws cur k (at_ cur k + 1) (by omega) hkc
        have e2 : at_ ws k * (at_ cur k + 1 - at_ cur k) = at_ ws k := by
          rw [show at_ cur k + 1 - at_ cur k = 1 by omega, Int.mul_one]
        have no : Ok cs ws low high (cur.set k (at_ cur k + 1)) := by
          refine ⟨by rw [List.length_set]; exact ho.len, fun i hi => ?_, by have := ho.lo; omega, by omega⟩
          rw [at_set hkc]
          have b1 := ho.box i hi
          split
          · rename_i q
            subst q
            have := (h2.box i hi).2
            omega
          · exact b1
        have na : ∀ i, i < cs.length → at_ one i = at_ other i → at_ (cur.set k (at_ cur k + 1)) i = at_ one i := fun i hi e => by
          rw [at_set hkc]
          split
          · rename_i q
            subst q
            have := hag i hi e
            omega
          · exact hag i hi e
        have d1 := dist_set cur other k (at_ cur k + 1) hkc hko
        exact Rc.trans (.step .refl (hrows _ no na) (dif_set hkc (by omega))) (ih _ (by omega) no na)
      have down : ∀ k, k < cs.length → at_ other k < at_ cur k → low ≤ wgt ws cur - at_ ws k → Rc rows cur other := fun k hk hlt hwk => by
        have hkc : k < cur.length := by rw [ho.len]; exact hk
        have hko : k < other.length := by rw [h2.len]; exact hk
        have wpos : 0 < at_ ws k := by
          have hkw : k < ws.length := by omega
          have e : at_ ws k = ws[k] := by simp [at_, List.getD, List.getElem?_eq_getElem hkw]
          rw [e]
          exact hw _ (List.getElem_mem hkw)
        have e1 := wgt_set ws cur k (at_ cur k - 1) (by omega) hkc
        have e2 : at_ ws k * (at_ cur k - 1 - at_ cur k) = - at_ ws k := by
          rw [show at_ cur k - 1 - at_ cur k = -1 by omega, Int.mul_neg, Int.mul_one]
        have no : Ok cs ws low high (cur.set k (at_ cur k - 1)) := by
          refine ⟨by rw [List.length_set]; exact ho.len, fun i hi => ?_, by omega, by have := ho.hi; omega⟩
          rw [at_set hkc]
          have b1 := ho.box i hi
          split
          · rename_i q
            subst q
            have := (h2.box i hi).1
            omega
          · exact b1
        have na : ∀ i, i < cs.length → at_ one i = at_ other i → at_ (cur.set k (at_ cur k - 1)) i = at_ one i := fun i hi e => by
          rw [at_set hkc]
          split
          · rename_i q
            subst q
            have := hag i hi e
            omega
          · exact hag i hi e
        have d1 := dist_set cur other k (at_ cur k - 1) hkc hko
        exact Rc.trans (.step .refl (hrows _ no na) (dif_set hkc (by omega))) (ih _ (by omega) no na)
      by_cases hU : ∃ k, k < cs.length ∧ at_ cur k < at_ other k
      · obtain ⟨k, hk, hlt⟩ := hU
        by_cases hwk : wgt ws cur + at_ ws k ≤ high
        · exact up k hk hlt hwk
        · by_cases hD : ∃ j, j < cs.length ∧ at_ other j < at_ cur j
          · obtain ⟨j, hj, hgt⟩ := hD
            by_cases hwj : low ≤ wgt ws cur - at_ ws j
            · exact down j hj hgt hwj
            · exfalso
              have b1 := ho.box k hk
              have b2 := h2.box k hk
              have b3 := ho.box j hj
              have b4 := h2.box j hj
              have := hs k j hk hj (fun z => by subst z; omega) (by omega) (by omega)
              omega
          · exfalso
            have hkc : k < cur.length := by rw [ho.len]; exact hk
            have e1 := wgt_set ws cur k (at_ cur k + 1) (by omega) hkc
            have e2 : at_ ws k * (at_ cur k + 1 - at_ cur k) = at_ ws k := by
              rw [show at_ cur k + 1 - at_ cur k = 1 by omega, Int.mul_one]
            have m := wgt_mono ws (cur.set k (at_ cur k + 1)) other (by rw [List.length_set, ho.len, h2.len]) (fun w hw' => by have := hw w hw'; omega) fun i hi => by
              rw [at_set hkc]
              split
              · rename_i q
                subst q
                omega
              · refine Classical.byContradiction fun hc => hD ⟨i, ?_, by omega⟩
                rw [List.length_set, ho.len] at hi
                exact hi
            have := h2.hi
            omega
      · by_cases hD : ∃ j, j < cs.length ∧ at_ other j < at_ cur j
        · obtain ⟨j, hj, hgt⟩ := hD
          refine down j hj hgt ?_
          have hkc : j < cur.length := by rw [ho.len]; exact hj
          have e1 := wgt_set ws cur j (at_ cur j - 1) (by omega) hkc
          have e2 : at_ ws j * (at_ cur j - 1 - at_ cur j) = - at_ ws j := by
            rw [show at_ cur j - 1 - at_ cur j = -1 by omega, Int.mul_neg, Int.mul_one]
          have m := wgt_mono ws other (cur.set j (at_ cur j - 1)) (by rw [List.length_set, ho.len, h2.len]) (fun w hw' => by have := hw w hw'; omega) fun i hi => by
            rw [at_set hkc]
            split
            · rename_i q
              subst q
              omega
            · refine Classical.byContradiction fun hc => hU ⟨i, ?_, by omega⟩
              rw [h2.len] at hi
              exact hi
          have := h2.lo
          omega
        · have : cur = other := by
            refine List.ext_getElem? fun i => ?_
            by_cases hi : i < cs.length
            · have hic : i < cur.length := by rw [ho.len]; exact hi
              have hio : i < other.length := by rw [h2.len]; exact hi
              have e1 : at_ cur i = cur[i] := by simp [at_, List.getD, List.getElem?_eq_getElem hic]
              have e2 : at_ other i = other[i] := by simp [at_, List.getD, List.getElem?_eq_getElem hio]
              rw [List.getElem?_eq_getElem hic, List.getElem?_eq_getElem hio, ← e1, ← e2]
              congr 1
              refine Int.le_antisymm ?_ ?_
              · exact Classical.byContradiction fun hc => hD ⟨i, hi, by omega⟩
              · exact Classical.byContradiction fun hc => hU ⟨i, hi, by omega⟩
            · have e1 := ho.len
              have e2 := h2.len
              rw [List.getElem?_eq_none (by omega), List.getElem?_eq_none (by omega)]
          rw [this]
          exact .refl
  exact key _ one (Nat.le_refl _) h1 fun _ _ _ => rfl
end Nu
end

section
set_option maxRecDepth 100000
set_option linter.all false
/-! all rows of a box -/
namespace Nu
def ext (c : Int) (r : Row) : List Row := (List.range (c + 1).toNat).map fun v : Nat => r ++ [(v : Int)]
def grow (found : List Row) (c : Int) : List Row := found.flatMap (ext c)
def boxRows (cs : List Int) : List Row := cs.foldl grow [[]]
def inBox (r cs : List Int) : Prop := r.length = cs.length ∧ ∀ k, k < cs.length → 0 ≤ at_ r k ∧ at_ r k ≤ at_ cs k
theorem mem_ext {c : Int} {r x : Row} : x ∈ ext c r ↔ ∃ v : Int, x = r ++ [v] ∧ 0 ≤ v ∧ v ≤ c := by
  unfold ext
  rw [List.mem_map]
  constructor
  · rintro ⟨v, hv, rfl⟩
    have := List.mem_range.mp hv
    exact ⟨v, rfl, by omega, by omega⟩
  · rintro ⟨v, rfl, h1, h2⟩
    exact ⟨v.toNat, List.mem_range.mpr (by omega), by rw [Int.toNat_of_nonneg h1]⟩
theorem inBox_nil {r : Row} : inBox r [] ↔ r = [] := by
  constructor
  · rintro ⟨h, _⟩
    exact List.length_eq_zero_iff.mp h
  · rintro rfl
    exact ⟨rfl, fun k hk => absurd hk (Nat.not_lt_zero _)⟩
theorem at_zero (x : Int) (r : Row) : at_ (x :: r) 0 = x := rfl
theorem at_succ (x : Int) (r : Row) (k : Nat) : at_ (x :: r) (k + 1) = at_ r k := rfl
theorem inBox_cons {x c : Int} {r cs : List Int} : inBox (x :: r) (c :: cs) ↔ (0 ≤ x ∧ x ≤ c) ∧ inBox r cs := by
  constructor
  · rintro ⟨h, k⟩
    refine ⟨k 0 (Nat.succ_pos _), by simpa using h, fun i hi => ?_⟩
    exact k (i + 1) (Nat.succ_lt_succ hi)
  · rintro ⟨h, k1, k2⟩
    refine ⟨by simp [k1], fun i hi => ?_⟩
    cases i with
    | zero => exact h
    | succ i => exact k2 i (Nat.lt_of_succ_lt_succ hi)
theorem mem_fold : ∀ (cs : List Int) (acc : List Row) (x : Row), x ∈ cs.foldl grow acc ↔ ∃ a ∈ acc, ∃ t, x = a ++ t ∧ inBox t cs
  | [], acc, x => by
    show x ∈ acc ↔ _
    constructor
    · exact fun h => ⟨x, h, [], by simp, inBox_nil.mpr rfl⟩
    · rintro ⟨a, h, t, rfl, k⟩
      rw [inBox_nil.mp k, List.append_nil]
      exact h
  | c :: cs, acc, x => by
    show x ∈ cs.foldl grow (grow acc c) ↔ _
    rw [mem_fold cs (grow acc c) x]
    constructor
    · rintro ⟨a', ha', t, rfl, k⟩
      obtain ⟨a, ha, e⟩ := List.mem_flatMap.mp ha'
      obtain ⟨v, rfl, h1, h2⟩ := mem_ext.mp e
      exact ⟨a, ha, v :: t, by simp, inBox_cons.mpr ⟨⟨h1, h2⟩, k⟩⟩
    · rintro ⟨a, ha, t, rfl, k⟩
      cases t with
      | nil => exact absurd k.1 (by simp)
      | cons v t =>
        obtain ⟨⟨h1, h2⟩, k'⟩ := inBox_cons.mp k
        exact ⟨a ++ [v], List.mem_flatMap.mpr ⟨a, ha, mem_ext.mpr ⟨v, rfl, h1, h2⟩⟩, t, by simp, k'⟩
theorem mem_boxRows {cs : List Int} {r : Row} : r ∈ boxRows cs ↔ inBox r cs := by
  unfold boxRows
  rw [mem_fold]
  constructor
  · rintro ⟨a, ha, t, rfl, k⟩
    rw [List.mem_singleton.mp ha]
    exact k
  · exact fun h => ⟨[], List.mem_singleton.mpr rfl, r, rfl, h⟩
theorem nodup_ext (c : Int) (r : Row) : (ext c r).Nodup := by
  unfold ext
  refine List.pairwise_map.mpr ?_
  refine List.Pairwise.imp ?_ List.nodup_range
  intro a b h e
  have := List.append_cancel_left e
  simp only [List.cons.injEq, and_true] at this
  omega
theorem nodup_grow {acc : List Row} {c : Int} (h : acc.Nodup) : (grow acc c).Nodup := by
  unfold grow
  refine List.pairwise_flatMap.mpr ⟨fun a _ => nodup_ext c a, ?_⟩
  refine List.Pairwise.imp ?_ h
  intro a b hab x hx y hy e
  obtain ⟨v, rfl, _⟩ := mem_ext.mp hx
  obtain ⟨w, rfl, _⟩ := mem_ext.mp hy
  exact hab (List.append_inj_left' e rfl)
theorem nodup_fold : ∀ (cs : List Int) (acc : List Row), acc.Nodup → (cs.foldl grow acc).Nodup
  | [], _, h => h
  | c :: cs, acc, h => nodup_fold cs _ (nodup_grow h)
theorem nodup_boxRows (cs : List Int) : (boxRows cs).Nodup := nodup_fold cs _ (by simp)
theorem len_ext (c : Int) (r : Row) : (ext c r).length = (c + 1).toNat := by
  unfold ext
  rw [List.length_map, List.length_range]
theorem len_grow : ∀ (acc : List Row) (c : Int), (grow acc c).length = acc.length * (c + 1).toNat
  | [], c => by simp [grow]
  | a :: acc, c => by
    have := len_grow acc c
    unfold grow at this ⊢
    rw [List.flatMap_cons, List.length_append, len_ext, this, List.length_cons, Nat.succ_mul]
    omega
/-- allowed rows, all of them -/
def rowsOf (cs ws : List Int) (low high : Int) : List Row := (boxRows cs).filter fun r => decide (low ≤ wgt ws r) && decide (wgt ws r ≤ high)
theorem mem_rowsOf {cs ws : List Int} {low high : Int} {r : Row} : r ∈ rowsOf cs ws low high ↔ Ok cs ws low high r := by
  unfold rowsOf
  rw [List.mem_filter, mem_boxRows]
  simp only [Bool.and_eq_true, decide_eq_true_eq]
  constructor
  · rintro ⟨⟨h1, h2⟩, h3, h4⟩
    exact ⟨h1, h2, h3, h4⟩
  · rintro ⟨h1, h2, h3, h4⟩
    exact ⟨⟨h1, h2⟩, h3, h4⟩
theorem nodup_rowsOf (cs ws : List Int) (low high : Int) : (rowsOf cs ws low high).Nodup := List.Pairwise.filter _ (nodup_boxRows cs)
/-! two keys -/
theorem row2 {r : Row} {c0 c1 : Int} (h : r.length = [c0, c1].length) : ∃ x y, r = [x, y] := by
  match r, h with
  | [x, y], _ => exact ⟨x, y, rfl⟩
theorem ok_two {c0 c1 w0 w1 low high x y : Int} : Ok [c0, c1] [w0, w1] low high [x, y] ↔ Al c0 c1 w0 w1 low high x y := by
  have e : wgt [w0, w1] [x, y] = w0 * x + w1 * y := by
    show w0 * x + (w1 * y + 0) = _
    omega
  constructor
  · rintro ⟨h1, h2, h3, h4⟩
    have a := h2 0 (show 0 < 2 by decide)
    have b := h2 1 (show 1 < 2 by decide)
    rw [e] at h3 h4
    exact ⟨a.1, a.2, b.1, b.2, h3, h4⟩
  · rintro ⟨h1, h2, h3, h4, h5, h6⟩
    refine ⟨rfl, fun k hk => ?_, by rw [e]; exact h5, by rw [e]; exact h6⟩
    match k, hk with
    | 0, _ => exact ⟨h1, h2⟩
    | 1, _ => exact ⟨h3, h4⟩
theorem dif_two (x y x' y' : Int) : dif [x, y] [x', y'] = (if x = x' then 0 else 1) + (if y = y' then 0 else 1) := by
  have e : List.range [x, y].length = [0, 1] := rfl
  unfold dif
  rw [e]
  by_cases h1 : x = x' <;> by_cases h2 : y = y' <;> simp [List.filter, h1, h2]
theorem rc_two {c0 c1 w0 w1 low high x y : Int} {r : Row} (h : Rc (rowsOf [c0, c1] [w0, w1] low high) [x, y] r) : ∃ x' y', r = [x', y'] ∧ Rc2 (Al c0 c1 w0 w1 low high) x y x' y' := by
  induction h with
  | refl => exact ⟨x, y, rfl, .refl⟩
  | @step b c _ m d ih =>
    obtain ⟨a1, a2, rfl, k⟩ := ih
    have ok := mem_rowsOf.mp m
    obtain ⟨b1, b2, rfl⟩ := row2 ok.len
    have al := ok_two.mp ok
    rw [dif_two] at d
    refine ⟨b1, b2, rfl, ?_⟩
    by_cases h1 : b1 = a1
    · rw [h1] at al ⊢
      exact .sy k al
    · by_cases h2 : b2 = a2
      · rw [h2] at al ⊢
        exact .sx k al
      · rw [if_neg h1, if_neg h2] at d
        omega
theorem two_rc {c0 c1 w0 w1 low high x y x' y' : Int} (h : Rc2 (Al c0 c1 w0 w1 low high) x y x' y') : Rc (rowsOf [c0, c1] [w0, w1] low high) [x, y] [x', y'] := by
  induction h with
  | refl => exact .refl
  | @sx a b a' h p ih =>
    by_cases e : a' = a
    · rw [e]
      exact ih
    · exact .step ih (mem_rowsOf.mpr (ok_two.mpr p)) (by rw [dif_two, if_neg e, if_pos rfl])
  | @sy a b b' h p ih =>
    by_cases e : b' = b
    · rw [e]
      exact ih
    · exact .step ih (mem_rowsOf.mpr (ok_two.mpr p)) (by rw [dif_two, if_neg e, if_pos rfl])
/-- joined or not, as the law reckons -/
def joined (rows : List Row) : Bool := rows.isEmpty || decide ((reached rows (rows.getD 0 [])).length = rows.length)
theorem joined_two {k : Nat} {c0 c1 w0 w1 low high : Int} {r : Option ((Int × Int) × (Int × Int))} (h0 : 0 < w0) (h1 : 0 < w1) (hc : 0 ≤ c0) (e : tc k c0 c1 w0 w1 low high = some r) : joined (rowsOf [c0, c1] [w0, w1] low high) = r.isNone := by
  have ok := tc_ok h0 h1 hc e
  have nd := nodup_rowsOf [c0, c1] [w0, w1] low high
  have mem : ∀ b, b ∈ rowsOf [c0, c1] [w0, w1] low high → ∃ x y, b = [x, y] ∧ Al c0 c1 w0 w1 low high x y := fun b hb => by
    have q := mem_rowsOf.mp hb
    obtain ⟨x, y, rfl⟩ := row2 q.len
    exact ⟨x, y, rfl, ok_two.mp q⟩
  unfold joined
  cases er : rowsOf [c0, c1] [w0, w1] low high with
  | nil =>
    cases r with
    | none => rfl
    | some pq =>
      have c : Cut c0 c1 w0 w1 low high pq.1.1 pq.1.2 pq.2.1 pq.2.2 := ok
      have := mem_rowsOf.mpr (ok_two.mpr c.one)
      rw [er] at this
      cases this
  | cons a l =>
    have g0 : (a :: l).getD 0 [] = a := rfl
    rw [g0, ← er]
    have ha : a ∈ rowsOf [c0, c1] [w0, w1] low high := by rw [er]; exact List.mem_cons_self
    have e0 : (rowsOf [c0, c1] [w0, w1] low high).isEmpty = false := by rw [er]; rfl
    have rl := reached_len nd ha
    obtain ⟨x, y, rfl, ax⟩ := mem a ha
    rw [e0, Bool.false_or]
    cases r with
    | none =>
      refine decide_eq_true (rl.mpr fun b hb => ?_)
      obtain ⟨x', y', rfl, ax'⟩ := mem b hb
      exact two_rc (ok x y x' y' ax ax')
    | some pq =>
      have c : Cut c0 c1 w0 w1 low high pq.1.1 pq.1.2 pq.2.1 pq.2.2 := ok
      refine decide_eq_false fun q => ?_
      have all := rl.mp q
      have g : ∀ u v, Al c0 c1 w0 w1 low high u v → Rc2 (Al c0 c1 w0 w1 low high) x y u v := fun u v hu => by
        obtain ⟨u', v', e', k⟩ := rc_two (all _ (mem_rowsOf.mpr (ok_two.mpr hu)))
        cases e'
        exact k
      exact c.apart h0 h1 (((g _ _ c.one).symm ax).trans (g _ _ c.other))
end Nu
end

section
set_option maxRecDepth 100000
set_option linter.all false
/-! two keys, more -/
namespace Nu
theorem Rc2.map {P Q : Int → Int → Prop} {a b x y : Int} (k : ∀ x y, P x y → Q x y) (h : Rc2 P a b x y) : Rc2 Q a b x y := by
  induction h with
  | refl => exact .refl
  | sx _ p ih => exact .sx ih (k _ _ p)
  | sy _ p ih => exact .sy ih (k _ _ p)
theorem Al.swap {c0 c1 w0 w1 low high x y : Int} (a : Al c0 c1 w0 w1 low high x y) : Al c1 c0 w1 w0 low high y x := by
  have h5 := a.lo
  have h6 := a.hi
  exact ⟨a.y0, a.y1, a.x0, a.x1, by omega, by omega⟩
theorem cut_some {k : Nat} {c0 c1 w0 w1 low high x1 y1 x2 y2 : Int} {r : Option ((Int × Int) × (Int × Int))} (h0 : 0 < w0) (h1 : 0 < w1) (hc : 0 ≤ c0) (c : Cut c0 c1 w0 w1 low high x1 y1 x2 y2) (e : tc k c0 c1 w0 w1 low high = some r) : r.isNone = false := by
  have ok := tc_ok h0 h1 hc e
  cases r with
  | some _ => rfl
  | none => exact absurd (ok _ _ _ _ c.one c.other) (c.apart h0 h1)
theorem cut_swap {k : Nat} {c0 c1 w0 w1 low high x1 y1 x2 y2 : Int} {r : Option ((Int × Int) × (Int × Int))} (h0 : 0 < w0) (h1 : 0 < w1) (hc : 0 ≤ c1) (c : Cut c0 c1 w0 w1 low high x1 y1 x2 y2) (e : tc k c1 c0 w1 w0 low high = some r) : r.isNone = false := by
  have ok := tc_ok h1 h0 hc e
  cases r with
  | some _ => rfl
  | none =>
    have z := ok _ _ _ _ c.one.swap c.other.swap
    have z2 : Rc2 (fun x y => Al c0 c1 w0 w1 low high y x) y1 x1 y2 x2 := z.map fun x y a => a.swap
    exact absurd z2.swap (c.apart h0 h1)
theorem wide_none {k : Nat} {c0 c1 w0 w1 low high : Int} {r : Option ((Int × Int) × (Int × Int))} (h0 : 0 < w0) (h1 : 0 < w1) (hc : 0 ≤ c0) (hw : low + w0 + w1 - 1 ≤ high) (e : tc k c0 c1 w0 w1 low high = some r) : r.isNone = true := by
  have ok := tc_ok h0 h1 hc e
  cases r with
  | none => rfl
  | some pq =>
    have c : Cut c0 c1 w0 w1 low high pq.1.1 pq.1.2 pq.2.1 pq.2.2 := ok
    have h3 := c.hi
    have h4 := c.lo
    omega
/-- all of it many times as great -/
theorem rows_times {c0 c1 w0 w1 low high t u1 u2 : Int} (h0 : 0 ≤ w0) (h1 : 0 ≤ w1) (ht : 0 < t) (a1 : 0 ≤ u1) (a2 : u1 < t) (b1 : 0 ≤ u2) (b2 : u2 < t) : rowsOf [c0, c1] [w0 * t, w1 * t] (mx 0 (low * t - u1)) (high * t + u2) = rowsOf [c0, c1] [w0, w1] low high := by
  unfold rowsOf
  refine List.filter_congr fun r hr => ?_
  have bx := mem_boxRows.mp hr
  obtain ⟨x, y, rfl⟩ := row2 bx.1
  have k0 := bx.2 0 (show 0 < 2 by decide)
  have k1 := bx.2 1 (show 1 < 2 by decide)
  have x0 : 0 ≤ x := k0.1
  have y0 : 0 ≤ y := k1.1
  have e1 : wgt [w0 * t, w1 * t] [x, y] = (w0 * x + w1 * y) * t := by
    show w0 * t * x + (w1 * t * y + 0) = _
    rw [Int.add_mul, Int.mul_right_comm, Int.mul_right_comm w1]
    omega
  have e2 : wgt [w0, w1] [x, y] = w0 * x + w1 * y := by
    show w0 * x + (w1 * y + 0) = _
    omega
  rw [e1, e2]
  have s0 : 0 ≤ w0 * x + w1 * y := Int.add_nonneg (Int.mul_nonneg h0 x0) (Int.mul_nonneg h1 y0)
  generalize w0 * x + w1 * y = s at s0
  have st : 0 ≤ s * t := Int.mul_nonneg s0 (by omega)
  have A : mx 0 (low * t - u1) ≤ s * t ↔ low ≤ s := by
    have m : mx 0 (low * t - u1) ≤ s * t ↔ low * t - u1 ≤ s * t := by
      unfold mx
      split <;> omega
    rw [m]
    constructor
    · intro h
      refine Classical.byContradiction fun n => ?_
      have z : (s + 1) * t ≤ low * t := Int.mul_le_mul_of_nonneg_right (by omega) (by omega)
      rw [Int.add_mul] at z
      omega
    · intro h
      have z : low * t ≤ s * t := Int.mul_le_mul_of_nonneg_right h (by omega)
      omega
  have B : s * t ≤ high * t + u2 ↔ s ≤ high := by
    constructor
    · intro h
      refine Classical.byContradiction fun n => ?_
      have z : (high + 1) * t ≤ s * t := Int.mul_le_mul_of_nonneg_right (by omega) (by omega)
      rw [Int.add_mul] at z
      omega
    · intro h
      have z : s * t ≤ high * t := Int.mul_le_mul_of_nonneg_right h (by omega)
      omega
  rw [decide_eq_decide.mpr A, decide_eq_decide.mpr B]
end Nu
end

section
set_option maxRecDepth 100000
set_option linter.all false
/-! the two greatest weights of keys with caps from 1 on -/
namespace Nu
def leP (p q : Int × Int) : Bool := decide (p.1 < q.1 ∨ (p.1 = q.1 ∧ p.2 ≤ q.2))
def leI (p q : Int) : Bool := decide (p ≤ q)
/-- the keys with caps from 1 on -/
def keysIn (cs ws : List Int) : List Nat := (List.range ws.length).filter fun k => decide (0 < at_ cs k)
def prs (cs ws : List Int) : List (Int × Int) := (keysIn cs ws).map fun k => (-(at_ ws k), (k : Int))
def srt (cs ws : List Int) : List (Int × Int) := (prs cs ws).mergeSort leP
def wts (cs ws : List Int) : List Int := (keysIn cs ws).map fun k => at_ ws k
/-- the least slack that is enough -/
def enough (cs ws : List Int) : Int := match srt cs ws with
  | a :: b :: _ => -a.1 + -b.1 - 1
  | _ => 0
theorem leP_trans (a b c : Int × Int) (h1 : leP a b = true) (h2 : leP b c = true) : leP a c = true := by
  unfold leP at *
  rw [decide_eq_true_eq] at *
  omega
theorem leP_total (a b : Int × Int) : (leP a b || leP b a) = true := by
  unfold leP
  rw [Bool.or_eq_true, decide_eq_true_eq, decide_eq_true_eq]
  omega
theorem srt_sorted (cs ws : List Int) : (srt cs ws).Pairwise fun a b => leP a b = true := List.pairwise_mergeSort leP_trans leP_total _
theorem srt_perm (cs ws : List Int) : (srt cs ws).Perm (prs cs ws) := List.mergeSort_perm _ _
theorem leI_trans (a b c : Int) (h1 : leI a b = true) (h2 : leI b c = true) : leI a c = true := by
  unfold leI at *
  rw [decide_eq_true_eq] at *
  omega
theorem leI_total (a b : Int) : (leI a b || leI b a) = true := by
  unfold leI
  rw [Bool.or_eq_true, decide_eq_true_eq, decide_eq_true_eq]
  omega
theorem neg_prs (cs ws : List Int) : (prs cs ws).map (fun p => -p.1) = wts cs ws := by
  unfold prs wts
  rw [List.map_map]
  refine List.map_congr_left fun k _ => ?_
  show - -(at_ ws k) = at_ ws k
  omega
/-- both ways of sorting tell the same weights -/
theorem sort_same (cs ws : List Int) : (wts cs ws).mergeSort leI = ((srt cs ws).map fun p => -p.1).reverse := by
  have p1 : ((srt cs ws).map fun p => -p.1).Perm (wts cs ws) := by
    rw [← neg_prs]
    exact (srt_perm cs ws).map _
  have s2 : (((srt cs ws).map fun p => -p.1).reverse).Pairwise fun a b => leI a b = true := by
    rw [List.pairwise_reverse, List.pairwise_map]
    refine (srt_sorted cs ws).imp fun {a b} h => ?_
    unfold leP at h
    unfold leI
    rw [decide_eq_true_eq] at *
    omega
  refine List.Perm.eq_of_pairwise (le := fun a b => leI a b = true) (fun a b _ _ h1 h2 => ?_) (List.pairwise_mergeSort leI_trans leI_total _) s2 ?_
  · unfold leI at *
    rw [decide_eq_true_eq] at *
    omega
  · exact (List.mergeSort_perm _ _).trans (p1.symm.trans (List.reverse_perm _).symm)
theorem srt_mem {cs ws : List Int} {p : Int × Int} : p ∈ srt cs ws ↔ ∃ k : Nat, k < ws.length ∧ 0 < at_ cs k ∧ p = (-(at_ ws k), (k : Int)) := by
  rw [(srt_perm cs ws).mem_iff]
  unfold prs keysIn
  rw [List.mem_map]
  constructor
  · rintro ⟨k, hk, rfl⟩
    rw [List.mem_filter, List.mem_range, decide_eq_true_eq] at hk
    exact ⟨k, hk.1, hk.2, rfl⟩
  · rintro ⟨k, h1, h2, rfl⟩
    exact ⟨k, by rw [List.mem_filter, List.mem_range, decide_eq_true_eq]; exact ⟨h1, h2⟩, rfl⟩
theorem srt_nodup (cs ws : List Int) : (srt cs ws).Nodup := by
  rw [(srt_perm cs ws).nodup_iff]
  unfold prs keysIn
  have h : ((List.range ws.length).filter fun k => decide (0 < at_ cs k)).Nodup := List.nodup_range.filter _
  rw [List.Nodup, List.pairwise_map]
  refine List.Pairwise.imp (fun {a b} hab q => hab ?_) h
  have := congrArg Prod.snd q
  exact Int.ofNat_inj.mp this
/-- two keys' weights together are never more -/
theorem enough_max {cs ws : List Int} {k j : Nat} (hk : k < ws.length) (hj : j < ws.length) (hkj : k ≠ j) (ck : 0 < at_ cs k) (cj : 0 < at_ cs j) : at_ ws k + at_ ws j ≤ enough cs ws + 1 := by
  have m1 : (-(at_ ws k), (k : Int)) ∈ srt cs ws := srt_mem.mpr ⟨k, hk, ck, rfl⟩
  have m2 : (-(at_ ws j), (j : Int)) ∈ srt cs ws := srt_mem.mpr ⟨j, hj, cj, rfl⟩
  have hne : (-(at_ ws k), (k : Int)) ≠ (-(at_ ws j), (j : Int)) := fun q => hkj (Int.ofNat_inj.mp (congrArg Prod.snd q))
  have hs := srt_sorted cs ws
  unfold enough
  generalize hS : srt cs ws = S at *
  match S, m1, m2, hs with
  | [], m1, _, _ => simp at m1
  | [a], m1, m2, _ =>
    exact (hne ((List.mem_singleton.mp m1).trans (List.mem_singleton.mp m2).symm)).elim
  | a :: b :: r, m1, m2, hs =>
    have s1 := (List.pairwise_cons.mp hs).1
    have s2 := (List.pairwise_cons.mp (List.pairwise_cons.mp hs).2).1
    have hab := s1 b List.mem_cons_self
    have key : ∀ p ∈ b :: r, b.1 ≤ p.1 := fun p hp => by
      rcases List.mem_cons.mp hp with q | q
      · rw [q]
        exact Int.le_refl _
      · have := s2 p q
        unfold leP at this
        rw [decide_eq_true_eq] at this
        omega
    unfold leP at hab
    rw [decide_eq_true_eq] at hab
    show _ ≤ -a.1 + -b.1 - 1 + 1
    rcases List.mem_cons.mp m1 with q1 | q1
    · rcases List.mem_cons.mp m2 with q2 | q2
      · exact (hne (q1.trans q2.symm)).elim
      · have z := key _ q2
        rw [← q1]
        have z' : b.1 ≤ -(at_ ws j) := z
        show _ ≤ - -(at_ ws k) + -b.1 - 1 + 1
        omega
    · have z' : b.1 ≤ -(at_ ws k) := key _ q1
      rcases List.mem_cons.mp m2 with q2 | q2
      · rw [← q2]
        show _ ≤ - -(at_ ws j) + -b.1 - 1 + 1
        omega
      · have z2 : b.1 ≤ -(at_ ws j) := key _ q2
        omega
end Nu
end

section
set_option maxRecDepth 100000
set_option linter.all false
/-! unit rows -/
namespace Nu
def unit (n u : Nat) : List Int := (List.range n).map fun k => if k = u then 1 else 0
theorem unit_len (n u : Nat) : (unit n u).length = n := by
  unfold unit
  rw [List.length_map, List.length_range]
theorem at_unit {n u k : Nat} (h : k < n) : at_ (unit n u) k = if k = u then 1 else 0 := by
  unfold unit at_
  rw [List.getD, List.getElem?_map, List.getElem?_range h]
  rfl
theorem wgt_nil (ws : List Int) : wgt ws [] = 0 := by
  unfold wgt
  rw [List.zip_nil_right]
  rfl
theorem wgt_range : ∀ (ws : List Int) (f : Nat → Int) (u m : Nat), (∀ k, f k = if k = u then 1 else 0) → wgt ws ((List.range' m ws.length).map f) = if m ≤ u then at_ ws (u - m) else 0
  | [], f, u, m, _ => by
    unfold wgt at_
    simp
  | w :: ws, f, u, m, h => by
    rw [List.length_cons, List.range'_succ, List.map_cons, wgt_cons, wgt_range ws f u (m + 1) h, h m]
    by_cases h1 : m = u
    · subst h1
      rw [if_pos rfl, if_neg (by omega), if_pos (Nat.le_refl _), Nat.sub_self]
      show w * 1 + 0 = w
      omega
    · rw [if_neg h1]
      by_cases h2 : m + 1 ≤ u
      · rw [if_pos h2, if_pos (by omega)]
        have e : u - m = (u - (m + 1)) + 1 := by omega
        rw [e]
        show w * 0 + at_ ws (u - (m + 1)) = at_ ws (u - (m + 1))
        omega
      · rw [if_neg h2, if_neg (by omega)]
        omega
theorem wgt_unit {ws : List Int} {u : Nat} : wgt ws (unit ws.length u) = at_ ws u := by
  unfold unit
  rw [List.range_eq_range', wgt_range ws _ u 0 fun _ => rfl, if_pos (Nat.zero_le _), Nat.sub_zero]
theorem up_unit {n u v : Nat} (hv : v < n) (huv : u ≠ v) : ((List.range n).filter fun k => decide (at_ (unit n u) k < at_ (unit n v) k)) = [v] := by
  have h1 : ∀ k ∈ List.range n, decide (at_ (unit n u) k < at_ (unit n v) k) = decide (k = v) := fun k hk => by
    have hk' := List.mem_range.mp hk
    rw [at_unit hk', at_unit hk']
    by_cases a : k = v
    · subst a
      rw [if_neg (fun z => huv z.symm), if_pos rfl]
      simp
    · rw [if_neg a]
      by_cases b : k = u
      · rw [if_pos b]
        simp [a]
      · rw [if_neg b]
        simp [a]
  rw [List.filter_congr h1]
  have h2 := range_one n v hv
  match e : (List.range n).filter (fun k => decide (k = v)), h2 with
  | [x], _ => 
    have : x ∈ (List.range n).filter (fun k => decide (k = v)) := by rw [e]; exact List.mem_cons_self
    have := (List.mem_filter.mp this).2
    rw [decide_eq_true_eq] at this
    rw [this]
end Nu
end

section
set_option maxRecDepth 100000
set_option linter.all false
namespace Ma
open PySem PySem.Spec PyProof.Rows L2 DL Wk
/-! ### reckoning with meanings -/
section
variable {α β : Type}
@[simp] theorem bind_ok (a : α) (ρ : Env') (f : α → Env' → Out β) : (Out.ok a ρ).bind f = f a ρ := rfl
@[simp] theorem bind_stuck (f : α → Env' → Out β) : (Out.stuck : Out α).bind f = .stuck := rfl
@[simp] theorem fl_ok (a : α) (ρ : Env') (f : α → Env' → Fl) : (Out.ok a ρ).fl f = f a ρ := rfl
@[simp] theorem fl_stuck (f : α → Env' → Fl) : (Out.stuck : Out α).fl f = .stuck := rfl
@[simp] theorem lift_some (a : α) (ρ : Env') : Out.lift ρ (some a) = .ok a ρ := rfl
@[simp] theorem lift_none (ρ : Env') : Out.lift ρ (none : Option α) = .stuck := rfl
end
@[simp] theorem eC_go (d : D) (ρ : Env') : eC d ρ = .ok d ρ := rfl
theorem eVar_va {ρ : Env'} {i : Nat} {d : D} (h : ρ[i]? = some (.va d)) : eVar i ρ = .ok d ρ := by
  unfold eVar
  rw [h]
@[simp] theorem eVar_0 (d : D) (ρ : Env') : eVar 0 (.va d :: ρ) = .ok d (.va d :: ρ) := rfl
@[simp] theorem eVar_1 (a : Sl) (d : D) (ρ : Env') : eVar 1 (a :: .va d :: ρ) = .ok d (a :: .va d :: ρ) := rfl
@[simp] theorem eVar_2 (a b : Sl) (d : D) (ρ : Env') : eVar 2 (a :: b :: .va d :: ρ) = .ok d (a :: b :: .va d :: ρ) := rfl
@[simp] theorem eVar_3 (a b c : Sl) (d : D) (ρ : Env') : eVar 3 (a :: b :: c :: .va d :: ρ) = .ok d (a :: b :: c :: .va d :: ρ) := rfl
@[simp] theorem eVar_4 (a b c e : Sl) (d : D) (ρ : Env') : eVar 4 (a :: b :: c :: e :: .va d :: ρ) = .ok d (a :: b :: c :: e :: .va d :: ρ) := rfl
@[simp] theorem eVar_5 (a b c e f : Sl) (d : D) (ρ : Env') : eVar 5 (a :: b :: c :: e :: f :: .va d :: ρ) = .ok d (a :: b :: c :: e :: f :: .va d :: ρ) := rfl
@[simp] theorem eVar_6 (a b c e f g : Sl) (d : D) (ρ : Env') : eVar 6 (a :: b :: c :: e :: f :: g :: .va d :: ρ) = .ok d (a :: b :: c :: e :: f :: g :: .va d :: ρ) := rfl
@[simp] theorem eVar_7 (a b c e f g h : Sl) (d : D) (ρ : Env') : eVar 7 (a :: b :: c :: e :: f :: g :: h :: .va d :: ρ) = .ok d (a :: b :: c :: e :: f :: g :: h :: .va d :: ρ) := rfl
@[simp] theorem eVar_8 (a b c e f g h i : Sl) (d : D) (ρ : Env') : eVar 8 (a :: b :: c :: e :: f :: g :: h :: i :: .va d :: ρ) = .ok d (a :: b :: c :: e :: f :: g :: h :: i :: .va d :: ρ) := rfl
@[simp] theorem eVar_9 (a b c e f g h i j : Sl) (d : D) (ρ : Env') : eVar 9 (a :: b :: c :: e :: f :: g :: h :: i :: j :: .va d :: ρ) = .ok d (a :: b :: c :: e :: f :: g :: h :: i :: j :: .va d :: ρ) := rfl
@[simp] theorem eVar_10 (a0 a1 a2 a3 a4 a5 a6 a7 a8 a9 : Sl) (d : D) (ρ : Env') : eVar 10 (a0 :: a1 :: a2 :: a3 :: a4 :: a5 :: a6 :: a7 :: a8 :: a9 :: .va d :: ρ) = .ok d (a0 :: a1 :: a2 :: a3 :: a4 :: a5 :: a6 :: a7 :: a8 :: a9 :: .va d :: ρ) := rfl
@[simp] theorem eVar_11 (a0 a1 a2 a3 a4 a5 a6 a7 a8 a9 a10 : Sl) (d : D) (ρ : Env') : eVar 11 (a0 :: a1 :: a2 :: a3 :: a4 :: a5 :: a6 :: a7 :: a8 :: a9 :: a10 :: .va d :: ρ) = .ok d (a0 :: a1 :: a2 :: a3 :: a4 :: a5 :: a6 :: a7 :: a8 :: a9 :: a10 :: .va d :: ρ) := rfl
@[simp] theorem eVar_12 (a0 a1 a2 a3 a4 a5 a6 a7 a8 a9 a10 a11 : Sl) (d : D) (ρ : Env') : eVar 12 (a0 :: a1 :: a2 :: a3 :: a4 :: a5 :: a6 :: a7 :: a8 :: a9 :: a10 :: a11 :: .va d :: ρ) = .ok d (a0 :: a1 :: a2 :: a3 :: a4 :: a5 :: a6 :: a7 :: a8 :: a9 :: a10 :: a11 :: .va d :: ρ) := rfl
@[simp] theorem eVar_13 (a0 a1 a2 a3 a4 a5 a6 a7 a8 a9 a10 a11 a12 : Sl) (d : D) (ρ : Env') : eVar 13 (a0 :: a1 :: a2 :: a3 :: a4 :: a5 :: a6 :: a7 :: a8 :: a9 :: a10 :: a11 :: a12 :: .va d :: ρ) = .ok d (a0 :: a1 :: a2 :: a3 :: a4 :: a5 :: a6 :: a7 :: a8 :: a9 :: a10 :: a11 :: a12 :: .va d :: ρ) := rfl
@[simp] theorem eVar_14 (a0 a1 a2 a3 a4 a5 a6 a7 a8 a9 a10 a11 a12 a13 : Sl) (d : D) (ρ : Env') : eVar 14 (a0 :: a1 :: a2 :: a3 :: a4 :: a5 :: a6 :: a7 :: a8 :: a9 :: a10 :: a11 :: a12 :: a13 :: .va d :: ρ) = .ok d (a0 :: a1 :: a2 :: a3 :: a4 :: a5 :: a6 :: a7 :: a8 :: a9 :: a10 :: a11 :: a12 :: a13 :: .va d :: ρ) := rfl
@[simp] theorem eVar_15 (a0 a1 a2 a3 a4 a5 a6 a7 a8 a9 a10 a11 a12 a13 a14 : Sl) (d : D) (ρ : Env') : eVar 15 (a0 :: a1 :: a2 :: a3 :: a4 :: a5 :: a6 :: a7 :: a8 :: a9 :: a10 :: a11 :: a12 :: a13 :: a14 :: .va d :: ρ) = .ok d (a0 :: a1 :: a2 :: a3 :: a4 :: a5 :: a6 :: a7 :: a8 :: a9 :: a10 :: a11 :: a12 :: a13 :: a14 :: .va d :: ρ) := rfl
@[simp] theorem eVar_16 (a0 a1 a2 a3 a4 a5 a6 a7 a8 a9 a10 a11 a12 a13 a14 a15 : Sl) (d : D) (ρ : Env') : eVar 16 (a0 :: a1 :: a2 :: a3 :: a4 :: a5 :: a6 :: a7 :: a8 :: a9 :: a10 :: a11 :: a12 :: a13 :: a14 :: a15 :: .va d :: ρ) = .ok d (a0 :: a1 :: a2 :: a3 :: a4 :: a5 :: a6 :: a7 :: a8 :: a9 :: a10 :: a11 :: a12 :: a13 :: a14 :: a15 :: .va d :: ρ) := rfl
@[simp] theorem eVar_17 (a0 a1 a2 a3 a4 a5 a6 a7 a8 a9 a10 a11 a12 a13 a14 a15 a16 : Sl) (d : D) (ρ : Env') : eVar 17 (a0 :: a1 :: a2 :: a3 :: a4 :: a5 :: a6 :: a7 :: a8 :: a9 :: a10 :: a11 :: a12 :: a13 :: a14 :: a15 :: a16 :: .va d :: ρ) = .ok d (a0 :: a1 :: a2 :: a3 :: a4 :: a5 :: a6 :: a7 :: a8 :: a9 :: a10 :: a11 :: a12 :: a13 :: a14 :: a15 :: a16 :: .va d :: ρ) := rfl
@[simp] theorem eVar_18 (a0 a1 a2 a3 a4 a5 a6 a7 a8 a9 a10 a11 a12 a13 a14 a15 a16 a17 : Sl) (d : D) (ρ : Env') : eVar 18 (a0 :: a1 :: a2 :: a3 :: a4 :: a5 :: a6 :: a7 :: a8 :: a9 :: a10 :: a11 :: a12 :: a13 :: a14 :: a15 :: a16 :: a17 :: .va d :: ρ) = .ok d (a0 :: a1 :: a2 :: a3 :: a4 :: a5 :: a6 :: a7 :: a8 :: a9 :: a10 :: a11 :: a12 :: a13 :: a14 :: a15 :: a16 :: a17 :: .va d :: ρ) := rfl
@[simp] theorem eVar_19 (a0 a1 a2 a3 a4 a5 a6 a7 a8 a9 a10 a11 a12 a13 a14 a15 a16 a17 a18 : Sl) (d : D) (ρ : Env') : eVar 19 (a0 :: a1 :: a2 :: a3 :: a4 :: a5 :: a6 :: a7 :: a8 :: a9 :: a10 :: a11 :: a12 :: a13 :: a14 :: a15 :: a16 :: a17 :: a18 :: .va d :: ρ) = .ok d (a0 :: a1 :: a2 :: a3 :: a4 :: a5 :: a6 :: a7 :: a8 :: a9 :: a10 :: a11 :: a12 :: a13 :: a14 :: a15 :: a16 :: a17 :: a18 :: .va d :: ρ) := rfl
@[simp] theorem eVar_20 (a0 a1 a2 a3 a4 a5 a6 a7 a8 a9 a10 a11 a12 a13 a14 a15 a16 a17 a18 a19 : Sl) (d : D) (ρ : Env') : eVar 20 (a0 :: a1 :: a2 :: a3 :: a4 :: a5 :: a6 :: a7 :: a8 :: a9 :: a10 :: a11 :: a12 :: a13 :: a14 :: a15 :: a16 :: a17 :: a18 :: a19 :: .va d :: ρ) = .ok d (a0 :: a1 :: a2 :: a3 :: a4 :: a5 :: a6 :: a7 :: a8 :: a9 :: a10 :: a11 :: a12 :: a13 :: a14 :: a15 :: a16 :: a17 :: a18 :: a19 :: .va d :: ρ) := rfl
@[simp] theorem eVar_21 (a0 a1 a2 a3 a4 a5 a6 a7 a8 a9 a10 a11 a12 a13 a14 a15 a16 a17 a18 a19 a20 : Sl) (d : D) (ρ : Env') : eVar 21 (a0 :: a1 :: a2 :: a3 :: a4 :: a5 :: a6 :: a7 :: a8 :: a9 :: a10 :: a11 :: a12 :: a13 :: a14 :: a15 :: a16 :: a17 :: a18 :: a19 :: a20 :: .va d :: ρ) = .ok d (a0 :: a1 :: a2 :: a3 :: a4 :: a5 :: a6 :: a7 :: a8 :: a9 :: a10 :: a11 :: a12 :: a13 :: a14 :: a15 :: a16 :: a17 :: a18 :: a19 :: a20 :: .va d :: ρ) := rfl
@[simp] theorem eVar_22 (a0 a1 a2 a3 a4 a5 a6 a7 a8 a9 a10 a11 a12 a13 a14 a15 a16 a17 a18 a19 a20 a21 : Sl) (d : D) (ρ : Env') : eVar 22 (a0 :: a1 :: a2 :: a3 :: a4 :: a5 :: a6 :: a7 :: a8 :: a9 :: a10 :: a11 :: a12 :: a13 :: a14 :: a15 :: a16 :: a17 :: a18 :: a19 :: a20 :: a21 :: .va d :: ρ) = .ok d (a0 :: a1 :: a2 :: a3 :: a4 :: a5 :: a6 :: a7 :: a8 :: a9 :: a10 :: a11 :: a12 :: a13 :: a14 :: a15 :: a16 :: a17 :: a18 :: a19 :: a20 :: a21 :: .va d :: ρ) := rfl
@[simp] theorem eVar_23 (a0 a1 a2 a3 a4 a5 a6 a7 a8 a9 a10 a11 a12 a13 a14 a15 a16 a17 a18 a19 a20 a21 a22 : Sl) (d : D) (ρ : Env') : eVar 23 (a0 :: a1 :: a2 :: a3 :: a4 :: a5 :: a6 :: a7 :: a8 :: a9 :: a10 :: a11 :: a12 :: a13 :: a14 :: a15 :: a16 :: a17 :: a18 :: a19 :: a20 :: a21 :: a22 :: .va d :: ρ) = .ok d (a0 :: a1 :: a2 :: a3 :: a4 :: a5 :: a6 :: a7 :: a8 :: a9 :: a10 :: a11 :: a12 :: a13 :: a14 :: a15 :: a16 :: a17 :: a18 :: a19 :: a20 :: a21 :: a22 :: .va d :: ρ) := rfl
theorem go_ev (f : EM D) : (Opd.ev f).go = f := rfl
theorem rd_ev (f : EM D) (ρ : Env') (d : D) : (Opd.ev f).rd ρ d = some d := rfl
@[simp] theorem e2_ev (k : D → D → Option D) (f g : EM D) (ρ : Env') : e2 k (.ev f) (.ev g) ρ = (f ρ).bind fun x ρ1 => (g ρ1).bind fun y ρ2 => Out.lift ρ2 (k x y) := by
  unfold e2 op2
  simp only [go_ev, rd_ev, lift_some, bind_ok]
@[simp] theorem e1_ev (k : D → Option D) (f : EM D) (ρ : Env') : e1 k (.ev f) ρ = (f ρ).bind fun x ρ1 => Out.lift ρ1 (k x) := by
  unfold e1 op1
  simp only [go_ev, rd_ev, lift_some, bind_ok]
theorem bind_bind {α β γ : Type} (o : Out α) (f : α → Env' → Out β) (g : β → Env' → Out γ) : (o.bind f).bind g = o.bind fun a ρ => (f a ρ).bind g := by
  cases o <;> rfl
@[simp] theorem eB_1 (k : D → Option D) (f : EM D) (ρ : Env') : eB (on1 k) [.ev f] ρ = (f ρ).bind fun x ρ1 => Out.lift ρ1 (k x) := by
  show ((f ρ).bind fun d ρ1 => (Out.ok [] ρ1).bind fun ds ρ2 => Out.ok (d :: ds) ρ2).bind _ = _
  rw [bind_bind]
  rfl
@[simp] theorem eB_2 (k : D → D → Option D) (f g : EM D) (ρ : Env') : eB (on2 k) [.ev f, .ev g] ρ = (f ρ).bind fun x ρ1 => (g ρ1).bind fun y ρ2 => Out.lift ρ2 (k x y) := by
  show ((f ρ).bind fun d ρ1 => ((g ρ1).bind fun d ρ1 => (Out.ok [] ρ1).bind fun ds ρ2 => Out.ok (d :: ds) ρ2).bind fun ds ρ2 => Out.ok (d :: ds) ρ2).bind _ = _
  simp only [bind_bind]
  rfl
@[simp] theorem eTup_1 (f : EM D) (ρ : Env') : eTup [f] ρ = (f ρ).bind fun x ρ1 => .ok (.tup [x]) ρ1 := by
  show ((f ρ).bind fun d ρ1 => (Out.ok [] ρ1).bind fun ds ρ2 => Out.ok (d :: ds) ρ2).bind _ = _
  rw [bind_bind]
  rfl
@[simp] theorem eTup_2 (f g : EM D) (ρ : Env') : eTup [f, g] ρ = (f ρ).bind fun x ρ1 => (g ρ1).bind fun y ρ2 => .ok (.tup [x, y]) ρ2 := by
  show ((f ρ).bind fun d ρ1 => ((g ρ1).bind fun d ρ1 => (Out.ok [] ρ1).bind fun ds ρ2 => Out.ok (d :: ds) ρ2).bind fun ds ρ2 => Out.ok (d :: ds) ρ2).bind _ = _
  simp only [bind_bind]
  rfl
@[simp] theorem eT_ok (f : EM D) (ρ : Env') : eT f ρ = (f ρ).bind fun d ρ1 => Out.lift ρ1 (asB d) := rfl
@[simp] theorem asB_bl (b : Bool) : asB (.bl b) = some b := rfl
@[simp] theorem eAnd_def (f g : EM D) (ρ : Env') : eAnd f g ρ = (f ρ).bind fun x ρ1 => match x with
  | .bl true => g ρ1
  | .bl false => .ok (.bl false) ρ1
  | _ => .stuck := rfl
@[simp] theorem eNot_def (f : EM D) (ρ : Env') : eNot f ρ = (f ρ).bind fun x ρ1 => match x with
  | .bl b => .ok (.bl (!b)) ρ1
  | _ => .stuck := rfl
@[simp] theorem tAnd_def (f g : EM Bool) (ρ : Env') : tAndB f g ρ = (f ρ).bind fun c ρ1 => if c = true then g ρ1 else .ok false ρ1 := rfl
@[simp] theorem tOr_def (f g : EM Bool) (ρ : Env') : tOrB f g ρ = (f ρ).bind fun c ρ1 => if c = true then .ok true ρ1 else g ρ1 := rfl
@[simp] theorem tNot_def (f : EM Bool) (ρ : Env') : tNotB f ρ = (f ρ).bind fun c ρ1 => .ok (!c) ρ1 := rfl
@[simp] theorem eIf_def (c : EM Bool) (f g : EM D) (ρ : Env') : eIf c f g ρ = (c ρ).bind fun b ρ1 => if b = true then f ρ1 else g ρ1 := rfl
@[simp] theorem sRet_def (f : EM D) (ρ : Env') : sRet f ρ = (f ρ).fl fun d ρ1 => .rt d ρ1 := rfl
@[simp] theorem sIf_def (c : EM Bool) (f g : SM) (ρ : Env') : sIf c f g ρ = (c ρ).fl fun b ρ1 => if b = true then f ρ1 else g ρ1 := rfl
@[simp] theorem sSet_def (i : Nat) (f : EM D) (ρ : Env') : sSet i f ρ = (f ρ).fl fun d ρ1 => putSl ρ1 i (.va d) := rfl
@[simp] theorem sNx_def (ρ : Env') : sNx ρ = .nx ρ := rfl
theorem seq_nx {f g : SM} {ρ ρ1 : Env'} (h : f ρ = .nx ρ1) : sSeq f g ρ = g ρ1 := by
  unfold sSeq
  rw [h]
theorem seq_rt {f g : SM} {ρ ρ1 : Env'} {d : D} (h : f ρ = .rt d ρ1) : sSeq f g ρ = .rt d ρ1 := by
  unfold sSeq
  rw [h]
/-- a call's answer -/
def outR (n : Nat) (o : Out D) (ρ : Env') : Out D := match o with
  | .ok d ps => if n ≤ ps.length then .ok d ρ else .stuck
  | .err c d ps => if n ≤ ps.length then .err c d ρ else .stuck
  | .stuck => .stuck
theorem outR1 {o : Out D} {d : D} {a : Sl} (ρ : Env') (h : o = .ok d [a]) : outR 1 o ρ = .ok d ρ := by
  rw [h]
  rfl
theorem outR2 {o : Out D} {d : D} {a b : Sl} (ρ : Env') (h : o = .ok d [a, b]) : outR 2 o ρ = .ok d ρ := by
  rw [h]
  rfl
theorem outR3 {o : Out D} {d : D} {a b c : Sl} (ρ : Env') (h : o = .ok d [a, b, c]) : outR 3 o ρ = .ok d ρ := by
  rw [h]
  rfl
theorem outR4 {o : Out D} {d : D} {a b c e : Sl} (ρ : Env') (h : o = .ok d [a, b, c, e]) : outR 4 o ρ = .ok d ρ := by
  rw [h]
  rfl
theorem outR5 {o : Out D} {d : D} {a b c e f : Sl} (ρ : Env') (h : o = .ok d [a, b, c, e, f]) : outR 5 o ρ = .ok d ρ := by
  rw [h]
  rfl
theorem back_ev : ∀ (fs : List (EM D)) (ps : List Sl) (ρ : Env'), back (fs.map Opd.ev) ps ρ = if fs.length ≤ ps.length then some ρ else none
  | [], ps, ρ => by simp [back]
  | f :: fs, [], ρ => by simp [back]
  | f :: fs, s :: ps, ρ => by
    show back (fs.map Opd.ev) ps ρ = _
    rw [back_ev fs ps ρ]
    simp
theorem argSl_ev (ρ : Env') : ∀ (fs : List (EM D)) (ds : List D), fs.length = ds.length → argSl ρ (fs.map Opd.ev) ds = some (ds.map Sl.va)
  | [], [], _ => rfl
  | f :: fs, [], h => by simp at h
  | [], _ :: _, h => by simp at h
  | f :: fs, d :: ds, h => by
    show (match argSl ρ (fs.map Opd.ev) ds with
      | none => none
      | some xs => some (Sl.va d :: xs)) = _
    rw [argSl_ev ρ fs ds (by simpa using h)]
    rfl
theorem ios_ev : ∀ fs : List (EM D), iosOf (fs.map Opd.ev) = []
  | [] => rfl
  | _ :: fs => ios_ev fs
theorem brs_ev : ∀ fs : List (EM D), brsOf (fs.map Opd.ev) = []
  | [] => rfl
  | _ :: fs => brs_ev fs
theorem callK_ev (sem : Sem') (fs : List (EM D)) (ds : List D) (ρ : Env') (hl : fs.length = ds.length) : eCallK sem (fs.map Opd.ev) ds ρ = outR fs.length (sem (ds.map Sl.va)) ρ := by
  unfold eCallK
  rw [argSl_ev ρ fs ds hl]
  have h1 : okArgs (fs.map Opd.ev) = true := by
    unfold okArgs
    rw [ios_ev, brs_ev]
    rfl
  have h2 : ∀ d ps, safe (fs.map Opd.ev) d ps = true := fun d ps => by
    unfold safe
    rw [brs_ev]
    rfl
  simp only [h1, if_true]
  cases sem (ds.map Sl.va) with
  | ok d ps =>
    simp only [h2, if_true, back_ev, outR]
    split <;> rename_i h <;> split at h <;> simp_all
  | err c d ps =>
    simp only [h2, if_true, back_ev, outR]
    split <;> rename_i h <;> split at h <;> simp_all
  | stuck => rfl
@[simp] theorem call_1 (sem : Sem') (f : EM D) (ρ : Env') : eCall sem [.ev f] ρ = (f ρ).bind fun a ρ1 => outR 1 (sem [.va a]) ρ1 := by
  show ((f ρ).bind fun d ρ1 => (Out.ok [] ρ1).bind fun ds ρ2 => Out.ok (d :: ds) ρ2).bind _ = _
  simp only [bind_bind, bind_ok]
  congr 1
  funext a ρ1
  exact callK_ev sem [f] [a] ρ1 rfl
@[simp] theorem call_2 (sem : Sem') (f g : EM D) (ρ : Env') : eCall sem [.ev f, .ev g] ρ = (f ρ).bind fun a ρ1 => (g ρ1).bind fun b ρ2 => outR 2 (sem [.va a, .va b]) ρ2 := by
  show ((f ρ).bind fun d ρ1 => ((g ρ1).bind fun d ρ1 => (Out.ok [] ρ1).bind fun ds ρ2 => Out.ok (d :: ds) ρ2).bind fun ds ρ2 => Out.ok (d :: ds) ρ2).bind _ = _
  simp only [bind_bind, bind_ok]
  congr 1
  funext a ρ1
  congr 1
  funext b ρ2
  exact callK_ev sem [f, g] [a, b] ρ2 rfl
@[simp] theorem call_3 (sem : Sem') (f g h : EM D) (ρ : Env') : eCall sem [.ev f, .ev g, .ev h] ρ = (f ρ).bind fun a ρ1 => (g ρ1).bind fun b ρ2 => (h ρ2).bind fun c ρ3 => outR 3 (sem [.va a, .va b, .va c]) ρ3 := by
  show ((f ρ).bind fun d ρ1 => ((g ρ1).bind fun d ρ1 => ((h ρ1).bind fun d ρ1 => (Out.ok [] ρ1).bind fun ds ρ2 => Out.ok (d :: ds) ρ2).bind fun ds ρ2 => Out.ok (d :: ds) ρ2).bind fun ds ρ2 => Out.ok (d :: ds) ρ2).bind _ = _
  simp only [bind_bind, bind_ok]
  congr 1
  funext a ρ1
  congr 1
  funext b ρ2
  congr 1
  funext c ρ3
  exact callK_ev sem [f, g, h] [a, b, c] ρ3 rfl
@[simp] theorem call_4 (sem : Sem') (f g h k : EM D) (ρ : Env') : eCall sem [.ev f, .ev g, .ev h, .ev k] ρ = (f ρ).bind fun a ρ1 => (g ρ1).bind fun b ρ2 => (h ρ2).bind fun c ρ3 => (k ρ3).bind fun d ρ4 => outR 4 (sem [.va a, .va b, .va c, .va d]) ρ4 := by
  show ((f ρ).bind fun d ρ1 => ((g ρ1).bind fun d ρ1 => ((h ρ1).bind fun d ρ1 => ((k ρ1).bind fun d ρ1 => (Out.ok [] ρ1).bind fun ds ρ2 => Out.ok (d :: ds) ρ2).bind fun ds ρ2 => Out.ok (d :: ds) ρ2).bind fun ds ρ2 => Out.ok (d :: ds) ρ2).bind fun ds ρ2 => Out.ok (d :: ds) ρ2).bind _ = _
  simp only [bind_bind, bind_ok]
  congr 1
  funext a ρ1
  congr 1
  funext b ρ2
  congr 1
  funext c ρ3
  congr 1
  funext d ρ4
  exact callK_ev sem [f, g, h, k] [a, b, c, d] ρ4 rfl
@[simp] theorem call_5 (sem : Sem') (f g h k l : EM D) (ρ : Env') : eCall sem [.ev f, .ev g, .ev h, .ev k, .ev l] ρ = (f ρ).bind fun a ρ1 => (g ρ1).bind fun b ρ2 => (h ρ2).bind fun c ρ3 => (k ρ3).bind fun d ρ4 => (l ρ4).bind fun e ρ5 => outR 5 (sem [.va a, .va b, .va c, .va d, .va e]) ρ5 := by
  show ((f ρ).bind fun d ρ1 => ((g ρ1).bind fun d ρ1 => ((h ρ1).bind fun d ρ1 => ((k ρ1).bind fun d ρ1 => ((l ρ1).bind fun d ρ1 => (Out.ok [] ρ1).bind fun ds ρ2 => Out.ok (d :: ds) ρ2).bind fun ds ρ2 => Out.ok (d :: ds) ρ2).bind fun ds ρ2 => Out.ok (d :: ds) ρ2).bind fun ds ρ2 => Out.ok (d :: ds) ρ2).bind fun ds ρ2 => Out.ok (d :: ds) ρ2).bind _ = _
  simp only [bind_bind, bind_ok]
  congr 1
  funext a ρ1
  congr 1
  funext b ρ2
  congr 1
  funext c ρ3
  congr 1
  funext d ρ4
  congr 1
  funext e ρ5
  exact callK_ev sem [f, g, h, k, l] [a, b, c, d, e] ρ5 rfl
theorem run_rt {n N : Nat} {b : SM} {ps : List Sl} {d : D} {ρ : Env'} (h : b (ps ++ List.replicate (N - n) Sl.no) = .rt d ρ) : runDef n N b ps = .ok d (outIo n ρ) := by
  unfold runDef
  rw [h]
/-! ### comprehensions, loops -/
def stepC (ws : List Nat) (g : Tgt) (c : EM Bool) (f : EM D) (x : D) (ρ : Env') : Out (Option D) := match g x (wipeR ρ ws) with
  | none => .stuck
  | some ρ1 => match c ρ1 with
    | .ok true ρ2 => match f ρ2 with
      | .ok y ρ3 => .ok (some y) (restore ρ ρ3 ws)
      | _ => .stuck
    | .ok false ρ2 => .ok none (restore ρ ρ2 ws)
    | _ => .stuck
theorem compL_cons (ws : List Nat) (g : Tgt) (c : EM Bool) (f : EM D) (x : D) (xs : List D) (ρ : Env') : compL ws g c f (x :: xs) ρ = (stepC ws g c f x ρ).bind fun o ρ1 => (compL ws g c f xs ρ1).bind fun ys ρ2 => .ok (o.toList ++ ys) ρ2 := by
  unfold stepC
  show (match g x (wipeR ρ ws) with
    | none => Out.stuck
    | some ρ1 => match c ρ1 with
      | .ok true ρ2 => match f ρ2 with
        | .ok y ρ3 => (compL ws g c f xs (restore ρ ρ3 ws)).bind fun ys ρ4 => .ok (y :: ys) ρ4
        | _ => Out.stuck
      | .ok false ρ2 => compL ws g c f xs (restore ρ ρ2 ws)
      | _ => Out.stuck) = _
  cases g x (wipeR ρ ws) with
  | none => rfl
  | some ρ1 =>
    simp only
    cases c ρ1 with
    | ok b ρ2 =>
      cases b with
      | true =>
        simp only
        cases f ρ2 with
        | ok y ρ3 => rfl
        | err _ _ _ => rfl
        | stuck => rfl
      | false =>
        simp only [bind_ok]
        cases compL ws g c f xs (restore ρ ρ2 ws) <;> rfl
    | err _ _ _ => rfl
    | stuck => rfl
theorem compL_pure {ws : List Nat} {g : Tgt} {c : EM Bool} {f : EM D} {ρ : Env'} {F : D → Option D} : ∀ {items : List D}, (∀ x ∈ items, stepC ws g c f x ρ = .ok (F x) ρ) → compL ws g c f items ρ = .ok (items.filterMap F) ρ
  | [], _ => rfl
  | x :: xs, h => by
    rw [compL_cons, h x List.mem_cons_self, bind_ok, compL_pure fun y hy => h y (List.mem_cons_of_mem _ hy), bind_ok]
    cases e : F x <;> simp [List.filterMap_cons, e]
theorem comp_pure {it : EM (List D)} {ws : List Nat} {g : Tgt} {c : EM Bool} {f : EM D} {ρ : Env'} {items : List D} (F : D → Option D) (hi : it ρ = .ok items ρ) (hw : (ws.all fun w => notOw ρ[w]?) = true) (hl : items.length < 1000000) (h : ∀ x ∈ items, stepC ws g c f x ρ = .ok (F x) ρ) : eComp it ws g c f ρ = .ok (items.filterMap F) ρ := by
  unfold eComp
  rw [hi, bind_ok, if_pos ⟨hw, hl⟩]
  exact compL_pure h
/-- with a source, or whatever else goes on -/
theorem comp_inv {it : EM (List D)} {ws : List Nat} {g : Tgt} {c : EM Bool} {f : EM D} {ρ0 ρ : Env'} {items : List D} (I : Env' → Prop) (R : D → Option D → Prop) (hi : it ρ0 = .ok items ρ) (hw : ∀ ρ, I ρ → (ws.all fun w => notOw ρ[w]?) = true) (hl : items.length < 1000000) (h0 : I ρ)
    (h : ∀ x ∈ items, ∀ ρ, I ρ → ∃ o ρ', stepC ws g c f x ρ = .ok o ρ' ∧ I ρ' ∧ R x o) : ∃ os ρ', eComp it ws g c f ρ0 = .ok (os.filterMap id) ρ' ∧ I ρ' ∧ os.length = items.length ∧ ∀ p ∈ items.zip os, R p.1 p.2 := by
  have key : ∀ (items : List D) (ρ : Env'), I ρ → (∀ x ∈ items, ∀ ρ, I ρ → ∃ o ρ', stepC ws g c f x ρ = .ok o ρ' ∧ I ρ' ∧ R x o) → ∃ os ρ', compL ws g c f items ρ = .ok (os.filterMap id) ρ' ∧ I ρ' ∧ os.length = items.length ∧ ∀ p ∈ items.zip os, R p.1 p.2 := by
    intro items
    induction items with
    | nil => exact fun ρ i _ => ⟨[], ρ, rfl, i, rfl, fun p hp => by simp at hp⟩
    | cons x xs ih =>
      intro ρ i h
      obtain ⟨o, ρ1, e1, i1, r1⟩ := h x List.mem_cons_self ρ i
      obtain ⟨os, ρ2, e2, i2, l2, r2⟩ := ih ρ1 i1 fun y hy => h y (List.mem_cons_of_mem _ hy)
      refine ⟨o :: os, ρ2, ?_, i2, by simp [l2], fun p hp => ?_⟩
      · rw [compL_cons, e1, bind_ok, e2, bind_ok]
        cases o <;> simp [List.filterMap_cons]
      · rcases List.mem_cons.mp (by simpa using hp) with q | q
        · rw [q]
          exact r1
        · exact r2 p q
  obtain ⟨os, ρ', e, i, l, r⟩ := key items ρ h0 h
  refine ⟨os, ρ', ?_, i, l, r⟩
  unfold eComp
  rw [hi, bind_ok, if_pos ⟨hw ρ h0, hl⟩]
  exact e
@[simp] theorem sFor_def (it : EM (List D)) (g : Tgt) (b : SM) (ρ : Env') : sFor it g b ρ = (it ρ).fl fun items ρ1 => forL g b items ρ1 := rfl
/-- a loop that goes to its end -/
theorem forL_all {g : Tgt} {b : SM} (I : Nat → Env' → Prop) : ∀ (items : List D) (k : Nat) (ρ : Env'), I k ρ → (∀ i x ρ, items[i]? = some x → I (k + i) ρ → ∃ ρ1 ρ2, g x ρ = some ρ1 ∧ (b ρ1 = .nx ρ2 ∨ b ρ1 = .ct ρ2) ∧ I (k + i + 1) ρ2) → ∃ ρ', forL g b items ρ = .nx ρ' ∧ I (k + items.length) ρ'
  | [], k, ρ, i, _ => ⟨ρ, rfl, i⟩
  | x :: xs, k, ρ, i, h => by
    obtain ⟨ρ1, ρ2, e1, e2, i2⟩ := h 0 x ρ rfl i
    obtain ⟨ρ', e3, i3⟩ := forL_all I xs (k + 1) ρ2 i2 fun j y ρ hy iy => by
      have := h (j + 1) y ρ (by simpa using hy) (by rw [show k + (j + 1) = k + 1 + j by omega]; exact iy)
      rw [show k + (j + 1) + 1 = k + 1 + j + 1 by omega] at this
      exact this
    refine ⟨ρ', ?_, by rw [List.length_cons, show k + (xs.length + 1) = k + 1 + xs.length by omega]; exact i3⟩
    show (match g x ρ with
      | none => Fl.stuck
      | some ρ1 => match b ρ1 with
        | .nx ρ2 => forL g b xs ρ2
        | .ct ρ2 => forL g b xs ρ2
        | .bk ρ2 => .nx ρ2
        | r => r) = _
    rw [e1]
    rcases e2 with e2 | e2 <;> simp only [e2] <;> exact e3
theorem kt_ii : kitB "int" "int" = some true := rfl
theorem kt_bi : kitB "bool" "int" = some true := rfl
theorem kt_si : kitB "str" "int" = some false := rfl
theorem kt_ni : kitB "NoneType" "int" = some false := rfl
theorem kt_li : kitB "list" "int" = some false := rfl
theorem kt_ti : kitB "tuple" "int" = some false := rfl
theorem kt_di : kitB "dict" "int" = some false := rfl
theorem kt_ib : kitB "int" "bool" = some false := rfl
theorem kt_bb : kitB "bool" "bool" = some true := rfl
theorem kt_sb : kitB "str" "bool" = some false := rfl
theorem kt_nb : kitB "NoneType" "bool" = some false := rfl
theorem kt_lb : kitB "list" "bool" = some false := rfl
theorem kt_tb : kitB "tuple" "bool" = some false := rfl
theorem kt_db : kitB "dict" "bool" = some false := rfl
theorem kt_il : kitB "int" "list" = some false := rfl
theorem kt_bl : kitB "bool" "list" = some false := rfl
theorem kt_sl : kitB "str" "list" = some false := rfl
theorem kt_nl : kitB "NoneType" "list" = some false := rfl
theorem kt_ll : kitB "list" "list" = some true := rfl
theorem kt_tl : kitB "tuple" "list" = some false := rfl
theorem kt_dl : kitB "dict" "list" = some false := rfl
theorem kt_it : kitB "int" "tuple" = some false := rfl
theorem kt_bt : kitB "bool" "tuple" = some false := rfl
theorem kt_st : kitB "str" "tuple" = some false := rfl
theorem kt_nt : kitB "NoneType" "tuple" = some false := rfl
theorem kt_lt : kitB "list" "tuple" = some false := rfl
theorem kt_tt : kitB "tuple" "tuple" = some true := rfl
theorem kt_dt : kitB "dict" "tuple" = some false := rfl
/-- a thing of data -/
def dat : D → Bool
  | .non => true
  | .bl _ => true
  | .int _ => true
  | .str _ => true
  | .lst _ => true
  | .tup _ => true
  | .dK _ _ => true
  | .dT _ _ => true
  | _ => false
def isI : D → Bool
  | .int _ => true
  | _ => false
def isT : D → Bool
  | .tup _ => true
  | _ => false
def isSq : D → Bool
  | .tup _ => true
  | .lst _ => true
  | _ => false
def isIB : D → Bool
  | .int _ => true
  | .bl _ => true
  | _ => false
def isBo : D → Bool
  | .bl _ => true
  | _ => false
theorem isi_int {d : D} (h : dat d = true) : dIsi "int" d = some (.bl (isIB d)) := by
  unfold dIsi
  cases d <;> first | (simp [dat] at h; done) | simp [tyName, isIB, kt_ii, kt_bi, kt_si, kt_ni, kt_li, kt_ti, kt_di]
theorem isi_bool {d : D} (h : dat d = true) : dIsi "bool" d = some (.bl (isBo d)) := by
  unfold dIsi
  cases d <;> first | (simp [dat] at h; done) | simp [tyName, isBo, kt_ib, kt_bb, kt_sb, kt_nb, kt_lb, kt_tb, kt_db]
theorem isi_tuple {d : D} (h : dat d = true) : dIsi "tuple" d = some (.bl (isT d)) := by
  unfold dIsi
  cases d <;> first | (simp [dat] at h; done) | simp [tyName, isT, kt_it, kt_bt, kt_st, kt_nt, kt_lt, kt_tt, kt_dt]
theorem isi_seq {d : D} (h : dat d = true) : dIsis ["list", "tuple"] d = some (.bl (isSq d)) := by
  unfold dIsis
  cases d <;> first | (simp [dat] at h; done) | simp [tyName, isSq, kitBs, kt_it, kt_bt, kt_st, kt_nt, kt_lt, kt_tt, kt_dt, kt_il, kt_bl, kt_sl, kt_nl, kt_ll, kt_tl, kt_dl]
/-! ### the small defs -/
theorem v_is_integer {d : D} (h : dat d = true) : s_is_integer [.va d] = .ok (.bl (isI d)) [.no] := by
  refine run_rt (ρ := [.va d]) ?_
  show b_is_integer [.va d] = _
  simp only [b_is_integer, sRet_def, eAnd_def, e1_ev, eNot_def, eVar_0, bind_ok, isi_int h, lift_some]
  cases d <;> simp [isIB, isI, isBo, isi_bool h]
def isN : D → Bool
  | .int i => decide (0 ≤ i)
  | _ => false
theorem v_is_number {d : D} (h : dat d = true) : s_is_number [.va d] = .ok (.bl (isN d)) [.no] := by
  refine run_rt (ρ := [.va d]) ?_
  show b_is_number [.va d] = _
  simp only [b_is_number, sRet_def, eAnd_def, call_1, eVar_0, bind_ok, outR1 _ (v_is_integer h)]
  cases d <;> simp [isI, isN, dCmp]
def isX (d : D) (n : Int) : Bool := match d with
  | .int i => decide (0 ≤ i) && decide (i < n)
  | _ => false
theorem v_is_index {d : D} (n : Int) (h : dat d = true) : s_is_index [.va d, .va (.int n)] = .ok (.bl (isX d n)) [.no, .no] := by
  refine run_rt (ρ := [.va d, .va (.int n)]) ?_
  show b_is_index [.va d, .va (.int n)] = _
  simp only [b_is_index, sRet_def, eAnd_def, call_1, eVar_0, bind_ok, outR1 _ (v_is_number h)]
  cases d with
  | int i =>
    by_cases hi : 0 ≤ i
    · simp [isN, isX, hi, dCmp]
    · simp [isN, isX, hi]
  | _ => simp [isN, isX]
theorem v_is_sequence {d : D} (h : dat d = true) : s_is_sequence [.va d] = .ok (.bl (isSq d)) [.no] := by
  refine run_rt (ρ := [.va d]) ?_
  show b_is_sequence [.va d] = _
  simp only [b_is_sequence, sRet_def, e1_ev, eVar_0, bind_ok, isi_seq h, lift_some, fl_ok]
end Ma
end

section
set_option maxRecDepth 100000
set_option linter.all false
namespace Ma
open PySem PySem.Spec PyProof.Rows L2 DL Wk
mutual
/-- data through and through -/
def allD : D → Bool
  | .non => true
  | .bl _ => true
  | .int _ => true
  | .str _ => true
  | .lst xs => allDs xs
  | .tup xs => allDs xs
  | .dK _ xs => allDs xs
  | _ => false
def allDs : List D → Bool
  | [] => true
  | x :: xs => allD x && allDs xs
end
theorem allDs_mem : ∀ {xs : List D} {x : D}, allDs xs = true → x ∈ xs → allD x = true
  | [], _, _, h => by simp at h
  | y :: ys, x, h, m => by
    have h' : (allD y && allDs ys) = true := h
    rw [Bool.and_eq_true] at h'
    rcases List.mem_cons.mp m with q | q
    · rw [q]
      exact h'.1
    · exact allDs_mem h'.2 q
theorem allDs_of : ∀ {xs : List D}, (∀ x ∈ xs, allD x = true) → allDs xs = true
  | [], _ => rfl
  | y :: ys, h => by
    show (allD y && allDs ys) = true
    rw [h y List.mem_cons_self, allDs_of fun x hx => h x (List.mem_cons_of_mem _ hx)]
    rfl
theorem allD_dat {d : D} (h : allD d = true) : dat d = true := by
  cases d <;> first | rfl | (simp [allD] at h)
theorem allD_items {d : D} {xs : List D} (h : allD d = true) (e : dItems d = some xs) : ∀ x ∈ xs, allD x = true := fun x hx => by
  cases d with
  | lst ys =>
    cases e
    exact allDs_mem (show allDs xs = true from h) hx
  | tup ys =>
    cases e
    exact allDs_mem (show allDs xs = true from h) hx
  | _ => cases e
/-- d is a list or a tuple of these ints -/
def SqI (d : D) (ns : List Int) : Prop := dItems d = some (ns.map .int)
theorem SqI.len {d : D} {ns : List Int} (h : SqI d ns) : dLen d = some (.int ns.length) := by
  unfold SqI at h
  cases d with
  | lst xs =>
    cases h
    simp [dLen]
  | tup xs =>
    cases h
    simp [dLen]
  | _ => cases h
theorem sqI_lst (ns : List Int) : SqI (.lst (ns.map .int)) ns := rfl
theorem sqI_tup (ns : List Int) : SqI (.tup (ns.map .int)) ns := rfl
/-! ### equality -/
@[simp] theorem eqv_int (a b : Int) : dEqv (.int a) (.int b) = some (decide (a = b)) := rfl
@[simp] theorem dEq_int (a b : Int) : dEq (.int a) (.int b) = some (.bl (decide (a = b))) := rfl
@[simp] theorem dNe_int (a b : Int) : dNe (.int a) (.int b) = some (.bl (!decide (a = b))) := rfl
/-! ### is_row_below -/
def rowB (cs : List Int) (v : D) : Bool := match dItems v with
  | some xs => decide (xs.length = cs.length) && (xs.zip cs).all fun p => isX p.1 (p.2 + 1)
  | none => false
theorem isSq_items {d : D} : isSq d = (dItems d).isSome := by
  cases d <;> rfl
theorem zipD_int : ∀ (xs : List D) (cs : List Int), zipD xs (cs.map .int) = (xs.zip cs).map fun p => .tup [p.1, .int p.2]
  | [], _ => by simp [zipD]
  | x :: xs, [] => by simp [zipD]
  | x :: xs, c :: cs => by simp [zipD, zipD_int xs cs]
@[simp] theorem eL_def (f : EM (List D)) (ρ : Env') : eL f ρ = (f ρ).bind fun xs ρ1 => .ok (.lst xs) ρ1 := rfl
@[simp] theorem dAdd_int (a b : Int) : dAdd (.int a) (.int b) = some (.int (a + b)) := rfl
@[simp] theorem dSub_int (a b : Int) : dSub (.int a) (.int b) = some (.int (a - b)) := rfl
@[simp] theorem cYes_def (ρ : Env') : cYes ρ = .ok true ρ := rfl
/-- zip(f, g) of sequences -/
theorem it_zip {f g : EM D} {ρ : Env'} {x y : D} {xs ys : List D} (hf : f ρ = .ok x ρ) (hg : g ρ = .ok y ρ) (hx : dItems x = some xs) (hy : dItems y = some ys) : iZp f g ρ = .ok (zipD xs ys) ρ := by
  show ((f ρ).bind fun d ρ1 => ((g ρ1).bind fun d ρ1 => (Out.ok [] ρ1).bind fun ds ρ2 => Out.ok (d :: ds) ρ2).bind fun ds ρ2 => Out.ok (d :: ds) ρ2).bind _ = _
  rw [hf, bind_ok, hg, bind_ok, bind_ok, bind_ok, bind_ok]
  show (match dItems x, dItems y with
    | some xs, some ys => Out.ok (zipD xs ys) ρ
    | _, _ => Out.stuck) = _
  rw [hx, hy]
theorem it_seq {f : EM D} {ρ : Env'} {x : D} {xs : List D} (hf : f ρ = .ok x ρ) (hx : dItems x = some xs) : iS f ρ = .ok xs ρ := by
  show (f ρ).bind _ = _
  rw [hf, bind_ok, hx]
  rfl
theorem it_enum {f : EM D} {ρ : Env'} {x : D} {xs : List D} (hf : f ρ = .ok x ρ) (hx : dItems x = some xs) : iEn f ρ = .ok (numD 0 xs) ρ := by
  show ((f ρ).bind fun d ρ1 => (Out.ok [] ρ1).bind fun ds ρ2 => Out.ok (d :: ds) ρ2).bind _ = _
  rw [hf, bind_ok, bind_ok, bind_ok]
  show Out.lift ρ ((dItems x).map (numD 0)) = _
  rw [hx]
  rfl
theorem it_rng {f : EM D} {ρ : Env'} {j : Int} (hf : f ρ = .ok (.int j) ρ) (h1 : -1000000 ≤ j) (h2 : j < 1000000) : iR1 (.ev f) ρ = .ok (rngD 0 j.toNat) ρ := by
  show ((f ρ).bind fun d ρ1 => (Out.ok [] ρ1).bind fun ds ρ2 => Out.ok (d :: ds) ρ2).bind _ = _
  rw [hf, bind_ok, bind_ok, bind_ok]
  show (if -1000000 ≤ j ∧ j < 1000000 then Out.ok (rngD 0 j.toNat) ρ else Out.stuck) = _
  rw [if_pos ⟨h1, h2⟩]
theorem fm_all {α : Type} (h : α → D) (f : α → D) (F : D → Option D) : ∀ l : List α, (∀ a ∈ l, F (h a) = some (f a)) → (l.map h).filterMap F = l.map f
  | [], _ => rfl
  | a :: l, k => by
    rw [List.map_cons, List.filterMap_cons_some (k a List.mem_cons_self), fm_all h f F l fun b hb => k b (List.mem_cons_of_mem _ hb)]
    rfl
/-- a comprehension without a test, over items h a -/
theorem comp_map {α : Type} {it : EM (List D)} {ws : List Nat} {g : Tgt} {c : EM Bool} {f : EM D} {ρ : Env'} {l : List α} (h : α → D) (F : α → D) (hi : it ρ = .ok (l.map h) ρ) (hw : (ws.all fun w => notOw ρ[w]?) = true) (hl : l.length < 1000000) (hs : ∀ a ∈ l, stepC ws g c f (h a) ρ = .ok (some (F a)) ρ) : eComp it ws g c f ρ = .ok (l.map F) ρ := by
  unfold eComp
  rw [hi, bind_ok, if_pos ⟨hw, by rw [List.length_map]; exact hl⟩]
  clear hi hl
  induction l with
  | nil => rfl
  | cons a l ih =>
    rw [List.map_cons, compL_cons, hs a List.mem_cons_self, bind_ok, ih fun b hb => hs b (List.mem_cons_of_mem _ hb)]
    rfl
/-- a comprehension with a test -/
theorem comp_filt {α : Type} {it : EM (List D)} {ws : List Nat} {g : Tgt} {c : EM Bool} {f : EM D} {ρ : Env'} {l : List α} (h : α → D) (p : α → Bool) (F : α → D) (hi : it ρ = .ok (l.map h) ρ) (hw : (ws.all fun w => notOw ρ[w]?) = true) (hl : l.length < 1000000)
    (hs : ∀ a ∈ l, stepC ws g c f (h a) ρ = .ok (if p a = true then some (F a) else none) ρ) : eComp it ws g c f ρ = .ok ((l.filter p).map F) ρ := by
  unfold eComp
  rw [hi, bind_ok, if_pos ⟨hw, by rw [List.length_map]; exact hl⟩]
  clear hi hl
  induction l with
  | nil => rfl
  | cons a l ih =>
    rw [List.map_cons, compL_cons, hs a List.mem_cons_self, bind_ok, ih fun b hb => hs b (List.mem_cons_of_mem _ hb)]
    cases e : p a <;> simp [List.filter_cons, e]
theorem all_map {α : Type} (f : α → Bool) (l : List α) : dAll (.lst (l.map fun a => .bl (f a))) = some (.bl (l.all f)) := by
  have e : l.map (fun a => D.bl (f a)) = (l.map f).map .bl := by rw [List.map_map]; rfl
  rw [e]
  show ((asBls ((l.map f).map .bl)).map fun bs => D.bl (bs.all id)) = _
  rw [asBls_map]
  show some (D.bl ((l.map f).all id)) = _
  rw [List.all_map]
  rfl
theorem sum_map {α : Type} (f : α → Int) (l : List α) : dSum (.lst (l.map fun a => .int (f a))) = some (.int (l.map f).sum) := by
  have e : l.map (fun a => D.int (f a)) = (l.map f).map .int := by rw [List.map_map]; rfl
  rw [e]
  show ((asIs ((l.map f).map .int)).map fun is => D.int is.sum) = _
  rw [asIs_map]
  rfl
theorem v_is_row_below {d v : D} {cs : List Int} (hc : SqI d cs) (hv : allD v = true) (hl : cs.length < 1000000) : s_is_row_below [.va d, .va v] = .ok (.bl (rowB cs v)) [.no, .no] := by
  refine run_rt (ρ := [.va d, .va v, .no, .no]) ?_
  show b_is_row_below [.va d, .va v, .no, .no] = _
  have h1 := v_is_sequence (allD_dat hv)
  cases e : dItems v with
  | none =>
    have h2 : isSq v = false := by rw [isSq_items, e]; rfl
    have h3 : rowB cs v = false := by unfold rowB; rw [e]
    rw [h2] at h1
    unfold b_is_row_below
    refine (seq_rt (d := .bl false) (ρ1 := [.va d, .va v, .no, .no]) ?_).trans (by rw [h3])
    simp [outR1 _ h1]
  | some xs =>
    have h2 : isSq v = true := by rw [isSq_items, e]; rfl
    have h3 : rowB cs v = (decide (xs.length = cs.length) && (xs.zip cs).all fun p => isX p.1 (p.2 + 1)) := by unfold rowB; rw [e]
    rw [h2] at h1
    have h4 : dLen v = some (.int xs.length) := by
      cases v <;> cases e <;> rfl
    by_cases hlen : xs.length = cs.length
    · unfold b_is_row_below
      refine (seq_nx (ρ1 := [.va d, .va v, .no, .no]) ?_).trans ?_
      · simp [outR1 _ h1, h4, hc.len, hlen]
      · have hcomp := comp_map (it := iZp (eVar 1) (eVar 0)) (ws := [2, 3]) (g := gS 2 (gsCons (gN 2) (gsCons (gN 3) gsNil))) (c := cYes) (f := eCall s_is_index [.ev (eVar 2), .ev (e2 dAdd (.ev (eVar 3)) (.ev (eC (.int 1))))])
          (ρ := [.va d, .va v, .no, .no]) (l := xs.zip cs) (fun p => .tup [p.1, .int p.2]) (fun p => .bl (isX p.1 (p.2 + 1))) (by rw [it_zip (eVar_1 _ _ _) (eVar_0 _ _) e hc, zipD_int]) rfl (by rw [List.length_zip]; omega) fun p hp => by
            have hx := v_is_index (p.2 + 1) (allD_dat (allD_items hv e p.1 (List.of_mem_zip hp).1))
            simp [stepC, wipeR, gS, dItems, gsCons, gN, gsNil, isIo, restore, outR2 _ hx]
        rw [sRet_def, eB_1, eL_def, hcomp, bind_ok, bind_ok, all_map, lift_some, fl_ok, h3, decide_eq_true hlen, Bool.true_and]
    · unfold b_is_row_below
      refine (seq_rt (d := .bl false) (ρ1 := [.va d, .va v, .no, .no]) ?_).trans (by rw [h3, decide_eq_false hlen]; rfl)
      have hlen' : ¬ ((xs.length : Int) = cs.length) := by omega
      simp [outR1 _ h1, h4, hc.len, hlen']
/-! ### sizes of numbers -/
/-- small enough -/
def Sm (k : Nat) (i : Int) : Prop := i.natAbs < 2 ^ k
theorem log2_lt {n k : Nat} (h : n < 2 ^ k) (hk : 0 < k) : n.log2 < k := by
  by_cases hn : n = 0
  · subst hn
    simpa using hk
  · exact (Nat.log2_lt hn).mpr h
theorem dMul_sm {k : Nat} {a b : Int} (ha : Sm k a) (hb : Sm k b) (hk : 0 < k) (hk2 : k < 500000) : dMul (.int a) (.int b) = some (.int (a * b)) := by
  have h1 := log2_lt ha hk
  have h2 := log2_lt hb hk
  unfold dMul
  exact if_pos (by omega)
/-! ### weighed -/
abbrev wgt := Nu.wgt
theorem zipD_ints : ∀ (xs cs : List Int), zipD (xs.map .int) (cs.map .int) = (xs.zip cs).map fun p => .tup [.int p.1, .int p.2]
  | [], _ => by simp [zipD]
  | x :: xs, [] => by simp [zipD]
  | x :: xs, c :: cs => by simp [zipD, zipD_ints xs cs]
theorem v_weighed {d v : D} {ws xs : List Int} (hc : SqI d ws) (hv : SqI v xs) (hl : ws.length < 1000000) (h1 : ∀ w ∈ ws, Sm 10000 w) (h2 : ∀ x ∈ xs, Sm 10000 x) : s_weighed [.va d, .va v] = .ok (.int (wgt ws xs)) [.no, .no] := by
  refine run_rt (ρ := [.va d, .va v, .no, .no]) ?_
  show b_weighed [.va d, .va v, .no, .no] = _
  unfold b_weighed
  have hcomp := comp_map (it := iZp (eVar 0) (eVar 1)) (ws := [2, 3]) (g := gS 2 (gsCons (gN 2) (gsCons (gN 3) gsNil))) (c := cYes) (f := e2 dMul (.ev (eVar 2)) (.ev (eVar 3)))
    (ρ := [.va d, .va v, .no, .no]) (l := ws.zip xs) (fun p => .tup [.int p.1, .int p.2]) (fun p => .int (p.1 * p.2)) (by rw [it_zip (eVar_0 _ _) (eVar_1 _ _ _) hc hv, zipD_ints]) rfl (by rw [List.length_zip]; omega) fun p hp => by
      have hx := dMul_sm (h1 p.1 (List.of_mem_zip hp).1) (h2 p.2 (List.of_mem_zip hp).2) (by decide) (by decide)
      simp [stepC, wipeR, gS, dItems, gsCons, gN, gsNil, isIo, restore, hx]
  rw [sRet_def, eB_1, eL_def, hcomp, bind_ok, bind_ok, sum_map, lift_some, fl_ok]
  rfl
end Ma
end

section
set_option maxRecDepth 100000
set_option linter.all false
namespace Ma
open PySem PySem.Spec PyProof.Rows L2 DL Wk
@[simp] theorem dIsN_non : dIsN .non .non = some (.bl true) := rfl
@[simp] theorem dIsN_int (i : Int) : dIsN (.int i) .non = some (.bl false) := rfl
@[simp] theorem dIsN_tup (xs : List D) : dIsN (.tup xs) .non = some (.bl false) := rfl
@[simp] theorem dNotN_non : dNotN .non .non = some (.bl false) := rfl
@[simp] theorem dNotN_int (i : Int) : dNotN (.int i) .non = some (.bl true) := rfl
@[simp] theorem dNotN_tup (xs : List D) : dNotN (.tup xs) .non = some (.bl true) := rfl
/-- None or a number -/
def oI : Option Int → D
  | none => .non
  | some n => .int n
theorem dMul_sm2 {a b : Int} {j k : Nat} (ha : Sm j a) (hb : Sm k b) (hj : 0 < j) (hk : 0 < k) (h : j + k < 1000000) : dMul (.int a) (.int b) = some (.int (a * b)) := by
  have h1 := log2_lt ha hj
  have h2 := log2_lt hb hk
  unfold dMul
  exact if_pos (by omega)
theorem dDivW_sm {a b : Int} {k : Nat} (h0 : 0 < b) (hb : Sm k b) (hk : 0 < k) (h : k ≤ 9000) : dDivW (.int a) (.int b) = some (.int (a / b)) := by
  have h2 := log2_lt hb hk
  unfold dDivW
  exact if_pos ⟨h0, by omega⟩
theorem dMod_pos {a b : Int} (h0 : 0 < b) : dMod (.int a) (.int b) = some (.int (a % b)) := if_pos h0
theorem sm_lt {k : Nat} {a : Int} (h0 : 0 ≤ a) (h : a < 2 ^ k) : Sm k a := by
  unfold Sm
  have : ((a.natAbs : Nat) : Int) < ((2 ^ k : Nat) : Int) := by
    rw [Int.natAbs_of_nonneg h0]
    simpa using h
  exact Int.ofNat_lt.mp this
theorem sm_of {k : Nat} {a : Int} (h1 : -(2 ^ k) < a) (h : a < 2 ^ k) : Sm k a := by
  unfold Sm
  have : ((a.natAbs : Nat) : Int) < ((2 ^ k : Nat) : Int) := by
    have e : ((2 ^ k : Nat) : Int) = 2 ^ k := by simp
    rw [e]
    omega
  exact Int.ofNat_lt.mp this
theorem fw_small : ∀ (k : Nat) {s m lo hi n : Int}, 0 ≤ s → s < m → 0 < lo → lo ≤ hi → hi < m → m < 2 ^ 200 → Nu.fw k s m lo hi = some (some n) → 0 ≤ n ∧ n < 2 ^ (201 * k)
  | 0, _, _, _, _, _, _, _, _, _, _, _, e => by cases e
  | k + 1, s, m, lo, hi, n, h0, h1, h2, h3, h4, h5, e => by
    have nn : 0 ≤ n := (Nu.fw_ok (k + 1) h0 h1 h2 h3 h4 e).1
    refine ⟨nn, ?_⟩
    have P : (2 : Int) ^ (201 * (k + 1)) = 2 ^ (201 * k) * 2 ^ 201 := by
      rw [← Int.pow_add, Nat.mul_succ]
    have Q : (1 : Int) ≤ 2 ^ (201 * k) := by
      have : (0 : Int) < 2 ^ (201 * k) := Int.pow_pos (by decide)
      omega
    have T : (2 : Int) ^ 201 = 2 * 2 ^ 200 := by decide
    have small : ∀ a : Int, a < 2 * 2 ^ 200 → a < 2 ^ (201 * (k + 1)) := fun a ha => by
      rw [P, T]
      have := Int.mul_le_mul_of_nonneg_right Q (show (0 : Int) ≤ 2 * 2 ^ 200 by decide)
      omega
    unfold Nu.fw at e
    split at e
    · cases e
    · rename_i hs
      split at e
      · obtain ⟨a1, a2⟩ := fw_small k (by omega) (by omega) (by omega) (by omega) (by omega) h5 e
        rw [P]
        have : (2 : Int) ^ (201 * k) * 1 ≤ 2 ^ (201 * k) * 2 ^ 201 := Int.mul_le_mul_of_nonneg_left (by decide) (by omega)
        omega
      · have hsp : 0 < s := by omega
        have cd : ∀ a : Int, 0 ≤ a → a / s ≤ a := fun a ha => Int.ediv_le_self _ ha
        split at e
        · cases e
          have := cd (lo + s - 1) (by omega)
          exact small _ (by omega)
        · rename_i hh
          cases er : Nu.fw k ((0 - m) % s) s (lo % s) (hi % s) with
          | none =>
            rw [er] at e
            cases e
          | some r' =>
            rw [er] at e
            cases r' with
            | none => cases e
            | some t =>
              cases e
              have l1 := Int.emod_nonneg lo (by omega : s ≠ 0)
              have g2 := Int.emod_lt_of_pos hi hsp
              obtain ⟨b1, b2, b3⟩ := Nu.fw_between (k := k) h0 h1 h2 h3 h4 hs (by omega) hh
              obtain ⟨a1, a2⟩ := fw_small k (Int.emod_nonneg _ (by omega)) (Int.emod_lt_of_pos _ hsp) b1 b2 b3 (by omega) er
              have a3 : m * t ≤ 2 ^ 200 * (2 ^ (201 * k) - 1) := by
                have z1 : m * t ≤ 2 ^ 200 * t := Int.mul_le_mul_of_nonneg_right (by omega) a1
                have z2 : (2 : Int) ^ 200 * t ≤ 2 ^ 200 * (2 ^ (201 * k) - 1) := Int.mul_le_mul_of_nonneg_left (by omega) (by decide)
                omega
              have a4 : 0 ≤ m * t := Int.mul_nonneg (by omega) a1
              have := cd (m * t + lo + s - 1) (by omega)
              rw [Int.mul_sub, Int.mul_one] at a3
              rw [P, T]
              have z3 : (2 : Int) ^ (201 * k) * (2 * 2 ^ 200) = 2 * (2 ^ 200 * 2 ^ (201 * k)) := by
                rw [Int.mul_comm, Int.mul_assoc]
              rw [z3]
              have z4 : (2 : Int) ^ 200 * 1 ≤ 2 ^ 200 * 2 ^ (201 * k) := Int.mul_le_mul_of_nonneg_left Q (by decide)
              omega
/-! ### first_within -/
theorem v_first_within : ∀ (k : Nat) {s m lo hi : Int} {r : Option Int}, k ≤ 1000 → 0 ≤ s → s < m → 0 < lo → lo ≤ hi → hi < m → m < 2 ^ 200 → Nu.fw k s m lo hi = some r → s_first_within k [.va (.int s), .va (.int m), .va (.int lo), .va (.int hi)] = .ok (oI r) [.no, .no, .no, .no]
  | 0, _, _, _, _, _, _, _, _, _, _, _, _, e => by cases e
  | k + 1, s, m, lo, hi, r, hk, h0, h1, h2, h3, h4, h5, e => by
    let R : Env' := [.va (.int s), .va (.int m), .va (.int lo), .va (.int hi), .no, .no]
    have S2 : Sm 2 2 := (by decide : (2 : Int).natAbs < 2 ^ 2)
    have Ss : Sm 200 s := sm_lt h0 (by omega)
    have Sms : Sm 200 m := sm_lt (by omega) h5
    suffices h : ∃ ρ, b_first_within (s_first_within k) R = .rt (oI r) ρ ∧ outIo 4 ρ = [.no, .no, .no, .no] by
      obtain ⟨ρ, a, b⟩ := h
      have z := run_rt (n := 4) (N := 6) (b := b_first_within (s_first_within k)) (ps := [.va (.int s), .va (.int m), .va (.int lo), .va (.int hi)]) a
      rw [b] at z
      exact z
    unfold Nu.fw at e
    unfold b_first_within
    by_cases hs : s = 0
    · rw [if_pos hs] at e
      cases e
      refine ⟨R, seq_rt ?_, rfl⟩
      simp [R, hs, oI]
    · rw [if_neg hs] at e
      have q1 : (sIf (eT (e2 dEq (.ev (eVar 0)) (.ev (eC (.int 0))))) (sRet (eC .non)) sNx) R = .nx R := by
        simp [R, hs]
      rw [seq_nx q1]
      have m2 := dMul_sm2 (a := 2) (b := s) S2 Ss (by decide) (by decide) (by decide)
      by_cases hf : 2 * s > m
      · rw [if_pos hf] at e
        have ih := v_first_within k (by omega) (by omega) (by omega) (by omega) (by omega) (by omega) h5 e
        refine ⟨R, seq_rt ?_, rfl⟩
        have hf' : m < 2 * s := hf
        simp [R, m2, dCmp, hf', outR4 _ ih]
      · rw [if_neg hf] at e
        have q2 : (sIf (eT (e2 dGt (.ev (e2 dMul (.ev (eC (.int 2))) (.ev (eVar 0)))) (.ev (eVar 1)))) (sRet (eCall (s_first_within k) [(.ev (e2 dSub (.ev (eVar 1)) (.ev (eVar 0)))), (.ev (eVar 1)), (.ev (e2 dSub (.ev (eVar 1)) (.ev (eVar 3)))), (.ev (e2 dSub (.ev (eVar 1)) (.ev (eVar 2))))])) sNx) R = .nx R := by
          have hf' : ¬ m < 2 * s := hf
          simp [R, m2, dCmp, hf']
        rw [seq_nx q2]
        have hsp : 0 < s := by omega
        have c0 : 0 ≤ (lo + s - 1) / s := Int.ediv_nonneg (by omega) (by omega)
        have cd : (lo + s - 1) / s ≤ lo + s - 1 := Int.ediv_le_self _ (by omega)
        have T : (2 : Int) ^ 201 = 2 * 2 ^ 200 := by decide
        have Sc : Sm 201 ((lo + s - 1) / s) := sm_lt c0 (by omega)
        have dv := dDivW_sm (a := lo + s - 1) hsp Ss (by decide) (by decide)
        let R2 : Env' := [.va (.int s), .va (.int m), .va (.int lo), .va (.int hi), .va (.int ((lo + s - 1) / s)), .no]
        have q3 : sSet 4 (e2 dDivW (.ev (e2 dSub (.ev (e2 dAdd (.ev (eVar 2)) (.ev (eVar 0)))) (.ev (eC (.int 1))))) (.ev (eVar 0))) R = .nx R2 := by
          simp [R, R2, dv, putSl, isIo]
        rw [seq_nx q3]
        have m3 := dMul_sm2 Sc Ss (by decide) (by decide) (by decide)
        by_cases hh : (lo + s - 1) / s * s ≤ hi
        · rw [if_pos hh] at e
          cases e
          refine ⟨R2, seq_rt ?_, rfl⟩
          simp [R2, m3, dCmp, hh, oI]
        · rw [if_neg hh] at e
          have q4 : (sIf (eT (e2 dLe (.ev (e2 dMul (.ev (eVar 4)) (.ev (eVar 0)))) (.ev (eVar 3)))) (sRet (eVar 4)) sNx) R2 = .nx R2 := by
            simp [R2, m3, dCmp, hh]
          rw [seq_nx q4]
          obtain ⟨b1, b2, b3⟩ := Nu.fw_between (k := k) h0 h1 h2 h3 h4 hs hf hh
          cases er : Nu.fw k ((0 - m) % s) s (lo % s) (hi % s) with
          | none =>
            rw [er] at e
            cases e
          | some r' =>
            rw [er] at e
            have ih := v_first_within k (by omega) (Int.emod_nonneg _ (by omega)) (Int.emod_lt_of_pos _ hsp) b1 b2 b3 (by omega) er
            let R3 : Env' := [.va (.int s), .va (.int m), .va (.int lo), .va (.int hi), .va (.int ((lo + s - 1) / s)), .va (oI r')]
            have d1 := dMod_pos (a := 0 - m) hsp
            have d2 := dMod_pos (a := lo) hsp
            have d3 := dMod_pos (a := hi) hsp
            have q5 : sSet 5 (eCall (s_first_within k) [(.ev (e2 dMod (.ev (e2 dSub (.ev (eC (.int 0))) (.ev (eVar 1)))) (.ev (eVar 0)))), (.ev (eVar 0)), (.ev (e2 dMod (.ev (eVar 2)) (.ev (eVar 0)))), (.ev (e2 dMod (.ev (eVar 3)) (.ev (eVar 0))))]) R2 = .nx R3 := by
              simp only [sSet_def, call_4, e2_ev, eC_go, R2, eVar_0, eVar_1, eVar_2, eVar_3, bind_ok, dSub_int, lift_some, d1, d2, d3, outR4 _ ih, fl_ok]
              rfl
            rw [seq_nx q5]
            cases r' with
            | none =>
              cases e
              refine ⟨R3, ?_, rfl⟩
              simp [R3, oI]
            | some t =>
              cases e
              obtain ⟨a1, a2⟩ := fw_small k (Int.emod_nonneg _ (by omega)) (Int.emod_lt_of_pos _ hsp) b1 b2 b3 (by omega) er
              have k0 : 0 < k := by
                cases k with
                | zero => cases er
                | succ k => omega
              have St : Sm (201 * k) t := sm_lt a1 a2
              have m4 := dMul_sm2 Sms St (by decide) (by omega) (by omega)
              have dv2 := dDivW_sm (a := m * t + lo + s - 1) hsp Ss (by decide) (by decide)
              refine ⟨R3, ?_, rfl⟩
              simp [R3, oI, m4, dv2]
end Ma
end

section
set_option maxRecDepth 100000
set_option linter.all false
set_option exponentiation.threshold 100000
namespace Ma
open PySem PySem.Spec PyProof.Rows L2 DL Wk
theorem ix_sq {d : D} {ns : List Int} {i : Nat} {x : Int} (h : SqI d ns) (e : ns[i]? = some x) : dIx d (.int (i : Int)) = some (.int x) := by
  have hi := (List.getElem?_eq_some_iff.mp e).1
  have key : atI (ns.map D.int) (i : Int) = some (.int x) := by
    unfold atI
    rw [List.length_map, Evl.ixN_nat hi]
    show (ns.map D.int)[i]? = _
    rw [List.getElem?_map, e]
    rfl
  unfold SqI at h
  cases d with
  | lst xs =>
    cases h
    exact key
  | tup xs =>
    cases h
    exact key
  | _ => cases h
theorem ix0 {d : D} {ns : List Int} {x : Int} (h : SqI d (x :: ns)) : dIx d (.int 0) = some (.int x) := ix_sq (i := 0) h rfl
theorem ix1 {d : D} {ns : List Int} {x y : Int} (h : SqI d (x :: y :: ns)) : dIx d (.int 1) = some (.int y) := ix_sq (i := 1) h rfl
/-- None or a pair -/
def oP : Option (Int × Int) → D
  | none => .non
  | some (x, y) => .tup [.int x, .int y]
@[simp] theorem dMax2_int (a b : Int) : dMax2 (.int a) (.int b) = some (.int (Nu.mx a b)) := rfl
@[simp] theorem dMin2_int (a b : Int) : dMin2 (.int a) (.int b) = some (.int (Nu.mn a b)) := rfl
/-- the numbers of two keys -/
structure Two (c0 c1 w0 w1 low high : Int) : Prop where
  c0p : 0 ≤ c0
  c1p : 0 ≤ c1
  w0p : 0 < w0
  w1p : 0 < w1
  c0s : c0 < 2 ^ 190
  c1s : c1 < 2 ^ 190
  w0s : w0 < 2 ^ 190
  w1s : w1 < 2 ^ 190
  lp : 0 ≤ low
  ls : low < 2 ^ 390
  hp : 0 ≤ high
  hs : high < 2 ^ 390
theorem v_first_row {d w : D} {c0 c1 w0 w1 low high start : Int} {r : Option (Int × Int)} (hd : SqI d [c0, c1]) (hw : SqI w [w0, w1]) (T : Two c0 c1 w0 w1 low high) (hs0 : 0 ≤ start) (hs1 : start < 2 ^ 191) (e : Nu.fr 100 c0 c1 w0 w1 low high start = some r) :
    s_first_row [.va d, .va w, .va (.int low), .va (.int high), .va (.int start)] = .ok (oP r) [.no, .no, .no, .no, .no] := by
  obtain ⟨t1, t2, t3, t4, t5, t6, t7, t8, t9, t10, t11, t12⟩ := T
  suffices h : ∃ ρ, b_first_row [.va d, .va w, .va (.int low), .va (.int high), .va (.int start), .no, .no, .no, .no, .no, .no, .no] = .rt (oP r) ρ ∧ outIo 5 ρ = [.no, .no, .no, .no, .no] by
    obtain ⟨ρ, a, b⟩ := h
    have z := run_rt (n := 5) (N := 12) (b := b_first_row) (ps := [.va d, .va w, .va (.int low), .va (.int high), .va (.int start)]) a
    rw [b] at z
    exact z
  have Sc0 : Sm 190 c0 := sm_lt t1 t5
  have Sw0 : Sm 190 w0 := sm_lt (by omega) t7
  have Sw1 : Sm 190 w1 := sm_lt (by omega) t8
  have hw' : dItems w = some [.int w0, .int w1] := hw
  unfold b_first_row
  let R1 : Env' := [.va d, .va w, .va (.int low), .va (.int high), .va (.int start), .va (.int w0), .va (.int w1), .no, .no, .no, .no, .no]
  have q1 : sAsg (eVar 1) (gS 2 (gsCons (gN 5) (gsCons (gN 6) gsNil))) [.va d, .va w, .va (.int low), .va (.int high), .va (.int start), .no, .no, .no, .no, .no, .no, .no] = .nx R1 := by
    simp [sAsg, gS, hw', gsCons, gN, gsNil, isIo, R1]
  rw [seq_nx q1]
  have mc := dMul_sm2 Sc0 Sw0 (by decide) (by decide) (by decide)
  have dv := dDivW_sm (a := low - c0 * w0 + w1 - 1) t4 Sw1 (by decide) (by decide)
  have i0 := ix0 hd
  have i1 := ix1 hd
  unfold Nu.fr at e
  simp only at e
  have B := Nu.mx_le (a := start) (b := (low - c0 * w0 + w1 - 1) / w1)
  have Bs : Nu.mx start ((low - c0 * w0 + w1 - 1) / w1) < 2 ^ 391 := by
    have z1 : (low - c0 * w0 + w1 - 1) / w1 ≤ low + w1 := by
      have z2 : 0 ≤ c0 * w0 := Int.mul_nonneg t1 (by omega)
      have z3 : (low - c0 * w0 + w1 - 1) / w1 ≤ (low + w1) / w1 := Int.ediv_le_ediv t4 (by omega)
      have z4 : (low + w1) / w1 ≤ low + w1 := Int.ediv_le_self _ (by omega)
      omega
    have z5 : (2 : Int) ^ 391 = 2 * 2 ^ 390 := by decide
    have z6 : (2 : Int) ^ 190 ≤ 2 ^ 390 := by decide
    have z7 : (2 : Int) ^ 191 ≤ 2 ^ 390 := by decide
    unfold Nu.mx
    split <;> omega
  generalize hb : Nu.mx start ((low - c0 * w0 + w1 - 1) / w1) = b at e B Bs
  let R2 : Env' := [.va d, .va w, .va (.int low), .va (.int high), .va (.int start), .va (.int w0), .va (.int w1), .va (.int b), .no, .no, .no, .no]
  have q2 : sSet 7 (eB (on2 dMax2) [(.ev (eVar 4)), (.ev (e2 dDivW (.ev (e2 dSub (.ev (e2 dAdd (.ev (e2 dSub (.ev (eVar 2)) (.ev (e2 dMul (.ev (e2 dIx (.ev (eVar 0)) (.ev (eC (.int 0))))) (.ev (eVar 5)))))) (.ev (eVar 6)))) (.ev (eC (.int 1))))) (.ev (eVar 6))))]) R1 = .nx R2 := by
    simp [R1, R2, i0, mc, dv, putSl, isIo, hb]
  rw [seq_nx q2]
  have dh := dDivW_sm (a := high) t4 Sw1 (by decide) (by decide)
  by_cases hcond : low > high ∨ b > Nu.mn c1 (high / w1)
  · rw [if_pos hcond] at e
    cases e
    refine ⟨R2, seq_rt ?_, rfl⟩
    rcases hcond with q | q
    · have q' : high < low := q
      simp [R2, dCmp, q', oP]
    · have q' : Nu.mn c1 (high / w1) < b := q
      by_cases q3 : high < low <;> simp [R2, dCmp, q3, q', oP, i1, dh]
  · rw [if_neg hcond] at e
    have n1 : ¬ high < low := by omega
    have n2 : ¬ Nu.mn c1 (high / w1) < b := by omega
    have q3 : (sIf (tOrB (eT (e2 dGt (.ev (eVar 2)) (.ev (eVar 3)))) (eT (e2 dGt (.ev (eVar 7)) (.ev (eB (on2 dMin2) [(.ev (e2 dIx (.ev (eVar 0)) (.ev (eC (.int 1))))), (.ev (e2 dDivW (.ev (eVar 3)) (.ev (eVar 6))))]))))) (sRet (eC .non)) sNx) R2 = .nx R2 := by
      simp [R2, dCmp, n1, n2, i1, dh]
    rw [seq_nx q3]
    have Sb : Sm 391 b := sm_lt (by omega) Bs
    have mb := dMul_sm2 Sw1 Sb (by decide) (by decide) (by decide)
    have dm := dMod_pos (a := w1 * b - low) t3
    have dm2 := dMod_pos (a := w1) t3
    let R3 (t : D) : Env' := [.va d, .va w, .va (.int low), .va (.int high), .va (.int start), .va (.int w0), .va (.int w1), .va (.int b), .va (.int ((w1 * b - low) % w0)), .va (.int (high - low)), .va t, .no]
    have q4 : sPar3 8 9 10 (.fz (e2 dMod (.ev (e2 dSub (.ev (e2 dMul (.ev (eVar 6)) (.ev (eVar 7)))) (.ev (eVar 2)))) (.ev (eVar 5)))) (.fz (e2 dSub (.ev (eVar 3)) (.ev (eVar 2)))) (.fz (eC (.int 0))) R2 = .nx (R3 (.int 0)) := by
      simp [sPar3, El.go, El.sl, putEl, R2, R3, mb, dm, isIo]
    rw [seq_nx q4]
    have r0 := Int.emod_nonneg (w1 * b - low) (by omega : w0 ≠ 0)
    have r1 := Int.emod_lt_of_pos (w1 * b - low) t3
    have turn : ∃ t : Option Int, (if (w1 * b - low) % w0 > high - low then Nu.fw 100 (w1 % w0) w0 (w0 - (w1 * b - low) % w0) (w0 - (w1 * b - low) % w0 + (high - low)) else some (some 0)) = some t ∧ (∀ n, t = some n → 0 ≤ n ∧ n < 2 ^ 20100) ∧
        (sIf (eT (e2 dGt (.ev (eVar 8)) (.ev (eVar 9)))) (sSet 10 (eCall (s_first_within 100) [(.ev (e2 dMod (.ev (eVar 6)) (.ev (eVar 5)))), (.ev (eVar 5)), (.ev (e2 dSub (.ev (eVar 5)) (.ev (eVar 8)))), (.ev (e2 dAdd (.ev (e2 dSub (.ev (eVar 5)) (.ev (eVar 8)))) (.ev (eVar 9))))])) sNx) (R3 (.int 0)) = .nx (R3 (oI t)) := by
      by_cases hrest : (w1 * b - low) % w0 > high - low
      · rw [if_pos hrest] at e ⊢
        cases ef : Nu.fw 100 (w1 % w0) w0 (w0 - (w1 * b - low) % w0) (w0 - (w1 * b - low) % w0 + (high - low)) with
        | none =>
          rw [ef] at e
          cases e
        | some t =>
          have z : (2 : Int) ^ 190 < 2 ^ 200 := by decide
          have v := v_first_within 100 (by decide) (Int.emod_nonneg w1 (by omega)) (Int.emod_lt_of_pos w1 t3) (by omega) (by omega) (by omega) (by omega) ef
          refine ⟨t, rfl, fun n hn => ?_, ?_⟩
          · subst hn
            exact fw_small 100 (Int.emod_nonneg w1 (by omega)) (Int.emod_lt_of_pos w1 t3) (by omega) (by omega) (by omega) (by omega) ef
          · have hrest' : high - low < (w1 * b - low) % w0 := hrest
            simp only [sIf_def, eT_ok, e2_ev, R3, eVar_8, eVar_9, bind_ok]
            rw [show dGt (.int ((w1 * b - low) % w0)) (.int (high - low)) = some (.bl true) from by simp [dCmp, hrest']]
            simp only [lift_some, bind_ok, asB_bl, fl_ok, if_true, sSet_def, call_4, e2_ev, eVar_5, eVar_6, eVar_8, eVar_9, dm2, dSub_int, dAdd_int, outR4 _ v]
            rfl
      · rw [if_neg hrest]
        refine ⟨some 0, rfl, fun n hn => ?_, ?_⟩
        · cases hn
          exact ⟨Int.le_refl 0, by decide +kernel⟩
        · have hrest' : ¬ high - low < (w1 * b - low) % w0 := hrest
          simp [R3, dCmp, hrest', oI]
    obtain ⟨t, et, tb, q5⟩ := turn
    rw [et] at e
    rw [seq_nx q5]
    cases t with
    | none =>
      cases e
      refine ⟨R3 .non, seq_rt ?_, rfl⟩
      simp [R3, oI, oP]
    | some t =>
      obtain ⟨tb1, tb2⟩ := tb t rfl
      simp only at e
      by_cases hgt : b + t > Nu.mn c1 (high / w1)
      · rw [if_pos hgt] at e
        cases e
        have hgt' : Nu.mn c1 (high / w1) < b + t := hgt
        refine ⟨R3 (.int t), seq_rt ?_, rfl⟩
        simp [R3, oI, oP, i1, dh, dCmp, hgt']
      · rw [if_neg hgt] at e
        cases e
        have hgt' : ¬ Nu.mn c1 (high / w1) < b + t := hgt
        have q6 : (sIf (tOrB (eT (e2 dIsN (.ev (eVar 10)) (.ev (eC .non)))) (eT (e2 dGt (.ev (e2 dAdd (.ev (eVar 7)) (.ev (eVar 10)))) (.ev (eB (on2 dMin2) [(.ev (e2 dIx (.ev (eVar 0)) (.ev (eC (.int 1))))), (.ev (e2 dDivW (.ev (eVar 3)) (.ev (eVar 6))))]))))) (sRet (eC .non)) sNx) (R3 (.int t)) = .nx (R3 (.int t)) := by
          simp [R3, oI, i1, dh, dCmp, hgt']
        have q6' : (sIf (tOrB (eT (e2 dIsN (.ev (eVar 10)) (.ev (eC .non)))) (eT (e2 dGt (.ev (e2 dAdd (.ev (eVar 7)) (.ev (eVar 10)))) (.ev (eB (on2 dMin2) [(.ev (e2 dIx (.ev (eVar 0)) (.ev (eC (.int 1))))), (.ev (e2 dDivW (.ev (eVar 3)) (.ev (eVar 6))))]))))) (sRet (eC .non)) sNx) (R3 (oI (some t))) = .nx (R3 (.int t)) := q6
        rw [seq_nx q6']
        let R4 : Env' := [.va d, .va w, .va (.int low), .va (.int high), .va (.int start), .va (.int w0), .va (.int w1), .va (.int b), .va (.int ((w1 * b - low) % w0)), .va (.int (high - low)), .va (.int t), .va (.int (b + t))]
        have e10 : eVar 10 (R3 (.int t)) = .ok (.int t) (R3 (.int t)) := rfl
        have q7 : sSet 11 (e2 dAdd (.ev (eVar 7)) (.ev (eVar 10))) (R3 (.int t)) = .nx R4 := by
          simp only [sSet_def, e2_ev, e10]
          rfl
        rw [seq_nx q7]
        have hle := (Nu.mn_le.mp (show b + t ≤ Nu.mn c1 (high / w1) by omega)).1
        have Sbt : Sm 190 (b + t) := sm_lt (by omega) (by omega)
        have mbt := dMul_sm2 Sw1 Sbt (by decide) (by decide) (by decide)
        have dv3 := dDivW_sm (a := low - w1 * (b + t) + w0 - 1) t3 Sw0 (by decide) (by decide)
        have e11 : eVar 11 R4 = .ok (.int (b + t)) R4 := rfl
        refine ⟨R4, ?_, rfl⟩
        simp [R4, mbt, dv3, oP]
end Ma
end

section
set_option maxRecDepth 100000
set_option linter.all false
set_option exponentiation.threshold 100000
namespace Ma
open PySem PySem.Spec PyProof.Rows L2 DL Wk
def prD (p : Int × Int) : D := .tup [.int p.1, .int p.2]
/-- None or a cut -/
def oC : Option ((Int × Int) × (Int × Int)) → D
  | none => .non
  | some (p, q) => .tup [prD p, prD q]
theorem v_two_cut {d w : D} {c0 c1 w0 w1 low high : Int} {r : Option ((Int × Int) × (Int × Int))} (hd : SqI d [c0, c1]) (hw : SqI w [w0, w1]) (T : Two c0 c1 w0 w1 low high) (e : Nu.tc 100 c0 c1 w0 w1 low high = some r) :
    s_two_cut [.va d, .va w, .va (.int low), .va (.int high)] = .ok (oC r) [.no, .no, .no, .no] := by
  have ⟨t1, t2, t3, t4, t5, t6, t7, t8, t9, t10, t11, t12⟩ := T
  suffices h : ∃ ρ, b_two_cut [.va d, .va w, .va (.int low), .va (.int high), .no, .no, .no, .no] = .rt (oC r) ρ ∧ outIo 4 ρ = [.no, .no, .no, .no] by
    obtain ⟨ρ, a, b⟩ := h
    have z := run_rt (n := 4) (N := 8) (b := b_two_cut) (ps := [.va d, .va w, .va (.int low), .va (.int high)]) a
    rw [b] at z
    exact z
  unfold Nu.tc at e
  unfold b_two_cut
  cases e1 : Nu.fr 100 c0 c1 w0 w1 low high 0 with
  | none =>
    rw [e1] at e
    cases e
  | some r1 =>
    rw [e1] at e
    have f1 := Nu.fr_ok t3 t4 t1 (Int.le_refl 0) e1
    have v1 := v_first_row hd hw T (Int.le_refl 0) (by decide) e1
    let R1 (t : D) : Env' := [.va d, .va w, .va (.int low), .va (.int high), .va t, .no, .no, .no]
    have q1 : sSet 4 (eCall s_first_row [(.ev (eVar 0)), (.ev (eVar 1)), (.ev (eVar 2)), (.ev (eVar 3)), (.ev (eC (.int 0)))]) [.va d, .va w, .va (.int low), .va (.int high), .no, .no, .no, .no] = .nx (R1 (oP r1)) := by
      simp [outR5 _ v1, putSl, isIo, R1]
    rw [seq_nx q1]
    cases r1 with
    | none =>
      cases e
      refine ⟨R1 .non, seq_rt ?_, rfl⟩
      simp [R1, oP, oC]
    | some p =>
      obtain ⟨x0, y0⟩ := p
      obtain ⟨g1, g2, g3⟩ := f1
      simp only at e
      have q2 : (sIf (eT (e2 dIsN (.ev (eVar 4)) (.ev (eC .non)))) (sRet (eC .non)) sNx) (R1 (oP (some (x0, y0)))) = .nx (R1 (prD (x0, y0))) := by
        simp [R1, oP, prD]
      rw [seq_nx q2]
      have i0 := ix0 hw
      have i1 := ix1 hw
      have m1 := Nu.mx_le (a := low) (b := high - w0 + 1)
      have m2 : Nu.mx low (high - w0 + 1) < 2 ^ 390 := by
        unfold Nu.mx
        split <;> omega
      have m3 : 0 ≤ Nu.mn high (low + w1 - 1) := Nu.mn_le.mpr ⟨t11, by omega⟩
      have m4 := (Nu.mn_le.mp (Int.le_refl (Nu.mn high (low + w1 - 1)))).1
      let R2 : Env' := [.va d, .va w, .va (.int low), .va (.int high), .va (prD (x0, y0)), .va (.int (Nu.mx low (high - w0 + 1))), .va (.int (Nu.mn high (low + w1 - 1))), .no]
      have q3 : sPar 5 6 (.fz (eB (on2 dMax2) [(.ev (eVar 2)), (.ev (e2 dAdd (.ev (e2 dSub (.ev (eVar 3)) (.ev (e2 dIx (.ev (eVar 1)) (.ev (eC (.int 0))))))) (.ev (eC (.int 1)))))])) (.fz (eB (on2 dMin2) [(.ev (eVar 3)), (.ev (e2 dSub (.ev (e2 dAdd (.ev (eVar 2)) (.ev (e2 dIx (.ev (eVar 1)) (.ev (eC (.int 1))))))) (.ev (eC (.int 1)))))])) (R1 (prD (x0, y0))) = .nx R2 := by
        simp [sPar, El.go, El.sl, putEl, isIo, R1, R2, i0, i1]
      rw [seq_nx q3]
      have hy0 := g1.y0
      have hy1 := g1.y1
      have z : (2 : Int) ^ 190 < 2 ^ 191 := by decide
      cases e2 : Nu.fr 100 c0 c1 w0 w1 (Nu.mx low (high - w0 + 1)) (Nu.mn high (low + w1 - 1)) (y0 + 1) with
      | none =>
        rw [e2] at e
        cases e
      | some r2 =>
        rw [e2] at e
        have v2 := v_first_row hd hw ⟨t1, t2, t3, t4, t5, t6, t7, t8, by omega, m2, m3, by omega⟩ (by omega) (by omega) e2
        have iy : dIx (prD (x0, y0)) (.int 1) = some (.int y0) := ix1 (sqI_tup [x0, y0])
        let R3 (t : D) : Env' := [.va d, .va w, .va (.int low), .va (.int high), .va (prD (x0, y0)), .va (.int (Nu.mx low (high - w0 + 1))), .va (.int (Nu.mn high (low + w1 - 1))), .va t]
        have q4 : sSet 7 (eCall s_first_row [(.ev (eVar 0)), (.ev (eVar 1)), (.ev (eVar 5)), (.ev (eVar 6)), (.ev (DL.e2 dAdd (.ev (DL.e2 dIx (.ev (eVar 4)) (.ev (eC (.int 1))))) (.ev (eC (.int 1)))))]) R2 = .nx (R3 (oP r2)) := by
          simp [outR5 _ v2, putSl, isIo, R2, R3, iy]
        rw [seq_nx q4]
        cases r2 with
        | none =>
          cases e
          refine ⟨R3 .non, ?_, rfl⟩
          simp [R3, oP, oC]
        | some q =>
          obtain ⟨x1, y1⟩ := q
          cases e
          refine ⟨R3 (prD (x1, y1)), ?_, rfl⟩
          simp [R3, oP, oC, prD]
end Ma
end

section
set_option maxRecDepth 100000
set_option linter.all false
set_option exponentiation.threshold 100000
namespace Ma
open PySem PySem.Spec PyProof.Rows L2 DL Wk
/-! ### calls with keywords -/
theorem kw_2 (sem : Sem') (a b : EM D) (ρ : Env') : eCallKw sem [1, 0] [] [.ev a, .ev b] ρ = (a ρ).bind fun x ρ1 => (b ρ1).bind fun y ρ2 => outR 2 (sem [.va y, .va x]) ρ2 := by
  show (Out.ok [] ρ).bind _ = _
  rw [bind_ok]
  show ((a ρ).bind fun d ρ1 => ((b ρ1).bind fun d ρ1 => (Out.ok [] ρ1).bind fun ds ρ2 => Out.ok (d :: ds) ρ2).bind fun ds ρ2 => Out.ok (d :: ds) ρ2).bind _ = _
  simp only [bind_bind, bind_ok]
  congr 1
  funext x ρ1
  congr 1
  funext y ρ2
  exact callK_ev sem [b, a] [y, x] ρ2 rfl
theorem kw_4 (sem : Sem') (a b c d : EM D) (ρ : Env') : eCallKw sem [3, 2, 1, 0] [] [.ev a, .ev b, .ev c, .ev d] ρ = (a ρ).bind fun x ρ1 => (b ρ1).bind fun y ρ2 => (c ρ2).bind fun z ρ3 => (d ρ3).bind fun w ρ4 => outR 4 (sem [.va w, .va z, .va y, .va x]) ρ4 := by
  show (Out.ok [] ρ).bind _ = _
  rw [bind_ok]
  show ((a ρ).bind fun d' ρ1 => ((b ρ1).bind fun d' ρ1 => ((c ρ1).bind fun d' ρ1 => ((d ρ1).bind fun d' ρ1 => (Out.ok [] ρ1).bind fun ds ρ2 => Out.ok (d' :: ds) ρ2).bind fun ds ρ2 => Out.ok (d' :: ds) ρ2).bind fun ds ρ2 => Out.ok (d' :: ds) ρ2).bind fun ds ρ2 => Out.ok (d' :: ds) ρ2).bind _ = _
  simp only [bind_bind, bind_ok]
  congr 1
  funext x ρ1
  congr 1
  funext y ρ2
  congr 1
  funext z ρ3
  congr 1
  funext w ρ4
  exact callK_ev sem [d, c, b, a] [w, z, y, x] ρ4 rfl
theorem kw_5 (sem : Sem') (a b c d e : EM D) (ρ : Env') : eCallKw sem [4, 3, 2, 1, 0] [] [.ev a, .ev b, .ev c, .ev d, .ev e] ρ = (a ρ).bind fun x ρ1 => (b ρ1).bind fun y ρ2 => (c ρ2).bind fun z ρ3 => (d ρ3).bind fun w ρ4 => (e ρ4).bind fun v ρ5 => outR 5 (sem [.va v, .va w, .va z, .va y, .va x]) ρ5 := by
  show (Out.ok [] ρ).bind _ = _
  rw [bind_ok]
  show ((a ρ).bind fun d' ρ1 => ((b ρ1).bind fun d' ρ1 => ((c ρ1).bind fun d' ρ1 => ((d ρ1).bind fun d' ρ1 => ((e ρ1).bind fun d' ρ1 => (Out.ok [] ρ1).bind fun ds ρ2 => Out.ok (d' :: ds) ρ2).bind fun ds ρ2 => Out.ok (d' :: ds) ρ2).bind fun ds ρ2 => Out.ok (d' :: ds) ρ2).bind fun ds ρ2 => Out.ok (d' :: ds) ρ2).bind fun ds ρ2 => Out.ok (d' :: ds) ρ2).bind _ = _
  simp only [bind_bind, bind_ok]
  congr 1
  funext x ρ1
  congr 1
  funext y ρ2
  congr 1
  funext z ρ3
  congr 1
  funext w ρ4
  congr 1
  funext v ρ5
  exact callK_ev sem [e, d, c, b, a] [v, w, z, y, x] ρ5 rfl
/-! ### a loop that may return early -/
theorem forL_find {α : Type} {g : Tgt} {b : SM} (I : Env' → Prop) (h : α → D) (bad : α → Bool) (d : D) : ∀ (l : List α) (ρ : Env'), I ρ → (∀ a ∈ l, ∀ ρ, I ρ → ∃ ρ1 ρ2, g (h a) ρ = some ρ1 ∧ I ρ2 ∧ b ρ1 = if bad a = true then .rt d ρ2 else .nx ρ2) →
    ∃ ρ', I ρ' ∧ forL g b (l.map h) ρ = if l.any bad = true then .rt d ρ' else .nx ρ'
  | [], ρ, i, _ => ⟨ρ, i, rfl⟩
  | a :: l, ρ, i, k => by
    obtain ⟨ρ1, ρ2, e1, i2, e2⟩ := k a List.mem_cons_self ρ i
    have hd : forL g b ((a :: l).map h) ρ = match b ρ1 with
        | .nx ρ2 => forL g b (l.map h) ρ2
        | .ct ρ2 => forL g b (l.map h) ρ2
        | .bk ρ2 => .nx ρ2
        | r => r := by
      show (match g (h a) ρ with
        | none => Fl.stuck
        | some ρ1 => match b ρ1 with
          | .nx ρ2 => forL g b (l.map h) ρ2
          | .ct ρ2 => forL g b (l.map h) ρ2
          | .bk ρ2 => .nx ρ2
          | r => r) = _
      rw [e1]
    rw [hd, e2]
    cases hb : bad a with
    | true => exact ⟨ρ2, i2, by simp [hb]⟩
    | false =>
      obtain ⟨ρ', i', e'⟩ := forL_find I h bad d l ρ2 i2 fun c hc => k c (List.mem_cons_of_mem _ hc)
      refine ⟨ρ', i', ?_⟩
      simp [hb, e']
/-! ### allowed rows -/
def boxB (ns cs : List Int) : Bool := (ns.zip cs).all fun p => decide (0 ≤ p.1) && decide (p.1 ≤ p.2)
def rowOK (cs ws : List Int) (low high : Int) : D → Bool
  | .tup xs => match asIs xs with
    | some ns => decide (ns.length = cs.length) && (boxB ns cs && (decide (low ≤ wgt ws ns) && decide (wgt ws ns ≤ high)))
    | none => false
  | _ => false
theorem rowOK_tup (cs ws : List Int) (low high : Int) (xs : List D) : rowOK cs ws low high (.tup xs) = match asIs xs with
    | some ns => decide (ns.length = cs.length) && (boxB ns cs && (decide (low ≤ wgt ws ns) && decide (wgt ws ns ≤ high)))
    | none => false := rfl
theorem asIs_len {xs : List D} {ns : List Int} (h : asIs xs = some ns) : xs.length = ns.length := by
  rw [asIs_eq h, List.length_map]
@[simp] theorem dLen_tup (xs : List D) : dLen (.tup xs) = some (.int xs.length) := rfl
@[simp] theorem dLen_lst (xs : List D) : dLen (.lst xs) = some (.int xs.length) := rfl
theorem isX_int (i n : Int) : isX (.int i) (n + 1) = (decide (0 ≤ i) && decide (i ≤ n)) := by
  simp [isX, Int.lt_add_one_iff]
theorem rowB_ints : ∀ (xs : List D) (cs : List Int), xs.length = cs.length → ((xs.zip cs).all fun p => isX p.1 (p.2 + 1)) = match asIs xs with
    | some ns => boxB ns cs
    | none => false
  | [], [], _ => rfl
  | [], _ :: _, h => by simp at h
  | _ :: _, [], h => by simp at h
  | x :: xs, c :: cs, h => by
    rw [List.zip_cons_cons, List.all_cons, rowB_ints xs cs (by simpa using h)]
    cases x with
    | int i =>
      rw [isX_int]
      cases e : asIs xs with
      | none => simp [asIs, asI, e]
      | some ns => simp [asIs, asI, e, boxB]
    | _ => simp [isX, asIs, asI]
theorem rowB_tup {cs : List Int} {xs : List D} : rowB cs (.tup xs) = match asIs xs with
    | some ns => decide (ns.length = cs.length) && boxB ns cs
    | none => false := by
  unfold rowB
  show (decide (xs.length = cs.length) && (xs.zip cs).all fun p => isX p.1 (p.2 + 1)) = _
  by_cases h : xs.length = cs.length
  · rw [rowB_ints xs cs h]
    cases e : asIs xs with
    | none => simp
    | some ns =>
      have := asIs_len e
      simp [h, ← this]
  · cases e : asIs xs with
    | none => simp [h]
    | some ns =>
      have := asIs_len e
      simp [← this, h]
/-- sizes of caps and weights -/
structure Szs (cs ws : List Int) : Prop where
  c : ∀ c ∈ cs, 0 ≤ c ∧ c < 2 ^ 1000
  w : ∀ w ∈ ws, 0 ≤ w ∧ w < 2 ^ 1000
  lc : cs.length < 1000
  lw : ws.length = cs.length
theorem Szs.wS {cs ws : List Int} (z : Szs cs ws) : ∀ w ∈ ws, Sm 10000 w := fun w hw => by
  obtain ⟨h1, h2⟩ := z.w w hw
  exact sm_lt h1 (Int.lt_of_lt_of_le h2 (by decide +kernel))
theorem box_mem : ∀ {ns cs : List Int}, ns.length = cs.length → boxB ns cs = true → (∀ c ∈ cs, c < 2 ^ 1000) → ∀ x ∈ ns, Sm 10000 x
  | [], _, _, _, _, x, hx => by simp at hx
  | _ :: _, [], h, _, _, _, _ => by simp at h
  | n :: ns, c :: cs, h, hb, hc, x, hx => by
    have hb' : ((decide (0 ≤ n) && decide (n ≤ c)) && boxB ns cs) = true := hb
    simp only [Bool.and_eq_true, decide_eq_true_eq] at hb'
    rcases List.mem_cons.mp hx with q | q
    · rw [q]
      have := hc c List.mem_cons_self
      exact sm_lt hb'.1.1 (Int.lt_of_lt_of_le (show n < 2 ^ 1000 by omega) (by decide +kernel))
    · exact box_mem (by simpa using h) hb'.2 (fun c hc' => hc c (List.mem_cons_of_mem _ hc')) x q
theorem v__law_weighed {d v : D} {ws xs : List Int} (hc : SqI d ws) (hv : SqI v xs) (hl : ws.length < 1000000) (h1 : ∀ w ∈ ws, Sm 10000 w) (h2 : ∀ x ∈ xs, Sm 10000 x) : s__law_weighed [.va d, .va v] = .ok (.int (wgt ws xs)) [.no, .no] := v_weighed hc hv hl h1 h2
theorem v__law_allowed {d w v : D} {cs ws : List Int} {low high : Int} (hd : SqI d cs) (hw : SqI w ws) (hv : allD v = true) (z : Szs cs ws) : s__law_allowed [.va d, .va w, .va (.int low), .va (.int high), .va v] = .ok (.bl (rowOK cs ws low high v)) [.no, .no, .no, .no, .no] := by
  let R (a b : Sl) : Env' := [.va d, .va w, .va (.int low), .va (.int high), .va v, a, b]
  suffices h : ∃ ρ, b__law_allowed (R .no .no) = .rt (.bl (rowOK cs ws low high v)) ρ ∧ outIo 5 ρ = [.no, .no, .no, .no, .no] by
    obtain ⟨ρ, a, b⟩ := h
    have z := run_rt (n := 5) (N := 7) (b := b__law_allowed) (ps := [.va d, .va w, .va (.int low), .va (.int high), .va v]) a
    rw [b] at z
    exact z
  unfold b__law_allowed
  have h1 := isi_tuple (allD_dat hv)
  cases v with
  | tup xs =>
    by_cases hlen : xs.length = cs.length
    · have q1 : (sIf (tOrB (tNotB (eT (e1 (dIsi "tuple") (.ev (eVar 4))))) (eT (e2 dNe (.ev (eB (on1 dLen) [(.ev (eVar 4))])) (.ev (eB (on1 dLen) [(.ev (eVar 0))]))))) (sRet (eC (.bl false))) sNx) (R .no .no) = .nx (R .no .no) := by
        simp [R, h1, isT, hd.len, hlen]
      rw [seq_nx q1]
      have items : iZp (eVar 4) (eVar 0) (R .no .no) = .ok ((xs.zip cs).map fun p => .tup [p.1, .int p.2]) (R .no .no) := by
        rw [it_zip (f := eVar 4) (g := eVar 0) (x := .tup xs) (y := d) rfl rfl rfl hd, zipD_int]
      obtain ⟨ρ', hI', e'⟩ := forL_find (g := gS 2 (gsCons (gN 5) (gsCons (gN 6) gsNil))) (b := sIf (tOrB (tNotB (eT (e1 (dIsi "int") (.ev (eVar 5))))) (tOrB (eT (e1 (dIsi "bool") (.ev (eVar 5)))) (tOrB (eT (e2 dLt (.ev (eVar 5)) (.ev (eC (.int 0))))) (eT (e2 dGt (.ev (eVar 5)) (.ev (eVar 6))))))) (sRet (eC (.bl false))) sNx)
        (fun ρ => ρ = R .no .no ∨ ∃ a b : D, ρ = R (.va a) (.va b)) (fun p : D × Int => .tup [p.1, .int p.2]) (fun p => !isX p.1 (p.2 + 1)) (.bl false) (xs.zip cs) (R .no .no) (.inl rfl) fun p hp ρ hI => by
          have hx := allD_items hv rfl p.1 (List.of_mem_zip hp).1
          have k1 := isi_int (allD_dat hx)
          have k2 := isi_bool (allD_dat hx)
          refine ⟨R (.va p.1) (.va (.int p.2)), R (.va p.1) (.va (.int p.2)), ?_, .inr ⟨_, _, rfl⟩, ?_⟩
          · rcases hI with rfl | ⟨a, b, rfl⟩ <;> simp [R, gS, dItems, gsCons, gN, gsNil, isIo]
          · obtain ⟨x, c⟩ := p
            cases x with
            | int i =>
              by_cases hi : i < 0
              · have : ¬ 0 ≤ i := by omega
                simp [R, k1, k2, isIB, isBo, dCmp, isX, hi, this]
              · have h0 : 0 ≤ i := by omega
                by_cases hc : c < i
                · have : ¬ i < c + 1 := by omega
                  simp [R, k1, k2, isIB, isBo, dCmp, isX, hi, h0, hc, this]
                · have : i < c + 1 := by omega
                  simp [R, k1, k2, isIB, isBo, dCmp, isX, hi, h0, hc, this]
            | bl b => simp [R, k1, k2, isIB, isBo, isX]
            | _ => simp [R, k1, isIB, isX]
      have out : outIo 5 ρ' = [.no, .no, .no, .no, .no] := by
        rcases hI' with rfl | ⟨a, b, rfl⟩ <;> rfl
      have hall := rowB_ints xs cs hlen
      have q2 : sFor (iZp (eVar 4) (eVar 0)) (gS 2 (gsCons (gN 5) (gsCons (gN 6) gsNil))) (sIf (tOrB (tNotB (eT (e1 (dIsi "int") (.ev (eVar 5))))) (tOrB (eT (e1 (dIsi "bool") (.ev (eVar 5)))) (tOrB (eT (e2 dLt (.ev (eVar 5)) (.ev (eC (.int 0))))) (eT (e2 dGt (.ev (eVar 5)) (.ev (eVar 6))))))) (sRet (eC (.bl false))) sNx) (R .no .no) = if ((xs.zip cs).any fun p => !isX p.1 (p.2 + 1)) = true then .rt (.bl false) ρ' else .nx ρ' := by
        rw [sFor_def, items, fl_ok]
        exact e'
      have anyall : ((xs.zip cs).any fun p => !isX p.1 (p.2 + 1)) = !((xs.zip cs).all fun p => isX p.1 (p.2 + 1)) := by
        rw [List.all_eq_not_any_not, Bool.not_not]
      rw [anyall, hall] at q2
      cases e : asIs xs with
      | none =>
        rw [e] at q2
        have e3 : rowOK cs ws low high (.tup xs) = false := by
          rw [rowOK_tup, e]
        rw [e3]
        exact ⟨ρ', seq_rt q2, out⟩
      | some ns =>
        rw [e] at q2
        dsimp only at q2
        have hlen2 := asIs_len e
        have e3 : rowOK cs ws low high (.tup xs) = (decide (ns.length = cs.length) && (boxB ns cs && (decide (low ≤ wgt ws ns) && decide (wgt ws ns ≤ high)))) := by
          rw [rowOK_tup, e]
        rw [e3, decide_eq_true (show ns.length = cs.length by omega), Bool.true_and]
        cases hb : boxB ns cs with
        | false =>
          simp only [hb, Bool.not_false, Bool.not_true, if_true, Bool.false_eq_true, if_false] at q2
          exact ⟨ρ', seq_rt q2, out⟩
        | true =>
          simp only [hb, Bool.not_false, Bool.not_true, if_true, Bool.false_eq_true, if_false] at q2
          have q3 : sFor (iZp (eVar 4) (eVar 0)) (gS 2 (gsCons (gN 5) (gsCons (gN 6) gsNil))) (sIf (tOrB (tNotB (eT (e1 (dIsi "int") (.ev (eVar 5))))) (tOrB (eT (e1 (dIsi "bool") (.ev (eVar 5)))) (tOrB (eT (e2 dLt (.ev (eVar 5)) (.ev (eC (.int 0))))) (eT (e2 dGt (.ev (eVar 5)) (.ev (eVar 6))))))) (sRet (eC (.bl false))) sNx) (R .no .no) = .nx ρ' := q2
          rw [seq_nx q3]
          have hw' := v__law_weighed (d := w) (v := .tup xs) hw (show SqI (.tup xs) ns by unfold SqI; rw [asIs_eq e]; rfl) (by have := z.lc; have := z.lw; omega) z.wS (box_mem (by omega) hb fun c hc => (z.c c hc).2)
          refine ⟨ρ', ?_, out⟩
          rw [Bool.true_and]
          have e2' : eVar 2 ρ' = .ok (.int low) ρ' := by rcases hI' with rfl | ⟨a, b, rfl⟩ <;> rfl
          have e1' : eVar 1 ρ' = .ok w ρ' := by rcases hI' with rfl | ⟨a, b, rfl⟩ <;> rfl
          have e3' : eVar 3 ρ' = .ok (.int high) ρ' := by rcases hI' with rfl | ⟨a, b, rfl⟩ <;> rfl
          have e4' : eVar 4 ρ' = .ok (.tup xs) ρ' := by rcases hI' with rfl | ⟨a, b, rfl⟩ <;> rfl
          by_cases hlo : low ≤ wgt ws ns
          · simp [eChain, e1', e2', e3', e4', outR2 _ hw', dCmp, hlo]
          · simp [eChain, e1', e2', e4', outR2 _ hw', dCmp, hlo]
    · have hlen' : ¬ ((xs.length : Int) = cs.length) := by omega
      refine ⟨R .no .no, seq_rt ?_, rfl⟩
      have e3 : rowOK cs ws low high (.tup xs) = false := by
        rw [rowOK_tup]
        cases e : asIs xs with
        | none => rfl
        | some ns =>
          have := asIs_len e
          simp only
          rw [decide_eq_false (by omega)]
          rfl
      rw [e3]
      simp [R, h1, isT, hd.len, hlen']
  | _ =>
    refine ⟨R .no .no, seq_rt ?_, rfl⟩
    simp [R, h1, isT, rowOK]
end Ma
end

section
set_option maxRecDepth 100000
set_option linter.all false
set_option exponentiation.threshold 100000
namespace Ma
open PySem PySem.Spec PyProof.Rows L2 DL Wk
def numsOf : D → List Int
  | .tup xs => (asIs xs).getD []
  | _ => []
theorem rowOK_of {cs ws : List Int} {low high : Int} {v : D} (h : rowOK cs ws low high v = true) : v = .tup ((numsOf v).map .int) ∧ (numsOf v).length = cs.length ∧ boxB (numsOf v) cs = true ∧ low ≤ wgt ws (numsOf v) ∧ wgt ws (numsOf v) ≤ high := by
  cases v with
  | tup xs =>
    rw [rowOK_tup] at h
    cases e : asIs xs with
    | none =>
      rw [e] at h
      cases h
    | some ns =>
      rw [e] at h
      simp only [Bool.and_eq_true, decide_eq_true_eq] at h
      have e2 : numsOf (.tup xs) = ns := by
        show (asIs xs).getD [] = ns
        rw [e]
        rfl
      rw [e2]
      exact ⟨by rw [asIs_eq e], h.1, h.2.1, h.2.2.1, h.2.2.2⟩
  | _ => cases h
def upK (n : Nat) (xs ys : List Int) : List Nat := (List.range n).filter fun k => decide (Nu.at_ xs k < Nu.at_ ys k)
def cutB (ws : List Int) (low high : Int) (n : Nat) (xs ys : List Int) : Bool := match upK n xs ys, upK n ys xs with
  | [u], [v] => decide (high < wgt ws xs + Nu.at_ ws u) && decide (wgt ws xs - Nu.at_ ws v < low)
  | _, _ => false
def cutV (cs ws : List Int) (low high : Int) : D → Bool
  | .tup [p, q] => rowOK cs ws low high p && (rowOK cs ws low high q && cutB ws low high cs.length (numsOf p) (numsOf q))
  | _ => false
theorem ix_at {d : D} {ns : List Int} {i : Nat} (h : SqI d ns) (hi : i < ns.length) : dIx d (.int (i : Int)) = some (.int (Nu.at_ ns i)) := by
  refine ix_sq h ?_
  rw [List.getElem?_eq_getElem hi]
  simp [Nu.at_, List.getD, List.getElem?_eq_getElem hi]
/-- [key for key in range(len(x)) if ..] -/
theorem keys_comp {ρ : Env'} {k n : Nat} {d : D} {cond : EM Bool} (p : Nat → Bool) (hd : eVar 0 ρ = .ok d ρ) (hl : dLen d = some (.int n)) (hn : n < 1000) (hw : notOw ρ[k]? = true)
    (hs : ∀ i, i < n → stepC [k] (gN k) cond (eVar k) (.int (i : Int)) ρ = .ok (if p i = true then some (.int (i : Int)) else none) ρ) : eComp (iR1 (.ev (eB (on1 dLen) [.ev (eVar 0)]))) [k] (gN k) cond (eVar k) ρ = .ok (((List.range n).filter p).map fun i : Nat => D.int (i : Int)) ρ := by
  have h1 : eB (on1 dLen) [.ev (eVar 0)] ρ = .ok (.int n) ρ := by
    rw [eB_1, hd, bind_ok, hl, lift_some]
  refine comp_filt (fun i : Nat => D.int (i : Int)) p (fun i => .int (i : Int)) ?_ (by simpa using hw) (by rw [List.length_range]; omega) fun i hi => hs i (List.mem_range.mp hi)
  rw [it_rng h1 (by omega) (by omega)]
  unfold rngD
  congr 1
  rw [Int.toNat_natCast]
  refine List.map_congr_left fun i _ => ?_
  rw [Int.zero_add]
theorem cut_end {ws : List Int} {low high : Int} {n : Nat} {xs ys : List Int} {u v : Nat} (h1 : upK n xs ys = [u]) (h2 : upK n ys xs = [v]) : cutB ws low high n xs ys = (decide (high < wgt ws xs + Nu.at_ ws u) && decide (wgt ws xs - Nu.at_ ws v < low)) := by
  unfold cutB
  rw [h1, h2]
theorem cut_no {ws : List Int} {low high : Int} {n : Nat} {xs ys : List Int} (h : ¬ ((upK n xs ys).length = 1 ∧ (upK n ys xs).length = 1)) : cutB ws low high n xs ys = false := by
  unfold cutB
  split
  · rename_i e1 e2
    rw [e1, e2] at h
    exact absurd ⟨rfl, rfl⟩ h
  · rfl
theorem one_of {α : Type} {l : List α} (h : l.length = 1) : ∃ a, l = [a] := by
  match l, h with
  | [a], _ => exact ⟨a, rfl⟩
theorem upK_mem {n : Nat} {xs ys : List Int} {u : Nat} (h : upK n xs ys = [u]) : u < n := by
  have : u ∈ upK n xs ys := by rw [h]; exact List.mem_cons_self
  exact List.mem_range.mp (List.mem_filter.mp this).1
theorem v__law_cut {d w v : D} {cs ws : List Int} {low high : Int} (hd : SqI d cs) (hw : SqI w ws) (hv : allD v = true) (z : Szs cs ws) : s__law_cut [.va d, .va w, .va (.int low), .va (.int high), .va v] = .ok (.bl (cutV cs ws low high v)) [.no, .no, .no, .no, .no] := by
  suffices h : ∃ ρ, b__law_cut [.va d, .va w, .va (.int low), .va (.int high), .va v, .no, .no, .no, .no, .no, .no] = .rt (.bl (cutV cs ws low high v)) ρ ∧ outIo 5 ρ = [.no, .no, .no, .no, .no] by
    obtain ⟨ρ, a, b⟩ := h
    have z := run_rt (n := 5) (N := 11) (b := b__law_cut) (ps := [.va d, .va w, .va (.int low), .va (.int high), .va v]) a
    rw [b] at z
    exact z
  unfold b__law_cut
  have h1 := isi_tuple (allD_dat hv)
  let R0 : Env' := [.va d, .va w, .va (.int low), .va (.int high), .va v, .no, .no, .no, .no, .no, .no]
  cases v with
  | tup vs =>
    by_cases hlen : vs.length = 2
    · match vs, hlen with
      | [p, q], _ =>
        have q1 : (sIf (tOrB (tNotB (eT (e1 (dIsi "tuple") (.ev (eVar 4))))) (eT (e2 dNe (.ev (eB (on1 dLen) [(.ev (eVar 4))])) (.ev (eC (.int 2)))))) (sRet (eC (.bl false))) sNx) [.va d, .va w, .va (.int low), .va (.int high), .va (.tup [p, q]), .no, .no, .no, .no, .no, .no] = .nx [.va d, .va w, .va (.int low), .va (.int high), .va (.tup [p, q]), .no, .no, .no, .no, .no, .no] := by
          simp [h1, isT]
        rw [seq_nx q1]
        let R1 : Env' := [.va d, .va w, .va (.int low), .va (.int high), .va (.tup [p, q]), .va p, .va q, .no, .no, .no, .no]
        have q2 : sAsg (eVar 4) (gS 2 (gsCons (gN 5) (gsCons (gN 6) gsNil))) [.va d, .va w, .va (.int low), .va (.int high), .va (.tup [p, q]), .no, .no, .no, .no, .no, .no] = .nx R1 := by
          simp [sAsg, gS, dItems, gsCons, gN, gsNil, isIo, R1]
        rw [seq_nx q2]
        have dp := allD_items hv rfl p (by simp)
        have dq := allD_items hv rfl q (by simp)
        have vp := v__law_allowed (low := low) (high := high) hd hw dp z
        have vq := v__law_allowed (low := low) (high := high) hd hw dq z
        have ecut : cutV cs ws low high (.tup [p, q]) = (rowOK cs ws low high p && (rowOK cs ws low high q && cutB ws low high cs.length (numsOf p) (numsOf q))) := rfl
        rw [ecut]
        cases ep : rowOK cs ws low high p with
        | false =>
          rw [ep] at vp
          refine ⟨R1, seq_rt ?_, rfl⟩
          simp [R1, outR5 _ vp]
        | true =>
          rw [ep] at vp
          cases eq : rowOK cs ws low high q with
          | false =>
            rw [eq] at vq
            refine ⟨R1, seq_rt ?_, rfl⟩
            simp [R1, outR5 _ vp, outR5 _ vq]
          | true =>
            rw [eq] at vq
            have q3 : (sIf (tOrB (tNotB (eT (eCall s__law_allowed [(.ev (eVar 0)), (.ev (eVar 1)), (.ev (eVar 2)), (.ev (eVar 3)), (.ev (eVar 5))]))) (tNotB (eT (eCall s__law_allowed [(.ev (eVar 0)), (.ev (eVar 1)), (.ev (eVar 2)), (.ev (eVar 3)), (.ev (eVar 6))])))) (sRet (eC (.bl false))) sNx) R1 = .nx R1 := by
              simp [R1, outR5 _ vp, outR5 _ vq]
            rw [seq_nx q3]
            obtain ⟨p1, p2, p3, p4, p5⟩ := rowOK_of ep
            obtain ⟨r1, r2, r3, r4, r5⟩ := rowOK_of eq
            have sp : SqI p (numsOf p) := by
              have := sqI_tup (numsOf p)
              rwa [← p1] at this
            have sq : SqI q (numsOf q) := by
              have := sqI_tup (numsOf q)
              rwa [← r1] at this
            have hlc := z.lc
            let U : D := .lst ((upK cs.length (numsOf p) (numsOf q)).map fun i : Nat => D.int (i : Int))
            let V : D := .lst ((upK cs.length (numsOf q) (numsOf p)).map fun i : Nat => D.int (i : Int))
            let R2 : Env' := [.va d, .va w, .va (.int low), .va (.int high), .va (.tup [p, q]), .va p, .va q, .va U, .no, .no, .no]
            let R3 : Env' := [.va d, .va w, .va (.int low), .va (.int high), .va (.tup [p, q]), .va p, .va q, .va U, .va V, .no, .no]
            have q4 : sSet 7 (eL (eComp (iR1 (.ev (eB (on1 dLen) [(.ev (eVar 0))]))) [10] (gN 10) (eT (e2 dLt (.ev (e2 dIx (.ev (eVar 5)) (.ev (eVar 10)))) (.ev (e2 dIx (.ev (eVar 6)) (.ev (eVar 10)))))) (eVar 10))) R1 = .nx R2 := by
              rw [sSet_def, eL_def, keys_comp (fun k => decide (Nu.at_ (numsOf p) k < Nu.at_ (numsOf q) k)) (eVar_0 _ _) hd.len hlc rfl fun i hi => ?_]
              · rfl
              · have i1 := ix_at (i := i) sp (by omega)
                have i2 := ix_at (i := i) sq (by omega)
                by_cases hlt : Nu.at_ (numsOf p) i < Nu.at_ (numsOf q) i <;> simp [stepC, wipeR, gN, isIo, restore, R1, i1, i2, dCmp, hlt]
            rw [seq_nx q4]
            have q5 : sSet 8 (eL (eComp (iR1 (.ev (eB (on1 dLen) [(.ev (eVar 0))]))) [10] (gN 10) (eT (e2 dGt (.ev (e2 dIx (.ev (eVar 5)) (.ev (eVar 10)))) (.ev (e2 dIx (.ev (eVar 6)) (.ev (eVar 10)))))) (eVar 10))) R2 = .nx R3 := by
              rw [sSet_def, eL_def, keys_comp (fun k => decide (Nu.at_ (numsOf q) k < Nu.at_ (numsOf p) k)) (eVar_0 _ _) hd.len hlc rfl fun i hi => ?_]
              · rfl
              · have i1 := ix_at (i := i) sp (by omega)
                have i2 := ix_at (i := i) sq (by omega)
                by_cases hlt : Nu.at_ (numsOf q) i < Nu.at_ (numsOf p) i <;> simp [stepC, wipeR, gN, isIo, restore, R2, i1, i2, dCmp, hlt]
            rw [seq_nx q5]
            have lU : dLen U = some (.int (upK cs.length (numsOf p) (numsOf q)).length) := by simp [U]
            have lV : dLen V = some (.int (upK cs.length (numsOf q) (numsOf p)).length) := by simp [V]
            by_cases hb : (upK cs.length (numsOf p) (numsOf q)).length = 1 ∧ (upK cs.length (numsOf q) (numsOf p)).length = 1
            · have q6 : (sIf (tOrB (eT (e2 dNe (.ev (eB (on1 dLen) [(.ev (eVar 7))])) (.ev (eC (.int 1))))) (eT (e2 dNe (.ev (eB (on1 dLen) [(.ev (eVar 8))])) (.ev (eC (.int 1)))))) (sRet (eC (.bl false))) sNx) R3 = .nx R3 := by
                simp [R3, lU, lV, hb.1, hb.2]
              rw [seq_nx q6]
              have hw' := v__law_weighed (d := w) (v := p) hw sp (by have := z.lw; omega) z.wS (box_mem p2 p3 fun c hc => (z.c c hc).2)
              let R4 : Env' := [.va d, .va w, .va (.int low), .va (.int high), .va (.tup [p, q]), .va p, .va q, .va U, .va V, .va (.int (wgt ws (numsOf p))), .no]
              have q7 : sSet 9 (eCall s__law_weighed [(.ev (eVar 1)), (.ev (eVar 5))]) R3 = .nx R4 := by
                simp [R3, R4, outR2 _ hw', putSl, isIo]
              rw [seq_nx q7]
              obtain ⟨u, eu⟩ := one_of hb.1
              obtain ⟨v', ev⟩ := one_of hb.2
              rw [cut_end eu ev]
              have hu := upK_mem eu
              have hv' := upK_mem ev
              have j1 : dIx U (.int 0) = some (.int (u : Int)) := by
                have : U = .lst ([(u : Int)].map .int) := by simp [U, eu]
                rw [this]
                exact ix0 (sqI_lst [(u : Int)])
              have j2 : dIx V (.int 0) = some (.int (v' : Int)) := by
                have : V = .lst ([(v' : Int)].map .int) := by simp [V, ev]
                rw [this]
                exact ix0 (sqI_lst [(v' : Int)])
              have j3 := ix_at (i := u) hw (by have := z.lw; omega)
              have j4 := ix_at (i := v') hw (by have := z.lw; omega)
              refine ⟨R4, ?_, rfl⟩
              by_cases hg : high < wgt ws (numsOf p) + Nu.at_ ws u
              · simp [R4, j1, j2, j3, j4, dCmp, hg]
              · simp [R4, j1, j3, dCmp, hg]
            · rw [cut_no hb]
              refine ⟨R3, seq_rt ?_, rfl⟩
              by_cases hb1 : (upK cs.length (numsOf p) (numsOf q)).length = 1
              · have hb2 : ¬ (upK cs.length (numsOf q) (numsOf p)).length = 1 := fun h => hb ⟨hb1, h⟩
                have hb3 : ¬ (((upK cs.length (numsOf q) (numsOf p)).length : Int) = 1) := by omega
                simp [R3, lU, lV, hb1, hb3]
              · have hb3 : ¬ (((upK cs.length (numsOf p) (numsOf q)).length : Int) = 1) := by omega
                simp [R3, lU, hb3]
    · have e3 : cutV cs ws low high (.tup vs) = false := by
        match vs, hlen with
        | [], _ => rfl
        | [_], _ => rfl
        | _ :: _ :: _ :: _, _ => rfl
        | [_, _], h => exact absurd rfl h
      rw [e3]
      have hlen' : ¬ ((vs.length : Int) = 2) := by omega
      refine ⟨[.va d, .va w, .va (.int low), .va (.int high), .va (.tup vs), .no, .no, .no, .no, .no, .no], seq_rt ?_, rfl⟩
      simp [h1, isT, hlen']
  | _ =>
    refine ⟨R0, seq_rt ?_, rfl⟩
    simp [R0, h1, isT, cutV]
end Ma
end

section
set_option maxRecDepth 100000
set_option linter.all false
set_option exponentiation.threshold 100000
namespace Ma
open PySem PySem.Spec PyProof.Rows L2 DL Wk
theorem rowOK_row {cs ws : List Int} {low high : Int} {v : D} : rowOK cs ws low high v = (isT v && (rowB cs v && (decide (low ≤ wgt ws (numsOf v)) && decide (wgt ws (numsOf v) ≤ high)))) := by
  cases v with
  | tup xs =>
    rw [rowOK_tup, rowB_tup]
    show _ = (true && _)
    rw [Bool.true_and]
    cases e : asIs xs with
    | none => rfl
    | some ns =>
      have e2 : numsOf (.tup xs) = ns := by
        show (asIs xs).getD [] = ns
        rw [e]
        rfl
      rw [e2]
      simp only [Bool.and_assoc]
  | _ => rfl
theorem v_is_cut {d w v : D} {cs ws : List Int} {low high : Int} (hd : SqI d cs) (hw : SqI w ws) (hv : allD v = true) (z : Szs cs ws) : s_is_cut [.va d, .va w, .va (.int low), .va (.int high), .va v] = .ok (.bl (cutV cs ws low high v)) [.no, .no, .no, .no, .no] := by
  suffices h : ∃ ρ, b_is_cut [.va d, .va w, .va (.int low), .va (.int high), .va v, .no, .no, .no, .no, .no, .no] = .rt (.bl (cutV cs ws low high v)) ρ ∧ outIo 5 ρ = [.no, .no, .no, .no, .no] by
    obtain ⟨ρ, a, b⟩ := h
    have z := run_rt (n := 5) (N := 11) (b := b_is_cut) (ps := [.va d, .va w, .va (.int low), .va (.int high), .va v]) a
    rw [b] at z
    exact z
  unfold b_is_cut
  have h1 := isi_tuple (allD_dat hv)
  let R0 : Env' := [.va d, .va w, .va (.int low), .va (.int high), .va v, .no, .no, .no, .no, .no, .no]
  cases v with
  | tup vs =>
    by_cases hlen : vs.length = 2
    · match vs, hlen with
      | [p, q], _ =>
        let R (a : Sl) : Env' := [.va d, .va w, .va (.int low), .va (.int high), .va (.tup [p, q]), a, .no, .no, .no, .no, .no]
        have q1 : (sIf (tOrB (tNotB (eT (e1 (dIsi "tuple") (.ev (eVar 4))))) (eT (e2 dNe (.ev (eB (on1 dLen) [(.ev (eVar 4))])) (.ev (eC (.int 2)))))) (sRet (eC (.bl false))) sNx) [.va d, .va w, .va (.int low), .va (.int high), .va (.tup [p, q]), .no, .no, .no, .no, .no, .no] = .nx (R .no) := by
          simp [R, h1, isT]
        rw [seq_nx q1]
        have dp := allD_items hv rfl p (by simp)
        have dq := allD_items hv rfl q (by simp)
        have ecut : cutV cs ws low high (.tup [p, q]) = (rowOK cs ws low high p && (rowOK cs ws low high q && cutB ws low high cs.length (numsOf p) (numsOf q))) := rfl
        have hlc := z.lc
        obtain ⟨ρ', hI', e'⟩ := forL_find (g := gN 5) (b := (sIf (tOrB (tNotB (eT (e1 (dIsi "tuple") (.ev (eVar 5))))) (tOrB (tNotB (eT (eCall s_is_row_below [(.ev (eVar 0)), (.ev (eVar 5))]))) (tNotB (eT (eChain dLe dLe (eVar 2) (eCall s_weighed [(.ev (eVar 1)), (.ev (eVar 5))]) (eVar 3)))))) (sRet (eC (.bl false))) sNx))
          (fun ρ => ρ = R .no ∨ ∃ a : D, ρ = R (.va a)) (fun r : D => r) (fun r => !rowOK cs ws low high r) (.bl false) [p, q] (R .no) (.inl rfl) fun r hr ρ hI => by
            have dr : allD r = true := by
              rcases List.mem_cons.mp hr with h | h
              · rw [h]; exact dp
              · rw [List.mem_singleton.mp h]; exact dq
            have k1 := isi_tuple (allD_dat dr)
            have k2 := v_is_row_below hd dr (by omega)
            refine ⟨R (.va r), R (.va r), ?_, .inr ⟨_, rfl⟩, ?_⟩
            · rcases hI with rfl | ⟨a, rfl⟩ <;> simp [R, gN, isIo]
            · rw [rowOK_row]
              cases ht : isT r with
              | false => simp [R, k1, ht]
              | true =>
                cases hb : rowB cs r with
                | false =>
                  rw [hb] at k2
                  simp [R, k1, ht, outR2 _ k2]
                | true =>
                  rw [hb] at k2
                  have hr : r = .tup ((numsOf r).map .int) ∧ (numsOf r).length = cs.length ∧ boxB (numsOf r) cs = true := by
                    cases r with
                    | tup xs =>
                      rw [rowB_tup] at hb
                      cases e : asIs xs with
                      | none =>
                        rw [e] at hb
                        cases hb
                      | some ns =>
                        rw [e] at hb
                        simp only [Bool.and_eq_true, decide_eq_true_eq] at hb
                        have e2 : numsOf (.tup xs) = ns := by
                          show (asIs xs).getD [] = ns
                          rw [e]
                          rfl
                        rw [e2]
                        exact ⟨by rw [asIs_eq e], hb.1, hb.2⟩
                    | _ => cases ht
                  have sr : SqI r (numsOf r) := by
                    have := sqI_tup (numsOf r)
                    rwa [← hr.1] at this
                  have k3 := v_weighed hw sr (by have := z.lw; omega) z.wS (box_mem hr.2.1 hr.2.2 fun c hc => (z.c c hc).2)
                  by_cases hlo : low ≤ wgt ws (numsOf r)
                  · by_cases hhi : wgt ws (numsOf r) ≤ high
                    · simp [R, k1, ht, outR2 _ k2, eChain, outR2 _ k3, dCmp, hlo, hhi]
                    · simp [R, k1, ht, outR2 _ k2, eChain, outR2 _ k3, dCmp, hlo, hhi]
                  · simp [R, k1, ht, outR2 _ k2, eChain, outR2 _ k3, dCmp, hlo]
        have out : outIo 5 ρ' = [.no, .no, .no, .no, .no] := by
          rcases hI' with rfl | ⟨a, rfl⟩ <;> rfl
        have q2 : (sFor (iS (eVar 4)) (gN 5) (sIf (tOrB (tNotB (eT (e1 (dIsi "tuple") (.ev (eVar 5))))) (tOrB (tNotB (eT (eCall s_is_row_below [(.ev (eVar 0)), (.ev (eVar 5))]))) (tNotB (eT (eChain dLe dLe (eVar 2) (eCall s_weighed [(.ev (eVar 1)), (.ev (eVar 5))]) (eVar 3)))))) (sRet (eC (.bl false))) sNx)) (R .no) = if ([p, q].any fun r => !rowOK cs ws low high r) = true then .rt (.bl false) ρ' else .nx ρ' := by
          rw [sFor_def, it_seq (f := eVar 4) (x := .tup [p, q]) (xs := [p, q]) rfl rfl, fl_ok]
          exact e'
        cases ep : rowOK cs ws low high p with
        | false =>
          simp only [List.any_cons, ep, Bool.not_false, Bool.true_or, if_true] at q2
          rw [ecut, ep]
          exact ⟨ρ', seq_rt q2, out⟩
        | true =>
          cases eq : rowOK cs ws low high q with
          | false =>
            simp only [List.any_cons, ep, eq, Bool.not_false, Bool.not_true, Bool.false_or, Bool.true_or, if_true] at q2
            rw [ecut, ep, eq]
            exact ⟨ρ', seq_rt q2, out⟩
          | true =>
            simp only [List.any_cons, List.any_nil, ep, eq, Bool.not_true, Bool.false_or, Bool.false_eq_true, if_false] at q2
            rw [seq_nx q2, ecut, ep, eq, Bool.true_and, Bool.true_and]
            have hf : ∃ a : Sl, isIo (some a) = false ∧ ρ' = R a := by
              rcases hI' with rfl | ⟨a, rfl⟩
              · exact ⟨.no, rfl, rfl⟩
              · exact ⟨.va a, rfl, rfl⟩
            obtain ⟨a, ha, rfl⟩ := hf
            let R1 : Env' := [.va d, .va w, .va (.int low), .va (.int high), .va (.tup [p, q]), a, .va p, .va q, .no, .no, .no]
            have q3 : sAsg (eVar 4) (gS 2 (gsCons (gN 6) (gsCons (gN 7) gsNil))) (R a) = .nx R1 := by
              simp [sAsg, gS, dItems, gsCons, gN, gsNil, isIo, R, R1]
            rw [seq_nx q3]
            obtain ⟨p1, p2, p3, p4, p5⟩ := rowOK_of ep
            obtain ⟨r1, r2, r3, r4, r5⟩ := rowOK_of eq
            have sp : SqI p (numsOf p) := by
              have := sqI_tup (numsOf p)
              rwa [← p1] at this
            have sq : SqI q (numsOf q) := by
              have := sqI_tup (numsOf q)
              rwa [← r1] at this
            let U : D := .lst ((upK cs.length (numsOf p) (numsOf q)).map fun i : Nat => D.int (i : Int))
            let V : D := .lst ((upK cs.length (numsOf q) (numsOf p)).map fun i : Nat => D.int (i : Int))
            let R2 : Env' := [.va d, .va w, .va (.int low), .va (.int high), .va (.tup [p, q]), a, .va p, .va q, .va U, .no, .no]
            let R3 : Env' := [.va d, .va w, .va (.int low), .va (.int high), .va (.tup [p, q]), a, .va p, .va q, .va U, .va V, .no]
            have q4 : sSet 8 (eL (eComp (iR1 (.ev (eB (on1 dLen) [(.ev (eVar 0))]))) [10] (gN 10) (eT (e2 dGt (.ev (e2 dIx (.ev (eVar 7)) (.ev (eVar 10)))) (.ev (e2 dIx (.ev (eVar 6)) (.ev (eVar 10)))))) (eVar 10))) R1 = .nx R2 := by
              rw [sSet_def, eL_def, keys_comp (fun k => decide (Nu.at_ (numsOf p) k < Nu.at_ (numsOf q) k)) (eVar_0 _ _) hd.len hlc rfl fun i hi => ?_]
              · rfl
              · have i1 := ix_at (i := i) sp (by omega)
                have i2 := ix_at (i := i) sq (by omega)
                by_cases hlt : Nu.at_ (numsOf p) i < Nu.at_ (numsOf q) i <;> simp [stepC, wipeR, gN, isIo, restore, R1, i1, i2, dCmp, hlt]
            rw [seq_nx q4]
            have q5 : sSet 9 (eL (eComp (iR1 (.ev (eB (on1 dLen) [(.ev (eVar 0))]))) [10] (gN 10) (eT (e2 dLt (.ev (e2 dIx (.ev (eVar 7)) (.ev (eVar 10)))) (.ev (e2 dIx (.ev (eVar 6)) (.ev (eVar 10)))))) (eVar 10))) R2 = .nx R3 := by
              rw [sSet_def, eL_def, keys_comp (fun k => decide (Nu.at_ (numsOf q) k < Nu.at_ (numsOf p) k)) (eVar_0 _ _) hd.len hlc rfl fun i hi => ?_]
              · rfl
              · have i1 := ix_at (i := i) sp (by omega)
                have i2 := ix_at (i := i) sq (by omega)
                by_cases hlt : Nu.at_ (numsOf q) i < Nu.at_ (numsOf p) i <;> simp [stepC, wipeR, gN, isIo, restore, R2, i1, i2, dCmp, hlt]
            rw [seq_nx q5]
            have lU : dLen U = some (.int (upK cs.length (numsOf p) (numsOf q)).length) := by simp [U]
            have lV : dLen V = some (.int (upK cs.length (numsOf q) (numsOf p)).length) := by simp [V]
            by_cases hb : (upK cs.length (numsOf p) (numsOf q)).length = 1 ∧ (upK cs.length (numsOf q) (numsOf p)).length = 1
            · have q6 : (sIf (tOrB (eT (e2 dNe (.ev (eB (on1 dLen) [(.ev (eVar 8))])) (.ev (eC (.int 1))))) (eT (e2 dNe (.ev (eB (on1 dLen) [(.ev (eVar 9))])) (.ev (eC (.int 1)))))) (sRet (eC (.bl false))) sNx) R3 = .nx R3 := by
                simp [R3, lU, lV, hb.1, hb.2]
              rw [seq_nx q6]
              have hw' := v_weighed hw sp (by have := z.lw; omega) z.wS (box_mem p2 p3 fun c hc => (z.c c hc).2)
              obtain ⟨u, eu⟩ := one_of hb.1
              obtain ⟨v', ev⟩ := one_of hb.2
              rw [cut_end eu ev]
              have hu := upK_mem eu
              have hv' := upK_mem ev
              have j1 : dIx U (.int 0) = some (.int (u : Int)) := by
                have : U = .lst ([(u : Int)].map .int) := by simp [U, eu]
                rw [this]
                exact ix0 (sqI_lst [(u : Int)])
              have j2 : dIx V (.int 0) = some (.int (v' : Int)) := by
                have : V = .lst ([(v' : Int)].map .int) := by simp [V, ev]
                rw [this]
                exact ix0 (sqI_lst [(v' : Int)])
              have j3 := ix_at (i := u) hw (by have := z.lw; omega)
              have j4 := ix_at (i := v') hw (by have := z.lw; omega)
              refine ⟨R3, ?_, rfl⟩
              by_cases hg : high < wgt ws (numsOf p) + Nu.at_ ws u
              · simp [R3, j1, j2, j3, j4, dCmp, hg, outR2 _ hw']
              · simp [R3, j1, j3, dCmp, hg, outR2 _ hw']
            · rw [cut_no hb]
              refine ⟨R3, seq_rt ?_, rfl⟩
              by_cases hb1 : (upK cs.length (numsOf p) (numsOf q)).length = 1
              · have hb2 : ¬ (upK cs.length (numsOf q) (numsOf p)).length = 1 := fun h => hb ⟨hb1, h⟩
                have hb3 : ¬ (((upK cs.length (numsOf q) (numsOf p)).length : Int) = 1) := by omega
                simp [R3, lU, lV, hb1, hb3]
              · have hb3 : ¬ (((upK cs.length (numsOf p) (numsOf q)).length : Int) = 1) := by omega
                simp [R3, lU, hb3]
    · have e3 : cutV cs ws low high (.tup vs) = false := by
        match vs, hlen with
        | [], _ => rfl
        | [_], _ => rfl
        | _ :: _ :: _ :: _, _ => rfl
        | [_, _], h => exact absurd rfl h
      rw [e3]
      have hlen' : ¬ ((vs.length : Int) = 2) := by omega
      refine ⟨[.va d, .va w, .va (.int low), .va (.int high), .va (.tup vs), .no, .no, .no, .no, .no, .no], seq_rt ?_, rfl⟩
      simp [h1, isT, hlen']
  | _ =>
    refine ⟨R0, seq_rt ?_, rfl⟩
    simp [R0, h1, isT, cutV]
end Ma
end

section
set_option maxRecDepth 100000
set_option linter.all false
set_option exponentiation.threshold 100000
namespace Ma
open PySem PySem.Spec PyProof.Rows L2 DL Wk
theorem wgt_two (w0 w1 x y : Int) : wgt [w0, w1] [x, y] = w0 * x + w1 * y := by
  show w0 * x + (w1 * y + 0) = _
  omega
theorem rowOK_two {c0 c1 w0 w1 low high x y : Int} : rowOK [c0, c1] [w0, w1] low high (prD (x, y)) = true ↔ Nu.Al c0 c1 w0 w1 low high x y := by
  have e : rowOK [c0, c1] [w0, w1] low high (prD (x, y)) = (decide (2 = 2) && (boxB [x, y] [c0, c1] && (decide (low ≤ wgt [w0, w1] [x, y]) && decide (wgt [w0, w1] [x, y] ≤ high)))) := rfl
  have b : boxB [x, y] [c0, c1] = ((decide (0 ≤ x) && decide (x ≤ c0)) && ((decide (0 ≤ y) && decide (y ≤ c1)) && true)) := rfl
  rw [e, b, wgt_two]
  simp only [Bool.and_eq_true, decide_eq_true_eq]
  constructor
  · rintro ⟨_, ⟨⟨h1, h2⟩, ⟨h3, h4⟩, _⟩, h5, h6⟩
    exact ⟨h1, h2, h3, h4, h5, h6⟩
  · rintro ⟨h1, h2, h3, h4, h5, h6⟩
    exact ⟨trivial, ⟨⟨h1, h2⟩, ⟨h3, h4⟩, trivial⟩, h5, h6⟩
theorem upK_two (x y x' y' : Int) : upK 2 [x, y] [x', y'] = (if x < x' then [0] else []) ++ (if y < y' then [1] else []) := by
  have e : List.range 2 = [0, 1] := rfl
  unfold upK
  rw [e]
  by_cases h1 : x < x' <;> by_cases h2 : y < y' <;> simp [List.filter, Nu.at_, List.getD, h1, h2]
theorem cut_two {c0 c1 w0 w1 low high x1 y1 x2 y2 : Int} (c : Nu.Cut c0 c1 w0 w1 low high x1 y1 x2 y2) : cutV [c0, c1] [w0, w1] low high (.tup [prD (x1, y1), prD (x2, y2)]) = true := by
  have e : cutV [c0, c1] [w0, w1] low high (.tup [prD (x1, y1), prD (x2, y2)]) = (rowOK [c0, c1] [w0, w1] low high (prD (x1, y1)) && (rowOK [c0, c1] [w0, w1] low high (prD (x2, y2)) && cutB [w0, w1] low high 2 [x1, y1] [x2, y2])) := rfl
  have h1 := c.up
  have h2 := c.down
  have h3 := c.hi
  have h4 := c.lo
  have u : upK 2 [x1, y1] [x2, y2] = [0] := by
    rw [upK_two, if_pos h1, if_neg (by omega)]
    rfl
  have v : upK 2 [x2, y2] [x1, y1] = [1] := by
    rw [upK_two, if_neg (by omega), if_pos h2]
    rfl
  rw [e, rowOK_two.mpr c.one, rowOK_two.mpr c.other, cut_end u v, wgt_two]
  show (true && (true && (decide (high < w0 * x1 + w1 * y1 + w0) && decide (w0 * x1 + w1 * y1 - w1 < low)))) = true
  rw [decide_eq_true h3, decide_eq_true h4]
  rfl
theorem SqI.tup {d : D} {ns : List Int} (h : SqI d ns) : dTuple d = some (.tup (ns.map .int)) := by
  unfold SqI at h
  unfold dTuple
  rw [h]
  rfl
theorem SqI.lst {d : D} {ns : List Int} (h : SqI d ns) : dList d = some (.lst (ns.map .int)) := by
  unfold SqI at h
  unfold dList
  rw [h]
  rfl
theorem Two.szs {c0 c1 w0 w1 low high : Int} (T : Two c0 c1 w0 w1 low high) : Szs [c0, c1] [w0, w1] := by
  have ⟨t1, t2, t3, t4, t5, t6, t7, t8, t9, t10, t11, t12⟩ := T
  have b : (2 : Int) ^ 190 < 2 ^ 1000 := by decide +kernel
  refine ⟨fun c hc => ?_, fun w hw => ?_, show 2 < 1000 by decide, rfl⟩
  · rcases List.mem_cons.mp hc with h | h
    · omega
    · have := List.mem_singleton.mp h
      omega
  · rcases List.mem_cons.mp hw with h | h
    · omega
    · have := List.mem_singleton.mp h
      omega
theorem v__law_two {d w : D} {c0 c1 w0 w1 low high : Int} {r : Option ((Int × Int) × (Int × Int))} {j : Bool} (hd : SqI d [c0, c1]) (hw : SqI w [w0, w1]) (T : Two c0 c1 w0 w1 low high) (e : Nu.tc 100 c0 c1 w0 w1 low high = some r) (hj : r.isNone = j) :
    s__law_two [.va d, .va w, .va (.int low), .va (.int high), .va (.bl j)] = .ok (.bl true) [.no, .no, .no, .no, .no] := by
  let R (a b : Sl) : Env' := [.va d, .va w, .va (.int low), .va (.int high), .va (.bl j), a, b]
  suffices h : ∃ ρ, b__law_two (R .no .no) = .rt (.bl true) ρ ∧ outIo 5 ρ = [.no, .no, .no, .no, .no] by
    obtain ⟨ρ, a, b⟩ := h
    have z := run_rt (n := 5) (N := 7) (b := b__law_two) (ps := [.va d, .va w, .va (.int low), .va (.int high), .va (.bl j)]) a
    rw [b] at z
    exact z
  have ok := Nu.tc_ok T.w0p T.w1p T.c0p e
  have t1 : s_two_cut [.va (.tup [.int c0, .int c1]), .va w, .va (.int low), .va (.int high)] = .ok (oC r) [.no, .no, .no, .no] := v_two_cut (sqI_tup [c0, c1]) hw T e
  have t2 : s_two_cut [.va (.lst [.int c0, .int c1]), .va (.tup [.int w0, .int w1]), .va (.int low), .va (.int high)] = .ok (oC r) [.no, .no, .no, .no] := v_two_cut (sqI_lst [c0, c1]) (sqI_tup [w0, w1]) T e
  have hd1 : dTuple d = some (.tup [.int c0, .int c1]) := hd.tup
  have hd2 : dList d = some (.lst [.int c0, .int c1]) := hd.lst
  have hw1 : dTuple w = some (.tup [.int w0, .int w1]) := hw.tup
  unfold b__law_two
  have hit : iR1 (.ev (eC (.int 2))) (R .no .no) = .ok [.int 0, .int 1] (R .no .no) := it_rng rfl (by decide) (by decide)
  obtain ⟨ρ', e', i'⟩ := forL_all (g := gN 5) (b := (sSeq (sSet 6 (eIf (eT (e2 dEq (.ev (eVar 5)) (.ev (eC (.int 0))))) (eCall s_two_cut [(.ev (eB (on1 dTuple) [(.ev (eVar 0))])), (.ev (eVar 1)), (.ev (eVar 2)), (.ev (eVar 3))]) (eCallKw s_two_cut [3, 2, 1, 0] [] [(.ev (eVar 3)), (.ev (eVar 2)), (.ev (eB (on1 dTuple) [(.ev (eVar 1))])), (.ev (eB (on1 dList) [(.ev (eVar 0))]))])))
  (sIf (eT (eVar 4)) (sIf (eT (e2 dNotN (.ev (eVar 6)) (.ev (eC .non)))) (sRet (eC (.bl false))) sNx) (sIf (tOrB (tNotB (eT (eCall s__law_cut [(.ev (eVar 0)), (.ev (eVar 1)), (.ev (eVar 2)), (.ev (eVar 3)), (.ev (eVar 6))]))) (eT (e2 dNotB (.ev (eCallKw s_is_cut [4, 3, 2, 1, 0] [] [(.ev (eVar 6)), (.ev (eVar 3)), (.ev (eVar 2)), (.ev (eVar 1)), (.ev (eVar 0))])) (.ev (eC (.bl true)))))) (sRet (eC (.bl false))) sNx))))
    (fun _ ρ => ρ = R .no .no ∨ ∃ a b : D, ρ = R (.va a) (.va b)) [.int 0, .int 1] 0 (R .no .no) (.inl rfl) fun i x ρ hx hI => by
      have hs : ∃ a b, isIo (some a) = false ∧ isIo (some b) = false ∧ ρ = R a b := by
        rcases hI with rfl | ⟨a, b, rfl⟩ <;> exact ⟨_, _, rfl, rfl, rfl⟩
      obtain ⟨a, b, ha, hb, rfl⟩ := hs
      refine ⟨R (.va x) b, R (.va x) (.va (oC r)), ?_, .inl ?_, .inr ⟨_, _, rfl⟩⟩
      · simp [R, gN, ha]
      · clear hI
        have q1 : sSet 6 (eIf (eT (e2 dEq (.ev (eVar 5)) (.ev (eC (.int 0))))) (eCall s_two_cut [(.ev (eB (on1 dTuple) [(.ev (eVar 0))])), (.ev (eVar 1)), (.ev (eVar 2)), (.ev (eVar 3))]) (eCallKw s_two_cut [3, 2, 1, 0] [] [(.ev (eVar 3)), (.ev (eVar 2)), (.ev (eB (on1 dTuple) [(.ev (eVar 1))])), (.ev (eB (on1 dList) [(.ev (eVar 0))]))])) (R (.va x) b) = .nx (R (.va x) (.va (oC r))) := by
          match i, hx with
          | 0, hx =>
            cases hx
            simp [R, hd1, outR4 _ t1, putSl, hb]
          | 1, hx =>
            cases hx
            simp [R, kw_4, hd2, hw1, outR4 _ t2, putSl, hb]
        rw [seq_nx q1]
        cases r with
        | none =>
          cases hj
          simp [R, oC]
        | some pq =>
          obtain ⟨⟨x1, y1⟩, ⟨x2, y2⟩⟩ := pq
          cases hj
          have c : Nu.Cut c0 c1 w0 w1 low high x1 y1 x2 y2 := ok
          have k0 : allD (oC (some ((x1, y1), (x2, y2)))) = true := rfl
          have k1 := v__law_cut (low := low) (high := high) hd hw k0 T.szs
          have k2 := v_is_cut (low := low) (high := high) hd hw k0 T.szs
          have k3 : cutV [c0, c1] [w0, w1] low high (oC (some ((x1, y1), (x2, y2)))) = true := cut_two c
          rw [k3] at k1 k2
          simp [R, outR5 _ k1, kw_5, outR5 _ k2, dNotB]
  have out : outIo 5 ρ' = [.no, .no, .no, .no, .no] := by
    rcases i' with rfl | ⟨a, b, rfl⟩ <;> rfl
  refine ⟨ρ', ?_, out⟩
  refine (seq_nx (ρ1 := ρ') ?_).trans rfl
  rw [sFor_def, hit, fl_ok]
  exact e'
end Ma
end

section
set_option maxRecDepth 100000
set_option linter.all false
set_option exponentiation.threshold 100000
namespace Ma
open PySem PySem.Spec PyProof.Rows L2 DL Wk
/-! ### rows, equality -/
def rD (r : List Int) : D := .tup (r.map .int)
def pyR (r : List Int) : PyData := .tuple (r.map .int)
theorem toPys_int : ∀ r : List Int, toPys (r.map .int) = some (r.map .int)
  | [] => by simp [toPys]
  | x :: r => by simp [toPys, toPy, toPys_int r]
theorem toPy_rD (r : List Int) : toPy (rD r) = some (pyR r) := by
  simp [rD, pyR, toPy, toPys_int]
theorem toPys_rows : ∀ rs : List (List Int), toPys (rs.map rD) = some (rs.map pyR)
  | [] => by simp [toPys]
  | r :: rs => by simp [toPys, toPy_rD, toPys_rows rs]
theorem toPy_ints (r : List Int) : toPy (.lst (r.map .int)) = some (.list (r.map .int)) := by
  simp [toPy, toPys_int]
theorem toPy_rows (rs : List (List Int)) : toPy (.lst (rs.map rD)) = some (.list (rs.map pyR)) := by
  simp [toPy, toPys_rows]
theorem canLay_ints : ∀ r : List Int, PyData.canLayAll0 (r.map .int) = true
  | [] => by simp [PyData.canLayAll0]
  | x :: r => by simp [PyData.canLayAll0, PyData.canLay0, canLay_ints r]
theorem depth_ints : ∀ r : List Int, PyData.depthAll (r.map .int) = 0
  | [] => by simp [PyData.depthAll]
  | x :: r => by simp [PyData.depthAll, PyData.depth, depth_ints r]
theorem canLay_rows : ∀ r : List (List Int), PyData.canLayAll0 (r.map pyR) = true
  | [] => by simp [PyData.canLayAll0]
  | x :: r => by simp [PyData.canLayAll0, PyData.canLay0, canLay_rows r, pyR, canLay_ints]
theorem depth_rows : ∀ r : List (List Int), PyData.depthAll (r.map pyR) ≤ 1
  | [] => by simp [PyData.depthAll]
  | x :: r => by
    have := depth_rows r
    simp only [List.map_cons, PyData.depthAll, pyR, PyData.depth, depth_ints] at this ⊢
    omega
theorem sh_row (r : List Int) : SeqAt.shaped (pyR r) = true := by
  simp [SeqAt.shaped, pyR, PyData.canLay0, canLay_ints, PyData.depth, depth_ints]
theorem sh_ints (r : List Int) : SeqAt.shaped (.list (r.map .int)) = true := by
  simp [SeqAt.shaped, PyData.canLay0, canLay_ints, PyData.depth, depth_ints]
theorem sh_rows (rs : List (List Int)) : SeqAt.shaped (.list (rs.map pyR)) = true := by
  have := depth_rows rs
  simp [SeqAt.shaped, PyData.canLay0, canLay_rows, PyData.depth]
  omega
theorem eqv_ints : ∀ r s : List Int, PyData.eqvAll (r.map .int) (s.map .int) = decide (r = s)
  | [], [] => by simp [PyData.eqvAll]
  | [], y :: s => by simp [PyData.eqvAll]
  | x :: r, [] => by simp [PyData.eqvAll]
  | x :: r, y :: s => by
    simp only [List.map_cons, PyData.eqvAll, PyData.eqv, eqv_ints r s]
    by_cases h : x = y <;> by_cases k : r = s <;> simp [h, k]
theorem eqv_row (r s : List Int) : PyData.eqv (pyR r) (pyR s) = decide (r = s) := by
  simp only [pyR, PyData.eqv, eqv_ints]
theorem dEqv_row (r s : List Int) : dEqv (rD r) (rD s) = some (decide (r = s)) := by
  unfold dEqv
  simp only [toPy_rD, sh_row, and_self, if_true, eqv_row]
@[simp] theorem dEq_row (r s : List Int) : dEq (rD r) (rD s) = some (.bl (decide (r = s))) := by
  unfold dEq
  rw [dEqv_row]
  rfl
@[simp] theorem dNe_row (r s : List Int) : dNe (rD r) (rD s) = some (.bl (!decide (r = s))) := by
  unfold dNe
  rw [dEqv_row]
  rfl
theorem sh_nil : SeqAt.shaped (.list []) = true := sh_ints []
theorem toPy_nil : toPy (.lst []) = some (.list []) := toPy_ints []
theorem eqv_nil {α : Type} (f : α → PyData) (l : List α) : PyData.eqv (.list (l.map f)) (.list []) = l.isEmpty := by
  cases l <;> simp [PyData.eqv, PyData.eqvAll]
theorem dEqv_rows_nil (rs : List (List Int)) : dEqv (.lst (rs.map rD)) (.lst []) = some rs.isEmpty := by
  unfold dEqv
  simp only [toPy_rows, toPy_nil, sh_rows, sh_nil, and_self, if_true, eqv_nil]
theorem dEq_rows_nil (rs : List (List Int)) : dEq (.lst (rs.map rD)) (.lst []) = some (.bl rs.isEmpty) := by
  unfold dEq
  rw [dEqv_rows_nil]
  rfl
theorem dNe_rows_nil (rs : List (List Int)) : dNe (.lst (rs.map rD)) (.lst []) = some (.bl (!rs.isEmpty)) := by
  unfold dNe
  rw [dEqv_rows_nil]
  rfl
theorem dEqv_ints_nil (rs : List Int) : dEqv (.lst (rs.map .int)) (.lst []) = some rs.isEmpty := by
  unfold dEqv
  simp only [toPy_ints, toPy_nil, sh_ints, sh_nil, and_self, if_true, eqv_nil]
theorem dEq_ints_nil (rs : List Int) : dEq (.lst (rs.map .int)) (.lst []) = some (.bl rs.isEmpty) := by
  unfold dEq
  rw [dEqv_ints_nil]
  rfl
theorem dNe_ints_nil (rs : List Int) : dNe (.lst (rs.map .int)) (.lst []) = some (.bl (!rs.isEmpty)) := by
  unfold dNe
  rw [dEqv_ints_nil]
  rfl
theorem dInL_row (r : List Int) (rs : List (List Int)) : dInL (rD r) (.lst (rs.map rD)) = some (decide (r ∈ rs)) := by
  unfold dInL
  simp only [toPy_rD, toPy_rows, sh_row, sh_rows, and_self, if_true]
  congr 1
  induction rs with
  | nil => simp
  | cons s rs ih =>
    rw [List.map_cons, List.any_cons, ih, eqv_row]
    by_cases h : r = s
    · simp [h]
    · have : ¬ s = r := fun z => h z.symm
      by_cases k : r ∈ rs <;> simp [h, this, k]
theorem dNotIn_row (r : List Int) (rs : List (List Int)) : dNotIn (rD r) (.lst (rs.map rD)) = some (.bl (!decide (r ∈ rs))) := by
  unfold dNotIn
  rw [dInL_row]
  rfl
/-! ### displays -/
@[simp] theorem disp_0 (ρ : Env') : argGo (([] : List (EM D)).map Opd.ev) ρ = .ok [] ρ := rfl
@[simp] theorem disp_1 (f : EM D) (ρ : Env') : argGo (([f] : List (EM D)).map Opd.ev) ρ = (f ρ).bind fun x ρ1 => .ok [x] ρ1 := by
  show ((f ρ).bind fun d ρ1 => (Out.ok [] ρ1).bind fun ds ρ2 => Out.ok (d :: ds) ρ2) = _
  rfl
@[simp] theorem disp_2 (f g : EM D) (ρ : Env') : argGo (([f, g] : List (EM D)).map Opd.ev) ρ = (f ρ).bind fun x ρ1 => (g ρ1).bind fun y ρ2 => .ok [x, y] ρ2 := by
  show ((f ρ).bind fun d ρ1 => ((g ρ1).bind fun d ρ1 => (Out.ok [] ρ1).bind fun ds ρ2 => Out.ok (d :: ds) ρ2).bind fun ds ρ2 => Out.ok (d :: ds) ρ2) = _
  simp only [bind_bind]
  rfl
@[simp] theorem eTup_0 (ρ : Env') : eTup [] ρ = .ok (.tup []) ρ := rfl
@[simp] theorem eTup_3 (f g h : EM D) (ρ : Env') : eTup [f, g, h] ρ = (f ρ).bind fun x ρ1 => (g ρ1).bind fun y ρ2 => (h ρ2).bind fun z ρ3 => .ok (.tup [x, y, z]) ρ3 := by
  show ((f ρ).bind fun d ρ1 => ((g ρ1).bind fun d ρ1 => ((h ρ1).bind fun d ρ1 => (Out.ok [] ρ1).bind fun ds ρ2 => Out.ok (d :: ds) ρ2).bind fun ds ρ2 => Out.ok (d :: ds) ρ2).bind fun ds ρ2 => Out.ok (d :: ds) ρ2).bind _ = _
  simp only [bind_bind]
  rfl
end Ma
end

section
set_option maxRecDepth 100000
set_option linter.all false
set_option exponentiation.threshold 100000
namespace Ma
open PySem PySem.Spec PyProof.Rows L2 DL Wk
theorem len_fold {m : Nat} : ∀ (cs : List Int) (acc : List (List Int)), (∀ c ∈ cs, (c + 1).toNat ≤ m) → (cs.foldl Nu.grow acc).length ≤ acc.length * m ^ cs.length
  | [], acc, _ => by simp
  | c :: cs, acc, h => by
    have h1 := len_fold cs (Nu.grow acc c) fun x hx => h x (List.mem_cons_of_mem _ hx)
    rw [Nu.len_grow] at h1
    have h2 := h c List.mem_cons_self
    show (cs.foldl Nu.grow (Nu.grow acc c)).length ≤ _
    refine Nat.le_trans h1 ?_
    rw [List.length_cons, Nat.pow_succ, Nat.mul_comm (m ^ cs.length) m, ← Nat.mul_assoc]
    exact Nat.mul_le_mul_right _ (Nat.mul_le_mul_left _ h2)
/-- few small caps -/
structure Few (cs : List Int) : Prop where
  n : cs.length ≤ 3
  c : ∀ c ∈ cs, 0 ≤ c ∧ c ≤ 5
theorem Few.len {cs : List Int} (f : Few cs) (k : Nat) : ((cs.take k).foldl Nu.grow [[]]).length ≤ 216 := by
  have h := len_fold (m := 6) (cs.take k) [[]] fun c hc => by
    have := f.c c (List.mem_of_mem_take hc)
    omega
  have h2 : (cs.take k).length ≤ 3 := Nat.le_trans (List.length_take_le' k cs) f.n
  have h3 : 6 ^ (cs.take k).length ≤ 6 ^ 3 := Nat.pow_le_pow_right (by decide) h2
  have h4 : ([[]] : List (List Int)).length = 1 := rfl
  rw [h4] at h
  omega
theorem dAdd_lst {a b : List D} (h : a.length + b.length ≤ 1000000) : dAdd (.lst a) (.lst b) = some (.lst (a ++ b)) := if_pos h
theorem dAdd_tup {a b : List D} (h : a.length + b.length ≤ 1000000) : dAdd (.tup a) (.tup b) = some (.tup (a ++ b)) := if_pos h
theorem take_succ_of {α : Type} {l : List α} {i : Nat} {x : α} (h : l[i]? = some x) : l.take (i + 1) = l.take i ++ [x] := by
  rw [List.take_add_one, h]
  rfl
/-- one row made longer -/
theorem ext_comp {ρ : Env'} {c : Int} {r : List Int} (h5 : eVar 5 ρ = .ok (.int c) ρ) (hc : 0 ≤ c ∧ c ≤ 5) (hr : r.length ≤ 1000) (hw : notOw ρ[8]? = true)
    (hs : ∀ v : Nat, v < (c + 1).toNat → stepC [8] (gN 8) cYes (e2 dAdd (.ev (eVar 7)) (.ev (eTup [eVar 8]))) (.int (v : Int)) ρ = .ok (some (rD (r ++ [(v : Int)]))) ρ) :
    eL (eComp (iR1 (.ev (e2 dAdd (.ev (eVar 5)) (.ev (eC (.int 1)))))) [8] (gN 8) cYes (e2 dAdd (.ev (eVar 7)) (.ev (eTup [eVar 8])))) ρ = .ok (.lst ((Nu.ext c r).map rD)) ρ := by
  have e5 : e2 dAdd (.ev (eVar 5)) (.ev (eC (.int 1))) ρ = .ok (.int (c + 1)) ρ := by
    rw [e2_ev, h5, bind_ok, eC_go, bind_ok]
    rfl
  rw [eL_def, comp_map (l := List.range (c + 1).toNat) (fun v : Nat => D.int (v : Int)) (fun v : Nat => rD (r ++ [(v : Int)])) ?_ (by simpa using hw) (by rw [List.length_range]; omega) fun v hv => hs v (List.mem_range.mp hv), bind_ok]
  · unfold Nu.ext
    rw [List.map_map]
    rfl
  · rw [it_rng e5 (by omega) (by omega)]
    unfold rngD
    congr 1
    refine List.map_congr_left fun i _ => ?_
    rw [Int.zero_add]
/-- nothing or a value -/
def Fre (s : Sl) : Prop := s = .no ∨ ∃ d, s = .va d
theorem Fre.io {s : Sl} (h : Fre s) : isIo (some s) = false := by
  rcases h with rfl | ⟨d, rfl⟩ <;> rfl
theorem Fre.no : Fre .no := .inl rfl
theorem Fre.va (d : D) : Fre (.va d) := .inr ⟨d, rfl⟩
theorem v__law_rows {d w : D} {cs ws : List Int} {low high : Int} (hd : SqI d cs) (hw : SqI w ws) (f : Few cs) (z : Szs cs ws) : s__law_rows [.va d, .va w, .va (.int low), .va (.int high)] = .ok (.lst ((Nu.rowsOf cs ws low high).map rD)) [.no, .no, .no, .no] := by
  let R (a b c e : Sl) : Env' := [.va d, .va w, .va (.int low), .va (.int high), a, b, c, e, .no]
  suffices h : ∃ ρ, b__law_rows (R .no .no .no .no) = .rt (.lst ((Nu.rowsOf cs ws low high).map rD)) ρ ∧ outIo 4 ρ = [.no, .no, .no, .no] by
    obtain ⟨ρ, a, b⟩ := h
    have z := run_rt (n := 4) (N := 9) (b := b__law_rows) (ps := [.va d, .va w, .va (.int low), .va (.int high)]) a
    rw [b] at z
    exact z
  unfold b__law_rows
  let F (k : Nat) : List (List Int) := (cs.take k).foldl Nu.grow [[]]
  have q1 : sSet 4 (eL (argGo (([(eTup [])] : List (EM D)).map Opd.ev))) (R .no .no .no .no) = .nx (R (.va (.lst ((F 0).map rD))) .no .no .no) := by
    rw [sSet_def, eL_def, disp_1]
    rfl
  rw [seq_nx q1]
  have boxed : ∀ k, k ≤ cs.length → ∀ r ∈ F k, r.length = k := fun k hk r hr => by
    obtain ⟨a, ha, t, rfl, ht⟩ := (Nu.mem_fold _ _ _).mp hr
    rw [List.mem_singleton.mp ha]
    have := ht.1
    rw [List.length_take] at this
    simp
    omega
  -- one turn
  have turn : ∀ (i : Nat) (c : Int) (b' e' l' : Sl), Fre l' → Fre e' → cs[i]? = some c → ∃ ρ1 : Env', (sSeq (sSet 6 (eL (argGo (([] : List (EM D)).map Opd.ev))))
      (sSeq (sFor (iS (eVar 4)) (gN 7) (sSet 6 (e2 dAdd (.ev (eVar 6)) (.ev (eL (eComp (iR1 (.ev (e2 dAdd (.ev (eVar 5)) (.ev (eC (.int 1)))))) [8] (gN 8) cYes (e2 dAdd (.ev (eVar 7)) (.ev (eTup [(eVar 8)])))))))))
      (sSet 4 (eVar 6)))) (R (.va (.lst ((F i).map rD))) (.va (.int c)) l' e') = .nx ρ1 ∧ ∃ l e, Fre l ∧ Fre e ∧ ρ1 = R (.va (.lst ((F (i + 1)).map rD))) (.va (.int c)) l e := fun i c b' e' l' hl' he' hc => by
    have hc' := f.c c (List.mem_of_getElem? hc)
    have hi : i < cs.length := (List.getElem?_eq_some_iff.mp hc).1
    have hF : (F i).length ≤ 216 := f.len i
    have hF1 : F (i + 1) = (F i).flatMap (Nu.ext c) := by
      show (cs.take (i + 1)).foldl Nu.grow [[]] = _
      rw [take_succ_of hc, List.foldl_append]
      rfl
    have u1 : sSet 6 (eL (argGo (([] : List (EM D)).map Opd.ev))) (R (.va (.lst ((F i).map rD))) (.va (.int c)) l' e') = .nx (R (.va (.lst ((F i).map rD))) (.va (.int c)) (.va (.lst [])) e') := by
      rw [sSet_def, eL_def, disp_0]
      show putSl _ 6 _ = _
      unfold putSl
      have : isIo (R (.va (.lst ((F i).map rD))) (.va (.int c)) l' e')[6]? = false := hl'.io
      rw [this]
      rfl
    rw [seq_nx u1]
    obtain ⟨ρ2, g1, g2⟩ := forL_all (g := gN 7) (b := sSet 6 (e2 dAdd (.ev (eVar 6)) (.ev (eL (eComp (iR1 (.ev (e2 dAdd (.ev (eVar 5)) (.ev (eC (.int 1)))))) [8] (gN 8) cYes (e2 dAdd (.ev (eVar 7)) (.ev (eTup [(eVar 8)]))))))))
      (fun k ρ => ∃ e, Fre e ∧ ρ = R (.va (.lst ((F i).map rD))) (.va (.int c)) (.va (.lst ((((F i).take k).flatMap (Nu.ext c)).map rD))) e) ((F i).map rD) 0 (R (.va (.lst ((F i).map rD))) (.va (.int c)) (.va (.lst [])) e') ⟨e', he', rfl⟩ fun j x ρ hx hI => by
        rw [Nat.zero_add] at hI ⊢
        obtain ⟨e, he, rfl⟩ := hI
        rw [List.getElem?_map] at hx
        obtain ⟨r, hr, rfl⟩ := Option.map_eq_some_iff.mp hx
        have rl : r.length = i := boxed i (by omega) r (List.mem_of_getElem? hr)
        have fn := f.n
        let A : D := .lst ((((F i).take j).flatMap (Nu.ext c)).map rD)
        refine ⟨R (.va (.lst ((F i).map rD))) (.va (.int c)) (.va A) (.va (rD r)), R (.va (.lst ((F i).map rD))) (.va (.int c)) (.va (.lst ((((F i).take (j + 1)).flatMap (Nu.ext c)).map rD))) (.va (rD r)), ?_, .inl ?_, ⟨_, .va _, rfl⟩⟩
        · have : isIo (R (.va (.lst ((F i).map rD))) (.va (.int c)) (.va A) e)[7]? = false := he.io
          show gN 7 (rD r) (R (.va (.lst ((F i).map rD))) (.va (.int c)) (.va A) e) = _
          unfold gN
          rw [this]
          rfl
        · have cc := ext_comp (ρ := R (.va (.lst ((F i).map rD))) (.va (.int c)) (.va A) (.va (rD r))) (c := c) (r := r) rfl hc' (by omega) rfl fun v hv => by
            have : dAdd (rD r) (.tup [.int (v : Int)]) = some (rD (r ++ [(v : Int)])) := by
              unfold rD
              rw [dAdd_tup (by rw [List.length_map]; show r.length + 1 ≤ _; omega), List.map_append]
              rfl
            simp [stepC, wipeR, gN, isIo, restore, R, this]
          have ln : ((((F i).take j).flatMap (Nu.ext c))).length ≤ 216 * 6 := by
            have h1 := Nu.len_grow ((F i).take j) c
            have h2 : ((F i).take j).length ≤ 216 := Nat.le_trans (List.length_take_le' _ _) hF
            unfold Nu.grow at h1
            rw [h1]
            exact Nat.mul_le_mul h2 (by omega)
          have le := Nu.len_ext c r
          have ad : dAdd A (.lst ((Nu.ext c r).map rD)) = some (.lst ((((F i).take (j + 1)).flatMap (Nu.ext c)).map rD)) := by
            show dAdd (.lst _) _ = _
            rw [dAdd_lst (by rw [List.length_map, List.length_map]; omega), ← List.map_append, take_succ_of hr, List.flatMap_append]
            simp
          rw [sSet_def, e2_ev]
          show (((Out.ok A (R (.va (.lst ((F i).map rD))) (.va (.int c)) (.va A) (.va (rD r)))).bind fun x ρ1 => _) : Out D).fl _ = _
          rw [bind_ok, cc, bind_ok, ad]
          rfl
    obtain ⟨e, he, rfl⟩ := g2
    have u2 : sFor (iS (eVar 4)) (gN 7) (sSet 6 (e2 dAdd (.ev (eVar 6)) (.ev (eL (eComp (iR1 (.ev (e2 dAdd (.ev (eVar 5)) (.ev (eC (.int 1)))))) [8] (gN 8) cYes (e2 dAdd (.ev (eVar 7)) (.ev (eTup [(eVar 8)]))))))))
        (R (.va (.lst ((F i).map rD))) (.va (.int c)) (.va (.lst [])) e') = .nx (R (.va (.lst ((F i).map rD))) (.va (.int c)) (.va (.lst ((((F i).take (0 + ((F i).map rD).length)).flatMap (Nu.ext c)).map rD))) e) := by
      rw [sFor_def, it_seq (f := eVar 4) (x := .lst ((F i).map rD)) (xs := (F i).map rD) rfl rfl, fl_ok]
      exact g1
    rw [seq_nx u2]
    refine ⟨R (.va (.lst ((F (i + 1)).map rD))) (.va (.int c)) (.va (.lst ((F (i + 1)).map rD))) e, ?_, .va (.lst ((F (i + 1)).map rD)), e, .va _, he, rfl⟩
    rw [hF1, Nat.zero_add, List.length_map, List.take_length]
    rfl
  obtain ⟨ρ2, g1, g2⟩ := forL_all (g := gN 5) (b := (sSeq (sSet 6 (eL (argGo (([] : List (EM D)).map Opd.ev))))
      (sSeq (sFor (iS (eVar 4)) (gN 7) (sSet 6 (e2 dAdd (.ev (eVar 6)) (.ev (eL (eComp (iR1 (.ev (e2 dAdd (.ev (eVar 5)) (.ev (eC (.int 1)))))) [8] (gN 8) cYes (e2 dAdd (.ev (eVar 7)) (.ev (eTup [(eVar 8)])))))))))
      (sSet 4 (eVar 6)))))
    (fun k ρ => ∃ b l e, Fre b ∧ Fre l ∧ Fre e ∧ ρ = R (.va (.lst ((F k).map rD))) b l e) (cs.map .int) 0 (R (.va (.lst ((F 0).map rD))) .no .no .no) ⟨.no, .no, .no, .no, .no, .no, rfl⟩ fun i x ρ hx hI => by
      rw [Nat.zero_add] at hI ⊢
      obtain ⟨b, l, e, hb, hl, he, rfl⟩ := hI
      rw [List.getElem?_map] at hx
      obtain ⟨c, hc, rfl⟩ := Option.map_eq_some_iff.mp hx
      obtain ⟨ρ1, t1, l2, e2, hl2, he2, t2⟩ := turn i c b e l hl he hc
      refine ⟨R (.va (.lst ((F i).map rD))) (.va (.int c)) l e, ρ1, ?_, .inl t1, ⟨_, l2, e2, .va _, hl2, he2, t2⟩⟩
      have : isIo (R (.va (.lst ((F i).map rD))) b l e)[5]? = false := hb.io
      unfold gN
      rw [this]
      rfl
  obtain ⟨b, l, e, hb, hl, he, rfl⟩ := g2
  rw [Nat.zero_add, List.length_map] at g1
  have hF : F cs.length = Nu.boxRows cs := by
    show (cs.take cs.length).foldl Nu.grow [[]] = _
    rw [List.take_length]
    rfl
  rw [hF] at g1
  let R9 : Env' := R (.va (.lst ((Nu.boxRows cs).map rD))) b l e
  have q2 : sFor (iS (eVar 0)) (gN 5) (sSeq (sSet 6 (eL (argGo (([] : List (EM D)).map Opd.ev))))
      (sSeq (sFor (iS (eVar 4)) (gN 7) (sSet 6 (e2 dAdd (.ev (eVar 6)) (.ev (eL (eComp (iR1 (.ev (e2 dAdd (.ev (eVar 5)) (.ev (eC (.int 1)))))) [8] (gN 8) cYes (e2 dAdd (.ev (eVar 7)) (.ev (eTup [(eVar 8)])))))))))
      (sSet 4 (eVar 6)))) (R (.va (.lst ((F 0).map rD))) .no .no .no) = .nx R9 := by
    rw [sFor_def, it_seq (f := eVar 0) (x := d) (xs := cs.map .int) rfl hd, fl_ok]
    exact g1
  rw [seq_nx q2]
  refine ⟨R9, ?_, rfl⟩
  have no7 : notOw R9[7]? = true := by
    show notOw (some e) = true
    rcases he with rfl | ⟨_, rfl⟩ <;> rfl
  rw [sRet_def, eL_def, comp_filt (l := Nu.boxRows cs) rD (fun r => decide (low ≤ Nu.wgt ws r) && decide (Nu.wgt ws r ≤ high)) rD (it_seq (f := eVar 4) (x := .lst ((Nu.boxRows cs).map rD)) rfl rfl) (by simpa using no7) ?_ fun r hr => ?_]
  · rfl
  · have := f.len cs.length
    rw [show (cs.take cs.length).foldl Nu.grow [[]] = Nu.boxRows cs from hF] at this
    omega
  · have bx := Nu.mem_boxRows.mp hr
    have sr : SqI (rD r) r := sqI_tup r
    have sm : ∀ x ∈ r, Sm 10000 x := fun x hx => by
      obtain ⟨k, hk, rfl⟩ := List.getElem_of_mem hx
      have hk2 : k < cs.length := by rw [← bx.1]; exact hk
      have b2 := bx.2 k hk2
      have e1 : Nu.at_ r k = r[k] := by simp [Nu.at_, List.getD, List.getElem?_eq_getElem hk]
      have e2 : Nu.at_ cs k = cs[k] := by simp [Nu.at_, List.getD, List.getElem?_eq_getElem hk2]
      have b3 := f.c cs[k] (List.getElem_mem hk2)
      rw [e1, e2] at b2
      exact sm_lt b2.1 (Int.lt_of_le_of_lt (Int.le_trans b2.2 b3.2) (by decide +kernel))
    have kw := v__law_weighed (d := w) (v := rD r) hw sr (by have := z.lw; have := z.lc; omega) z.wS sm
    have kw' : outR 2 (s__law_weighed [.va w, .va (rD r)]) = fun ρ => .ok (.int (Nu.wgt ws r)) ρ := funext fun ρ => outR2 ρ kw
    have he' : ∀ e : Sl, Fre e → stepC [7] (gN 7) (eT (eChain dLe dLe (eVar 2) (eCall s__law_weighed [(.ev (eVar 1)), (.ev (eVar 7))]) (eVar 3))) (eVar 7) (rD r) (R (.va (.lst ((Nu.boxRows cs).map rD))) b l e) = .ok (if (decide (low ≤ Nu.wgt ws r) && decide (Nu.wgt ws r ≤ high)) = true then some (rD r) else none) (R (.va (.lst ((Nu.boxRows cs).map rD))) b l e) := fun e he => by
      by_cases h1 : low ≤ Nu.wgt ws r
      · by_cases h2 : Nu.wgt ws r ≤ high
        · rcases he with rfl | ⟨_, rfl⟩ <;> simp [stepC, wipeR, gN, isIo, restore, R, eChain, kw', dCmp, h1, h2]
        · rcases he with rfl | ⟨_, rfl⟩ <;> simp [stepC, wipeR, gN, isIo, restore, R, eChain, kw', dCmp, h1, h2]
      · rcases he with rfl | ⟨_, rfl⟩ <;> simp [stepC, wipeR, gN, isIo, restore, R, eChain, kw', dCmp, h1]
    exact he' e he
end Ma
end

section
set_option maxRecDepth 100000
set_option linter.all false
set_option exponentiation.threshold 100000
namespace Ma
open PySem PySem.Spec PyProof.Rows L2 DL Wk
/-- [k for k in range(len(x)) if ..] -/
theorem keys_compJ {ρ : Env'} {j k n : Nat} {d : D} {cond : EM Bool} (p : Nat → Bool) (hd : eVar j ρ = .ok d ρ) (hl : dLen d = some (.int n)) (hn : n < 1001) (hw : notOw ρ[k]? = true)
    (hs : ∀ i, i < n → stepC [k] (gN k) cond (eVar k) (.int (i : Int)) ρ = .ok (if p i = true then some (.int (i : Int)) else none) ρ) : eComp (iR1 (.ev (eB (on1 dLen) [.ev (eVar j)]))) [k] (gN k) cond (eVar k) ρ = .ok (((List.range n).filter p).map fun i : Nat => D.int (i : Int)) ρ := by
  have h1 : eB (on1 dLen) [.ev (eVar j)] ρ = .ok (.int n) ρ := by
    rw [eB_1, hd, bind_ok, hl, lift_some]
  refine comp_filt (fun i : Nat => D.int (i : Int)) p (fun i => .int (i : Int)) ?_ (by simpa using hw) (by rw [List.length_range]; omega) fun i hi => hs i (List.mem_range.mp hi)
  rw [it_rng h1 (by omega) (by omega)]
  unfold rngD
  congr 1
  rw [Int.toNat_natCast]
  refine List.map_congr_left fun i _ => ?_
  rw [Int.zero_add]
theorem dif_at {r s : List Int} (h : r.length = s.length) : Nu.dif r s = ((List.range r.length).filter fun k => decide (Nu.at_ r k ≠ Nu.at_ s k)).length := by
  unfold Nu.dif
  congr 1
  refine List.filter_congr fun k hk => ?_
  have hk1 := List.mem_range.mp hk
  have hk2 : k < s.length := by omega
  rw [List.getElem?_eq_getElem hk1, List.getElem?_eq_getElem hk2]
  have e1 : Nu.at_ r k = r[k] := by simp [Nu.at_, List.getD, List.getElem?_eq_getElem hk1]
  have e2 : Nu.at_ s k = s[k] := by simp [Nu.at_, List.getD, List.getElem?_eq_getElem hk2]
  rw [e1, e2]
  simp
theorem rD_sq (r : List Int) : SqI (rD r) r := sqI_tup r
def stepM : SM := (sSeq (sIf (eT (e2 dEq (.ev (eVar 3)) (.ev (eL (argGo (([] : List (EM D)).map Opd.ev)))))) (fun ρ => .bk ρ) sNx)
  (sSeq (sSet 3 (eL (eComp (iS (eVar 4)) [6] (gN 6) (eT (e2 dNe (.ev (eL (eComp (iS (eVar 3)) [7] (gN 7) (eT (e2 dEq (.ev (eB (on1 dLen) [(.ev (eL (eComp (iR1 (.ev (eB (on1 dLen) [(.ev (eVar 6))]))) [8] (gN 8) (eT (e2 dNe (.ev (e2 dIx (.ev (eVar 6)) (.ev (eVar 8)))) (.ev (e2 dIx (.ev (eVar 7)) (.ev (eVar 8)))))) (eVar 8))))])) (.ev (eC (.int 1))))) (eVar 7)))) (.ev (eL (argGo (([] : List (EM D)).map Opd.ev)))))) (eVar 6))))
  (sSeq (sSet 4 (eL (eComp (iS (eVar 4)) [6] (gN 6) (eT (e2 dNotIn (.ev (eVar 6)) (.ev (eVar 3)))) (eVar 6))))
  (sSet 2 (e2 dAdd (.ev (eVar 2)) (.ev (eVar 3)))))))
def lR (rs : List (List Int)) : D := .lst (rs.map rD)
theorem filter_isEmpty {α : Type} (p : α → Bool) (l : List α) : (!(l.filter p).isEmpty) = l.any p := by
  induction l with
  | nil => rfl
  | cons a l ih =>
    cases h : p a <;> simp [List.filter_cons, h] at ih ⊢
    exact ih
@[simp] theorem argGo_nil (ρ : Env') : argGo [] ρ = .ok [] ρ := rfl
theorem step_of {ws : List Nat} {g : Tgt} {c : EM Bool} {f : EM D} {x y : D} {ρ ρ1 ρ2 ρ3 : Env'} {b : Bool} (hg : g x (wipeR ρ ws) = some ρ1) (hc : c ρ1 = .ok b ρ2) (hf : f ρ2 = .ok y ρ3) (h2 : restore ρ ρ2 ws = ρ) (h3 : restore ρ ρ3 ws = ρ) : stepC ws g c f x ρ = .ok (if b = true then some y else none) ρ := by
  unfold stepC
  rw [hg]
  simp only [hc]
  cases b
  · simp only [h2]
    rfl
  · simp only [hf, h3]
    rfl
theorem one_ev {ρ : Env'} {f : EM D} {n : Nat} (q : f ρ = .ok (.int (n : Int)) ρ) : eT (e2 dEq (.ev f) (.ev (eC (.int 1)))) ρ = .ok (decide (n = 1)) ρ := by
  rw [eT_ok, e2_ev, q, bind_ok, eC_go, bind_ok, dEq_int, lift_some, bind_ok, asB_bl, lift_some]
  congr 1
  exact decide_eq_decide.mpr (by omega)
section
variable {d : D} {one : List Int} {a : Sl} {L : Nat}
def envR (d o f fr l : D) (a b c e : Sl) : Env' := [.va d, .va o, .va f, .va fr, .va l, a, b, c, e]
/-- differing keys, counted -/
theorem dif_ev {o f fr l : D} {r s : List Int} (hr : r.length = L) (hs : s.length = L) (hL : L ≤ 1000) : eB (on1 dLen) [(.ev (eL (eComp (iR1 (.ev (eB (on1 dLen) [(.ev (eVar 6))]))) [8] (gN 8) (eT (e2 dNe (.ev (e2 dIx (.ev (eVar 6)) (.ev (eVar 8)))) (.ev (e2 dIx (.ev (eVar 7)) (.ev (eVar 8)))))) (eVar 8))))] (envR d o f fr l a (.va (rD r)) (.va (rD s)) .no) = .ok (.int (Nu.dif r s)) (envR d o f fr l a (.va (rD r)) (.va (rD s)) .no) := by
  have k := keys_compJ (ρ := envR d o f fr l a (.va (rD r)) (.va (rD s)) .no) (j := 6) (k := 8) (n := r.length) (d := rD r) (cond := (eT (e2 dNe (.ev (e2 dIx (.ev (eVar 6)) (.ev (eVar 8)))) (.ev (e2 dIx (.ev (eVar 7)) (.ev (eVar 8)))))))
    (fun k => decide (Nu.at_ r k ≠ Nu.at_ s k)) rfl (rD_sq r).len (by omega) rfl fun i hi => by
      have i1 := ix_at (i := i) (rD_sq r) (by omega)
      have i2 := ix_at (i := i) (rD_sq s) (by omega)
      by_cases h : Nu.at_ r i = Nu.at_ s i <;> simp [envR, stepC, wipeR, gN, isIo, restore, i1, i2, h]
  rw [eB_1, eL_def, k, bind_ok, bind_ok, dLen_lst, lift_some, List.length_map, dif_at (by omega)]
/-- whether some of the fresh ones is near -/
theorem near_ev {o f l : D} {r : List Int} {fresh : List (List Int)} (hr : r.length = L) (hf : ∀ s ∈ fresh, s.length = L) (hL : L ≤ 1000) (hn : fresh.length ≤ 1000) : e2 dNe (.ev (eL (eComp (iS (eVar 3)) [7] (gN 7) (eT (e2 dEq (.ev (eB (on1 dLen) [(.ev (eL (eComp (iR1 (.ev (eB (on1 dLen) [(.ev (eVar 6))]))) [8] (gN 8) (eT (e2 dNe (.ev (e2 dIx (.ev (eVar 6)) (.ev (eVar 8)))) (.ev (e2 dIx (.ev (eVar 7)) (.ev (eVar 8)))))) (eVar 8))))])) (.ev (eC (.int 1))))) (eVar 7)))) (.ev (eL (argGo (([] : List (EM D)).map Opd.ev)))) (envR d o f (lR fresh) l a (.va (rD r)) .no .no) = .ok (.bl (fresh.any fun s => decide (Nu.dif r s = 1))) (envR d o f (lR fresh) l a (.va (rD r)) .no .no) := by
  have k := comp_filt (it := iS (eVar 3)) (ws := [7]) (g := gN 7) (c := (eT (e2 dEq (.ev (eB (on1 dLen) [(.ev (eL (eComp (iR1 (.ev (eB (on1 dLen) [(.ev (eVar 6))]))) [8] (gN 8) (eT (e2 dNe (.ev (e2 dIx (.ev (eVar 6)) (.ev (eVar 8)))) (.ev (e2 dIx (.ev (eVar 7)) (.ev (eVar 8)))))) (eVar 8))))])) (.ev (eC (.int 1)))))) (f := eVar 7)
    (ρ := envR d o f (lR fresh) l a (.va (rD r)) .no .no) (l := fresh) rD (fun s => decide (Nu.dif r s = 1)) rD (it_seq (f := eVar 3) (x := lR fresh) rfl rfl) rfl (by omega) fun s hs => by
      have q := dif_ev (d := d) (a := a) (o := o) (f := f) (fr := lR fresh) (l := l) hr (hf s hs) hL
      exact step_of (ρ1 := envR d o f (lR fresh) l a (.va (rD r)) (.va (rD s)) .no) rfl (one_ev q) rfl rfl rfl
  rw [e2_ev, eL_def, k, bind_ok, bind_ok, eL_def, disp_0, bind_ok, bind_ok, dNe_rows_nil, lift_some, filter_isEmpty]
theorem step_ev {o : D} {found fresh left : List (List Int)} (ha : Fre a) (hf : ∀ s ∈ fresh, s.length = L) (hl : ∀ s ∈ left, s.length = L) (hL : L ≤ 1000) (hn : fresh.length ≤ 1000) (hn2 : left.length ≤ 1000) (hn3 : found.length + 1000 ≤ 1000000) :
    stepM (envR d o (lR found) (lR fresh) (lR left) a .no .no .no) = if fresh = [] then .bk (envR d o (lR found) (lR fresh) (lR left) a .no .no .no) else .nx (envR d o (lR (found ++ Nu.nxt fresh left)) (lR (Nu.nxt fresh left)) (lR (Nu.rest (Nu.nxt fresh left) left)) a .no .no .no) := by
  unfold stepM
  by_cases h : fresh = []
  · rw [if_pos h]
    subst h
    unfold sSeq
    have : (sIf (eT (e2 dEq (.ev (eVar 3)) (.ev (eL (argGo (([] : List (EM D)).map Opd.ev)))))) (fun ρ => .bk ρ) sNx) (envR d o (lR found) (lR []) (lR left) a .no .no .no) = .bk (envR d o (lR found) (lR []) (lR left) a .no .no .no) := by
      have e : dEq (lR []) (.lst []) = some (.bl true) := dEq_rows_nil []
      simp [envR, e]
    rw [this]
  · rw [if_neg h]
    have h0 : fresh.isEmpty = false := by
      cases fresh with
      | nil => exact absurd rfl h
      | cons _ _ => rfl
    have q1 : (sIf (eT (e2 dEq (.ev (eVar 3)) (.ev (eL (argGo (([] : List (EM D)).map Opd.ev)))))) (fun ρ => .bk ρ) sNx) (envR d o (lR found) (lR fresh) (lR left) a .no .no .no) = .nx (envR d o (lR found) (lR fresh) (lR left) a .no .no .no) := by
      have e : dEq (lR fresh) (.lst []) = some (.bl false) := by
        have := dEq_rows_nil fresh
        rw [h0] at this
        exact this
      simp [envR, e]
    rw [seq_nx q1]
    have q2 : sSet 3 (eL (eComp (iS (eVar 4)) [6] (gN 6) (eT (e2 dNe (.ev (eL (eComp (iS (eVar 3)) [7] (gN 7) (eT (e2 dEq (.ev (eB (on1 dLen) [(.ev (eL (eComp (iR1 (.ev (eB (on1 dLen) [(.ev (eVar 6))]))) [8] (gN 8) (eT (e2 dNe (.ev (e2 dIx (.ev (eVar 6)) (.ev (eVar 8)))) (.ev (e2 dIx (.ev (eVar 7)) (.ev (eVar 8)))))) (eVar 8))))])) (.ev (eC (.int 1))))) (eVar 7)))) (.ev (eL (argGo (([] : List (EM D)).map Opd.ev)))))) (eVar 6))) (envR d o (lR found) (lR fresh) (lR left) a .no .no .no)
        = .nx (envR d o (lR found) (lR (Nu.nxt fresh left)) (lR left) a .no .no .no) := by
      rw [sSet_def, eL_def, comp_filt (l := left) rD (fun r => fresh.any fun s => decide (Nu.dif r s = 1)) rD (it_seq (f := eVar 4) (x := lR left) rfl rfl) rfl (by omega) fun r hr => ?_]
      · rfl
      · have q := near_ev (d := d) (a := a) (o := o) (f := lR found) (l := lR left) (hl r hr) hf hL hn
        have g : gN 6 (rD r) (wipeR (envR d o (lR found) (lR fresh) (lR left) a .no .no .no) [6]) = some (envR d o (lR found) (lR fresh) (lR left) a (.va (rD r)) .no .no) := rfl
        unfold stepC
        rw [g]
        simp only [eT_ok, q, bind_ok, lift_some, asB_bl]
        cases fresh.any fun s => decide (Nu.dif r s = 1) <;> rfl
    rw [seq_nx q2]
    have q3 : sSet 4 (eL (eComp (iS (eVar 4)) [6] (gN 6) (eT (e2 dNotIn (.ev (eVar 6)) (.ev (eVar 3)))) (eVar 6))) (envR d o (lR found) (lR (Nu.nxt fresh left)) (lR left) a .no .no .no) = .nx (envR d o (lR found) (lR (Nu.nxt fresh left)) (lR (Nu.rest (Nu.nxt fresh left) left)) a .no .no .no) := by
      rw [sSet_def, eL_def, comp_filt (l := left) rD (fun r => !decide (r ∈ Nu.nxt fresh left)) rD (it_seq (f := eVar 4) (x := lR left) rfl rfl) rfl (by omega) fun r hr => ?_]
      · rfl
      · have e : dNotIn (rD r) (lR (Nu.nxt fresh left)) = some (.bl (!decide (r ∈ Nu.nxt fresh left))) := dNotIn_row r _
        have g : gN 6 (rD r) (wipeR (envR d o (lR found) (lR (Nu.nxt fresh left)) (lR left) a .no .no .no) [6]) = some (envR d o (lR found) (lR (Nu.nxt fresh left)) (lR left) a (.va (rD r)) .no .no) := rfl
        have q : e2 dNotIn (.ev (eVar 6)) (.ev (eVar 3)) (envR d o (lR found) (lR (Nu.nxt fresh left)) (lR left) a (.va (rD r)) .no .no) = .ok (.bl (!decide (r ∈ Nu.nxt fresh left))) (envR d o (lR found) (lR (Nu.nxt fresh left)) (lR left) a (.va (rD r)) .no .no) := by
          simp [envR, e]
        unfold stepC
        rw [g]
        simp only [eT_ok, q, bind_ok, lift_some, asB_bl]
        cases decide (r ∈ Nu.nxt fresh left) <;> rfl
    rw [seq_nx q3]
    have ln : (Nu.nxt fresh left).length ≤ left.length := List.length_filter_le _ _
    have e : dAdd (lR found) (lR (Nu.nxt fresh left)) = some (lR (found ++ Nu.nxt fresh left)) := by
      unfold lR
      rw [dAdd_lst (by rw [List.length_map, List.length_map]; omega), List.map_append]
    simp [envR, e, putSl, isIo]
theorem loop_ev {o : D} (hL : L ≤ 1000) : ∀ (items : List D) (found fresh left : List (List Int)) (a : Sl), Fre a → (∀ s ∈ fresh, s.length = L) → (∀ s ∈ left, s.length = L) → fresh.length ≤ 1000 → left.length ≤ 1000 → found.length + 1000 * items.length ≤ 999000 →
    ∃ fr l a', Fre a' ∧ forL (gN 5) stepM items (envR d o (lR found) (lR fresh) (lR left) a .no .no .no) = .nx (envR d o (lR (Nu.bfs items.length found fresh left)) fr l a' .no .no .no)
  | [], found, fresh, left, a, ha, _, _, _, _, _ => ⟨_, _, a, ha, rfl⟩
  | x :: items, found, fresh, left, a, ha, hf, hl, hn, hn2, hn3 => by
    rw [List.length_cons] at hn3
    have g : gN 5 x (envR d o (lR found) (lR fresh) (lR left) a .no .no .no) = some (envR d o (lR found) (lR fresh) (lR left) (.va x) .no .no .no) := by
      unfold gN
      have : isIo (envR d o (lR found) (lR fresh) (lR left) a .no .no .no)[5]? = false := ha.io
      rw [this]
      rfl
    have s := step_ev (d := d) (o := o) (a := .va x) (found := found) (.va x) hf hl hL hn hn2 (by omega)
    have hd : forL (gN 5) stepM (x :: items) (envR d o (lR found) (lR fresh) (lR left) a .no .no .no) = match stepM (envR d o (lR found) (lR fresh) (lR left) (.va x) .no .no .no) with
        | .nx ρ2 => forL (gN 5) stepM items ρ2
        | .ct ρ2 => forL (gN 5) stepM items ρ2
        | .bk ρ2 => .nx ρ2
        | r => r := by
      show (match gN 5 x (envR d o (lR found) (lR fresh) (lR left) a .no .no .no) with
        | none => Fl.stuck
        | some ρ1 => match stepM ρ1 with
          | .nx ρ2 => forL (gN 5) stepM items ρ2
          | .ct ρ2 => forL (gN 5) stepM items ρ2
          | .bk ρ2 => .nx ρ2
          | r => r) = _
      rw [g]
    rw [hd, s, List.length_cons]
    unfold Nu.bfs
    by_cases h : fresh = []
    · rw [if_pos h, if_pos h]
      exact ⟨_, _, .va x, .va x, rfl⟩
    · rw [if_neg h, if_neg h]
      have ln : (Nu.nxt fresh left).length ≤ left.length := List.length_filter_le _ _
      have lr : (Nu.rest (Nu.nxt fresh left) left).length ≤ left.length := List.length_filter_le _ _
      exact loop_ev hL items _ _ _ (.va x) (.va x) (fun s hs => hl s (Nu.mem_nxt.mp hs).1) (fun s hs => hl s (Nu.mem_rest.mp hs).1) (by omega) (by omega) (by rw [List.length_append]; omega)
theorem v__law_reached {rows : List (List Int)} {one : List Int} (hrows : ∀ r ∈ rows, r.length = L) (h1 : one.length = L) (hL : L ≤ 1000) (hn : rows.length ≤ 300) : s__law_reached [.va (lR rows), .va (rD one)] = .ok (lR (Nu.reached rows one)) [.no, .no] := by
  suffices h : ∃ ρ, b__law_reached [.va (lR rows), .va (rD one), .no, .no, .no, .no, .no, .no, .no] = .rt (lR (Nu.reached rows one)) ρ ∧ outIo 2 ρ = [.no, .no] by
    obtain ⟨ρ, a, b⟩ := h
    have z := run_rt (n := 2) (N := 9) (b := b__law_reached) (ps := [.va (lR rows), .va (rD one)]) a
    rw [b] at z
    exact z
  unfold b__law_reached
  have hc : eComp (iS (eVar 0)) [6] (gN 6) (eT (e2 dNe (.ev (eVar 6)) (.ev (eVar 1)))) (eVar 6) [.va (lR rows), .va (rD one), .no, .no, .no, .no, .no, .no, .no] = .ok ((rows.filter fun r => decide (r ≠ one)).map rD) [.va (lR rows), .va (rD one), .no, .no, .no, .no, .no, .no, .no] := by
    refine comp_filt (l := rows) rD (fun r => decide (r ≠ one)) rD (it_seq (f := eVar 0) (x := lR rows) rfl rfl) rfl (by omega) fun r hr => ?_
    by_cases h : r = one <;> simp [stepC, wipeR, gN, isIo, restore, h]
  have q1 : sAsg (eTup [(eL (argGo (([(eVar 1)] : List (EM D)).map Opd.ev))), (eL (argGo (([(eVar 1)] : List (EM D)).map Opd.ev))), (eL (eComp (iS (eVar 0)) [6] (gN 6) (eT (e2 dNe (.ev (eVar 6)) (.ev (eVar 1)))) (eVar 6)))]) (gS 3 (gsCons (gN 2) (gsCons (gN 3) (gsCons (gN 4) gsNil)))) [.va (lR rows), .va (rD one), .no, .no, .no, .no, .no, .no, .no] = .nx (envR (lR rows) (rD one) (lR [one]) (lR [one]) (lR (rows.filter fun r => decide (r ≠ one))) .no .no .no .no) := by
    unfold sAsg
    simp only [eTup_3, eL_def, disp_1, eVar_1, bind_ok, hc]
    rfl
  rw [seq_nx q1]
  have lf : (rows.filter fun r => decide (r ≠ one)).length ≤ rows.length := List.length_filter_le _ _
  have hit : iR1 (.ev (eB (on1 dLen) [(.ev (eVar 0))])) (envR (lR rows) (rD one) (lR [one]) (lR [one]) (lR (rows.filter fun r => decide (r ≠ one))) .no .no .no .no) = .ok (rngD 0 rows.length) (envR (lR rows) (rD one) (lR [one]) (lR [one]) (lR (rows.filter fun r => decide (r ≠ one))) .no .no .no .no) := by
    have e : eB (on1 dLen) [(.ev (eVar 0))] (envR (lR rows) (rD one) (lR [one]) (lR [one]) (lR (rows.filter fun r => decide (r ≠ one))) .no .no .no .no) = .ok (.int rows.length) (envR (lR rows) (rD one) (lR [one]) (lR [one]) (lR (rows.filter fun r => decide (r ≠ one))) .no .no .no .no) := by
      simp [envR, lR]
    rw [it_rng e (by omega) (by omega), Int.toNat_natCast]
  have rl : (rngD 0 rows.length).length = rows.length := by simp [rngD]
  obtain ⟨fr, l, a', ha', g⟩ := loop_ev (d := lR rows) (o := rD one) hL (rngD 0 rows.length) [one] [one] (rows.filter fun r => decide (r ≠ one)) .no .no (fun s hs => by rw [List.mem_singleton.mp hs]; exact h1) (fun s hs => hrows s (List.mem_filter.mp hs).1) (by simp) (by omega) (by rw [rl]; simp; omega)
  rw [rl] at g
  have q2 : sFor (iR1 (.ev (eB (on1 dLen) [(.ev (eVar 0))]))) (gN 5) stepM (envR (lR rows) (rD one) (lR [one]) (lR [one]) (lR (rows.filter fun r => decide (r ≠ one))) .no .no .no .no) = .nx (envR (lR rows) (rD one) (lR (Nu.reached rows one)) fr l a' .no .no .no) := by
    rw [sFor_def, hit, fl_ok]
    exact g
  refine ⟨envR (lR rows) (rD one) (lR (Nu.reached rows one)) fr l a' .no .no .no, ?_, rfl⟩
  exact (seq_nx q2).trans rfl
end
end Ma
end

section
set_option maxRecDepth 100000
set_option linter.all false
set_option exponentiation.threshold 100000
namespace Ma
open PySem PySem.Spec PyProof.Rows L2 DL Wk
/-- a source of draws -/
structure Good (L : List Int) (b : Int) : Prop where
  len : L.length ≤ 48
  pos : ∀ c ∈ L, 0 ≤ c
  b0 : 0 ≤ b
  b1 : b < 2147483647
def E2 (io : Bool) (L : List Int) (b m : Int) (a : Sl) : Env' := [.ow io (.deal L b), .va (.int m), a]
theorem while_ev {io : Bool} {b m : Int} {a : Sl} : ∀ (k : Nat) (L : List Int), Good L b → L.length < k → ∃ L', Good L' b ∧ (L' = [] ∨ ∃ c, L'.getLast? = some c ∧ c ≠ 0) ∧ whileF (tAndB (bLeft 0) (eT (e2 dEq (.ev (eLast 0)) (.ev (eC (.int 0)))))) (sDrop (eDPop 0)) k (E2 io L b m a) = .nx (E2 io L' b m a)
  | 0, L, _, h => absurd h (Nat.not_lt_zero _)
  | k + 1, L, g, h => by
    unfold whileF
    cases e : L.getLast? with
    | none =>
      have : L = [] := List.getLast?_eq_none_iff.mp e
      subst this
      refine ⟨[], g, .inl rfl, ?_⟩
      simp [E2, bLeft, dealAt]
    | some c =>
      have hn : L.isEmpty = false := by
        cases L with
        | nil => cases e
        | cons _ _ => rfl
      by_cases hc : c = 0
      · subst hc
        have g' : Good L.dropLast b := ⟨by have := g.len; rw [List.length_dropLast]; omega, fun c hc => g.pos c (List.dropLast_subset L hc), g.b0, g.b1⟩
        have hl : L.dropLast.length < k := by
          rw [List.length_dropLast]
          cases L with
          | nil => cases e
          | cons _ _ =>
            simp at h ⊢
            omega
        obtain ⟨L', g2, p, w⟩ := while_ev k L.dropLast g' hl
        refine ⟨L', g2, p, ?_⟩
        rw [← w]
        simp [E2, bLeft, dealAt, hn, eLast, e, sDrop, eDPop]
      · refine ⟨L, g, .inr ⟨c, e, hc⟩, ?_⟩
        simp [E2, bLeft, dealAt, hn, eLast, e, hc]
theorem v__law_any {L : List Int} {b m : Int} {io : Bool} (g : Good L b) (hm : 0 < m) (hs : m < 2 ^ 8000) : ∃ L' b' v, Good L' b' ∧ 0 ≤ v ∧ v < m ∧ s__law_any [.ow true (.deal L b), .va (.int m)] = .ok (.int v) [.ow true (.deal L' b'), .no] := by
  suffices h : ∃ ρ L' b' v, Good L' b' ∧ 0 ≤ v ∧ v < m ∧ b__law_any (E2 true L b m .no) = .rt (.int v) ρ ∧ outIo 2 ρ = [.ow true (.deal L' b'), .no] by
    obtain ⟨ρ, L', b', v, h1, h2, h3, h4, h5⟩ := h
    have z := run_rt (n := 2) (N := 3) (b := b__law_any) (ps := [.ow true (.deal L b), .va (.int m)]) h4
    rw [h5] at z
    exact ⟨L', b', v, h1, h2, h3, z⟩
  unfold b__law_any
  have hl := g.len
  obtain ⟨L1, g1, p, w⟩ := while_ev (io := true) (m := m) (a := .no) 60 L g (by omega)
  rw [seq_nx w]
  have sm : Sm 8000 m := sm_lt (by omega) hs
  rcases p with rfl | ⟨c, e, hc⟩
  · have q1 : sIf (bLeft 0) (sSeq (sSet 2 (eB (on1 dInt) [(.ev (eDPop 0))])) (sSeq (sDApp 0 2 1) (sRet (e2 dMod (.ev (eVar 2)) (.ev (eVar 1)))))) sNx (E2 true [] b m .no) = .nx (E2 true [] b m .no) := by
      simp [E2, bLeft, dealAt]
    rw [seq_nx q1]
    have sb : Sm 31 b := sm_lt g.b0 (Int.lt_trans g.b1 (by decide))
    have mb : dMul (.int b) (.int 40693) = some (.int (b * 40693)) := dMul_sm sb (sm_lt (k := 31) (by decide) (by decide)) (by decide) (by decide)
    have md := dMod_pos (a := b * 40693 + 71) (b := 2147483647) (by decide)
    have q2 : sBlend 0 (e2 dMod (.ev (eB (on1 dInt) [(.ev (e2 dAdd (.ev (e2 dMul (.ev (eBlend 0)) (.ev (eC (.int 40693))))) (.ev (eC (.int 71)))))])) (.ev (eC (.int 2147483647)))) (E2 true [] b m .no) = .nx (E2 true [] ((b * 40693 + 71) % 2147483647) m .no) := by
      simp [E2, sBlend, eBlend, dealAt, mb, dInt, md]
    rw [seq_nx q2]
    have g2 : Good [] ((b * 40693 + 71) % 2147483647) := ⟨by simp, by simp, Int.emod_nonneg _ (by decide), Int.emod_lt_of_pos _ (by decide)⟩
    have dv : dDivW (.int ((b * 40693 + 71) % 2147483647)) (.int 64) = some (.int ((b * 40693 + 71) % 2147483647 / 64)) := dDivW_sm (k := 31) (by decide) (sm_lt (k := 31) (by decide) (by decide)) (by decide) (by decide)
    refine ⟨E2 true [] ((b * 40693 + 71) % 2147483647) m .no, [], (b * 40693 + 71) % 2147483647, (b * 40693 + 71) % 2147483647 / 64 % m, g2, Int.emod_nonneg _ (by omega), Int.emod_lt_of_pos _ hm, ?_, rfl⟩
    generalize (b * 40693 + 71) % 2147483647 = x at dv
    simp [E2, eBlend, dealAt, dInt, dv, dMod_pos hm]
  · have hn : L1.isEmpty = false := by
      cases L1 with
      | nil => cases e
      | cons _ _ => rfl
    have cm : c ∈ L1 := List.mem_of_getLast? e
    have c0 := g1.pos c cm
    have ll := g1.len
    have hlg : m.natAbs.log2 < 9000 := Nat.lt_of_lt_of_le (log2_lt sm (by decide)) (by decide)
    have hc2 : L1.length - 1 < 1000000 := by omega
    have q1 : sIf (bLeft 0) (sSeq (sSet 2 (eB (on1 dInt) [(.ev (eDPop 0))])) (sSeq (sDApp 0 2 1) (sRet (e2 dMod (.ev (eVar 2)) (.ev (eVar 1)))))) sNx (E2 true L1 b m .no) = .rt (.int (c % m)) (E2 true (L1.dropLast ++ [c / m]) b m (.va (.int c))) := by
      have u1 : sSet 2 (eB (on1 dInt) [(.ev (eDPop 0))]) (E2 true L1 b m .no) = .nx (E2 true L1.dropLast b m (.va (.int c))) := by
        simp [E2, eDPop, dealAt, e, dInt, putSl, isIo]
      have u2 : sDApp 0 2 1 (E2 true L1.dropLast b m (.va (.int c))) = .nx (E2 true (L1.dropLast ++ [c / m]) b m (.va (.int c))) := by
        unfold sDApp
        show (if L1.dropLast.length < 1000000 ∧ 0 < m ∧ m.natAbs.log2 < 9000 then _ else _) = _
        rw [if_pos ⟨by rw [List.length_dropLast]; exact hc2, hm, hlg⟩]
        rfl
      have t : bLeft 0 (E2 true L1 b m .no) = .ok true (E2 true L1 b m .no) := by
        simp [E2, bLeft, dealAt, hn]
      rw [sIf_def, t, fl_ok, if_pos rfl, seq_nx u1, seq_nx u2]
      simp [E2, dMod_pos hm]
    refine ⟨_, L1.dropLast ++ [c / m], b, c % m, ⟨?_, fun x hx => ?_, g1.b0, g1.b1⟩, Int.emod_nonneg _ (by omega), Int.emod_lt_of_pos _ hm, seq_rt q1, rfl⟩
    · rw [List.length_append, List.length_dropLast]
      have : 0 < L1.length := List.length_pos_of_mem cm
      simp
      omega
    · rcases List.mem_append.mp hx with h | h
      · exact g1.pos x (List.dropLast_subset _ h)
      · rw [List.mem_singleton.mp h]
        exact Int.ediv_nonneg c0 (by omega)
/-- a call with the source first -/
theorem callIo {sem : Sem'} {f : EM D} {ρ0 rest : Env'} {io : Bool} {L L' : List Int} {b b' : Int} {x d : D} {z : Sl} (h0 : ∃ io L b r, ρ0 = .ow io (.deal L b) :: r) (hf : f ρ0 = .ok x (.ow io (.deal L b) :: rest)) (hs : sem [.ow true (.deal L b), .va x] = .ok d [.ow true (.deal L' b'), z]) :
    eCall sem [.io 0, .ev f] ρ0 = .ok d (.ow io (.deal L' b') :: rest) := by
  obtain ⟨io0, L0, b0, r0, rfl⟩ := h0
  show ((Out.ok D.non (.ow io0 (.deal L0 b0) :: r0)).bind fun d ρ1 => ((f ρ1).bind fun d ρ1 => (Out.ok [] ρ1).bind fun ds ρ2 => Out.ok (d :: ds) ρ2).bind fun ds ρ2 => Out.ok (d :: ds) ρ2).bind _ = _
  rw [bind_ok, hf, bind_ok, bind_ok, bind_ok, bind_ok]
  show (match sem [.ow true (.deal L b), .va x] with
    | .ok d ps' => _
    | .err c d ps' => _
    | .stuck => _) = _
  rw [hs]
  rfl
theorem any_ev {f : EM D} {ρ0 rest : Env'} {io : Bool} {L : List Int} {b m : Int} (h0 : ∃ io L b r, ρ0 = .ow io (.deal L b) :: r) (hf : f ρ0 = .ok (.int m) (.ow io (.deal L b) :: rest)) (g : Good L b) (hm : 0 < m) (hs : m < 2 ^ 8000) :
    ∃ L' b' v, Good L' b' ∧ 0 ≤ v ∧ v < m ∧ eCall s__law_any [.io 0, .ev f] ρ0 = .ok (.int v) (.ow io (.deal L' b') :: rest) := by
  obtain ⟨L', b', v, h1, h2, h3, h4⟩ := v__law_any (io := io) g hm hs
  exact ⟨L', b', v, h1, h2, h3, callIo h0 hf h4⟩
end Ma
end

section
set_option maxRecDepth 100000
set_option linter.all false
set_option exponentiation.threshold 100000
namespace Ma
open PySem PySem.Spec PyProof.Rows L2 DL Wk
theorem ix_items {d y : D} {xs : List D} {i : Nat} (h : dItems d = some xs) (e : xs[i]? = some y) : dIx d (.int (i : Int)) = some y := by
  have hi := (List.getElem?_eq_some_iff.mp e).1
  have key : atI xs (i : Int) = some y := by
    unfold atI
    rw [Evl.ixN_nat hi]
    exact e
  cases d with
  | lst ys =>
    cases h
    exact key
  | tup ys =>
    cases h
    exact key
  | _ => cases h
theorem items_len {d : D} {xs : List D} (h : dItems d = some xs) : dLen d = some (.int xs.length) := by
  cases d <;> cases h <;> rfl
theorem v__law_of {L : List Int} {b : Int} {x : D} {xs : List D} (g : Good L b) (hx : dItems x = some xs) (hn : xs ≠ []) (hl : xs.length < 2 ^ 20) : ∃ L' b' y, Good L' b' ∧ y ∈ xs ∧ s__law_of [.ow true (.deal L b), .va x] = .ok y [.ow true (.deal L' b'), .no] := by
  have h0 : 0 < xs.length := List.length_pos_iff.mpr hn
  have hlen := items_len hx
  have p : (xs.length : Int) < 2 ^ 8000 := Int.lt_of_lt_of_le (show (xs.length : Int) < 2 ^ 20 by exact_mod_cast hl) (by decide +kernel)
  obtain ⟨L', b', v, h1, h2, h3, h4⟩ := any_ev (f := eB (on1 dLen) [(.ev (eVar 1))]) (ρ0 := [.ow true (.deal L b), .va x]) (rest := [.va x]) (io := true) (L := L) (b := b) (m := xs.length) ⟨_, _, _, _, rfl⟩ (by simp [hlen]) g (by omega) p
  have hv : v.toNat < xs.length := by omega
  refine ⟨L', b', xs[v.toNat], h1, List.getElem_mem hv, ?_⟩
  have iv : dIx x (.int v) = some xs[v.toNat] := by
    have := ix_items (i := v.toNat) hx (List.getElem?_eq_getElem hv)
    rwa [Int.toNat_of_nonneg h2] at this
  have bd : b__law_of [.ow true (.deal L b), .va x] = .rt xs[v.toNat] [.ow true (.deal L' b'), .va x] := by
    unfold b__law_of
    rw [sRet_def, e2_ev, eVar_1, bind_ok, h4, bind_ok, iv]
    rfl
  exact run_rt (n := 2) (N := 2) (b := b__law_of) (ps := [.ow true (.deal L b), .va x]) bd
theorem of_ev {f : EM D} {ρ0 rest : Env'} {io : Bool} {L : List Int} {b : Int} {x : D} {xs : List D} (h0 : ∃ io L b r, ρ0 = .ow io (.deal L b) :: r) (hf : f ρ0 = .ok x (.ow io (.deal L b) :: rest)) (g : Good L b) (hx : dItems x = some xs) (hn : xs ≠ []) (hl : xs.length < 2 ^ 20) :
    ∃ L' b' y, Good L' b' ∧ y ∈ xs ∧ eCall s__law_of [.io 0, .ev f] ρ0 = .ok y (.ow io (.deal L' b') :: rest) := by
  obtain ⟨L', b', y, h1, h2, h3⟩ := v__law_of g hx hn hl
  exact ⟨L', b', y, h1, h2, callIo h0 hf h3⟩
theorem v__law_great {L : List Int} {b m : Int} (g : Good L b) (hm : 0 < m) : ∃ L' b' v, Good L' b' ∧ 0 ≤ v ∧ v < m ∧ s__law_great [.ow true (.deal L b), .va (.int m)] = .ok (.int v) [.ow true (.deal L' b'), .no] := by
  let R (L : List Int) (b : Int) (a c : Sl) : Env' := [.ow true (.deal L b), .va (.int m), a, c]
  suffices h : ∃ ρ L' b' v, Good L' b' ∧ 0 ≤ v ∧ v < m ∧ b__law_great (R L b .no .no) = .rt (.int v) ρ ∧ outIo 2 ρ = [.ow true (.deal L' b'), .no] by
    obtain ⟨ρ, L', b', v, h1, h2, h3, h4, h5⟩ := h
    have z := run_rt (n := 2) (N := 4) (b := b__law_great) (ps := [.ow true (.deal L b), .va (.int m)]) h4
    rw [h5] at z
    exact ⟨L', b', v, h1, h2, h3, z⟩
  unfold b__law_great
  have q1 : sSet 2 (eC (.int 0)) (R L b .no .no) = .nx (R L b (.va (.int 0)) .no) := rfl
  rw [seq_nx q1]
  have hit : iR1 (.ev (eC (.int 6))) (R L b (.va (.int 0)) .no) = .ok [.int 0, .int 1, .int 2, .int 3, .int 4, .int 5] (R L b (.va (.int 0)) .no) := it_rng rfl (by decide) (by decide)
  obtain ⟨ρ', e', L2, b2, x, c, g2, i1, i2, i3, rfl⟩ := forL_all (g := gN 3) (b := (sSet 2 (e2 dAdd (.ev (e2 dMul (.ev (eVar 2)) (.ev (eC (.int 100000))))) (.ev (eCall s__law_any [(.io 0), (.ev (eC (.int 100000)))])))))
    (fun k ρ => ∃ L b x c, Good L b ∧ Fre c ∧ 0 ≤ x ∧ x < 2 ^ (20 * k + 1) ∧ ρ = R L b (.va (.int x)) c) [.int 0, .int 1, .int 2, .int 3, .int 4, .int 5] 0 (R L b (.va (.int 0)) .no) ⟨L, b, 0, .no, g, .no, Int.le_refl 0, by decide, rfl⟩ fun i t ρ hx hI => by
      obtain ⟨L1, b1, x, c, g1, hc, x0, x1, rfl⟩ := hI
      have hi : i < 6 := (List.getElem?_eq_some_iff.mp hx).1
      rw [Nat.zero_add] at x1 ⊢
      obtain ⟨L2, b2, v, h1, h2, h3, h4⟩ := any_ev (f := eC (.int 100000)) (ρ0 := R L1 b1 (.va (.int x)) (.va t)) (rest := [.va (.int m), .va (.int x), .va t]) (io := true) (L := L1) (b := b1) (m := 100000) ⟨_, _, _, _, rfl⟩ rfl g1 (by decide) (by decide +kernel)
      refine ⟨R L1 b1 (.va (.int x)) (.va t), R L2 b2 (.va (.int (x * 100000 + v))) (.va t), ?_, .inl ?_, L2, b2, x * 100000 + v, .va t, h1, .va _, by omega, ?_, rfl⟩
      · have : isIo (R L1 b1 (.va (.int x)) c)[3]? = false := hc.io
        unfold gN
        rw [this]
        rfl
      · have p : (2 : Int) ^ (20 * i + 1) ≤ 2 ^ 121 := (show ∀ j : Nat, j < 6 → (2 : Int) ^ (20 * j + 1) ≤ 2 ^ 121 by decide +kernel) i hi
        have sx : Sm 121 x := sm_lt x0 (Int.lt_of_lt_of_le x1 p)
        have mu : dMul (.int x) (.int 100000) = some (.int (x * 100000)) := dMul_sm sx (sm_lt (k := 121) (by decide) (by decide)) (by decide) (by decide)
        have e1 : e2 dMul (.ev (eVar 2)) (.ev (eC (.int 100000))) (R L1 b1 (.va (.int x)) (.va t)) = .ok (.int (x * 100000)) (R L1 b1 (.va (.int x)) (.va t)) := by
          simp [R, mu]
        rw [sSet_def, e2_ev, e1, bind_ok, h4, bind_ok, dAdd_int]
        rfl
      · have e : (2 : Int) ^ (20 * (i + 1) + 1) = 2 ^ (20 * i + 1) * 2 ^ 20 := by
          rw [← Int.pow_add]
          congr 1
        have e3 : (2 : Int) ^ 20 = 1048576 := by decide
        rw [e, e3]
        omega
  have q2 : sFor (iR1 (.ev (eC (.int 6)))) (gN 3) (sSet 2 (e2 dAdd (.ev (e2 dMul (.ev (eVar 2)) (.ev (eC (.int 100000))))) (.ev (eCall s__law_any [(.io 0), (.ev (eC (.int 100000)))])))) (R L b (.va (.int 0)) .no) = .nx (R L2 b2 (.va (.int x)) c) := by
    rw [sFor_def, hit, fl_ok]
    exact e'
  rw [seq_nx q2]
  refine ⟨R L2 b2 (.va (.int x)) c, L2, b2, x % m, g2, Int.emod_nonneg _ (by omega), Int.emod_lt_of_pos _ hm, ?_, rfl⟩
  simp [R, dInt, dMod_pos hm]
theorem great_ev {f : EM D} {ρ0 rest : Env'} {io : Bool} {L : List Int} {b m : Int} (h0 : ∃ io L b r, ρ0 = .ow io (.deal L b) :: r) (hf : f ρ0 = .ok (.int m) (.ow io (.deal L b) :: rest)) (g : Good L b) (hm : 0 < m) :
    ∃ L' b' v, Good L' b' ∧ 0 ≤ v ∧ v < m ∧ eCall s__law_great [.io 0, .ev f] ρ0 = .ok (.int v) (.ow io (.deal L' b') :: rest) := by
  obtain ⟨L', b', v, h1, h2, h3, h4⟩ := v__law_great g hm
  exact ⟨L', b', v, h1, h2, h3, callIo h0 hf h4⟩
end Ma
end

section
set_option maxRecDepth 100000
set_option linter.all false
set_option exponentiation.threshold 100000
namespace Ma
open PySem PySem.Spec PyProof.Rows L2 DL Wk
@[simp] theorem eOr_def (f g : EM D) (ρ : Env') : eOr f g ρ = (f ρ).bind fun x ρ1 => match x with
  | .bl true => .ok (.bl true) ρ1
  | .bl false => g ρ1
  | _ => .stuck := rfl
theorem mul_lt {a b : Int} {k l : Nat} (a0 : 0 ≤ a) (a1 : a < 2 ^ k) (b0 : 0 ≤ b) (b1 : b < 2 ^ l) : a * b < 2 ^ (k + l) := by
  rw [Int.pow_add]
  have h1 : a * b ≤ a * 2 ^ l := Int.mul_le_mul_of_nonneg_left (by omega) a0
  have p : (0 : Int) < 2 ^ l := Int.pow_pos (by decide)
  have h2 : a * 2 ^ l < 2 ^ k * 2 ^ l := Int.mul_lt_mul_of_pos_right a1 p
  omega
theorem sum2 (a b : Int) : dSum (.lst [.int a, .int b]) = some (.int (a + b)) := by
  show some (D.int (a + (b + 0))) = _
  rw [Int.add_zero]
theorem pow10 {k : Nat} (hk : k ≤ 1000) : dPow (.int 10) (.int (k : Int)) = some (.int (10 ^ k)) := by
  show (if (0 : Int) ≤ (k : Int) ∧ (k : Int) ≤ 1000 ∧ (10 : Int).natAbs < 2 ^ 64 then some (D.int ((10 : Int) ^ (k : Int).toNat)) else none) = _
  rw [if_pos ⟨by omega, by omega, by decide⟩, Int.toNat_natCast]
theorem pow28 : dPow (.int 10) (.int 28) = some (.int (10 ^ 28)) := pow10 (k := 28) (by decide)
/-- joined or not, by all rows -/
theorem joined_ev {ρ : Env'} {rs : List (List Int)} {L : Nat} (h5 : eVar 5 ρ = .ok (lR rs) ρ) (hL : L ≤ 1000) (hr : ∀ r ∈ rs, r.length = L) (hn : rs.length ≤ 300) : eOr (e2 dEq (.ev (eVar 5)) (.ev (eL (argGo (([] : List (EM D)).map Opd.ev))))) (e2 dEq (.ev (eB (on1 dLen) [(.ev (eCall s__law_reached [(.ev (eVar 5)), (.ev (e2 dIx (.ev (eVar 5)) (.ev (eC (.int 0)))))]))])) (.ev (eB (on1 dLen) [(.ev (eVar 5))]))) ρ = .ok (.bl (Nu.joined rs)) ρ := by
  have e1 : dEq (lR rs) (.lst []) = some (.bl rs.isEmpty) := dEq_rows_nil rs
  rw [eOr_def, e2_ev, h5, bind_ok, eL_def, disp_0, bind_ok, bind_ok, e1, lift_some, bind_ok]
  unfold Nu.joined
  cases rs with
  | nil => rfl
  | cons r rs =>
    have i0 : dIx (lR (r :: rs)) (.int 0) = some (rD r) := ix_items (i := 0) rfl rfl
    have v := v__law_reached hr (hr r List.mem_cons_self) hL hn
    show e2 dEq _ _ ρ = _
    rw [e2_ev, eB_1, call_2, h5, bind_ok, e2_ev, h5, bind_ok, eC_go, bind_ok, i0, lift_some, bind_ok, outR2 ρ v, bind_ok]
    unfold lR
    rw [dLen_lst, lift_some, bind_ok, eB_1]
    have h5' : eVar 5 ρ = .ok (.lst ((r :: rs).map rD)) ρ := h5
    rw [h5', bind_ok, dLen_lst, lift_some, bind_ok, dEq_int, lift_some, List.length_map, List.length_map]
    congr 2
    show decide (((Nu.reached (r :: rs) r).length : Int) = ((r :: rs).length : Int)) = (false || decide ((Nu.reached (r :: rs) r).length = (r :: rs).length))
    rw [Bool.false_or]
    exact decide_eq_decide.mpr (by omega)
theorem v__law_small {L : List Int} {b : Int} (g : Good L b) : ∃ L' b', Good L' b' ∧ s__law_small [.ow true (.deal L b)] = .ok (.bl true) [.ow true (.deal L' b')] := by
  suffices h : ∃ ρ L' b', Good L' b' ∧ b__law_small [.ow true (.deal L b), .no, .no, .no, .no, .no, .no, .no, .no, .no, .no] = .rt (.bl true) ρ ∧ outIo 1 ρ = [.ow true (.deal L' b')] by
    obtain ⟨ρ, L', b', h1, h4, h5⟩ := h
    have z := run_rt (n := 1) (N := 11) (b := b__law_small) (ps := [.ow true (.deal L b)]) h4
    rw [h5] at z
    exact ⟨L', b', h1, z⟩
  unfold b__law_small
  have big : ∀ m : Int, m < 2 ^ 1000 → m < 2 ^ 8000 := fun m h => Int.lt_trans h (by decide +kernel)
  have dl : ∀ (io : Bool) (L : List Int) (b : Int) (r : Env'), ∃ io' L' b' r', (.ow io (.deal L b) :: r : Env') = .ow io' (.deal L' b') :: r' := fun io L b r => ⟨_, _, _, _, rfl⟩
  let N10 : Env' := [.no, .no, .no, .no, .no, .no, .no, .no, .no, .no]
  obtain ⟨L1, b1, c0, g1, c00, c01, e1⟩ := any_ev (f := eC (.int 6)) (rest := N10) (dl true L b N10) rfl g (by decide) (big _ (by decide +kernel))
  obtain ⟨L2, b2, c1, g2, c10, c11, e2'⟩ := any_ev (f := eC (.int 6)) (rest := N10) (dl true L1 b1 N10) rfl g1 (by decide) (big _ (by decide +kernel))
  obtain ⟨L3, b3, w0, g3, w00, w01, e3⟩ := any_ev (f := eC (.int 7)) (rest := N10) (dl true L2 b2 N10) rfl g2 (by decide) (big _ (by decide +kernel))
  obtain ⟨L4, b4, w1, g4, w10, w11, e4⟩ := any_ev (f := eC (.int 7)) (rest := N10) (dl true L3 b3 N10) rfl g3 (by decide) (big _ (by decide +kernel))
  let C : D := .lst [.int c0, .int c1]
  let W : D := .lst [.int (1 + w0), .int (1 + w1)]
  have sC : SqI C [c0, c1] := rfl
  have sW : SqI W [1 + w0, 1 + w1] := rfl
  let R (L : List Int) (b : Int) (lo hi rs j t le mo : Sl) : Env' := [.ow true (.deal L b), .va C, .va W, lo, hi, rs, j, t, le, mo, .no]
  have q1 : sPar 1 2 (.fz (eL (argGo (([(eCall s__law_any [(.io 0), (.ev (eC (.int 6)))]), (eCall s__law_any [(.io 0), (.ev (eC (.int 6)))])] : List (EM D)).map Opd.ev)))) (.fz (eL (argGo (([(e2 dAdd (.ev (eC (.int 1))) (.ev (eCall s__law_any [(.io 0), (.ev (eC (.int 7)))]))), (e2 dAdd (.ev (eC (.int 1))) (.ev (eCall s__law_any [(.io 0), (.ev (eC (.int 7)))])))] : List (EM D)).map Opd.ev)))) [.ow true (.deal L b), .no, .no, .no, .no, .no, .no, .no, .no, .no, .no] = .nx (R L4 b4 .no .no .no .no .no .no .no) := by
    unfold sPar El.go
    simp only [eL_def, disp_2, e2_ev, eC_go, bind_ok]
    show (((eCall s__law_any [.io 0, .ev (eC (.int 6))] (.ow true (.deal L b) :: N10)).bind _).bind _ : Out D).fl _ = _
    rw [e1, bind_ok, e2', bind_ok, bind_ok, fl_ok, e3, bind_ok, dAdd_int, lift_some, bind_ok, e4, bind_ok, dAdd_int, lift_some, bind_ok, bind_ok, fl_ok]
    rfl
  rw [seq_nx q1]
  have sm7 : ∀ x ∈ [1 + w0, 1 + w1], Sm 10000 x := fun x hx => by
    have : 0 ≤ x ∧ x < 2 ^ 10 := by
      rcases List.mem_cons.mp hx with h | h
      · omega
      · have := List.mem_singleton.mp h
        omega
    exact sm_lt this.1 (Int.lt_of_lt_of_le this.2 (by decide +kernel))
  have sm5 : ∀ x ∈ [c0, c1], Sm 10000 x := fun x hx => by
    have : 0 ≤ x ∧ x < 2 ^ 10 := by
      rcases List.mem_cons.mp hx with h | h
      · omega
      · have := List.mem_singleton.mp h
        omega
    exact sm_lt this.1 (Int.lt_of_lt_of_le this.2 (by decide +kernel))
  have vw := v__law_weighed sW sC (show 2 < 1000000 by decide) sm7 sm5
  rw [wgt_two] at vw
  have s1 : (1 + w0) * c0 ≤ 7 * 5 := Int.mul_le_mul (by omega) (by omega) c00 (by decide)
  have s2 : (1 + w1) * c1 ≤ 7 * 5 := Int.mul_le_mul (by omega) (by omega) c10 (by decide)
  have s3 : 0 ≤ (1 + w0) * c0 := Int.mul_nonneg (by omega) c00
  have s4 : 0 ≤ (1 + w1) * c1 := Int.mul_nonneg (by omega) c10
  have f3 : e2 dAdd (.ev (eCall s__law_weighed [(.ev (eVar 2)), (.ev (eVar 1))])) (.ev (eC (.int 2))) (R L4 b4 .no .no .no .no .no .no .no) = .ok (.int ((1 + w0) * c0 + (1 + w1) * c1 + 2)) (R L4 b4 .no .no .no .no .no .no .no) := by
    rw [e2_ev, call_2]
    show ((outR 2 (s__law_weighed [.va W, .va C]) (R L4 b4 .no .no .no .no .no .no .no)).bind _ : Out D) = _
    rw [outR2 _ vw]
    rfl
  obtain ⟨L5, b5, low, g5, lo0, lo1, e5⟩ := any_ev (dl true L4 b4 _) f3 g4 (by omega) (big _ (Int.lt_trans (show _ < (1000 : Int) by omega) (by decide +kernel)))
  have q2 : sSet 3 (eCall s__law_any [(.io 0), (.ev (e2 dAdd (.ev (eCall s__law_weighed [(.ev (eVar 2)), (.ev (eVar 1))])) (.ev (eC (.int 2)))))]) (R L4 b4 .no .no .no .no .no .no .no) = .nx (R L5 b5 (.va (.int low)) .no .no .no .no .no .no) := by
    rw [sSet_def]
    show ((eCall s__law_any _ (.ow true (.deal L4 b4) :: _)).fl _ : Fl) = _
    rw [e5]
    rfl
  rw [seq_nx q2]
  have f4 : e2 dAdd (.ev (eC (.int 1))) (.ev (eB (on1 dSum) [(.ev (eVar 2))])) (R L5 b5 (.va (.int low)) .no .no .no .no .no .no) = .ok (.int (1 + (1 + w0 + (1 + w1)))) (R L5 b5 (.va (.int low)) .no .no .no .no .no .no) := by
    rw [e2_ev, eC_go, bind_ok, eB_1]
    show ((Out.lift (R L5 b5 (.va (.int low)) .no .no .no .no .no .no) (dSum W)).bind _ : Out D) = _
    rw [sum2, lift_some, bind_ok, dAdd_int, lift_some]
  obtain ⟨L6, b6, dlt, g6, dl0, dl1, e6⟩ := any_ev (dl true L5 b5 _) f4 g5 (by omega) (big _ (Int.lt_trans (show _ < (1000 : Int) by omega) (by decide +kernel)))
  let high : Int := low + dlt
  have q3 : sSet 4 (e2 dAdd (.ev (eVar 3)) (.ev (eCall s__law_any [(.io 0), (.ev (e2 dAdd (.ev (eC (.int 1))) (.ev (eB (on1 dSum) [(.ev (eVar 2))]))))]))) (R L5 b5 (.va (.int low)) .no .no .no .no .no .no) = .nx (R L6 b6 (.va (.int low)) (.va (.int high)) .no .no .no .no .no) := by
    rw [sSet_def, e2_ev]
    show (((eCall s__law_any _ (.ow true (.deal L5 b5) :: _)).bind _ : Out D).fl _ : Fl) = _
    rw [e6]
    rfl
  rw [seq_nx q3]
  have T : Two c0 c1 (1 + w0) (1 + w1) low high := by
    have p : (1000 : Int) < 2 ^ 190 := by decide
    have p2 : (1000 : Int) < 2 ^ 390 := by decide
    exact ⟨c00, c10, by omega, by omega, by omega, by omega, by omega, by omega, by omega, by omega, by omega, by omega⟩
  have few : Few [c0, c1] := ⟨show 2 ≤ 3 by decide, fun c hc => by
    rcases List.mem_cons.mp hc with h | h
    · omega
    · have := List.mem_singleton.mp h
      omega⟩
  let rs : List (List Int) := Nu.rowsOf [c0, c1] [1 + w0, 1 + w1] low high
  have vr := v__law_rows (low := low) (high := high) sC sW few T.szs
  have q4 : sSet 5 (eCall s__law_rows [(.ev (eVar 1)), (.ev (eVar 2)), (.ev (eVar 3)), (.ev (eVar 4))]) (R L6 b6 (.va (.int low)) (.va (.int high)) .no .no .no .no .no) = .nx (R L6 b6 (.va (.int low)) (.va (.int high)) (.va (lR rs)) .no .no .no .no) := by
    rw [sSet_def, call_4]
    show ((outR 4 (s__law_rows [.va C, .va W, .va (.int low), .va (.int high)]) (R L6 b6 (.va (.int low)) (.va (.int high)) .no .no .no .no .no)).fl _ : Fl) = _
    rw [outR4 _ vr]
    rfl
  rw [seq_nx q4]
  have rlen : ∀ r ∈ rs, r.length = 2 := fun r hr => (Nu.mem_rowsOf.mp hr).len
  have rn : rs.length ≤ 300 := by
    have h1 : rs.length ≤ (Nu.boxRows [c0, c1]).length := List.length_filter_le _ _
    have h2 := few.len 2
    have h3 : ([c0, c1].take 2).foldl Nu.grow [[]] = Nu.boxRows [c0, c1] := rfl
    rw [h3] at h2
    omega
  let j : Bool := Nu.joined rs
  have q5 : sSet 6 (eOr (e2 dEq (.ev (eVar 5)) (.ev (eL (argGo (([] : List (EM D)).map Opd.ev))))) (e2 dEq (.ev (eB (on1 dLen) [(.ev (eCall s__law_reached [(.ev (eVar 5)), (.ev (e2 dIx (.ev (eVar 5)) (.ev (eC (.int 0)))))]))])) (.ev (eB (on1 dLen) [(.ev (eVar 5))])))) (R L6 b6 (.va (.int low)) (.va (.int high)) (.va (lR rs)) .no .no .no .no) = .nx (R L6 b6 (.va (.int low)) (.va (.int high)) (.va (lR rs)) (.va (.bl j)) .no .no .no) := by
    rw [sSet_def, joined_ev (rs := rs) (L := 2) rfl (by decide) rlen rn]
    rfl
  rw [seq_nx q5]
  have p49 : (7 : Int) < 1 * 2 ^ 49 := by decide
  obtain ⟨r, er⟩ := Nu.tc_some (g := 1) (c0 := c0) (c1 := c1) (w0 := 1 + w0) (w1 := 1 + w1) (low := low) (high := high) (by decide) T.w0p (Int.one_dvd _) (Int.one_dvd _) (by omega)
  have hj : r.isNone = j := (Nu.joined_two T.w0p T.w1p T.c0p er).symm
  have t1 := v__law_two sC sW T er hj
  have q6 : sIf (tNotB (eT (eCall s__law_two [(.ev (eVar 1)), (.ev (eVar 2)), (.ev (eVar 3)), (.ev (eVar 4)), (.ev (eVar 6))]))) (sRet (eC (.bl false))) sNx (R L6 b6 (.va (.int low)) (.va (.int high)) (.va (lR rs)) (.va (.bl j)) .no .no .no) = .nx (R L6 b6 (.va (.int low)) (.va (.int high)) (.va (lR rs)) (.va (.bl j)) .no .no .no) := by
    simp [R, outR5 _ t1]
  rw [seq_nx q6]
  have p28 : (0 : Int) < 10 ^ 28 := by decide
  have f7 : e2 dPow (.ev (eC (.int 10))) (.ev (eC (.int 28))) (R L6 b6 (.va (.int low)) (.va (.int high)) (.va (lR rs)) (.va (.bl j)) .no .no .no) = .ok (.int (10 ^ 28)) (R L6 b6 (.va (.int low)) (.va (.int high)) (.va (lR rs)) (.va (.bl j)) .no .no .no) := by
    rw [e2_ev, eC_go, bind_ok, eC_go, bind_ok, pow28, lift_some]
  obtain ⟨L7, b7, t', g7, t0, t1', e7⟩ := great_ev (dl true L6 b6 _) f7 g6 p28
  have q7 : sSet 7 (e2 dAdd (.ev (eC (.int 1))) (.ev (eCall s__law_great [(.io 0), (.ev (e2 dPow (.ev (eC (.int 10))) (.ev (eC (.int 28)))))]))) (R L6 b6 (.va (.int low)) (.va (.int high)) (.va (lR rs)) (.va (.bl j)) .no .no .no) = .nx (R L7 b7 (.va (.int low)) (.va (.int high)) (.va (lR rs)) (.va (.bl j)) (.va (.int (1 + t'))) .no .no) := by
    rw [sSet_def, e2_ev, eC_go, bind_ok]
    show (((eCall s__law_great _ (.ow true (.deal L6 b6) :: _)).bind _ : Out D).fl _ : Fl) = _
    rw [e7]
    rfl
  rw [seq_nx q7]
  have tb : (10 : Int) ^ 28 < 2 ^ 100 := by decide
  have tp : 0 < 1 + t' := by omega
  have ts : 1 + t' < 2 ^ 101 := by
    have : (2 : Int) ^ 100 < 2 ^ 101 := by decide
    omega
  generalize 1 + t' = t at tp ts q7
  let R8 (L : List Int) (b : Int) : Env' := R L b (.va (.int low)) (.va (.int high)) (.va (lR rs)) (.va (.bl j)) (.va (.int t)) .no .no
  obtain ⟨L8, b8, u1, g8, u10, u11, e8⟩ := great_ev (f := eVar 7) (dl true L7 b7 _) (show eVar 7 (R8 L7 b7) = .ok (.int t) (R8 L7 b7) from rfl) g7 tp
  obtain ⟨L9, b9, u2, g9, u20, u21, e9⟩ := great_ev (f := eVar 7) (dl true L8 b8 _) (show eVar 7 (R8 L8 b8) = .ok (.int t) (R8 L8 b8) from rfl) g8 tp
  let least : Int := Nu.mx 0 (low * t - u1)
  let most : Int := high * t + u2
  have sl : Sm 101 low := sm_lt lo0 (Int.lt_trans (show low < 1000 by omega) (by decide))
  have sh : Sm 101 high := sm_lt (show 0 ≤ high by omega) (Int.lt_trans (show high < 1000 by omega) (by decide))
  have st : Sm 101 t := sm_lt (by omega) ts
  have m1 : dMul (.int low) (.int t) = some (.int (low * t)) := dMul_sm sl st (by decide) (by decide)
  have m2 : dMul (.int high) (.int t) = some (.int (high * t)) := dMul_sm sh st (by decide) (by decide)
  have q8 : sPar 8 9 (.fz (eB (on2 dMax2) [(.ev (eC (.int 0))), (.ev (e2 dSub (.ev (e2 dMul (.ev (eVar 3)) (.ev (eVar 7)))) (.ev (eCall s__law_great [(.io 0), (.ev (eVar 7))]))))])) (.fz (e2 dAdd (.ev (e2 dMul (.ev (eVar 4)) (.ev (eVar 7)))) (.ev (eCall s__law_great [(.io 0), (.ev (eVar 7))])))) (R8 L7 b7) = .nx (R L9 b9 (.va (.int low)) (.va (.int high)) (.va (lR rs)) (.va (.bl j)) (.va (.int t)) (.va (.int least)) (.va (.int most))) := by
    have k1 : e2 dMul (.ev (eVar 3)) (.ev (eVar 7)) (R8 L7 b7) = .ok (.int (low * t)) (R8 L7 b7) := by
      rw [e2_ev]
      show Out.lift (R8 L7 b7) (dMul (.int low) (.int t)) = _
      rw [m1, lift_some]
    have k2 : e2 dMul (.ev (eVar 4)) (.ev (eVar 7)) (R8 L8 b8) = .ok (.int (high * t)) (R8 L8 b8) := by
      rw [e2_ev]
      show Out.lift (R8 L8 b8) (dMul (.int high) (.int t)) = _
      rw [m2, lift_some]
    have k3 : eCall s__law_great [.io 0, .ev (eVar 7)] (R8 L7 b7) = .ok (.int u1) (R8 L8 b8) := e8
    have k4 : eCall s__law_great [.io 0, .ev (eVar 7)] (R8 L8 b8) = .ok (.int u2) (R8 L9 b9) := e9
    unfold sPar El.go
    simp only [eB_2, eC_go, bind_ok, e2_ev (k := dSub), e2_ev (k := dAdd), k1, k3, dSub_int, lift_some, dMax2_int, fl_ok, k2, k4, dAdd_int]
    rfl
  rw [seq_nx q8]
  have hb7 : ∀ a : Int, 0 ≤ a → a < 1000 → 0 ≤ a * t ∧ a * t < 2 ^ 111 := fun a h1 h2 => by
    refine ⟨Int.mul_nonneg h1 (by omega), ?_⟩
    have := mul_lt (k := 10) (l := 101) h1 (Int.lt_trans h2 (by decide)) (by omega) ts
    exact this
  have z1 := hb7 low lo0 (by omega)
  have z2 := hb7 high (by omega) (by omega)
  have z3 := hb7 (1 + w0) (by omega) (by omega)
  have z4 := hb7 (1 + w1) (by omega) (by omega)
  have ml := Nu.mx_le (a := 0) (b := low * t - u1)
  have mu : least ≤ low * t := by
    show Nu.mx 0 (low * t - u1) ≤ _
    unfold Nu.mx
    split <;> omega
  have n0 : (0 : Int) < (1 + w0) * t := Int.mul_pos (by omega) tp
  have n1 : (0 : Int) < (1 + w1) * t := Int.mul_pos (by omega) tp
  have T2 : Two c0 c1 ((1 + w0) * t) ((1 + w1) * t) least most := by
    have p : (2 : Int) ^ 111 < 2 ^ 190 := by decide
    have p2 : (2 : Int) ^ 111 + 2 ^ 111 < 2 ^ 390 := by decide
    have p3 : (2 : Int) ^ 101 < 2 ^ 111 := by decide
    exact ⟨c00, c10, n0, n1, by have := T.c0s; omega, by have := T.c1s; omega, by omega, by omega, ml.1, by omega, by omega, by omega⟩
  obtain ⟨r2, er2⟩ := Nu.tc_some (g := t) (c0 := c0) (c1 := c1) (w0 := (1 + w0) * t) (w1 := (1 + w1) * t) (low := least) (high := most) tp T2.w0p (Int.dvd_mul_left _ _) (Int.dvd_mul_left _ _) (by
    rw [Int.mul_comm]
    exact Int.mul_le_mul_of_nonneg_left (by omega) (by omega))
  have hj2 : r2.isNone = j := by
    rw [← Nu.joined_two T2.w0p T2.w1p T2.c0p er2]
    show Nu.joined (Nu.rowsOf [c0, c1] [(1 + w0) * t, (1 + w1) * t] (Nu.mx 0 (low * t - u1)) (high * t + u2)) = Nu.joined rs
    rw [Nu.rows_times (by omega) (by omega) tp u10 u11 u20 u21]
  let W2 : D := .lst [.int ((1 + w0) * t), .int ((1 + w1) * t)]
  have t2 := v__law_two (d := C) (w := W2) sC rfl T2 er2 hj2
  let R9 : Env' := R L9 b9 (.va (.int low)) (.va (.int high)) (.va (lR rs)) (.va (.bl j)) (.va (.int t)) (.va (.int least)) (.va (.int most))
  have cm : eL (eComp (iS (eVar 2)) [10] (gN 10) cYes (e2 dMul (.ev (eVar 10)) (.ev (eVar 7)))) R9 = .ok W2 R9 := by
    rw [eL_def, comp_map (l := [1 + w0, 1 + w1]) (fun x : Int => D.int x) (fun x : Int => .int (x * t)) (it_seq (f := eVar 2) (x := W) rfl rfl) rfl (show 2 < 1000000 by decide) fun x hx => ?_, bind_ok]
    · rfl
    · have hx' : 0 ≤ x ∧ x < 1000 := by
        rcases List.mem_cons.mp hx with h | h
        · omega
        · have := List.mem_singleton.mp h
          omega
      have mx : dMul (.int x) (.int t) = some (.int (x * t)) := dMul_sm (k := 101) (sm_lt hx'.1 (Int.lt_trans hx'.2 (by decide))) st (by decide) (by decide)
      simp [stepC, wipeR, gN, isIo, restore, R9, R, mx]
  refine ⟨R9, L9, b9, g9, ?_, rfl⟩
  rw [sRet_def, call_5]
  show (((eL (eComp (iS (eVar 2)) [10] (gN 10) cYes (e2 dMul (.ev (eVar 10)) (.ev (eVar 7)))) R9).bind _ : Out D).fl _ : Fl) = _
  rw [cm, bind_ok]
  show ((outR 5 (s__law_two [.va C, .va W2, .va (.int least), .va (.int most), .va (.bl j)]) R9).fl _ : Fl) = _
  rw [outR5 _ t2, fl_ok]
end Ma
end

section
set_option maxRecDepth 100000
set_option linter.all false
set_option exponentiation.threshold 100000
namespace Ma
open PySem PySem.Spec PyProof.Rows L2 DL Wk
/-! ### sorting -/
theorem sort_map {α : Type} (f : α → D) (g : α → PyData) (le : α → α → Bool) (l : List α) (h1 : toPys (l.map f) = some (l.map g)) (h2 : okSort (l.map g) = true) (h3 : ∀ a b, PySem.W.dataLe false g a b = le a b) : dSortDat (.lst (l.map f)) = some (.lst ((l.mergeSort le).map f)) := by
  show (match toPys (l.map f) with
    | some ds => if okSort ds = true then some (D.lst (sortD (l.map f) ds)) else none
    | none => none) = _
  rw [h1]
  simp only [h2, if_true]
  congr 2
  unfold sortD
  have e : (l.map f).zip (l.map g) = l.map fun a => (f a, g a) := List.zip_map' ..
  rw [e, ← List.map_mergeSort (r := le) (s := PySem.W.dataLe false Prod.snd) (f := fun a => (f a, g a)) fun a _ b _ => (h3 a b).symm, List.map_map]
  rfl
def pyP (p : Int × Int) : PyData := .tuple [.int p.1, .int p.2]
theorem toPys_prs : ∀ l : List (Int × Int), toPys (l.map prD) = some (l.map pyP)
  | [] => rfl
  | p :: l => by
    show (match toPy (prD p), toPys (l.map prD) with
      | some d, some ds => some (d :: ds)
      | _, _ => none) = _
    rw [toPys_prs l]
    rfl
theorem sort_prs (l : List (Int × Int)) : dSortDat (.lst (l.map prD)) = some (.lst ((l.mergeSort Nu.leP).map prD)) := by
  refine sort_map prD pyP Nu.leP l (toPys_prs l) ?_ fun a b => ?_
  · unfold okSort
    simp only [Bool.and_eq_true, Bool.or_eq_true, List.all_eq_true, List.mem_map, decide_eq_true_eq]
    refine ⟨⟨?_, .inl ?_⟩, ?_⟩
    · rintro d ⟨p, _, rfl⟩ d' ⟨q, _, rfl⟩
      simp [pyP, PySem.W.alike, PySem.W.alikeAll]
    · rintro d ⟨p, _, rfl⟩
      rfl
    · rintro d ⟨p, _, rfl⟩
      simp [pyP, PyData.depth, PyData.depthAll]
  · exact congrFun (congrFun (PySem.W.dataLe_ii (β := Int × Int) (fun p => p.1) (fun p => p.2)) a) b
theorem sort_ints (l : List Int) : dSortDat (.lst (l.map .int)) = some (.lst ((l.mergeSort Nu.leI).map .int)) := by
  refine sort_map D.int PyData.int Nu.leI l (toPys_int l) ?_ fun a b => ?_
  · unfold okSort
    simp only [Bool.and_eq_true, Bool.or_eq_true, List.all_eq_true, List.mem_map, decide_eq_true_eq]
    refine ⟨⟨?_, .inr ?_⟩, ?_⟩
    · rintro d ⟨p, _, rfl⟩ d' ⟨q, _, rfl⟩
      simp [PySem.W.alike]
    · rintro d ⟨p, _, rfl⟩
      rfl
    · rintro d ⟨p, _, rfl⟩
      simp [PyData.depth]
  · exact congrFun (congrFun (PySem.W.dataLe_int (β := Int) fun p => p) a) b
/-! ### slices -/
theorem cut_to (xs : List D) (n : Nat) : DL.cutD xs none (some (n : Int)) = xs.take n := by
  unfold DL.cutD
  have e1 : HT.sIx xs.length 0 none = 0 := rfl
  have e2 : HT.sIx xs.length xs.length (some (n : Int)) = min n xs.length := HT.sIx_nat _ _ _
  rw [e1, e2, List.drop_zero, Nat.sub_zero]
  by_cases h : n ≤ xs.length
  · rw [Nat.min_eq_left h]
  · rw [Nat.min_eq_right (by omega), List.take_of_length_le (Nat.le_refl _), List.take_of_length_le (by omega)]
theorem cut_last2 (xs : List D) : DL.cutD xs (some (-2)) none = xs.drop (xs.length - 2) := by
  unfold DL.cutD
  have e1 : HT.sIx xs.length 0 (some (-2)) = xs.length - 2 := by
    unfold HT.sIx
    simp
    omega
  have e2 : HT.sIx xs.length xs.length none = xs.length := rfl
  rw [e1, e2, List.take_of_length_le (by rw [List.length_drop]; omega)]
/-! ### heaviest -/
theorem numD_map (ws : List Int) : numD 0 (ws.map .int) = (List.range ws.length).map fun k : Nat => D.tup [.int (k : Int), .int (Nu.at_ ws k)] := by
  refine List.ext_getElem? fun j => ?_
  rw [numD_get, Nat.zero_add, List.getElem?_map, List.getElem?_map]
  by_cases h : j < ws.length
  · rw [List.getElem?_eq_getElem h, List.getElem?_range h]
    simp [Nu.at_, List.getD, List.getElem?_eq_getElem h]
  · rw [List.getElem?_eq_none (by omega), List.getElem?_eq_none (by rw [List.length_range]; omega)]
    rfl
theorem zipD_range {ws cs : List Int} (h : ws.length = cs.length) : zipD (ws.map .int) (cs.map .int) = (List.range ws.length).map fun k : Nat => D.tup [.int (Nu.at_ ws k), .int (Nu.at_ cs k)] := by
  rw [zipD_ints]
  refine List.ext_getElem? fun j => ?_
  rw [List.getElem?_map, List.getElem?_map]
  by_cases hj : j < ws.length
  · have hj' : j < cs.length := by omega
    have e : (ws.zip cs)[j]? = some (ws[j], cs[j]) := List.getElem?_zip_eq_some.mpr ⟨List.getElem?_eq_getElem hj, List.getElem?_eq_getElem hj'⟩
    rw [e, List.getElem?_range hj]
    simp [Nu.at_, List.getD, List.getElem?_eq_getElem hj, List.getElem?_eq_getElem hj']
  · rw [List.getElem?_eq_none (by rw [List.length_zip]; omega), List.getElem?_eq_none (by rw [List.length_range]; omega)]
    rfl
theorem v_heaviest {d w : D} {cs ws : List Int} (hd : SqI d cs) (hw : SqI w ws) (z : Szs cs ws) : s_heaviest [.va d, .va w] = .ok (.lst (((Nu.srt cs ws).take 2).map fun p => .int p.2)) [.no, .no] := by
  suffices h : ∃ ρ, b_heaviest [.va d, .va w, .no, .no, .no] = .rt (.lst (((Nu.srt cs ws).take 2).map fun p => .int p.2)) ρ ∧ outIo 2 ρ = [.no, .no] by
    obtain ⟨ρ, a, b⟩ := h
    have z := run_rt (n := 2) (N := 5) (b := b_heaviest) (ps := [.va d, .va w]) a
    rw [b] at z
    exact z
  unfold b_heaviest
  have hn := z.lc
  have hlw := z.lw
  have c1 : eComp (iEn (eVar 1)) [3, 4] (gS 2 (gsCons (gN 3) (gsCons (gN 4) gsNil))) (eT (e2 dGt (.ev (e2 dIx (.ev (eVar 0)) (.ev (eVar 3)))) (.ev (eC (.int 0))))) (eTup [(e2 dSub (.ev (eC (.int 0))) (.ev (eVar 4))), (eVar 3)]) [.va d, .va w, .no, .no, .no] = .ok ((Nu.prs cs ws).map prD) [.va d, .va w, .no, .no, .no] := by
    unfold Nu.prs Nu.keysIn
    rw [List.map_map]
    refine comp_filt (l := List.range ws.length) (fun k : Nat => D.tup [.int (k : Int), .int (Nu.at_ ws k)]) (fun k => decide (0 < Nu.at_ cs k)) (prD ∘ fun k : Nat => (-(Nu.at_ ws k), (k : Int))) ?_ rfl (by rw [List.length_range]; omega) fun k hk => ?_
    · rw [it_enum (eVar_1 _ _ _) hw, numD_map]
    · have hk' : k < cs.length := by rw [← hlw]; exact List.mem_range.mp hk
      have i1 := ix_at hd hk'
      by_cases hp : 0 < Nu.at_ cs k <;> simp [stepC, wipeR, gS, dItems, gsCons, gN, gsNil, isIo, restore, i1, dCmp, hp, prD]
  let S : D := .lst ((Nu.srt cs ws).map prD)
  have q1 : sSet 2 (eB (on1 dSortDat) [(.ev (eL (eComp (iEn (eVar 1)) [3, 4] (gS 2 (gsCons (gN 3) (gsCons (gN 4) gsNil))) (eT (e2 dGt (.ev (e2 dIx (.ev (eVar 0)) (.ev (eVar 3)))) (.ev (eC (.int 0))))) (eTup [(e2 dSub (.ev (eC (.int 0))) (.ev (eVar 4))), (eVar 3)]))))]) [.va d, .va w, .no, .no, .no] = .nx [.va d, .va w, .va S, .no, .no] := by
    rw [sSet_def, eB_1, eL_def, c1, bind_ok, bind_ok, sort_prs]
    rfl
  rw [seq_nx q1]
  refine ⟨[.va d, .va w, .va S, .no, .no], ?_, rfl⟩
  have e1 : eSl (.ev (eVar 2)) none (some (eC (.int 2))) [.va d, .va w, .va S, .no, .no] = .ok (.lst (((Nu.srt cs ws).take 2).map prD)) [.va d, .va w, .va S, .no, .no] := by
    show Out.lift _ (some (D.lst (DL.cutD ((Nu.srt cs ws).map prD) none (some ((2 : Nat) : Int))))) = _
    rw [cut_to, ← List.map_take]
    rfl
  rw [sRet_def, eL_def, comp_map (l := (Nu.srt cs ws).take 2) prD (fun p => .int p.2) (it_seq e1 rfl) rfl (by
    have := List.length_take_le 2 (Nu.srt cs ws)
    omega) fun p hp => ?_]
  · rfl
  · simp [stepC, wipeR, gS, dItems, gsCons, gN, gsNil, isIo, restore, prD]
end Ma
end

section
set_option maxRecDepth 100000
set_option linter.all false
set_option exponentiation.threshold 100000
namespace Ma
open PySem PySem.Spec PyProof.Rows L2 DL Wk
/-! ### enough_slack -/
theorem sl_at {xs : List D} {i : Nat} {y : D} (e : xs[i]? = some y) : dIx (.lst xs) (.int (i : Int)) = some y := ix_items (d := .lst xs) rfl e
theorem v_enough_slack {d w : D} {cs ws : List Int} (hd : SqI d cs) (hw : SqI w ws) (z : Szs cs ws) : s_enough_slack [.va d, .va w] = .ok (.int (Nu.enough cs ws)) [.no, .no] := by
  let K : D := .lst (((Nu.srt cs ws).take 2).map fun p => .int p.2)
  have q1 : sSet 2 (eCall s_heaviest [(.ev (eVar 0)), (.ev (eVar 1))]) [.va d, .va w, .no] = .nx [.va d, .va w, .va K] := by
    simp [outR2 _ (v_heaviest hd hw z), putSl, isIo, K]
  have hm : ∀ p ∈ Nu.srt cs ws, ∃ k : Nat, k < ws.length ∧ 0 < Nu.at_ cs k ∧ p = (-(Nu.at_ ws k), (k : Int)) := fun p hp => Nu.srt_mem.mp hp
  have hi : ∀ p ∈ Nu.srt cs ws, dIx w (.int p.2) = some (.int (-p.1)) := fun p hp => by
    obtain ⟨k, h1, h2, rfl⟩ := hm p hp
    show dIx w (.int (k : Int)) = some (.int (- -(Nu.at_ ws k)))
    rw [ix_at hw h1, Int.neg_neg]
  refine run_rt (n := 2) (N := 3) (b := b_enough_slack) (ps := [.va d, .va w]) (ρ := [.va d, .va w, .va K]) ?_
  show b_enough_slack [.va d, .va w, .no] = _
  unfold b_enough_slack
  rw [seq_nx q1]
  unfold Nu.enough
  show sRet _ [.va d, .va w, .va (.lst (((Nu.srt cs ws).take 2).map fun p => .int p.2))] = Fl.rt _ [.va d, .va w, .va (.lst (((Nu.srt cs ws).take 2).map fun p => .int p.2))]
  clear q1 hm
  generalize Nu.srt cs ws = S at hi ⊢
  match S, hi with
  | [], _ => simp
  | [a], _ => simp
  | a :: b :: r, hi =>
    have i0 : dIx (.lst [.int a.2, .int b.2]) (.int 0) = some (.int a.2) := sl_at (i := 0) rfl
    have i1 : dIx (.lst [.int a.2, .int b.2]) (.int 1) = some (.int b.2) := sl_at (i := 1) rfl
    have ia := hi a List.mem_cons_self
    have ib := hi b (List.mem_cons_of_mem _ List.mem_cons_self)
    simp [i0, i1, ia, ib]
/-! ### _law_enough -/
theorem v__law_enough {d w : D} {cs ws : List Int} (hd : SqI d cs) (hw : SqI w ws) (z : Szs cs ws) : s__law_enough [.va d, .va w] = .ok (.int (Nu.enough cs ws)) [.no, .no] := by
  have hn := z.lc
  have hlw := z.lw
  let T : D := .lst ((((Nu.srt cs ws).take 2).reverse).map fun p => .int (-p.1))
  have c1 : eComp (iZp (eVar 1) (eVar 0)) [3, 4] (gS 2 (gsCons (gN 3) (gsCons (gN 4) gsNil))) (eT (e2 dGt (.ev (eVar 4)) (.ev (eC (.int 0))))) (eVar 3) [.va d, .va w, .no, .no, .no] = .ok ((Nu.wts cs ws).map .int) [.va d, .va w, .no, .no, .no] := by
    unfold Nu.wts Nu.keysIn
    rw [List.map_map]
    refine comp_filt (l := List.range ws.length) (fun k : Nat => D.tup [.int (Nu.at_ ws k), .int (Nu.at_ cs k)]) (fun k => decide (0 < Nu.at_ cs k)) (D.int ∘ fun k : Nat => Nu.at_ ws k) ?_ rfl (by rw [List.length_range]; omega) fun k hk => ?_
    · rw [it_zip (eVar_1 _ _ _) (eVar_0 _ _) hw hd, zipD_range hlw]
    · by_cases hp : 0 < Nu.at_ cs k <;> simp [stepC, wipeR, gS, dItems, gsCons, gN, gsNil, isIo, restore, dCmp, hp]
  have q1 : sSet 2 (eSl (.ev (eB (on1 dSortDat) [(.ev (eL (eComp (iZp (eVar 1) (eVar 0)) [3, 4] (gS 2 (gsCons (gN 3) (gsCons (gN 4) gsNil))) (eT (e2 dGt (.ev (eVar 4)) (.ev (eC (.int 0))))) (eVar 3))))])) (some (e1 dNeg (.ev (eC (.int 2))))) none) [.va d, .va w, .no, .no, .no] = .nx [.va d, .va w, .va T, .no, .no] := by
    have e1 : eB (on1 dSortDat) [(.ev (eL (eComp (iZp (eVar 1) (eVar 0)) [3, 4] (gS 2 (gsCons (gN 3) (gsCons (gN 4) gsNil))) (eT (e2 dGt (.ev (eVar 4)) (.ev (eC (.int 0))))) (eVar 3))))] [.va d, .va w, .no, .no, .no] = .ok (.lst (((Nu.wts cs ws).mergeSort Nu.leI).map .int)) [.va d, .va w, .no, .no, .no] := by
      rw [eB_1, eL_def, c1, bind_ok, bind_ok, sort_ints]
      rfl
    have e2 : DL.cutD (((Nu.wts cs ws).mergeSort Nu.leI).map .int) (some (-2)) none = (((Nu.srt cs ws).take 2).reverse).map fun p => D.int (-p.1) := by
      rw [cut_last2, Nu.sort_same, ← List.map_reverse, List.map_map, ← List.map_drop, List.length_map, List.length_reverse, List.drop_reverse]
      have : (Nu.srt cs ws).take ((Nu.srt cs ws).length - ((Nu.srt cs ws).length - 2)) = (Nu.srt cs ws).take 2 := by
        by_cases h : 2 ≤ (Nu.srt cs ws).length
        · congr 1
          omega
        · rw [List.take_of_length_le (by omega), List.take_of_length_le (by omega)]
      rw [this]
      rfl
    rw [sSet_def]
    unfold eSl
    rw [go_ev, e1, bind_ok]
    show ((Out.lift [.va d, .va w, .no, .no, .no] (some (D.lst (DL.cutD (((Nu.wts cs ws).mergeSort Nu.leI).map .int) (some (-2)) none)))).fl _ : Fl) = _
    rw [e2]
    rfl
  refine run_rt (n := 2) (N := 5) (b := b__law_enough) (ps := [.va d, .va w]) (ρ := [.va d, .va w, .va T, .no, .no]) ?_
  show b__law_enough [.va d, .va w, .no, .no, .no] = _
  unfold b__law_enough
  rw [seq_nx q1]
  unfold Nu.enough
  show sRet _ [.va d, .va w, .va (.lst ((((Nu.srt cs ws).take 2).reverse).map fun p => .int (-p.1))), .no, .no] = Fl.rt _ [.va d, .va w, .va (.lst ((((Nu.srt cs ws).take 2).reverse).map fun p => .int (-p.1))), .no, .no]
  generalize Nu.srt cs ws = S
  match S with
  | [] => simp
  | [a] => simp
  | a :: b :: r =>
    have s2 := sum2 (-b.1) (-a.1)
    have e : -b.1 + -a.1 - 1 = -a.1 + -b.1 - 1 := by omega
    simp [s2, e]
/-! ### slack_cut -/
def slackD (cs ws : List Int) : D := match Nu.srt cs ws with
  | a :: b :: _ => .tup [.int 1, rD (Nu.unit cs.length a.2.toNat), rD (Nu.unit cs.length b.2.toNat)]
  | _ => .non
theorem v_slack_cut {d w : D} {cs ws : List Int} (hd : SqI d cs) (hw : SqI w ws) (z : Szs cs ws) : s_slack_cut [.va d, .va w] = .ok (slackD cs ws) [.no, .no] := by
  have hn := z.lc
  have hlw := z.lw
  let K : D := .lst (((Nu.srt cs ws).take 2).map fun p => .int p.2)
  let R (a b : Sl) : Env' := [.va d, .va w, .va K, a, b, .no]
  suffices h : ∃ ρ, b_slack_cut [.va d, .va w, .no, .no, .no, .no] = .rt (slackD cs ws) ρ ∧ outIo 2 ρ = [.no, .no] by
    obtain ⟨ρ, a, b⟩ := h
    have z := run_rt (n := 2) (N := 6) (b := b_slack_cut) (ps := [.va d, .va w]) a
    rw [b] at z
    exact z
  have q1 : sSet 2 (eCall s_heaviest [(.ev (eVar 0)), (.ev (eVar 1))]) [.va d, .va w, .no, .no, .no, .no] = .nx (R .no .no) := by
    simp [outR2 _ (v_heaviest hd hw z), putSl, isIo, K, R]
  have hm : ∀ p ∈ Nu.srt cs ws, ∃ k : Nat, p.2 = (k : Int) := fun p hp => by
    obtain ⟨k, h1, h2, rfl⟩ := Nu.srt_mem.mp hp
    exact ⟨k, rfl⟩
  have inner : ∀ k : Nat, eB (on1 dTuple) [(.ev (eL (eComp (iR1 (.ev (eB (on1 dLen) [(.ev (eVar 0))]))) [5] (gN 5) cYes (eIf (eT (e2 dEq (.ev (eVar 5)) (.ev (eVar 4)))) (eC (.int 1)) (eC (.int 0))))))] (R .no (.va (.int (k : Int)))) = .ok (rD (Nu.unit cs.length k)) (R .no (.va (.int (k : Int)))) := fun k => by
    have hlen : eB (on1 dLen) [(.ev (eVar 0))] (R .no (.va (.int (k : Int)))) = .ok (.int cs.length) (R .no (.va (.int (k : Int)))) := by
      simp [R, hd.len]
    have hit : iR1 (.ev (eB (on1 dLen) [(.ev (eVar 0))])) (R .no (.va (.int (k : Int)))) = .ok ((List.range cs.length).map fun i : Nat => D.int (i : Int)) (R .no (.va (.int (k : Int)))) := by
      rw [it_rng hlen (by omega) (by omega), Int.toNat_natCast]
      unfold rngD
      congr 1
      exact List.map_congr_left fun i _ => by rw [Int.zero_add]
    rw [eB_1, eL_def, comp_map (l := List.range cs.length) (fun i : Nat => D.int (i : Int)) (fun i : Nat => D.int (if i = k then 1 else 0)) hit rfl (by rw [List.length_range]; omega) fun i hi => ?_]
    · unfold rD Nu.unit
      rw [List.map_map]
      rfl
    · by_cases h : i = k
      · subst h
        simp [stepC, wipeR, gN, isIo, restore, R]
      · have h' : ¬ ((i : Int) = (k : Int)) := by omega
        simp [stepC, wipeR, gN, isIo, restore, R, h, h']
  unfold b_slack_cut
  rw [seq_nx q1]
  unfold slackD
  have q3 : ∀ a b : Nat, K = .lst [.int (a : Int), .int (b : Int)] → sSet 3 (eL (eComp (iS (eVar 2)) [4] (gN 4) cYes (eB (on1 dTuple) [(.ev (eL (eComp (iR1 (.ev (eB (on1 dLen) [(.ev (eVar 0))]))) [5] (gN 5) cYes (eIf (eT (e2 dEq (.ev (eVar 5)) (.ev (eVar 4)))) (eC (.int 1)) (eC (.int 0))))))]))) (R .no .no) = .nx (R (.va (.lst [rD (Nu.unit cs.length a), rD (Nu.unit cs.length b)])) .no) := fun a b hK => by
    have hit : iS (eVar 2) (R .no .no) = .ok ([a, b].map fun i : Nat => D.int (i : Int)) (R .no .no) := it_seq (f := eVar 2) (x := K) rfl (by rw [hK]; rfl)
    rw [sSet_def, eL_def, comp_map (l := [a, b]) (fun i : Nat => D.int (i : Int)) (fun i : Nat => rD (Nu.unit cs.length i)) hit rfl (show 2 < 1000000 by decide) fun i hi => ?_]
    · rfl
    · exact step_of (ws := [4]) (ρ1 := R .no (.va (.int (i : Int)))) (ρ2 := R .no (.va (.int (i : Int)))) (ρ3 := R .no (.va (.int (i : Int)))) (b := true) rfl rfl (inner i) rfl rfl
  have kS : K = .lst (((Nu.srt cs ws).take 2).map fun p => .int p.2) := rfl
  clear_value K
  generalize Nu.srt cs ws = S at hm kS ⊢
  match S, hm, kS with
  | [], _, kS =>
    refine ⟨R .no .no, seq_rt ?_, rfl⟩
    simp [R, kS, dCmp]
  | [a], _, kS =>
    refine ⟨R .no .no, seq_rt ?_, rfl⟩
    simp [R, kS, dCmp]
  | a :: b :: r, hm, kS =>
    obtain ⟨k, hk⟩ := hm a List.mem_cons_self
    obtain ⟨j, hj⟩ := hm b (List.mem_cons_of_mem _ List.mem_cons_self)
    have q2 : sIf (eT (e2 dLt (.ev (eB (on1 dLen) [(.ev (eVar 2))])) (.ev (eC (.int 2))))) (sRet (eC .non)) sNx (R .no .no) = .nx (R .no .no) := by
      simp [R, kS, dCmp]
    have i0 : dIx (.lst [rD (Nu.unit cs.length k), rD (Nu.unit cs.length j)]) (.int 0) = some (rD (Nu.unit cs.length k)) := sl_at (i := 0) rfl
    have i1 : dIx (.lst [rD (Nu.unit cs.length k), rD (Nu.unit cs.length j)]) (.int 1) = some (rD (Nu.unit cs.length j)) := sl_at (i := 1) rfl
    rw [seq_nx q2, seq_nx (q3 k j (by rw [kS, ← hk, ← hj]; rfl))]
    refine ⟨R (.va (.lst [rD (Nu.unit cs.length k), rD (Nu.unit cs.length j)])) .no, ?_, rfl⟩
    show sRet _ _ = Fl.rt (.tup [.int 1, rD (Nu.unit cs.length a.2.toNat), rD (Nu.unit cs.length b.2.toNat)]) _
    rw [hk, hj, Int.toNat_natCast, Int.toNat_natCast]
    simp [R, i0, i1]
/-! ### _law_slack -/
theorem boxB_at : ∀ (xs cs : List Int), xs.length = cs.length → (∀ k, k < cs.length → 0 ≤ Nu.at_ xs k ∧ Nu.at_ xs k ≤ Nu.at_ cs k) → boxB xs cs = true
  | [], cs, _, _ => by
    unfold boxB
    rw [List.zip_nil_left]
    rfl
  | x :: xs, [], h, _ => by simp at h
  | x :: xs, c :: cs, h, k => by
    have h0 := k 0 (by simp)
    have e : boxB (x :: xs) (c :: cs) = ((decide (0 ≤ x) && decide (x ≤ c)) && boxB xs cs) := rfl
    have h0' : 0 ≤ x ∧ x ≤ c := h0
    rw [e, decide_eq_true h0'.1, decide_eq_true h0'.2, boxB_at xs cs (by simpa using h) fun j hj => k (j + 1) (by simpa using hj)]
    rfl
theorem numsOf_rD (xs : List Int) : numsOf (rD xs) = xs := by
  show (asIs (xs.map .int)).getD [] = xs
  rw [asIs_map]
  rfl
theorem rowOK_rD {cs ws : List Int} {low high : Int} {xs : List Int} (h1 : xs.length = cs.length) (h2 : ∀ k, k < cs.length → 0 ≤ Nu.at_ xs k ∧ Nu.at_ xs k ≤ Nu.at_ cs k) (h3 : low ≤ wgt ws xs) (h4 : wgt ws xs ≤ high) : rowOK cs ws low high (rD xs) = true := by
  have e : rowOK cs ws low high (rD xs) = (decide (xs.length = cs.length) && (boxB xs cs && (decide (low ≤ wgt ws xs) && decide (wgt ws xs ≤ high)))) := by
    show (match asIs (xs.map .int) with
      | some ns => decide (ns.length = cs.length) && (boxB ns cs && (decide (low ≤ wgt ws ns) && decide (wgt ws ns ≤ high)))
      | none => false) = _
    rw [asIs_map]
  rw [e, decide_eq_true h1, boxB_at xs cs h1 h2, decide_eq_true h3, decide_eq_true h4]
  rfl
theorem slack_is {cs ws : List Int} (z : Szs cs ws) (hw : ∀ w ∈ ws, 0 < w) : (Nu.enough cs ws = 0 ∧ slackD cs ws = .non) ∨ (0 < Nu.enough cs ws ∧ ∃ k j : Nat, slackD cs ws = .tup [.int 1, rD (Nu.unit cs.length k), rD (Nu.unit cs.length j)] ∧ cutV cs ws 1 (Nu.enough cs ws) (.tup [rD (Nu.unit cs.length k), rD (Nu.unit cs.length j)]) = true) := by
  have hm : ∀ p ∈ Nu.srt cs ws, ∃ k : Nat, k < ws.length ∧ 0 < Nu.at_ cs k ∧ p = (-(Nu.at_ ws k), (k : Int)) := fun p hp => Nu.srt_mem.mp hp
  have hnd := Nu.srt_nodup cs ws
  have hlw := z.lw
  have wp : ∀ k, k < ws.length → 0 < Nu.at_ ws k := fun k hk => by
    have : Nu.at_ ws k = ws[k] := by simp [Nu.at_, List.getD, List.getElem?_eq_getElem hk]
    rw [this]
    exact hw _ (List.getElem_mem hk)
  unfold Nu.enough slackD
  generalize Nu.srt cs ws = S at hm hnd
  match S, hm, hnd with
  | [], _, _ => exact .inl ⟨rfl, rfl⟩
  | [a], _, _ => exact .inl ⟨rfl, rfl⟩
  | a :: b :: r, hm, hnd =>
    obtain ⟨k, k1, k2, rfl⟩ := hm a List.mem_cons_self
    obtain ⟨j, j1, j2, rfl⟩ := hm b (List.mem_cons_of_mem _ List.mem_cons_self)
    have hkj : k ≠ j := fun q => by
      subst q
      exact (List.nodup_cons.mp hnd).1 List.mem_cons_self
    have p1 := wp k k1
    have p2 := wp j j1
    right
    refine ⟨?_, k, j, ?_, ?_⟩
    · show 0 < - -(Nu.at_ ws k) + - -(Nu.at_ ws j) - 1
      omega
    · show D.tup [.int 1, rD (Nu.unit cs.length (k : Int).toNat), rD (Nu.unit cs.length (j : Int).toNat)] = _
      rw [Int.toNat_natCast, Int.toNat_natCast]
    · show cutV cs ws 1 (- -(Nu.at_ ws k) + - -(Nu.at_ ws j) - 1) (.tup [rD (Nu.unit cs.length k), rD (Nu.unit cs.length j)]) = true
      have wk : wgt ws (Nu.unit cs.length k) = Nu.at_ ws k := by
        rw [← hlw]
        exact Nu.wgt_unit
      have wj : wgt ws (Nu.unit cs.length j) = Nu.at_ ws j := by
        rw [← hlw]
        exact Nu.wgt_unit
      have box : ∀ u : Nat, u < ws.length → 0 < Nu.at_ cs u → ∀ i, i < cs.length → 0 ≤ Nu.at_ (Nu.unit cs.length u) i ∧ Nu.at_ (Nu.unit cs.length u) i ≤ Nu.at_ cs i := fun u hu hc i hi => by
        rw [Nu.at_unit hi]
        by_cases q : i = u
        · subst q
          rw [if_pos rfl]
          omega
        · rw [if_neg q]
          have : Nu.at_ cs i = cs[i] := by simp [Nu.at_, List.getD, List.getElem?_eq_getElem hi]
          rw [this]
          have := (z.c _ (List.getElem_mem hi)).1
          omega
      have u1 : upK cs.length (Nu.unit cs.length k) (Nu.unit cs.length j) = [j] := Nu.up_unit (by omega) hkj
      have u2 : upK cs.length (Nu.unit cs.length j) (Nu.unit cs.length k) = [k] := Nu.up_unit (by omega) (fun q => hkj q.symm)
      show (rowOK cs ws 1 (- -(Nu.at_ ws k) + - -(Nu.at_ ws j) - 1) (rD (Nu.unit cs.length k)) && (rowOK cs ws 1 (- -(Nu.at_ ws k) + - -(Nu.at_ ws j) - 1) (rD (Nu.unit cs.length j)) && cutB ws 1 (- -(Nu.at_ ws k) + - -(Nu.at_ ws j) - 1) cs.length (numsOf (rD (Nu.unit cs.length k))) (numsOf (rD (Nu.unit cs.length j))))) = true
      rw [rowOK_rD (Nu.unit_len _ _) (box k k1 k2) (by rw [wk]; omega) (by rw [wk]; omega), rowOK_rD (Nu.unit_len _ _) (box j j1 j2) (by rw [wj]; omega) (by rw [wj]; omega), numsOf_rD, numsOf_rD, cut_end u1 u2, wk, decide_eq_true (by omega), decide_eq_true (by omega)]
      rfl
theorem enough_small {cs ws : List Int} (z : Szs cs ws) : (Nu.enough cs ws).natAbs.log2 < 1920 := by
  have hm : ∀ p ∈ Nu.srt cs ws, ∃ k : Nat, k < ws.length ∧ 0 < Nu.at_ cs k ∧ p = (-(Nu.at_ ws k), (k : Int)) := fun p hp => Nu.srt_mem.mp hp
  have wp : ∀ k, k < ws.length → 0 ≤ Nu.at_ ws k ∧ Nu.at_ ws k < 2 ^ 1000 := fun k hk => by
    have : Nu.at_ ws k = ws[k] := by simp [Nu.at_, List.getD, List.getElem?_eq_getElem hk]
    rw [this]
    exact z.w _ (List.getElem_mem hk)
  have key : -(2 ^ 1002) < Nu.enough cs ws ∧ Nu.enough cs ws < 2 ^ 1002 := by
    have p : (0 : Int) < 2 ^ 1000 := Int.pow_pos (by decide)
    have p2 : (2 : Int) ^ 1002 = 4 * 2 ^ 1000 := by
      rw [show 1002 = 1000 + 2 by rfl, Int.pow_add]
      omega
    unfold Nu.enough
    generalize Nu.srt cs ws = S at hm
    match S, hm with
    | [], _ => 
      show -(2 ^ 1002) < (0 : Int) ∧ (0 : Int) < 2 ^ 1002
      omega
    | [a], _ => 
      show -(2 ^ 1002) < (0 : Int) ∧ (0 : Int) < 2 ^ 1002
      omega
    | a :: b :: r, hm =>
      obtain ⟨k, k1, k2, rfl⟩ := hm a List.mem_cons_self
      obtain ⟨j, j1, j2, rfl⟩ := hm b (List.mem_cons_of_mem _ List.mem_cons_self)
      have a1 := wp k k1
      have a2 := wp j j1
      show -(2 ^ 1002) < - -(Nu.at_ ws k) + - -(Nu.at_ ws j) - 1 ∧ - -(Nu.at_ ws k) + - -(Nu.at_ ws j) - 1 < 2 ^ 1002
      omega
  exact log2_lt (Nat.lt_of_lt_of_le (sm_of key.1 key.2) (Nat.pow_le_pow_right (by decide) (by decide))) (by decide)
theorem dRepr_sm {i : Int} (h : i.natAbs.log2 < 1920) : dRepr (.int i) = some (.str (toString i)) := if_pos h
end Ma
end

section
set_option maxRecDepth 100000
set_option linter.all false
set_option exponentiation.threshold 100000
/-! reckoning forwards: what holds of a meaning's end -/
namespace Ma
open PySem PySem.Spec PyProof.Rows L2 DL Wk
def WE {α : Type} (o : Out α) (P : α → Env' → Prop) : Prop := match o with
  | .ok a ρ => P a ρ
  | _ => False
def WF (o : Fl) (P : Fl → Prop) : Prop := match o with
  | .stuck => False
  | .er _ _ _ => False
  | r => P r
section
variable {α β : Type} {P : α → Env' → Prop}
@[simp] theorem we_ok (a : α) (ρ : Env') : WE (.ok a ρ) P = P a ρ := rfl
theorem WE.out {o : Out α} (h : WE o P) : ∃ a ρ, o = .ok a ρ ∧ P a ρ := by
  cases o with
  | ok a ρ => exact ⟨a, ρ, rfl, h⟩
  | err _ _ _ => exact h.elim
  | stuck => exact h.elim
theorem WE.mono {o : Out α} {Q : α → Env' → Prop} (h : WE o P) (k : ∀ a ρ, P a ρ → Q a ρ) : WE o Q := by
  cases o with
  | ok a ρ => exact k a ρ h
  | err _ _ _ => exact h
  | stuck => exact h
@[simp] theorem we_bind (o : Out β) (k : β → Env' → Out α) : WE (o.bind k) P = WE o fun a ρ => WE (k a ρ) P := by
  cases o <;> rfl
@[simp] theorem wf_fl (o : Out β) (k : β → Env' → Fl) (P : Fl → Prop) : WF (o.fl k) P = WE o fun a ρ => WF (k a ρ) P := by
  cases o <;> rfl
@[simp] theorem wf_nx (ρ : Env') (P : Fl → Prop) : WF (.nx ρ) P = P (.nx ρ) := rfl
@[simp] theorem wf_rt (d : D) (ρ : Env') (P : Fl → Prop) : WF (.rt d ρ) P = P (.rt d ρ) := rfl
/-- one behind another -/
def sq (g : SM) (P : Fl → Prop) : Fl → Prop
  | .nx ρ1 => WF (g ρ1) P
  | r => P r
@[simp] theorem sq_nx (g : SM) (P : Fl → Prop) (ρ : Env') : sq g P (.nx ρ) = WF (g ρ) P := rfl
@[simp] theorem sq_rt (g : SM) (P : Fl → Prop) (d : D) (ρ : Env') : sq g P (.rt d ρ) = P (.rt d ρ) := rfl
theorem wf_seq (f g : SM) (ρ : Env') (P : Fl → Prop) : WF (sSeq f g ρ) P = WF (f ρ) (sq g P) := by
  unfold sSeq
  cases f ρ <;> rfl
theorem WF.nx {o : Fl} {Q : Env' → Prop} (h : WF o fun r => ∃ ρ, r = .nx ρ ∧ Q ρ) : ∃ ρ, o = .nx ρ ∧ Q ρ := by
  cases o with
  | stuck => exact h.elim
  | er _ _ _ => exact h.elim
  | nx ρ => exact h
  | rt _ _ => exact h
  | bk _ => exact h
  | ct _ => exact h
/-- a run of a body -/
theorem run_wf {n N : Nat} {b : SM} {ps : List Sl} {Q : D → List Sl → Prop} (h : WF (b (ps ++ List.replicate (N - n) Sl.no)) fun r => ∃ d ρ, r = .rt d ρ ∧ Q d (outIo n ρ)) : WE (runDef n N b ps) Q := by
  unfold runDef
  cases e : b (ps ++ List.replicate (N - n) Sl.no) with
  | rt d ρ =>
    rw [e] at h
    obtain ⟨d', ρ', z, q⟩ := h
    cases z
    exact q
  | stuck =>
    rw [e] at h
    exact h.elim
  | er _ _ _ =>
    rw [e] at h
    exact h.elim
  | nx _ =>
    rw [e] at h
    obtain ⟨_, _, z, _⟩ := h
    cases z
  | bk _ =>
    rw [e] at h
    obtain ⟨_, _, z, _⟩ := h
    cases z
  | ct _ =>
    rw [e] at h
    obtain ⟨_, _, z, _⟩ := h
    cases z
end
/-- a call with one thing handed in to be changed -/
theorem we_io {sem : Sem'} {i : Nat} {fs : List (EM D)} {ρ : Env'} {io0 : Bool} {o0 : Ow} {P : D → Env' → Prop} (h0 : ρ[i]? = some (.ow io0 o0))
    (h : WE (argGo (fs.map Opd.ev) ρ) fun ds ρ1 => fs.length = ds.length ∧ ∃ io o, ρ1[i]? = some (.ow io o) ∧ WE (sem (.ow true o :: ds.map Sl.va)) fun d ps => ∃ o' zs, ps = .ow true o' :: zs ∧ fs.length ≤ zs.length ∧ P d (ρ1.set i (.ow io o'))) :
    WE (eCall sem (.io i :: fs.map Opd.ev) ρ) P := by
  have hgo : (Opd.io i).go ρ = .ok .non ρ := by
    show (match ρ[i]? with
      | some (.ow _ _) => Out.ok D.non ρ
      | _ => .stuck) = _
    rw [h0]
  show WE (((Opd.io i).go ρ).bind (fun d ρ1 => (argGo (fs.map Opd.ev) ρ1).bind fun ds ρ2 => Out.ok (d :: ds) ρ2) |>.bind fun ds ρ1 => eCallK sem (.io i :: fs.map Opd.ev) ds ρ1) P
  rw [hgo, bind_ok]
  rw [we_bind, we_bind]
  refine h.mono fun ds ρ1 h1 => ?_
  obtain ⟨hl, io, o, h2, h3⟩ := h1
  rw [we_ok]
  obtain ⟨d, ps, e, o', zs, rfl, hz, q⟩ := h3.out
  have hs : argSl ρ1 (.io i :: fs.map Opd.ev) (.non :: ds) = some (.ow true o :: ds.map Sl.va) := by
    show (match argSl ρ1 (fs.map Opd.ev) ds with
      | none => none
      | some xs => match ρ1[i]? with
        | some (.ow _ o) => some (Sl.ow true o :: xs)
        | _ => none) = _
    rw [argSl_ev ρ1 fs ds hl, h2]
  have ok : okArgs (.io i :: fs.map Opd.ev) = true := by
    unfold okArgs
    show (decide (i :: iosOf (fs.map Opd.ev)).Nodup && (i :: iosOf (fs.map Opd.ev)).all fun j => !(brsOf (fs.map Opd.ev)).contains j) = true
    rw [ios_ev, brs_ev]
    simp
  have hsafe : safe (.io i :: fs.map Opd.ev) d (.ow true o' :: zs) = true := by
    unfold safe
    show ((brsOf (fs.map Opd.ev)).isEmpty || _) = true
    rw [brs_ev]
    rfl
  have hb : back (.io i :: fs.map Opd.ev) (.ow true o' :: zs) ρ1 = some (ρ1.set i (.ow io o')) := by
    show (match ρ1[i]? with
      | some (.ow b _) => back (fs.map Opd.ev) zs (ρ1.set i (.ow b o'))
      | _ => none) = _
    rw [h2]
    show back (fs.map Opd.ev) zs (ρ1.set i (.ow io o')) = _
    rw [back_ev, if_pos hz]
  show WE (eCallK sem (.io i :: fs.map Opd.ev) (.non :: ds) ρ1) P
  unfold eCallK
  rw [hs]
  simp only [ok, if_true, e, hsafe, hb]
  exact q
@[simp] theorem argGo_cons (f : EM D) (fs : List Opd) (ρ : Env') : argGo (.ev f :: fs) ρ = (f ρ).bind fun d ρ1 => (argGo fs ρ1).bind fun ds ρ2 => .ok (d :: ds) ρ2 := rfl
theorem we_lift {α : Type} {P : α → Env' → Prop} {o : Option α} {a : α} {ρ : Env'} (e : o = some a) (h : P a ρ) : WE (Out.lift ρ o) P := by
  rw [e]
  exact h
theorem we_outR {n : Nat} {o : Out D} {P : D → Env' → Prop} {ρ : Env'} (h : WE o fun d ps => n ≤ ps.length ∧ P d ρ) : WE (outR n o ρ) P := by
  obtain ⟨d, ps, e, h1, h2⟩ := h.out
  rw [e]
  show WE (if n ≤ ps.length then Out.ok d ρ else Out.stuck) P
  rw [if_pos h1]
  exact h2
theorem any_we {i : Nat} {f : EM D} {ρ : Env'} {io0 : Bool} {o0 : Ow} {P : D → Env' → Prop} (h0 : ρ[i]? = some (.ow io0 o0))
    (h : WE (f ρ) fun d ρ1 => ∃ m io L b, d = .int m ∧ ρ1[i]? = some (.ow io (.deal L b)) ∧ Good L b ∧ 0 < m ∧ m < 2 ^ 1000 ∧ ∀ L' b' v, Good L' b' → 0 ≤ v → v < m → P (.int v) (ρ1.set i (.ow io (.deal L' b')))) :
    WE (eCall s__law_any [.io i, .ev f] ρ) P := by
  refine we_io (fs := [f]) h0 ?_
  show WE ((f ρ).bind _) _
  rw [we_bind]
  refine h.mono fun d ρ1 h => ?_
  obtain ⟨m, io, L, b, rfl, h1, g, m0, m1, k⟩ := h
  refine ⟨rfl, io, .deal L b, h1, ?_⟩
  obtain ⟨L', b', v, g', v0, v1, e⟩ := v__law_any (io := io) g m0 (Int.lt_trans m1 (by decide +kernel))
  show WE (s__law_any [.ow true (.deal L b), .va (.int m)]) _
  rw [e]
  exact ⟨_, _, rfl, Nat.le_refl _, k L' b' v g' v0 v1⟩
theorem of_we {i : Nat} {f : EM D} {ρ : Env'} {io0 : Bool} {o0 : Ow} {P : D → Env' → Prop} (h0 : ρ[i]? = some (.ow io0 o0))
    (h : WE (f ρ) fun d ρ1 => ∃ xs io L b, dItems d = some xs ∧ xs ≠ [] ∧ xs.length < 2 ^ 20 ∧ ρ1[i]? = some (.ow io (.deal L b)) ∧ Good L b ∧ ∀ L' b' y, Good L' b' → y ∈ xs → P y (ρ1.set i (.ow io (.deal L' b')))) :
    WE (eCall s__law_of [.io i, .ev f] ρ) P := by
  refine we_io (fs := [f]) h0 ?_
  show WE ((f ρ).bind _) _
  rw [we_bind]
  refine h.mono fun d ρ1 h => ?_
  obtain ⟨xs, io, L, b, hx, hn, hl, h1, g, k⟩ := h
  refine ⟨rfl, io, .deal L b, h1, ?_⟩
  obtain ⟨L', b', y, g', m, e⟩ := v__law_of g hx hn hl
  show WE (s__law_of [.ow true (.deal L b), .va d]) _
  rw [e]
  exact ⟨_, _, rfl, Nat.le_refl _, k L' b' y g' m⟩
theorem great_we {i : Nat} {f : EM D} {ρ : Env'} {io0 : Bool} {o0 : Ow} {P : D → Env' → Prop} (h0 : ρ[i]? = some (.ow io0 o0))
    (h : WE (f ρ) fun d ρ1 => ∃ m io L b, d = .int m ∧ ρ1[i]? = some (.ow io (.deal L b)) ∧ Good L b ∧ 0 < m ∧ ∀ L' b' v, Good L' b' → 0 ≤ v → v < m → P (.int v) (ρ1.set i (.ow io (.deal L' b')))) :
    WE (eCall s__law_great [.io i, .ev f] ρ) P := by
  refine we_io (fs := [f]) h0 ?_
  show WE ((f ρ).bind _) _
  rw [we_bind]
  refine h.mono fun d ρ1 h => ?_
  obtain ⟨m, io, L, b, rfl, h1, g, m0, k⟩ := h
  refine ⟨rfl, io, .deal L b, h1, ?_⟩
  obtain ⟨L', b', v, g', v0, v1, e⟩ := v__law_great g m0
  show WE (s__law_great [.ow true (.deal L b), .va (.int m)]) _
  rw [e]
  exact ⟨_, _, rfl, Nat.le_refl _, k L' b' v g' v0 v1⟩
/-- a comprehension, forwards -/
theorem we_comp {it : EM (List D)} {ws : List Nat} {g : Tgt} {c : EM Bool} {f : EM D} {ρ0 : Env'} {P : List D → Env' → Prop} (I : List D → List D → Env' → Prop)
    (hi : WE (it ρ0) fun items ρ => (ws.all fun w => notOw ρ[w]?) = true ∧ items.length < 1000000 ∧ I items [] ρ)
    (h : ∀ x xs ys ρ, I (x :: xs) ys ρ → WE (stepC ws g c f x ρ) fun o ρ' => I xs (ys ++ o.toList) ρ')
    (hP : ∀ ys ρ, I [] ys ρ → P ys ρ) : WE (eComp it ws g c f ρ0) P := by
  unfold eComp
  rw [we_bind]
  refine hi.mono fun items ρ h1 => ?_
  obtain ⟨h1, h2, h3⟩ := h1
  rw [if_pos ⟨h1, h2⟩]
  have key : ∀ (items ys : List D) (ρ : Env'), I items ys ρ → WE (compL ws g c f items ρ) fun zs ρ' => P (ys ++ zs) ρ' := by
    intro items
    induction items with
    | nil =>
      intro ys ρ i
      show P (ys ++ []) ρ
      rw [List.append_nil]
      exact hP ys ρ i
    | cons x xs ih =>
      intro ys ρ i
      rw [compL_cons, we_bind]
      refine (h x xs ys ρ i).mono fun o ρ1 i1 => ?_
      rw [we_bind]
      refine (ih _ ρ1 i1).mono fun zs ρ2 q => ?_
      rw [we_ok, ← List.append_assoc]
      exact q
  exact (key items [] ρ h3).mono fun zs ρ' q => q
/-- one step of it -/
theorem we_step {ws : List Nat} {g : Tgt} {c : EM Bool} {f : EM D} {x : D} {ρ : Env'} {P : Option D → Env' → Prop}
    (h : ∃ ρ1, g x (wipeR ρ ws) = some ρ1 ∧ WE (c ρ1) fun b ρ2 => if b = true then WE (f ρ2) fun y ρ3 => P (some y) (restore ρ ρ3 ws) else P none (restore ρ ρ2 ws)) : WE (stepC ws g c f x ρ) P := by
  obtain ⟨ρ1, e, h⟩ := h
  unfold stepC
  rw [e]
  obtain ⟨b, ρ2, e2, h2⟩ := h.out
  simp only [e2]
  cases b with
  | true =>
    obtain ⟨y, ρ3, e3, h3⟩ := (show WE (f ρ2) _ from h2).out
    simp only [e3]
    exact h3
  | false => exact h2
/-- a loop that goes to its end, forwards -/
theorem wf_for {it : EM (List D)} {g : Tgt} {b : SM} {ρ0 : Env'} {P : Fl → Prop} (I : List D → Env' → Prop)
    (hi : WE (it ρ0) fun items ρ => I items ρ)
    (h : ∀ x xs ρ, I (x :: xs) ρ → ∃ ρ1, g x ρ = some ρ1 ∧ WF (b ρ1) fun r => ∃ ρ2, (r = .nx ρ2 ∨ r = .ct ρ2) ∧ I xs ρ2)
    (hP : ∀ ρ, I [] ρ → P (.nx ρ)) : WF (sFor it g b ρ0) P := by
  rw [sFor_def, wf_fl]
  refine hi.mono fun items ρ i => ?_
  clear hi
  induction items generalizing ρ with
  | nil => exact hP ρ i
  | cons x xs ih =>
    obtain ⟨ρ1, e1, h1⟩ := h x xs ρ i
    show WF (match g x ρ with
      | none => Fl.stuck
      | some ρ1 => match b ρ1 with
        | .nx ρ2 => forL g b xs ρ2
        | .ct ρ2 => forL g b xs ρ2
        | .bk ρ2 => .nx ρ2
        | r => r) P
    rw [e1]
    simp only
    cases e2 : b ρ1 with
    | nx ρ2 =>
      rw [e2] at h1
      obtain ⟨ρ3, z, q⟩ := h1
      rcases z with z | z <;> cases z
      exact ih ρ2 q
    | ct ρ2 =>
      rw [e2] at h1
      obtain ⟨ρ3, z, q⟩ := h1
      rcases z with z | z <;> cases z
      exact ih ρ2 q
    | stuck =>
      rw [e2] at h1
      exact h1.elim
    | er _ _ _ =>
      rw [e2] at h1
      exact h1.elim
    | rt _ _ =>
      rw [e2] at h1
      obtain ⟨ρ3, z, q⟩ := h1
      rcases z with z | z <;> cases z
    | bk _ =>
      rw [e2] at h1
      obtain ⟨ρ3, z, q⟩ := h1
      rcases z with z | z <;> cases z
end Ma
end

section
set_option maxRecDepth 100000
set_option linter.all false
set_option exponentiation.threshold 100000
namespace Ma
open PySem PySem.Spec PyProof.Rows L2 DL Wk
theorem strOk_of (s : String) : PyData.strOk (Str.ofString s) = true := by
  rw [Str.ofString_eq_toList]
  show ((s.toList.map Char.toNat).toArray).all (fun x => decide (x < 0x110000)) = true
  rw [List.all_toArray, List.all_eq_true]
  intro n hn
  obtain ⟨c, _, rfl⟩ := List.mem_map.mp hn
  have h := c.valid
  rw [decide_eq_true_eq]
  rcases h with h | h
  · have : c.toNat < 0xd800 := h
    omega
  · exact h.2
@[simp] theorem dNe_str (s : String) : dNe (.str (Str.ofString s)) (.str (Str.ofString s)) = some (.bl false) := by
  have h := strOk_of s
  have e : dEqv (.str (Str.ofString s)) (.str (Str.ofString s)) = some true := by
    simp [dEqv, toPy, SeqAt.shaped, PyData.eqv, PyData.canLay0, PyData.depth, h]
  unfold dNe
  rw [e]
  rfl
theorem v__law_slack {d w : D} {cs ws : List Int} (hd : SqI d cs) (hw : SqI w ws) (z : Szs cs ws) (hp : ∀ w ∈ ws, 0 < w) : s__law_slack [.va d, .va w] = .ok (.bl true) [.no, .no] := by
  let R (a b c e : Sl) : Env' := [.va d, .va w, .va (.int (Nu.enough cs ws)), a, b, c, e]
  suffices h : ∃ ρ, b__law_slack [.va d, .va w, .no, .no, .no, .no, .no] = .rt (.bl true) ρ ∧ outIo 2 ρ = [.no, .no] by
    obtain ⟨ρ, a, b⟩ := h
    have z := run_rt (n := 2) (N := 7) (b := b__law_slack) (ps := [.va d, .va w]) a
    rw [b] at z
    exact z
  unfold b__law_slack
  have q1 : sSet 2 (eCall s__law_enough [(.ev (eVar 0)), (.ev (eVar 1))]) [.va d, .va w, .no, .no, .no, .no, .no] = .nx (R .no .no .no .no) := by
    simp [outR2 _ (v__law_enough hd hw z), putSl, isIo, R]
  rw [seq_nx q1]
  have rp := dRepr_sm (enough_small z)
  have en1 := v_enough_slack hd hw z
  have en2 := v_enough_slack (sqI_tup cs) (sqI_tup ws) z
  have q2 : sIf (tOrB (eT (e2 dNe (.ev (eB (on1 dRepr) [(.ev (eCall s_enough_slack [(.ev (eVar 0)), (.ev (eVar 1))]))])) (.ev (eB (on1 dRepr) [(.ev (eVar 2))])))) (eT (e2 dNe (.ev (eB (on1 dRepr) [(.ev (eCallKw s_enough_slack [1, 0] [] [(.ev (eB (on1 dTuple) [(.ev (eVar 1))])), (.ev (eB (on1 dTuple) [(.ev (eVar 0))]))]))])) (.ev (eB (on1 dRepr) [(.ev (eVar 2))]))))) (sRet (eC (.bl false))) sNx (R .no .no .no .no) = .nx (R .no .no .no .no) := by
    simp [R, outR2 _ en1, rp, kw_2, hd.tup, hw.tup, outR2 _ en2]
  rw [seq_nx q2]
  have s1 := v_slack_cut hd hw z
  have s2 : s_slack_cut [.va (.tup (cs.map .int)), .va (.tup (ws.map .int))] = .ok (slackD cs ws) [.no, .no] := v_slack_cut (sqI_tup cs) (sqI_tup ws) z
  have hit : iS (eL (argGo (([(eCall s_slack_cut [(.ev (eVar 0)), (.ev (eVar 1))]), (eCallKw s_slack_cut [1, 0] [] [(.ev (eB (on1 dTuple) [(.ev (eVar 1))])), (.ev (eB (on1 dTuple) [(.ev (eVar 0))]))])] : List (EM D)).map Opd.ev))) (R .no .no .no .no) = .ok [slackD cs ws, slackD cs ws] (R .no .no .no .no) := by
    refine it_seq (x := .lst [slackD cs ws, slackD cs ws]) ?_ rfl
    simp [R, outR2 _ s1, kw_2, hd.tup, hw.tup, outR2 _ s2]
  let Bd : SM := (sIf (eT (e2 dEq (.ev (eVar 2)) (.ev (eC (.int 0))))) (sIf (eT (e2 dNotN (.ev (eVar 3)) (.ev (eC .non)))) (sRet (eC (.bl false))) sNx) (sSeq (sIf (tOrB (tNotB (eT (e1 (dIsi "tuple") (.ev (eVar 3))))) (eT (e2 dNe (.ev (eB (on1 dLen) [(.ev (eVar 3))])) (.ev (eC (.int 3)))))) (sRet (eC (.bl false))) sNx)
  (sSeq (sAsg (eVar 3) (gS 3 (gsCons (gN 4) (gsCons (gN 5) (gsCons (gN 6) gsNil)))))
  (sSeq (sIf (tOrB (tNotB (eT (e1 (dIsi "int") (.ev (eVar 4))))) (tOrB (eT (e1 (dIsi "bool") (.ev (eVar 4)))) (eT (e2 dLt (.ev (eVar 4)) (.ev (eC (.int 0))))))) (sRet (eC (.bl false))) sNx)
  (sIf (tNotB (eT (eCall s__law_cut [(.ev (eVar 0)), (.ev (eVar 1)), (.ev (eVar 4)), (.ev (e2 dSub (.ev (e2 dAdd (.ev (eVar 4)) (.ev (eVar 2)))) (.ev (eC (.int 1))))), (.ev (eTup [(eVar 5), (eVar 6)]))]))) (sRet (eC (.bl false))) sNx)))))
  have body : ∀ b c e : Sl, Fre b → Fre c → Fre e → ∃ b' c' e', Fre b' ∧ Fre c' ∧ Fre e' ∧ Bd (R (.va (slackD cs ws)) b c e) = .nx (R (.va (slackD cs ws)) b' c' e') := fun b c e hb hc he => by
    rcases slack_is z hp with ⟨h1, h2⟩ | ⟨h1, k, j, h2, h3⟩
    · refine ⟨b, c, e, hb, hc, he, ?_⟩
      rw [h2]
      simp [Bd, R, h1]
    · refine ⟨.va (.int 1), .va (rD (Nu.unit cs.length k)), .va (rD (Nu.unit cs.length j)), .va _, .va _, .va _, ?_⟩
      rw [h2]
      let T : D := .tup [.int 1, rD (Nu.unit cs.length k), rD (Nu.unit cs.length j)]
      have h0 : ¬ Nu.enough cs ws = 0 := by omega
      have it : dIsi "tuple" T = some (.bl true) := isi_tuple (d := T) rfl
      have t1 : (sIf (tOrB (tNotB (eT (e1 (dIsi "tuple") (.ev (eVar 3))))) (eT (e2 dNe (.ev (eB (on1 dLen) [(.ev (eVar 3))])) (.ev (eC (.int 3)))))) (sRet (eC (.bl false))) sNx) (R (.va T) b c e) = .nx (R (.va T) b c e) := by
        simp [R, it]
        simp [T]
      have t2 : sAsg (eVar 3) (gS 3 (gsCons (gN 4) (gsCons (gN 5) (gsCons (gN 6) gsNil)))) (R (.va T) b c e) = .nx (R (.va T) (.va (.int 1)) (.va (rD (Nu.unit cs.length k))) (.va (rD (Nu.unit cs.length j)))) := by
        simp [sAsg, gS, gsCons, gN, gsNil, R, T, dItems, hb.io, hc.io, he.io]
      have ii : dIsi "int" (.int 1) = some (.bl true) := isi_int (d := .int 1) rfl
      have ib : dIsi "bool" (.int 1) = some (.bl false) := isi_bool (d := .int 1) rfl
      have t3 : (sIf (tOrB (tNotB (eT (e1 (dIsi "int") (.ev (eVar 4))))) (tOrB (eT (e1 (dIsi "bool") (.ev (eVar 4)))) (eT (e2 dLt (.ev (eVar 4)) (.ev (eC (.int 0))))))) (sRet (eC (.bl false))) sNx) (R (.va T) (.va (.int 1)) (.va (rD (Nu.unit cs.length k))) (.va (rD (Nu.unit cs.length j)))) = .nx (R (.va T) (.va (.int 1)) (.va (rD (Nu.unit cs.length k))) (.va (rD (Nu.unit cs.length j)))) := by
        simp [R, ii, ib, dCmp]
      have hall : ∀ xs : List Int, allD (rD xs) = true := fun xs => allDs_of fun x hx => by
        obtain ⟨i, _, rfl⟩ := List.mem_map.mp hx
        rfl
      have hv : allD (.tup [rD (Nu.unit cs.length k), rD (Nu.unit cs.length j)]) = true := allDs_of fun x hx => by
        rcases List.mem_cons.mp hx with q | q
        · rw [q]
          exact hall _
        · rw [List.mem_singleton.mp q]
          exact hall _
      have lc := v__law_cut (low := 1) (high := Nu.enough cs ws) hd hw hv z
      rw [h3] at lc
      have e3 : 1 + Nu.enough cs ws - 1 = Nu.enough cs ws := by omega
      have t4 : (sIf (tNotB (eT (eCall s__law_cut [(.ev (eVar 0)), (.ev (eVar 1)), (.ev (eVar 4)), (.ev (e2 dSub (.ev (e2 dAdd (.ev (eVar 4)) (.ev (eVar 2)))) (.ev (eC (.int 1))))), (.ev (eTup [(eVar 5), (eVar 6)]))]))) (sRet (eC (.bl false))) sNx) (R (.va T) (.va (.int 1)) (.va (rD (Nu.unit cs.length k))) (.va (rD (Nu.unit cs.length j)))) = .nx (R (.va T) (.va (.int 1)) (.va (rD (Nu.unit cs.length k))) (.va (rD (Nu.unit cs.length j)))) := by
        simp [R, e3, outR5 _ lc]
      show sIf _ _ _ (R (.va T) b c e) = _
      have t0 : eT (e2 dEq (.ev (eVar 2)) (.ev (eC (.int 0)))) (R (.va T) b c e) = .ok false (R (.va T) b c e) := by
        simp [R, h0]
      rw [sIf_def, t0, fl_ok, if_neg (by decide), seq_nx t1, seq_nx t2, seq_nx t3, t4]
  have q3 : ∃ a b c e : Sl, sFor (iS (eL (argGo (([(eCall s_slack_cut [(.ev (eVar 0)), (.ev (eVar 1))]), (eCallKw s_slack_cut [1, 0] [] [(.ev (eB (on1 dTuple) [(.ev (eVar 1))])), (.ev (eB (on1 dTuple) [(.ev (eVar 0))]))])] : List (EM D)).map Opd.ev)))) (gN 3) Bd (R .no .no .no .no) = .nx (R a b c e) := by
    have w := wf_for (it := iS (eL (argGo (([(eCall s_slack_cut [(.ev (eVar 0)), (.ev (eVar 1))]), (eCallKw s_slack_cut [1, 0] [] [(.ev (eB (on1 dTuple) [(.ev (eVar 1))])), (.ev (eB (on1 dTuple) [(.ev (eVar 0))]))])] : List (EM D)).map Opd.ev)))) (g := gN 3) (b := Bd) (ρ0 := R .no .no .no .no) (P := fun r => ∃ ρ, r = .nx ρ ∧ ∃ a b c e, ρ = R a b c e)
      (fun xs ρ => (∀ x ∈ xs, x = slackD cs ws) ∧ ∃ a b c e, Fre a ∧ Fre b ∧ Fre c ∧ Fre e ∧ ρ = R a b c e) (by
        rw [hit]
        exact ⟨by simp, .no, .no, .no, .no, .no, .no, .no, .no, rfl⟩) (fun x xs ρ h => by
        obtain ⟨h1, a, b, c, e, ha, hb, hc, he, rfl⟩ := h
        have hx := h1 x List.mem_cons_self
        subst hx
        obtain ⟨b', c', e', hb', hc', he', t⟩ := body b c e hb hc he
        refine ⟨R (.va (slackD cs ws)) b c e, by simp [gN, R, ha.io], ?_⟩
        rw [t]
        exact ⟨_, .inl rfl, fun y hy => h1 y (List.mem_cons_of_mem _ hy), _, _, _, _, .va _, hb', hc', he', rfl⟩) fun ρ h => by
        obtain ⟨_, a, b, c, e, _, _, _, _, rfl⟩ := h
        exact ⟨_, rfl, a, b, c, e, rfl⟩
    obtain ⟨ρ, e, a, b, c, e', rfl⟩ := WF.nx w
    exact ⟨a, b, c, e', e⟩
  obtain ⟨a, b, c, e, q3⟩ := q3
  rw [seq_nx q3]
  exact ⟨R a b c e, rfl, rfl⟩
end Ma
end

section
set_option maxRecDepth 100000
set_option linter.all false
set_option exponentiation.threshold 100000
namespace Ma
open PySem PySem.Spec PyProof.Rows L2 DL Wk
theorem allD_rD (xs : List Int) : allD (rD xs) = true := allDs_of fun x hx => by
  obtain ⟨i, _, rfl⟩ := List.mem_map.mp hx
  rfl
theorem cut_from (xs : List D) (n : Nat) : DL.cutD xs (some (n : Int)) none = xs.drop n := by
  unfold DL.cutD
  have e1 : HT.sIx xs.length 0 (some (n : Int)) = min n xs.length := HT.sIx_nat _ _ _
  have e2 : HT.sIx xs.length xs.length none = xs.length := rfl
  rw [e1, e2]
  by_cases h : n ≤ xs.length
  · rw [Nat.min_eq_left h, List.take_of_length_le (by rw [List.length_drop]; omega)]
  · rw [Nat.min_eq_right (by omega), Nat.sub_self, List.take_zero, List.drop_of_length_le (by omega)]
@[simp] theorem eSl_ev (f : EM D) (lo hi : Option (EM D)) (ρ : Env') : eSl (.ev f) lo hi ρ = (f ρ).bind fun x ρ1 => (oBd lo ρ1).bind fun l ρ2 => (oBd hi ρ2).bind fun h ρ3 => Out.lift ρ3 (dSlice x l h) := rfl
@[simp] theorem oBd_none (ρ : Env') : oBd none ρ = .ok none ρ := rfl
theorem oBd_some {f : EM D} {ρ ρ1 : Env'} {i : Int} (h : f ρ = .ok (.int i) ρ1) : oBd (some f) ρ = .ok (some i) ρ1 := by
  show (f ρ).bind _ = _
  rw [h]
  rfl
theorem rD_len (r : List Int) : dLen (rD r) = some (.int r.length) := (rD_sq r).len
theorem take_rD (r : List Int) (n : Nat) : dSlice (rD r) none (some (n : Int)) = some (rD (r.take n)) := by
  show some (D.tup (DL.cutD (r.map .int) none (some (n : Int)))) = _
  rw [cut_to, ← List.map_take]
  rfl
theorem drop_rD (r : List Int) (n : Nat) : dSlice (rD r) (some (n : Int)) none = some (rD (r.drop n)) := by
  show some (D.tup (DL.cutD (r.map .int) (some (n : Int)) none)) = _
  rw [cut_from, ← List.map_drop]
  rfl
def envN (L : List Int) (b : Int) (rs : List (List Int)) (C p s4 s5 s6 s7 s8 : D) : Env' := [.ow true (.deal L b), .va (lR rs), .va C, .va p, .va s4, .va s5, .va s6, .va s7, .va s8]
theorem we_near {L : List Int} {b : Int} {rs : List (List Int)} {C : D} {cs one other : List Int} (g : Good L b) (hC : SqI C cs) (h1 : one.length = cs.length) (h2 : other.length = cs.length) (hn : rs ≠ []) (hl : rs.length ≤ 300) (h0 : 0 < cs.length) (h3 : cs.length ≤ 3) :
    WE (s__law_near [.ow true (.deal L b), .va (lR rs), .va C, .va (.tup [rD one, rD other])]) fun y ps => allD y = true ∧ ∃ L' b', Good L' b' ∧ ps = [.ow true (.deal L' b'), .no, .no, .no] := by
  let R (L : List Int) (b : Int) (s4 s5 s6 s7 s8 : Sl) : Env' := [.ow true (.deal L b), .va (lR rs), .va C, .va (.tup [rD one, rD other]), s4, s5, s6, s7, s8]
  refine run_wf (n := 4) (N := 9) (b := b__law_near) ?_
  show WF (b__law_near (R L b .no .no .no .no .no)) _
  unfold b__law_near
  have q1 : sAsg (eVar 3) (gS 2 (gsCons (gN 4) (gsCons (gN 5) gsNil))) (R L b .no .no .no .no .no) = .nx (R L b (.va (rD one)) (.va (rD other)) .no .no .no) := rfl
  rw [wf_seq, q1, wf_nx, sq_nx]
  -- the key
  rw [wf_seq, sSet_def, wf_fl]
  refine any_we rfl ?_
  have t1 : eB (on1 dLen) [(.ev (eVar 4))] (R L b (.va (rD one)) (.va (rD other)) .no .no .no) = .ok (.int one.length) (R L b (.va (rD one)) (.va (rD other)) .no .no .no) := by
    simp [R, rD_len]
  rw [t1, we_ok]
  refine ⟨one.length, true, L, b, rfl, rfl, g, by omega, Int.lt_of_lt_of_le (show (one.length : Int) < 2 ^ 20 by omega) (by decide +kernel), fun L1 b1 v g1 v0 v1 => ?_⟩
  obtain ⟨k, rfl⟩ := Int.eq_ofNat_of_zero_le v0
  have hk : k < one.length := by omega
  show WF (.nx (R L1 b1 (.va (rD one)) (.va (rD other)) (.va (.int (k : Int))) .no .no)) _
  rw [wf_nx, sq_nx]
  -- the bent row
  rw [wf_seq, sSet_def, wf_fl, e2_ev, we_bind, e2_ev, we_bind]
  let R1 (L : List Int) (b : Int) (s7 s8 : Sl) : Env' := R L b (.va (rD one)) (.va (rD other)) (.va (.int (k : Int))) s7 s8
  show WE (eSl (.ev (eVar 4)) none (some (eVar 6)) (R1 L1 b1 .no .no)) _
  have t2 : eSl (.ev (eVar 4)) none (some (eVar 6)) (R1 L1 b1 .no .no) = .ok (rD (one.take k)) (R1 L1 b1 .no .no) := by
    show Out.lift (R1 L1 b1 .no .no) (dSlice (rD one) none (some (k : Int))) = _
    rw [take_rD]
    rfl
  rw [t2, we_ok, eTup_1, we_bind, we_bind]
  refine of_we rfl ?_
  have i1 := ix_at (rD_sq one) hk
  have i2 := ix_at hC (show k < cs.length by omega)
  have t3 : eL (argGo (([(e2 dAdd (.ev (e2 dIx (.ev (eVar 4)) (.ev (eVar 6)))) (.ev (eC (.int 1)))), (e2 dSub (.ev (e2 dIx (.ev (eVar 4)) (.ev (eVar 6)))) (.ev (eC (.int 1)))), (eC .non), (eC (.str "0")), (eC (.bl true)), (e2 dAdd (.ev (e2 dIx (.ev (eVar 2)) (.ev (eVar 6)))) (.ev (eC (.int 1))))] : List (EM D)).map Opd.ev)) (R1 L1 b1 .no .no) = .ok (.lst [.int (Nu.at_ one k + 1), .int (Nu.at_ one k - 1), .non, .str "0", .bl true, .int (Nu.at_ cs k + 1)]) (R1 L1 b1 .no .no) := by
    simp [R1, R, i1, i2]
  rw [t3, we_ok]
  refine ⟨_, true, L1, b1, rfl, by simp, by simp, rfl, g1, fun L2 b2 y g2 hy => ?_⟩
  have hyd : allD y = true := by
    simp at hy
    rcases hy with rfl | rfl | rfl | rfl | rfl | rfl <;> rfl
  show WE (.ok (D.tup [y]) (R1 L2 b2 .no .no)) _
  rw [we_ok]
  refine we_lift (dAdd_tup (by simp; omega)) ?_
  rw [we_bind]
  show WE (eSl (.ev (eVar 4)) (some (e2 dAdd (.ev (eVar 6)) (.ev (eC (.int 1))))) none (R1 L2 b2 .no .no)) _
  have t4 : eSl (.ev (eVar 4)) (some (e2 dAdd (.ev (eVar 6)) (.ev (eC (.int 1))))) none (R1 L2 b2 .no .no) = .ok (rD (one.drop (k + 1))) (R1 L2 b2 .no .no) := by
    show Out.lift (R1 L2 b2 .no .no) (dSlice (rD one) (some (((k + 1 : Nat) : Int))) none) = _
    rw [drop_rD]
    rfl
  rw [t4, we_ok]
  refine we_lift (dAdd_tup (by simp; omega)) ?_
  let B : D := .tup (((one.take k).map .int ++ [y]) ++ (one.drop (k + 1)).map .int)
  have hB : allD B = true := allDs_of fun x hx => by
    rcases List.mem_append.mp hx with q | q
    · rcases List.mem_append.mp q with q | q
      · obtain ⟨i, _, rfl⟩ := List.mem_map.mp q
        rfl
      · rw [List.mem_singleton.mp q]
        exact hyd
    · obtain ⟨i, _, rfl⟩ := List.mem_map.mp q
      rfl
  show WF (.nx (R1 L2 b2 (.va B) .no)) _
  rw [wf_nx, sq_nx]
  -- the values
  have hone := allD_rD one
  have hother := allD_rD other
  let S10 : List D := [.lst [rD one, rD other], .tup [rD one], .tup [rD one, rD other, rD other], .tup [.lst (one.map .int), rD other], .tup [rD one, .lst (other.map .int)], .tup [B, rD other], .tup [rD other, B], .non, .int 3, .tup [rD one, rD one]]
  have l1 : dList (rD one) = some (.lst (one.map .int)) := (rD_sq one).lst
  have l2 : dList (rD other) = some (.lst (other.map .int)) := (rD_sq other).lst
  have q8 : sSet 8 (eL (argGo (([(eL (argGo (([(eVar 4), (eVar 5)] : List (EM D)).map Opd.ev))), (eTup [(eVar 4)]), (eTup [(eVar 4), (eVar 5), (eVar 5)]), (eTup [(eB (on1 dList) [(.ev (eVar 4))]), (eVar 5)]), (eTup [(eVar 4), (eB (on1 dList) [(.ev (eVar 5))])]), (eTup [(eVar 7), (eVar 5)]), (eTup [(eVar 5), (eVar 7)]), (eC .non), (eC (.int 3)), (eTup [(eVar 4), (eVar 4)])] : List (EM D)).map Opd.ev))) (R1 L2 b2 (.va B) .no) = .nx (R1 L2 b2 (.va B) (.va (.lst S10))) := by
    simp [R1, R, l1, l2, putSl, isIo, S10]
  rw [wf_seq, q8, wf_nx, sq_nx, sRet_def, wf_fl]
  refine of_we rfl ?_
  rw [e2_ev, we_bind, eVar_va (d := .lst S10) rfl, we_ok, eL_def, we_bind, we_bind]
  rw [show (([(eTup [(eVar 4), (eVar 7)]), (eTup [(eVar 5), (eVar 4)]), (eTup [(eVar 4), (eCall s__law_of [(.io 0), (.ev (eVar 1))])]), (eC (.str "01")), (eC (.dK [] [])), (eTup [(e2 dAdd (.ev (eVar 4)) (.ev (eTup [(eC (.int 0))]))), (eVar 5)])] : List (EM D)).map Opd.ev) = [.ev (eTup [(eVar 4), (eVar 7)]), .ev (eTup [(eVar 5), (eVar 4)]), .ev (eTup [(eVar 4), (eCall s__law_of [(.io 0), (.ev (eVar 1))])]), .ev (eC (.str "01")), .ev (eC (.dK [] [])), .ev (eTup [(e2 dAdd (.ev (eVar 4)) (.ev (eTup [(eC (.int 0))]))), (eVar 5)])] from rfl]
  rw [argGo_cons, we_bind, show eTup [(eVar 4), (eVar 7)] (R1 L2 b2 (.va B) (.va (.lst S10))) = .ok (.tup [rD one, B]) (R1 L2 b2 (.va B) (.va (.lst S10))) by simp [R1, R], we_ok, we_bind]
  rw [argGo_cons, we_bind, show eTup [(eVar 5), (eVar 4)] (R1 L2 b2 (.va B) (.va (.lst S10))) = .ok (.tup [rD other, rD one]) (R1 L2 b2 (.va B) (.va (.lst S10))) by simp [R1, R], we_ok, we_bind]
  rw [argGo_cons, we_bind, eTup_2, we_bind, show eVar 4 (R1 L2 b2 (.va B) (.va (.lst S10))) = .ok (rD one) (R1 L2 b2 (.va B) (.va (.lst S10))) from rfl, we_ok, we_bind]
  refine of_we rfl ?_
  rw [show eVar 1 (R1 L2 b2 (.va B) (.va (.lst S10))) = .ok (lR rs) (R1 L2 b2 (.va B) (.va (.lst S10))) from rfl, we_ok]
  refine ⟨rs.map rD, true, L2, b2, rfl, by simpa using hn, by rw [List.length_map]; omega, rfl, g2, fun L3 b3 z g3 hz => ?_⟩
  obtain ⟨zr, _, rfl⟩ := List.mem_map.mp hz
  have hzr := allD_rD zr
  show WE (.ok (D.tup [rD one, rD zr]) (R1 L3 b3 (.va B) (.va (.lst S10)))) _
  have ad : dAdd (rD one) (.tup [.int 0]) = some (.tup (one.map .int ++ [.int 0])) := dAdd_tup (by simp; omega)
  have hadd : allD (.tup (one.map .int ++ [.int 0])) = true := allDs_of fun x hx => by
    rcases List.mem_append.mp hx with q | q
    · obtain ⟨i, _, rfl⟩ := List.mem_map.mp q
      rfl
    · rw [List.mem_singleton.mp q]
      rfl
  have t6 : argGo [.ev (eC (.str "01")), .ev (eC (.dK [] [])), .ev (eTup [(e2 dAdd (.ev (eVar 4)) (.ev (eTup [(eC (.int 0))]))), (eVar 5)])] (R1 L3 b3 (.va B) (.va (.lst S10))) = .ok [.str "01", .dK [] [], .tup [.tup (one.map .int ++ [.int 0]), rD other]] (R1 L3 b3 (.va B) (.va (.lst S10))) := by
    simp [R1, R, ad]
  rw [we_ok, we_bind, t6, we_ok, we_ok, we_ok, we_ok, we_ok]
  refine we_lift (dAdd_lst (by simp [S10])) ?_
  refine ⟨_, true, L3, b3, rfl, by simp, by simp [S10], rfl, g3, fun L4 b4 y' g4 hy' => ?_⟩
  refine ⟨y', R1 L4 b4 (.va B) (.va (.lst S10)), rfl, ?_, L4, b4, g4, rfl⟩
  have two : ∀ x y : D, allD x = true → allD y = true → allD (.tup [x, y]) = true := fun x y h1 h2 => by
    show (allD x && (allD y && true)) = true
    rw [h1, h2]
    rfl
  have lint : ∀ xs : List Int, allD (.lst (xs.map .int)) = true := fun xs => allD_rD xs
  rcases List.mem_append.mp hy' with q | q
  · simp only [S10, List.mem_cons, List.not_mem_nil, or_false] at q
    rcases q with rfl | rfl | rfl | rfl | rfl | rfl | rfl | rfl | rfl | rfl
    · exact two _ _ hone hother
    · show (allD (rD one) && true) = true
      rw [hone]
      rfl
    · show (allD (rD one) && (allD (rD other) && (allD (rD other) && true))) = true
      rw [hone, hother]
      rfl
    · exact two _ _ (lint _) hother
    · exact two _ _ hone (lint _)
    · exact two _ _ hB hother
    · exact two _ _ hother hB
    · rfl
    · rfl
    · exact two _ _ hone hone
  · simp only [List.mem_cons, List.not_mem_nil, or_false] at q
    rcases q with rfl | rfl | rfl | rfl | rfl | rfl
    · exact two _ _ hone hB
    · exact two _ _ hother hone
    · exact two _ _ hone hzr
    · rfl
    · rfl
    · exact two _ _ hadd hother
end Ma
end

section
set_option maxRecDepth 100000
set_option linter.all false
set_option exponentiation.threshold 100000
namespace Ma
open PySem PySem.Spec PyProof.Rows L2 DL Wk
theorem allD_two {x y : D} (h1 : allD x = true) (h2 : allD y = true) : allD (.tup [x, y]) = true := by
  show (allD x && (allD y && true)) = true
  rw [h1, h2]
  rfl
theorem repr_bl (t : Bool) : ∃ s : String, dRepr (.bl t) = some (.str (Str.ofString s)) := by
  cases t
  · exact ⟨"False", rfl⟩
  · exact ⟨"True", rfl⟩
theorem few_rows {cs ws : List Int} {low high : Int} (f : Few cs) : (Nu.rowsOf cs ws low high).length ≤ 300 := by
  have h1 : (Nu.rowsOf cs ws low high).length ≤ (Nu.boxRows cs).length := List.length_filter_le _ _
  have h2 := f.len cs.length
  rw [List.take_length] at h2
  have h3 : cs.foldl Nu.grow [[]] = Nu.boxRows cs := rfl
  rw [h3] at h2
  omega
theorem we_near_cuts {L : List Int} {b : Int} {C W : D} {cs ws : List Int} {low high : Int} (g : Good L b) (hC : SqI C cs) (hW : SqI W ws) (f : Few cs) (z : Szs cs ws) (h0 : 0 < cs.length) :
    WE (s__law_near_cuts [.ow true (.deal L b), .va C, .va W, .va (.int low), .va (.int high)]) fun y ps => y = .bl true ∧ ∃ L' b', Good L' b' ∧ ps = [.ow true (.deal L' b'), .no, .no, .no, .no] := by
  let rs : List (List Int) := Nu.rowsOf cs ws low high
  let R (L : List Int) (b : Int) (s5 s6 s7 s8 s9 s10 s11 : Sl) (s12 s13 : Sl) : Env' := [.ow true (.deal L b), .va C, .va W, .va (.int low), .va (.int high), s5, s6, s7, s8, s9, s10, s11, s12, s13]
  refine run_wf (n := 5) (N := 14) (b := b__law_near_cuts) ?_
  show WF (b__law_near_cuts (R L b .no .no .no .no .no .no .no .no .no)) _
  have hl300 : rs.length ≤ 300 := few_rows f
  have hrl : ∀ r ∈ rs, r.length = cs.length := fun r hr => (Nu.mem_rowsOf.mp hr).len
  have fn := f.n
  unfold b__law_near_cuts
  have q1 : sSet 5 (eCall s__law_rows [(.ev (eVar 1)), (.ev (eVar 2)), (.ev (eVar 3)), (.ev (eVar 4))]) (R L b .no .no .no .no .no .no .no .no .no) = .nx (R L b (.va (lR rs)) .no .no .no .no .no .no .no .no) := by
    simp [R, outR4 _ (v__law_rows (low := low) (high := high) hC hW f z), putSl, isIo]
    rfl
  rw [wf_seq, q1, wf_nx, sq_nx, wf_seq]
  refine wf_for (fun xs ρ => (xs = [] ∨ rs ≠ []) ∧ ∃ L b s6 s7 s8 s9 s10 s11, Good L b ∧ Fre s6 ∧ Fre s7 ∧ Fre s8 ∧ Fre s9 ∧ Fre s10 ∧ Fre s11 ∧ ρ = R L b (.va (lR rs)) s6 s7 s8 s9 s10 s11 .no .no) ?_ ?_ ?_
  · -- the turns
    have hne : dNe (lR rs) (.lst []) = some (.bl (!rs.isEmpty)) := dNe_rows_nil rs
    by_cases he : rs = []
    · have t : eIf (eT (e2 dNe (.ev (eVar 5)) (.ev (eL (argGo (([] : List (EM D)).map Opd.ev)))))) (eC (.int 4)) (eC (.int 0)) (R L b (.va (lR rs)) .no .no .no .no .no .no .no .no) = .ok (.int 0) (R L b (.va (lR rs)) .no .no .no .no .no .no .no .no) := by
        have : rs.isEmpty = true := by rw [he]; rfl
        rw [this] at hne
        simp [R, hne]
      rw [it_rng t (by decide) (by decide), we_ok]
      exact ⟨.inl rfl, L, b, .no, .no, .no, .no, .no, .no, g, .no, .no, .no, .no, .no, .no, rfl⟩
    · have t : eIf (eT (e2 dNe (.ev (eVar 5)) (.ev (eL (argGo (([] : List (EM D)).map Opd.ev)))))) (eC (.int 4)) (eC (.int 0)) (R L b (.va (lR rs)) .no .no .no .no .no .no .no .no) = .ok (.int 4) (R L b (.va (lR rs)) .no .no .no .no .no .no .no .no) := by
        have : rs.isEmpty = false := by
          cases e : rs with
          | nil => exact (he e).elim
          | cons _ _ => rfl
        rw [this] at hne
        simp [R, hne]
      rw [it_rng t (by decide) (by decide), we_ok]
      exact ⟨.inr he, L, b, .no, .no, .no, .no, .no, .no, g, .no, .no, .no, .no, .no, .no, rfl⟩
  · -- a turn
    rintro x xs ρ ⟨hne, L1, b1, s6, s7, s8, s9, s10, s11, g1, f6, f7, f8, f9, f10, f11, rfl⟩
    have hne : rs ≠ [] := by
      rcases hne with h | h
      · cases h
      · exact h
    refine ⟨R L1 b1 (.va (lR rs)) (.va x) s7 s8 s9 s10 s11 .no .no, by simp [gN, R, f6.io], ?_⟩
    have hmap : rs.map rD ≠ [] := by simpa using hne
    have hml : (rs.map rD).length < 2 ^ 20 := by rw [List.length_map]; omega
    -- one
    rw [wf_seq, sSet_def, wf_fl]
    refine of_we rfl ?_
    rw [show eVar 5 (R L1 b1 (.va (lR rs)) (.va x) s7 s8 s9 s10 s11 .no .no) = .ok (lR rs) (R L1 b1 (.va (lR rs)) (.va x) s7 s8 s9 s10 s11 .no .no) from rfl, we_ok]
    refine ⟨rs.map rD, true, L1, b1, rfl, hmap, hml, rfl, g1, fun L2 b2 y g2 hy => ?_⟩
    obtain ⟨one, hone, rfl⟩ := List.mem_map.mp hy
    have l1 := hrl one hone
    have p7 : putSl (R L2 b2 (.va (lR rs)) (.va x) s7 s8 s9 s10 s11 .no .no) 7 (.va (rD one)) = .nx (R L2 b2 (.va (lR rs)) (.va x) (.va (rD one)) s8 s9 s10 s11 .no .no) := by
      simp [putSl, R, f7.io]
    show WF (putSl (R L2 b2 (.va (lR rs)) (.va x) s7 s8 s9 s10 s11 .no .no) 7 (.va (rD one))) _
    rw [p7, wf_nx, sq_nx]
    -- the rows that differ in two keys
    let cs1 : List (List Int) := rs.filter fun r => decide (Nu.dif r one = 2)
    have q8 : sSet 8 (eL (eComp (iS (eVar 5)) [12] (gN 12) (eT (e2 dEq (.ev (eB (on1 dLen) [(.ev (eL (eComp (iR1 (.ev (eB (on1 dLen) [(.ev (eVar 12))]))) [13] (gN 13) (eT (e2 dNe (.ev (e2 dIx (.ev (eVar 12)) (.ev (eVar 13)))) (.ev (e2 dIx (.ev (eVar 7)) (.ev (eVar 13)))))) (eVar 13))))])) (.ev (eC (.int 2))))) (eVar 12))) (R L2 b2 (.va (lR rs)) (.va x) (.va (rD one)) s8 s9 s10 s11 .no .no)
        = .nx (R L2 b2 (.va (lR rs)) (.va x) (.va (rD one)) (.va (lR cs1)) s9 s10 s11 .no .no) := by
      rw [sSet_def, eL_def, comp_filt (l := rs) rD (fun r => decide (Nu.dif r one = 2)) rD (it_seq (f := eVar 5) (x := lR rs) rfl rfl) rfl (by omega) fun r hr => ?_]
      · show putSl _ 8 (.va (.lst (cs1.map rD))) = _
        simp [putSl, R, f8.io]
        rfl
      · let R' : Env' := R L2 b2 (.va (lR rs)) (.va x) (.va (rD one)) s8 s9 s10 s11 (.va (rD r)) .no
        have hr' := hrl r hr
        have k := keys_compJ (ρ := R') (j := 12) (k := 13) (n := r.length) (d := rD r) (cond := (eT (e2 dNe (.ev (e2 dIx (.ev (eVar 12)) (.ev (eVar 13)))) (.ev (e2 dIx (.ev (eVar 7)) (.ev (eVar 13)))))))
          (fun k => decide (Nu.at_ r k ≠ Nu.at_ one k)) rfl (rD_sq r).len (by omega) rfl fun i hi => by
            have i1 := ix_at (i := i) (rD_sq r) (by omega)
            have i2 := ix_at (i := i) (rD_sq one) (by omega)
            by_cases h : Nu.at_ r i = Nu.at_ one i <;> simp [R', R, stepC, wipeR, gN, isIo, restore, i1, i2, h]
        have k2 : eB (on1 dLen) [(.ev (eL (eComp (iR1 (.ev (eB (on1 dLen) [(.ev (eVar 12))]))) [13] (gN 13) (eT (e2 dNe (.ev (e2 dIx (.ev (eVar 12)) (.ev (eVar 13)))) (.ev (e2 dIx (.ev (eVar 7)) (.ev (eVar 13)))))) (eVar 13))))] R' = .ok (.int (Nu.dif r one)) R' := by
          rw [eB_1, eL_def, k, bind_ok, bind_ok, dLen_lst, lift_some, List.length_map, dif_at (by omega)]
        have k3 : eT (e2 dEq (.ev (eB (on1 dLen) [(.ev (eL (eComp (iR1 (.ev (eB (on1 dLen) [(.ev (eVar 12))]))) [13] (gN 13) (eT (e2 dNe (.ev (e2 dIx (.ev (eVar 12)) (.ev (eVar 13)))) (.ev (e2 dIx (.ev (eVar 7)) (.ev (eVar 13)))))) (eVar 13))))])) (.ev (eC (.int 2)))) R' = .ok (decide (Nu.dif r one = 2)) R' := by
          rw [eT_ok, e2_ev, k2, bind_ok, eC_go, bind_ok, dEq_int, lift_some, bind_ok, asB_bl, lift_some, show decide (((Nu.dif r one : Nat) : Int) = 2) = decide (Nu.dif r one = 2) from decide_eq_decide.mpr (by omega)]
        exact step_of (ρ1 := R') rfl k3 rfl rfl rfl
    rw [wf_seq, q8, wf_nx, sq_nx]
    -- the cuts among them
    have hcs1 : ∀ r ∈ cs1, r ∈ rs := fun r hr => (List.mem_filter.mp hr).1
    let cs2 : List (List Int) := cs1.filter fun r => cutV cs ws low high (.tup [rD one, rD r])
    have q9 : sSet 8 (eL (eComp (iS (eVar 8)) [12] (gN 12) (eT (eCall s__law_cut [(.ev (eVar 1)), (.ev (eVar 2)), (.ev (eVar 3)), (.ev (eVar 4)), (.ev (eTup [(eVar 7), (eVar 12)]))])) (eVar 12))) (R L2 b2 (.va (lR rs)) (.va x) (.va (rD one)) (.va (lR cs1)) s9 s10 s11 .no .no)
        = .nx (R L2 b2 (.va (lR rs)) (.va x) (.va (rD one)) (.va (lR cs2)) s9 s10 s11 .no .no) := by
      rw [sSet_def, eL_def, comp_filt (l := cs1) rD (fun r => cutV cs ws low high (.tup [rD one, rD r])) rD (it_seq (f := eVar 8) (x := lR cs1) rfl rfl) rfl (by
        have : cs1.length ≤ rs.length := List.length_filter_le _ _
        omega) fun r hr => ?_]
      · rfl
      · let R' : Env' := R L2 b2 (.va (lR rs)) (.va x) (.va (rD one)) (.va (lR cs1)) s9 s10 s11 (.va (rD r)) .no
        have vc := v__law_cut (low := low) (high := high) hC hW (allD_two (allD_rD one) (allD_rD r)) z
        have k3 : eT (eCall s__law_cut [(.ev (eVar 1)), (.ev (eVar 2)), (.ev (eVar 3)), (.ev (eVar 4)), (.ev (eTup [(eVar 7), (eVar 12)]))]) R' = .ok (cutV cs ws low high (.tup [rD one, rD r])) R' := by
          simp [R', R, outR5 _ vc]
        exact step_of (ρ1 := R') rfl k3 rfl rfl rfl
    rw [wf_seq, q9, wf_nx, sq_nx]
    have hcs2 : ∀ r ∈ cs2, r ∈ rs := fun r hr => hcs1 r (List.mem_filter.mp hr).1
    -- the other one
    let RR (L : List Int) (b : Int) (s9 s10 s11 : Sl) : Env' := R L b (.va (lR rs)) (.va x) (.va (rD one)) (.va (lR cs2)) s9 s10 s11 .no .no
    have other : WE (eIf (eT (e2 dNe (.ev (eVar 8)) (.ev (eL (argGo (([] : List (EM D)).map Opd.ev)))))) (eCall s__law_of [(.io 0), (.ev (eVar 8))]) (eCall s__law_of [(.io 0), (.ev (eVar 5))]) (RR L2 b2 s9 s10 s11)) fun y ρ => ∃ r L b, r ∈ rs ∧ y = rD r ∧ Good L b ∧ ρ = RR L b s9 s10 s11 := by
      have hne2 : dNe (lR cs2) (.lst []) = some (.bl (!cs2.isEmpty)) := dNe_rows_nil cs2
      have t : eT (e2 dNe (.ev (eVar 8)) (.ev (eL (argGo (([] : List (EM D)).map Opd.ev))))) (RR L2 b2 s9 s10 s11) = .ok (!cs2.isEmpty) (RR L2 b2 s9 s10 s11) := by
        simp [RR, R, hne2]
      rw [eIf_def, t, bind_ok]
      cases e : cs2.isEmpty with
      | true =>
        rw [if_neg (by decide)]
        refine of_we rfl ?_
        rw [show eVar 5 (RR L2 b2 s9 s10 s11) = .ok (lR rs) (RR L2 b2 s9 s10 s11) from rfl, we_ok]
        refine ⟨rs.map rD, true, L2, b2, rfl, hmap, hml, rfl, g2, fun L3 b3 y g3 hy => ?_⟩
        obtain ⟨r, hr, rfl⟩ := List.mem_map.mp hy
        exact ⟨r, L3, b3, hr, rfl, g3, rfl⟩
      | false =>
        rw [if_pos (by decide)]
        refine of_we rfl ?_
        rw [show eVar 8 (RR L2 b2 s9 s10 s11) = .ok (lR cs2) (RR L2 b2 s9 s10 s11) from rfl, we_ok]
        have hl2 : cs2.length ≤ rs.length := Nat.le_trans (List.length_filter_le _ _) (List.length_filter_le _ _)
        refine ⟨cs2.map rD, true, L2, b2, rfl, fun q => ?_, by rw [List.length_map]; omega, rfl, g2, fun L3 b3 y g3 hy => ?_⟩
        · rw [List.map_eq_nil_iff] at q
          rw [q] at e
          cases e
        · obtain ⟨r, hr, rfl⟩ := List.mem_map.mp hy
          exact ⟨r, L3, b3, hcs2 r hr, rfl, g3, rfl⟩
    rw [wf_seq, sSet_def, wf_fl]
    refine other.mono ?_
    rintro y ρ ⟨r, L3, b3, hr, rfl, g3, rfl⟩
    have l2 := hrl r hr
    have p9 : putSl (RR L3 b3 s9 s10 s11) 9 (.va (rD r)) = .nx (RR L3 b3 (.va (rD r)) s10 s11) := by
      simp [putSl, RR, R, f9.io]
    rw [p9, wf_nx, sq_nx]
    -- both values
    refine wf_for (fun xs ρ => (∀ v ∈ xs, allD v = true) ∧ ∃ L b s10 s11, Good L b ∧ Fre s10 ∧ Fre s11 ∧ ρ = RR L b (.va (rD r)) s10 s11) ?_ ?_ ?_
    · show WE ((eL _ _).bind _) _
      rw [eL_def, we_bind, we_bind]
      rw [show (([(eTup [(eVar 7), (eVar 9)]), (eCall s__law_near [(.io 0), (.ev (eVar 5)), (.ev (eVar 1)), (.ev (eTup [(eVar 7), (eVar 9)]))])] : List (EM D)).map Opd.ev) = [.ev (eTup [(eVar 7), (eVar 9)]), .ev (eCall s__law_near [(.io 0), (.ev (eVar 5)), (.ev (eVar 1)), (.ev (eTup [(eVar 7), (eVar 9)]))])] from rfl]
      have t1 : eTup [(eVar 7), (eVar 9)] (RR L3 b3 (.va (rD r)) s10 s11) = .ok (.tup [rD one, rD r]) (RR L3 b3 (.va (rD r)) s10 s11) := by
        simp [RR, R]
      rw [argGo_cons, we_bind, t1, we_ok, we_bind, argGo_cons, we_bind]
      refine we_io (fs := [eVar 5, eVar 1, eTup [(eVar 7), (eVar 9)]]) rfl ?_
      have t2 : argGo ([eVar 5, eVar 1, eTup [(eVar 7), (eVar 9)]].map Opd.ev) (RR L3 b3 (.va (rD r)) s10 s11) = .ok [lR rs, C, .tup [rD one, rD r]] (RR L3 b3 (.va (rD r)) s10 s11) := by
        simp [RR, R]
      rw [t2, we_ok]
      refine ⟨rfl, true, .deal L3 b3, rfl, ?_⟩
      refine (we_near g3 hC l1 l2 hne hl300 h0 fn).mono ?_
      rintro y ps ⟨hy, L4, b4, g4, rfl⟩
      refine ⟨.deal L4 b4, [.no, .no, .no], rfl, Nat.le_refl _, ?_⟩
      rw [we_bind, argGo_nil, we_ok, we_ok, we_ok, we_ok]
      show WE (Out.ok [D.tup [rD one, rD r], y] (RR L4 b4 (.va (rD r)) s10 s11)) _
      rw [we_ok]
      refine ⟨fun v hv => ?_, L4, b4, s10, s11, g4, f10, f11, rfl⟩
      rcases List.mem_cons.mp hv with q | q
      · rw [q]
        exact allD_two (allD_rD _) (allD_rD _)
      · rw [List.mem_singleton.mp q]
        exact hy
    · rintro v vs ρ ⟨hv, L4, b4, s10, s11, g4, f10, f11, rfl⟩
      have hv0 := hv v List.mem_cons_self
      refine ⟨RR L4 b4 (.va (rD r)) (.va v) s11, by simp [gN, RR, R, f10.io], ?_⟩
      have v1 := v__law_cut (low := low) (high := high) hC hW hv0 z
      have v2 := v_is_cut (low := low) (high := high) hC hW hv0 z
      obtain ⟨s, hs⟩ := repr_bl (cutV cs ws low high v)
      have q11 : sSet 11 (eB (on1 dRepr) [(.ev (eCall s__law_cut [(.ev (eVar 1)), (.ev (eVar 2)), (.ev (eVar 3)), (.ev (eVar 4)), (.ev (eVar 10))]))]) (RR L4 b4 (.va (rD r)) (.va v) s11) = .nx (RR L4 b4 (.va (rD r)) (.va v) (.va (.str (Str.ofString s)))) := by
        simp [RR, R, outR5 _ v1, hs, putSl, f11.io]
      have q12 : sIf (tOrB (eT (e2 dNe (.ev (eB (on1 dRepr) [(.ev (eCall s_is_cut [(.ev (eVar 1)), (.ev (eVar 2)), (.ev (eVar 3)), (.ev (eVar 4)), (.ev (eVar 10))]))])) (.ev (eVar 11)))) (eT (e2 dNe (.ev (eB (on1 dRepr) [(.ev (eCall s_is_cut [(.ev (eVar 1)), (.ev (eVar 2)), (.ev (eVar 3)), (.ev (eVar 4)), (.ev (eVar 10))]))])) (.ev (eVar 11))))) (sRet (eC (.bl false))) sNx (RR L4 b4 (.va (rD r)) (.va v) (.va (.str (Str.ofString s)))) = .nx (RR L4 b4 (.va (rD r)) (.va v) (.va (.str (Str.ofString s)))) := by
        simp [RR, R, outR5 _ v2, hs]
      rw [wf_seq, q11, wf_nx, sq_nx, q12, wf_nx]
      exact ⟨_, .inl rfl, fun u hu => hv u (List.mem_cons_of_mem _ hu), L4, b4, .va v, .va _, g4, .va _, .va _, rfl⟩
    · rintro ρ ⟨_, L4, b4, s10, s11, g4, f10, f11, rfl⟩
      exact ⟨_, .inl rfl, .inr hne, L4, b4, .va x, .va _, .va _, .va _, s10, s11, g4, .va _, .va _, .va _, .va _, f10, f11, rfl⟩
  · rintro ρ ⟨_, L1, b1, s6, s7, s8, s9, s10, s11, g1, f6, f7, f8, f9, f10, f11, rfl⟩
    rw [sq_nx, sRet_def, eC_go, fl_ok, wf_rt]
    exact ⟨.bl true, _, rfl, rfl, L1, b1, g1, rfl⟩
end Ma
end

section
set_option maxRecDepth 100000
set_option linter.all false
set_option exponentiation.threshold 100000
namespace Ma
open PySem PySem.Spec PyProof.Rows L2 DL Wk
theorem greatof_we {i : Nat} {F : EM D} {ρ : Env'} {io : Bool} {L : List Int} {b M : Int} {ms : List Int} {P : D → Env' → Prop} (h0 : ρ[i]? = some (.ow io (.deal L b))) (g : Good L b) (hF : F ρ = .ok (.lst (ms.map .int)) ρ) (hn : ms ≠ []) (hl : ms.length < 2 ^ 20) (hm : ∀ m ∈ ms, 0 < m ∧ m ≤ M)
    (k : ∀ L' b' v, Good L' b' → 0 ≤ v → v < M → P (.int v) (ρ.set i (.ow io (.deal L' b')))) : WE (eCall s__law_great [.io i, .ev (eCall s__law_of [.io i, .ev F])] ρ) P := by
  have hi : i < ρ.length := (List.getElem?_eq_some_iff.mp h0).1
  refine great_we h0 (of_we h0 ?_)
  rw [hF, we_ok]
  refine ⟨ms.map .int, io, L, b, rfl, by simpa using hn, by rw [List.length_map]; exact hl, h0, g, fun L1 b1 y g1 hy => ?_⟩
  obtain ⟨m, hm', rfl⟩ := List.mem_map.mp hy
  refine ⟨m, io, L1, b1, rfl, List.getElem?_set_self hi, g1, (hm m hm').1, fun L2 b2 v g2 v0 v1 => ?_⟩
  rw [List.set_set]
  exact k L2 b2 v g2 v0 (Int.lt_of_lt_of_le v1 (hm m hm').2)
theorem pow6 : dPow (.int 10) (.int 6) = some (.int (10 ^ 6)) := pow10 (k := 6) (by decide)
theorem pow14 : dPow (.int 10) (.int 14) = some (.int (10 ^ 14)) := pow10 (k := 14) (by decide)
theorem pow15 : dPow (.int 10) (.int 15) = some (.int (10 ^ 15)) := pow10 (k := 15) (by decide)
/-- the numbers of a draw -/
theorem wide_num {w0 w1 x y u v e f h low high c0 c1 : Int} (a1 : 1 ≤ w0) (a2 : w0 ≤ 10 ^ 14) (b1 : 1 ≤ w1) (b2 : w1 ≤ 10 ^ 14) (x0 : 0 ≤ x) (x1 : x < 10 ^ 15) (y0 : 0 ≤ y) (y1 : y < 10 ^ 15) (u0 : 0 ≤ u) (u1 : u < 10 ^ 15) (v0 : 0 ≤ v) (v1 : v < 10 ^ 15)
    (hc0 : c0 = x + 1 + u) (hc1 : c1 = y + 1 + v)
    (e0 : 0 ≤ e) (e1 : e < Nu.mn (w0 * x + w1 * (y + 1)) (w0 * (x + 1) + w1 * y) - (w0 * x + w1 * (y + 1) - w1 + 1) + 1) (hlow : low = Nu.mn (w0 * x + w1 * (y + 1)) (w0 * (x + 1) + w1 * y) - e)
    (f0 : 0 ≤ f) (f1 : f < w0 * x + w1 * (y + 1) + w0 - 1 - Nu.mx (w0 * x + w1 * (y + 1)) (w0 * (x + 1) + w1 * y) + 1) (hhigh : high = Nu.mx (w0 * x + w1 * (y + 1)) (w0 * (x + 1) + w1 * y) + f)
    (h0 : 0 ≤ h) (h1 : h < 10 ^ 14) : Two c0 c1 w0 w1 low high ∧ Two c0 c1 w0 w1 low (low + (w0 + w1) - 1 + h) ∧ Two c1 c0 w1 w0 low high ∧ Nu.Cut c0 c1 w0 w1 low high x (y + 1) (x + 1) y := by
  have m1 : 0 ≤ w0 * x := Int.mul_nonneg (by omega) x0
  have m2 : 0 ≤ w1 * y := Int.mul_nonneg (by omega) y0
  have p14 : (10 : Int) ^ 14 < 2 ^ 47 := by decide
  have p15 : (10 : Int) ^ 15 < 2 ^ 50 := by decide
  have m3 : w0 * x < 2 ^ 97 := mul_lt (k := 47) (l := 50) (by omega) (by omega) x0 (by omega)
  have m4 : w1 * y < 2 ^ 97 := mul_lt (k := 47) (l := 50) (by omega) (by omega) y0 (by omega)
  have q1 : w1 * (y + 1) = w1 * y + w1 := by rw [Int.mul_add, Int.mul_one]
  have q2 : w0 * (x + 1) = w0 * x + w0 := by rw [Int.mul_add, Int.mul_one]
  rw [q1, q2] at e1 f1 hlow hhigh
  have gA : ∃ A, w0 * x = A := ⟨_, rfl⟩
  have gB : ∃ B, w1 * y = B := ⟨_, rfl⟩
  obtain ⟨A, hA⟩ := gA
  obtain ⟨B, hB⟩ := gB
  rw [hA] at m1 m3 q2 e1 f1 hlow hhigh
  rw [hB] at m2 m4 q1 e1 f1 hlow hhigh
  have r1 : (2 : Int) ^ 47 < 2 ^ 97 := by decide
  have r2 : (2 : Int) ^ 50 < 2 ^ 97 := by decide
  have r3 : (2 : Int) ^ 97 * 100 < 2 ^ 190 := by decide
  have r4 : (2 : Int) ^ 97 * 100 < 2 ^ 390 := by decide
  have mnc : ∀ a b : Int, (Nu.mn a b = a ∧ a ≤ b) ∨ (Nu.mn a b = b ∧ b ≤ a) := fun a b => by
    unfold Nu.mn
    split <;> omega
  have mxc : ∀ a b : Int, (Nu.mx a b = a ∧ b ≤ a) ∨ (Nu.mx a b = b ∧ a ≤ b) := fun a b => by
    unfold Nu.mx
    split <;> omega
  have n1 := mnc (A + (B + w1)) (A + w0 + B)
  have n2 := mxc (A + (B + w1)) (A + w0 + B)
  generalize Nu.mn (A + (B + w1)) (A + w0 + B) = mN at *
  generalize Nu.mx (A + (B + w1)) (A + w0 + B) = mX at *
  have k1 : A + B + 1 ≤ low ∧ low ≤ A + B + w1 ∧ low ≤ A + B + w0 := by
    rcases n1 with n1 | n1 <;> omega
  have k2 : A + B + w1 ≤ high ∧ A + B + w0 ≤ high ∧ high ≤ A + B + w0 + w1 - 1 := by
    rcases n2 with n2 | n2 <;> omega
  clear n1 n2 e1 f1 hlow hhigh mnc mxc
  have T1 : Two c0 c1 w0 w1 low high := ⟨by omega, by omega, by omega, by omega, by omega, by omega, by omega, by omega, by omega, by omega, by omega, by omega⟩
  refine ⟨T1, ⟨T1.c0p, T1.c1p, T1.w0p, T1.w1p, T1.c0s, T1.c1s, T1.w0s, T1.w1s, T1.lp, T1.ls, by omega, by omega⟩, ⟨T1.c1p, T1.c0p, T1.w1p, T1.w0p, T1.c1s, T1.c0s, T1.w1s, T1.w0s, T1.lp, T1.ls, T1.hp, T1.hs⟩, ?_⟩
  refine ⟨⟨x0, by omega, by omega, by omega, ?_, ?_⟩, ⟨by omega, by omega, y0, by omega, ?_, ?_⟩, by omega, by omega, ?_, ?_⟩
  · rw [q1, hA]
    omega
  · rw [q1, hA]
    omega
  · rw [q2, hB]
    omega
  · rw [q2, hB]
    omega
  · rw [q1, hA]
    omega
  · rw [q1, hA]
    omega
end Ma
end

section
set_option maxRecDepth 100000
set_option linter.all false
set_option exponentiation.threshold 100000
namespace Ma
open PySem PySem.Spec PyProof.Rows L2 DL Wk
def envW (L : List Int) (b : Int) (s1 s2 s3 s4 s5 s6 s7 s8 : Sl) : Env' := [.ow true (.deal L b), s1, s2, s3, s4, s5, s6, s7, s8]
/-- two numbers drawn -/
theorem pair_we {L : List Int} {b M add : Int} {ms : List Int} {F f : EM D} {s1 s2 s3 s4 s5 s6 s7 s8 : Sl} {P : List D → Env' → Prop} (g : Good L b) (h8 : Fre s8) (hn : ms ≠ []) (hl : ms.length < 2 ^ 20) (hm : ∀ m ∈ ms, 0 < m ∧ m ≤ M)
    (hf : ∀ L b x (Q : D → Env' → Prop), Good L b → (∀ L' b' v, Good L' b' → 0 ≤ v → v < M → Q (.int (add + v)) (envW L' b' s1 s2 s3 s4 s5 s6 s7 (.va x))) → WE (f (envW L b s1 s2 s3 s4 s5 s6 s7 (.va x))) Q)
    (k : ∀ L' b' v w, Good L' b' → 0 ≤ v → v < M → 0 ≤ w → w < M → P [.int (add + v), .int (add + w)] (envW L' b' s1 s2 s3 s4 s5 s6 s7 s8)) : WE (eComp (iR1 (.ev (eC (.int 2)))) [8] (gN 8) cYes f (envW L b s1 s2 s3 s4 s5 s6 s7 s8)) P := by
  have st : ∀ L b x (Q : Option D → Env' → Prop), Good L b → (∀ L' b' v, Good L' b' → 0 ≤ v → v < M → Q (some (.int (add + v))) (envW L' b' s1 s2 s3 s4 s5 s6 s7 s8)) → WE (stepC [8] (gN 8) cYes f x (envW L b s1 s2 s3 s4 s5 s6 s7 s8)) Q := fun L b x Q g hQ => by
    refine we_step ⟨envW L b s1 s2 s3 s4 s5 s6 s7 (.va x), rfl, ?_⟩
    rw [cYes_def, we_ok, if_pos rfl]
    exact hf L b x _ g fun L' b' v g' v0 v1 => hQ L' b' v g' v0 v1
  have hit : iR1 (.ev (eC (.int 2))) (envW L b s1 s2 s3 s4 s5 s6 s7 s8) = .ok [.int 0, .int 1] (envW L b s1 s2 s3 s4 s5 s6 s7 s8) := it_rng rfl (by decide) (by decide)
  unfold eComp
  rw [hit, bind_ok, if_pos ⟨by
    rcases h8 with rfl | ⟨d, rfl⟩ <;> rfl, by decide⟩, compL_cons, we_bind]
  refine st _ _ _ _ g fun L1 b1 v g1 v0 v1 => ?_
  rw [compL_cons, we_bind, we_bind]
  refine st _ _ _ _ g1 fun L2 b2 w g2 w0 w1 => ?_
  exact k L2 b2 v w g2 v0 v1 w0 w1
theorem sl0 (x y : D) : dIx (.lst [x, y]) (.int 0) = some x := sl_at (i := 0) rfl
theorem sl1 (x y : D) : dIx (.lst [x, y]) (.int 1) = some y := sl_at (i := 1) rfl
theorem we_wide {L : List Int} {b : Int} (g : Good L b) : WE (s__law_wide [.ow true (.deal L b)]) fun y ps => y = .bl true ∧ ∃ L' b', Good L' b' ∧ ps = [.ow true (.deal L' b')] := by
  refine run_wf (n := 1) (N := 9) (b := b__law_wide) ?_
  show WF (b__law_wide (envW L b .no .no .no .no .no .no .no .no)) _
  unfold b__law_wide
  -- weights
  rw [wf_seq, sSet_def, wf_fl, eL_def, we_bind]
  refine pair_we (M := 10 ^ 14) (add := 1) (ms := [9, 10 ^ 6, 10 ^ 14]) (F := eC .non) g .no (by simp) (by simp) (by decide) (fun L b x Q g h => ?_) fun L1 b1 w0' w1' g1 a1 a2 a3 a4 => ?_
  · rw [e2_ev, eC_go, bind_ok, we_bind]
    refine greatof_we (M := 10 ^ 14) (ms := [9, 10 ^ 6, 10 ^ 14]) (io := true) (L := L) (b := b) rfl g ?_ (by simp) (by simp) (by decide) fun L' b' v g' v0 v1 => ?_
    · simp [pow6, pow14]
    · rw [dAdd_int, lift_some, we_ok]
      exact h L' b' v g' v0 v1
  obtain ⟨w0, hw0⟩ : ∃ w0, 1 + w0' = w0 := ⟨_, rfl⟩
  obtain ⟨w1, hw1⟩ : ∃ w1, 1 + w1' = w1 := ⟨_, rfl⟩
  rw [hw0, hw1]
  let W : D := .lst [.int w0, .int w1]
  rw [we_ok]
  show WF (.nx (envW L1 b1 (.va W) .no .no .no .no .no .no .no)) _
  rw [wf_nx, sq_nx, wf_seq]
  -- one
  unfold sOwn
  rw [wf_fl]
  refine pair_we (M := 10 ^ 15) (add := 0) (ms := [2, 100, 10 ^ 15]) (F := eC .non) g1 .no (by simp) (by simp) (by decide) (fun L b x Q g h => ?_) fun L2 b2 x y g2 x0 x1 y0 y1 => ?_
  · refine greatof_we (M := 10 ^ 15) (ms := [2, 100, 10 ^ 15]) (io := true) (L := L) (b := b) rfl g ?_ (by simp) (by simp) (by decide) fun L' b' v g' v0 v1 => ?_
    · simp [pow15]
    · have := h L' b' v g' v0 v1
      rw [Int.zero_add] at this
      exact this
  rw [Int.zero_add, Int.zero_add]
  show WF (.nx (envW L2 b2 (.va W) (.ow false (.lst [.int x, .int y])) .no .no .no .no .no .no)) _
  rw [wf_nx, sq_nx, wf_seq]
  have q3 : sSetIt 2 (eC (.int 1)) (e2 dAdd (.ev (e2 dIx (.br 2) (.ev (eC (.int 1))))) (.ev (eC (.int 1)))) (envW L2 b2 (.va W) (.ow false (.lst [.int x, .int y])) .no .no .no .no .no .no) = .nx (envW L2 b2 (.va W) (.ow false (.lst [.int x, .int (y + 1)])) .no .no .no .no .no .no) := by
    have e : e2 dIx (.br 2) (.ev (eC (.int 1))) (envW L2 b2 (.va W) (.ow false (.lst [.int x, .int y])) .no .no .no .no .no .no) = .ok (.int y) (envW L2 b2 (.va W) (.ow false (.lst [.int x, .int y])) .no .no .no .no .no .no) := by
      show Out.lift _ (dIx (.lst [.int x, .int y]) (.int 1)) = _
      rw [sl1]
      rfl
    unfold sSetIt
    rw [e2_ev, e, bind_ok, eC_go, bind_ok, dAdd_int]
    rfl
  rw [q3, wf_nx, sq_nx, wf_seq]
  -- caps
  let O : D := .lst [.int x, .int (y + 1)]
  let R (L : List Int) (b : Int) (s3 s4 s5 s6 s7 : Sl) : Env' := envW L b (.va W) (.va O) s3 s4 s5 s6 s7 .no
  have pw : ∀ ρ, eL (argGo (([(eC (.int 1)), (eC (.int 10)), (e2 dPow (.ev (eC (.int 10))) (.ev (eC (.int 15))))] : List (EM D)).map Opd.ev)) ρ = .ok (.lst (([1, 10, 10 ^ 15] : List Int).map .int)) ρ := fun ρ => by
    simp [pow15]
  rw [sSet_def, wf_fl, eL_def, we_bind]
  rw [show ∀ f h : EM D, ([f, h] : List (EM D)).map Opd.ev = [.ev f, .ev h] from fun _ _ => rfl, argGo_cons, we_bind, e2_ev, we_bind, e2_ev, we_bind, e2_ev, we_bind]
  show WE (.ok O (R L2 b2 .no .no .no .no .no)) _
  rw [we_ok, eC_go, we_bind, we_ok, sl0, lift_some, we_ok, eC_go, we_bind, we_ok, dAdd_int, lift_some, we_ok, we_bind]
  refine greatof_we (M := 10 ^ 15) (ms := [1, 10, 10 ^ 15]) (io := true) (L := L2) (b := b2) rfl g2 (pw _) (by simp) (by simp) (by decide) fun L3 b3 u g3 u0 u1 => ?_
  rw [dAdd_int, lift_some, we_ok, we_bind, argGo_cons, we_bind, e2_ev, we_bind, e2_ev, we_bind]
  show WE (.ok O (R L3 b3 .no .no .no .no .no)) _
  rw [we_ok, eC_go, we_bind, we_ok, sl1, lift_some, we_ok, we_bind]
  refine greatof_we (M := 10 ^ 15) (ms := [1, 10, 10 ^ 15]) (io := true) (L := L3) (b := b3) rfl g3 (pw _) (by simp) (by simp) (by decide) fun L4 b4 v g4 v0 v1 => ?_
  rw [dAdd_int, lift_some, we_ok, we_bind, argGo_nil, we_ok, we_ok, we_ok, we_ok]
  obtain ⟨c0, hc0⟩ : ∃ c0, x + 1 + u = c0 := ⟨_, rfl⟩
  obtain ⟨c1, hc1⟩ : ∃ c1, y + 1 + v = c1 := ⟨_, rfl⟩
  rw [hc0, hc1]
  let C : D := .lst [.int c0, .int c1]
  show WF (.nx (R L4 b4 (.va C) .no .no .no .no)) _
  rw [wf_nx, sq_nx, wf_seq]
  -- both sums
  have sW : SqI W [w0, w1] := rfl
  have sC : SqI C [c0, c1] := rfl
  have sO : SqI O [x, y + 1] := rfl
  have big : ∀ z : Int, 0 ≤ z → z ≤ 10 ^ 15 → Sm 10000 z := fun z z0 z1 => sm_lt z0 (Int.lt_of_lt_of_le (show z < 2 ^ 51 from Int.lt_of_le_of_lt z1 (by decide)) (by decide +kernel))
  have p14 : (10 : Int) ^ 14 ≤ 10 ^ 15 := by decide
  have smW : ∀ z ∈ [w0, w1], Sm 10000 z := fun z hz => by
    rcases List.mem_cons.mp hz with h | h
    · exact big z (by omega) (by omega)
    · have := List.mem_singleton.mp h
      exact big z (by omega) (by omega)
  have smO : ∀ z ∈ [x, y + 1], Sm 10000 z := fun z hz => by
    rcases List.mem_cons.mp hz with h | h
    · exact big z (by omega) (by omega)
    · have := List.mem_singleton.mp h
      exact big z (by omega) (by omega)
  have smM : ∀ z ∈ [x + 1, y + 1 - 1], Sm 10000 z := fun z hz => by
    rcases List.mem_cons.mp hz with h | h
    · exact big z (by omega) (by omega)
    · have := List.mem_singleton.mp h
      exact big z (by omega) (by omega)
  have y11 : y + 1 - 1 = y := by omega
  have va := v__law_weighed sW sO (show 2 < 1000000 by decide) smW smO
  have vb := v__law_weighed sW (sqI_lst [x + 1, y + 1 - 1]) (show 2 < 1000000 by decide) smW smM
  rw [wgt_two] at va vb
  rw [y11] at vb
  obtain ⟨tot, htot⟩ : ∃ tot, w0 * x + w1 * (y + 1) = tot := ⟨_, rfl⟩
  obtain ⟨mov, hmov⟩ : ∃ mov, w0 * (x + 1) + w1 * y = mov := ⟨_, rfl⟩
  rw [htot] at va
  rw [hmov] at vb
  have i0 := sl0 (.int x) (.int (y + 1))
  have i1 := sl1 (.int x) (.int (y + 1))
  have j0 := sl0 (.int w0) (.int w1)
  have j1 := sl1 (.int w0) (.int w1)
  have vb' : s__law_weighed [.va (.lst [.int w0, .int w1]), .va (.lst [.int (x + 1), .int y])] = .ok (.int mov) [.no, .no] := vb
  have va' : s__law_weighed [.va (.lst [.int w0, .int w1]), .va (.lst [.int x, .int (y + 1)])] = .ok (.int tot) [.no, .no] := va
  have q5 : sPar 4 5 (.fz (eCall s__law_weighed [(.ev (eVar 1)), (.ev (eVar 2))])) (.fz (eCall s__law_weighed [(.ev (eVar 1)), (.ev (eL (argGo (([(e2 dAdd (.ev (e2 dIx (.ev (eVar 2)) (.ev (eC (.int 0))))) (.ev (eC (.int 1)))), (e2 dSub (.ev (e2 dIx (.ev (eVar 2)) (.ev (eC (.int 1))))) (.ev (eC (.int 1))))] : List (EM D)).map Opd.ev))))])) (R L4 b4 (.va C) .no .no .no .no) = .nx (R L4 b4 (.va C) (.va (.int tot)) (.va (.int mov)) .no .no) := by
    unfold sPar El.go
    simp [R, envW, W, O, outR2 _ va', i0, i1, y11, outR2 _ vb', El.sl, putEl, isIo]
  rw [q5, wf_nx, sq_nx, wf_seq, sSet_def, wf_fl]
  -- the lower bound
  have d1 : w1 * (y + 1) = w1 * y + w1 := by rw [Int.mul_add, Int.mul_one]
  have d2 : w0 * (x + 1) = w0 * x + w0 := by rw [Int.mul_add, Int.mul_one]
  have rel : mov = tot + w0 - w1 := by omega
  have mnc : (Nu.mn tot mov = tot ∧ tot ≤ mov) ∨ (Nu.mn tot mov = mov ∧ mov ≤ tot) := by
    unfold Nu.mn
    split <;> omega
  have mxc : (Nu.mx tot mov = tot ∧ mov ≤ tot) ∨ (Nu.mx tot mov = mov ∧ tot ≤ mov) := by
    unfold Nu.mx
    split <;> omega
  rw [e2_ev, we_bind]
  have t6 : eB (on2 dMin2) [(.ev (eVar 4)), (.ev (eVar 5))] (R L4 b4 (.va C) (.va (.int tot)) (.va (.int mov)) .no .no) = .ok (.int (Nu.mn tot mov)) (R L4 b4 (.va C) (.va (.int tot)) (.va (.int mov)) .no .no) := by
    simp [R, envW]
  rw [t6, we_ok, we_bind]
  refine great_we rfl ?_
  have t6' : e2 dAdd (.ev (e2 dSub (.ev (eB (on2 dMin2) [(.ev (eVar 4)), (.ev (eVar 5))])) (.ev (e2 dAdd (.ev (e2 dSub (.ev (eVar 4)) (.ev (e2 dIx (.ev (eVar 1)) (.ev (eC (.int 1))))))) (.ev (eC (.int 1))))))) (.ev (eC (.int 1))) (R L4 b4 (.va C) (.va (.int tot)) (.va (.int mov)) .no .no) = .ok (.int (Nu.mn tot mov - (tot - w1 + 1) + 1)) (R L4 b4 (.va C) (.va (.int tot)) (.va (.int mov)) .no .no) := by
    simp [R, envW, W, j1]
  rw [t6', we_ok]
  refine ⟨_, true, L4, b4, rfl, rfl, g4, by omega, fun L5 b5 e g5 e0 e1 => ?_⟩
  rw [dSub_int, lift_some, we_ok]
  obtain ⟨low, hlow⟩ : ∃ low, low = Nu.mn tot mov - e := ⟨_, rfl⟩
  rw [← hlow]
  show WF (.nx (R L5 b5 (.va C) (.va (.int tot)) (.va (.int mov)) (.va (.int low)) .no)) _
  rw [wf_nx, sq_nx, wf_seq, sSet_def, wf_fl, e2_ev, we_bind]
  -- the upper one
  have t7 : eB (on2 dMax2) [(.ev (eVar 4)), (.ev (eVar 5))] (R L5 b5 (.va C) (.va (.int tot)) (.va (.int mov)) (.va (.int low)) .no) = .ok (.int (Nu.mx tot mov)) (R L5 b5 (.va C) (.va (.int tot)) (.va (.int mov)) (.va (.int low)) .no) := by
    simp [R, envW]
  rw [t7, we_ok, we_bind]
  refine great_we rfl ?_
  have t7' : e2 dAdd (.ev (e2 dSub (.ev (e2 dSub (.ev (e2 dAdd (.ev (eVar 4)) (.ev (e2 dIx (.ev (eVar 1)) (.ev (eC (.int 0))))))) (.ev (eC (.int 1))))) (.ev (eB (on2 dMax2) [(.ev (eVar 4)), (.ev (eVar 5))])))) (.ev (eC (.int 1))) (R L5 b5 (.va C) (.va (.int tot)) (.va (.int mov)) (.va (.int low)) .no) = .ok (.int (tot + w0 - 1 - Nu.mx tot mov + 1)) (R L5 b5 (.va C) (.va (.int tot)) (.va (.int mov)) (.va (.int low)) .no) := by
    simp [R, envW, W, j0]
  rw [t7', we_ok]
  refine ⟨_, true, L5, b5, rfl, rfl, g5, by omega, fun L6 b6 f g6 f0 f1 => ?_⟩
  rw [dAdd_int, lift_some, we_ok]
  obtain ⟨high, hhigh⟩ : ∃ high, high = Nu.mx tot mov + f := ⟨_, rfl⟩
  rw [← hhigh]
  let Q (L : List Int) (b : Int) : Env' := R L b (.va C) (.va (.int tot)) (.va (.int mov)) (.va (.int low)) (.va (.int high))
  show WF (.nx (Q L6 b6)) _
  have num : ∀ h : Int, 0 ≤ h → h < 10 ^ 14 → Two c0 c1 w0 w1 low high ∧ Two c0 c1 w0 w1 low (low + (w0 + w1) - 1 + h) ∧ Two c1 c0 w1 w0 low high ∧ Nu.Cut c0 c1 w0 w1 low high x (y + 1) (x + 1) y := fun h h0 h1 => by
    refine wide_num (by omega) (by omega) (by omega) (by omega) x0 x1 y0 y1 u0 u1 v0 v1 hc0.symm hc1.symm e0 ?_ ?_ f0 ?_ ?_ h0 h1
    · rw [htot, hmov]
      exact e1
    · rw [htot, hmov]
      exact hlow
    · rw [htot, hmov]
      exact f1
    · rw [htot, hmov]
      exact hhigh
  obtain ⟨T, _, T', cut⟩ := num 0 (Int.le_refl 0) (by decide)
  rw [wf_nx, sq_nx, wf_seq]
  -- the cut
  have vc := v__law_cut (low := low) (high := high) (v := .tup [prD (x, y + 1), prD (x + 1, y)]) sC sW rfl T.szs
  rw [cut_two cut] at vc
  have ot : dTuple O = some (prD (x, y + 1)) := rfl
  have q8 : sIf (tNotB (eT (eCall s__law_cut [(.ev (eVar 3)), (.ev (eVar 1)), (.ev (eVar 6)), (.ev (eVar 7)), (.ev (eTup [(eB (on1 dTuple) [(.ev (eVar 2))]), (eTup [(e2 dAdd (.ev (e2 dIx (.ev (eVar 2)) (.ev (eC (.int 0))))) (.ev (eC (.int 1)))), (e2 dSub (.ev (e2 dIx (.ev (eVar 2)) (.ev (eC (.int 1))))) (.ev (eC (.int 1))))])]))]))) (sRet (eC (.bl false))) sNx (Q L6 b6) = .nx (Q L6 b6) := by
    have pd : D.tup [.int (x + 1), .int y] = prD (x + 1, y) := rfl
    have i0' : dIx O (.int 0) = some (.int x) := i0
    have i1' : dIx O (.int 1) = some (.int (y + 1)) := i1
    simp [Q, R, envW, ot, i0', i1', y11, pd, outR5 _ vc]
  rw [q8, wf_nx, sq_nx, wf_seq]
  -- told, either way round
  have b49 : (10 : Int) ^ 14 ≤ 1 * 2 ^ 49 := by decide
  obtain ⟨r, er⟩ := Nu.tc_some (g := 1) (c0 := c0) (c1 := c1) (w0 := w0) (w1 := w1) (low := low) (high := high) (by decide) T.w0p (Int.one_dvd _) (Int.one_dvd _) (by omega)
  obtain ⟨r', er'⟩ := Nu.tc_some (g := 1) (c0 := c1) (c1 := c0) (w0 := w1) (w1 := w0) (low := low) (high := high) (by decide) T.w1p (Int.one_dvd _) (Int.one_dvd _) (by omega)
  have n1 := Nu.cut_some T.w0p T.w1p T.c0p cut er
  have n2 := Nu.cut_swap T.w0p T.w1p T.c1p cut er'
  have vt1 := v__law_two sC sW T er n1
  have vt2 := v__law_two (d := .lst [.int c1, .int c0]) (w := .lst [.int w1, .int w0]) rfl rfl T' er' n2
  have q9 : sIf (tOrB (tNotB (eT (eCall s__law_two [(.ev (eVar 3)), (.ev (eVar 1)), (.ev (eVar 6)), (.ev (eVar 7)), (.ev (eC (.bl false)))]))) (tNotB (eT (eCall s__law_two [(.ev (eRev (eVar 3))), (.ev (eRev (eVar 1))), (.ev (eVar 6)), (.ev (eVar 7)), (.ev (eC (.bl false)))])))) (sRet (eC (.bl false))) sNx (Q L6 b6) = .nx (Q L6 b6) := by
    have r1 : eRev (eVar 3) (Q L6 b6) = .ok (.lst [.int c1, .int c0]) (Q L6 b6) := rfl
    have r2 : eRev (eVar 1) (Q L6 b6) = .ok (.lst [.int w1, .int w0]) (Q L6 b6) := rfl
    have r3 : eVar 6 (Q L6 b6) = .ok (.int low) (Q L6 b6) := rfl
    have r4 : eVar 7 (Q L6 b6) = .ok (.int high) (Q L6 b6) := rfl
    have r5 : eVar 3 (Q L6 b6) = .ok C (Q L6 b6) := rfl
    have r6 : eVar 1 (Q L6 b6) = .ok W (Q L6 b6) := rfl
    simp [r1, r2, r3, r4, r5, r6, outR5 _ vt1, outR5 _ vt2]
  rw [q9, wf_nx, sq_nx, sRet_def, wf_fl, call_5, we_bind]
  rw [show eVar 3 (Q L6 b6) = .ok C (Q L6 b6) from rfl, we_ok, we_bind, show eVar 1 (Q L6 b6) = .ok W (Q L6 b6) from rfl, we_ok, we_bind, show eVar 6 (Q L6 b6) = .ok (.int low) (Q L6 b6) from rfl, we_ok, we_bind, e2_ev, we_bind]
  have t10 : e2 dSub (.ev (e2 dAdd (.ev (eVar 6)) (.ev (eB (on1 dSum) [(.ev (eVar 1))])))) (.ev (eC (.int 1))) (Q L6 b6) = .ok (.int (low + (w0 + w1) - 1)) (Q L6 b6) := by
    have s2 : dSum W = some (.int (w0 + w1)) := sum2 w0 w1
    have r3 : eVar 6 (Q L6 b6) = .ok (.int low) (Q L6 b6) := rfl
    have r6 : eVar 1 (Q L6 b6) = .ok W (Q L6 b6) := rfl
    simp [r3, r6, s2]
  rw [t10, we_ok, we_bind]
  have pw1 : ∀ ρ, eL (argGo (([(eC (.int 1)), (e2 dPow (.ev (eC (.int 10))) (.ev (eC (.int 14))))] : List (EM D)).map Opd.ev)) ρ = .ok (.lst (([1, 10 ^ 14] : List Int).map .int)) ρ := fun ρ => by
    simp [pow14]
  refine greatof_we (M := 10 ^ 14) (ms := [1, 10 ^ 14]) (io := true) (L := L6) (b := b6) rfl g6 (pw1 _) (by simp) (by simp) (by decide) fun L7 b7 h g7 h0 h1 => ?_
  rw [dAdd_int, lift_some, we_ok, we_bind, eC_go, we_ok]
  obtain ⟨_, T2, _, _⟩ := num h h0 h1
  obtain ⟨r2, er2⟩ := Nu.tc_some (g := 1) (c0 := c0) (c1 := c1) (w0 := w0) (w1 := w1) (low := low) (high := low + (w0 + w1) - 1 + h) (by decide) T.w0p (Int.one_dvd _) (Int.one_dvd _) (by omega)
  have n3 := Nu.wide_none T2.w0p T2.w1p T2.c0p (by omega) er2
  have vt3 := v__law_two sC sW T2 er2 n3
  rw [outR5 _ vt3, we_ok]
  exact ⟨.bl true, _, rfl, rfl, L7, b7, g7, rfl⟩
end Ma
end

section
set_option maxRecDepth 100000
set_option linter.all false
set_option exponentiation.threshold 100000
namespace Ma
open PySem PySem.Spec PyProof.Rows L2 DL Wk
/-! ### the source of draws -/
theorem sqD_nx {f : SM} {g : Env' → FlD} {ρ ρ1 : Env'} (h : f ρ = .nx ρ1) : sqD f g ρ = g ρ1 := by
  unfold sqD
  rw [h]
def ab (n : Int) : Int := if n < 0 then -n else n
theorem ab_nn (n : Int) : 0 ≤ ab n := by
  unfold ab
  split <;> omega
theorem v_draw (ns : List Int) : ∃ L b ps, Good L b ∧ s__law_draw [.va (.scr ns), .va (.int 33)] = .ok (L, b) ps := by
  let cells : List Int := (ns.take 48).map ab
  have hc : cells.length ≤ 48 := by
    rw [List.length_map]
    exact List.length_take_le 48 ns
  let R (s2 : Sl) (b : Int) : Env' := [.va (.scr ns), .va (.int 33), s2, .va (.lst (cells.map .int)), .va (.int b)]
  suffices h : ∃ L b ρ, Good L b ∧ b__law_draw [.va (.scr ns), .va (.int 33), .no, .no, .no] = .dl (L, b) ρ by
    obtain ⟨L, b, ρ, g, e⟩ := h
    refine ⟨L, b, outIo 2 ρ, g, ?_⟩
    show (match b__law_draw ([.va (.scr ns), .va (.int 33)] ++ List.replicate 3 Sl.no) with
      | .dl r ρ => Out.ok r (outIo 2 ρ)
      | .er c d ρ => .err c d (outIo 2 ρ)
      | _ => .stuck) = _
    have e' : b__law_draw ([.va (.scr ns), .va (.int 33)] ++ List.replicate 3 Sl.no) = .dl (L, b) ρ := e
    rw [e']
  unfold b__law_draw
  have s48 : eSl (.ev (eVar 0)) none (some (eC (.int 48))) [.va (.scr ns), .va (.int 33), .no, .no, .no] = .ok (.lst ((ns.take 48).map .int)) [.va (.scr ns), .va (.int 33), .no, .no, .no] := by
    show Out.lift _ (some (D.lst (DL.cutD (ns.map .int) none (some ((48 : Nat) : Int))))) = _
    rw [cut_to, ← List.map_take]
    rfl
  have q1 : sSet 3 (eL (eComp (iS (eSl (.ev (eVar 0)) none (some (eC (.int 48))))) [2] (gN 2) cYes (eB (on1 dAbs) [(.ev (eB (on1 dInt) [(.ev (eVar 2))]))]))) [.va (.scr ns), .va (.int 33), .no, .no, .no] = .nx [.va (.scr ns), .va (.int 33), .no, .va (.lst (cells.map .int)), .no] := by
    rw [sSet_def, eL_def, comp_map (l := ns.take 48) (fun n : Int => D.int n) (fun n : Int => D.int (ab n)) (it_seq s48 rfl) rfl (by
      have := List.length_take_le 48 ns
      omega) fun n hn => ?_, bind_ok]
    · show Fl.nx [.va (.scr ns), .va (.int 33), .no, .va (.lst ((ns.take 48).map fun n => D.int (ab n))), .no] = Fl.nx [.va (.scr ns), .va (.int 33), .no, .va (.lst (((ns.take 48).map ab).map .int)), .no]
      rw [List.map_map]
      rfl
    · simp [stepC, wipeR, gN, isIo, restore, dInt, dAbs, ab]
  rw [sqD_nx q1]
  have m1 : dMul (.int 104729) (.int 33) = some (.int 3456057) := dMul_sm (k := 40) (by unfold Sm; decide) (by unfold Sm; decide) (by decide) (by decide)
  have q2 : sSet 4 (e2 dAdd (.ev (eC (.int 7919))) (.ev (e2 dMul (.ev (eC (.int 104729))) (.ev (eVar 1))))) [.va (.scr ns), .va (.int 33), .no, .va (.lst (cells.map .int)), .no] = .nx (R .no 3463976) := by
    simp [m1, putSl, isIo, R]
  rw [sqD_nx q2]
  have hit : iS (eVar 3) (R .no 3463976) = .ok (cells.map .int) (R .no 3463976) := it_seq (f := eVar 3) (x := .lst (cells.map .int)) rfl rfl
  obtain ⟨ρ', e', s2, b, b0, b1, hs2, rfl⟩ := forL_all (g := gN 2) (b := (sSet 4 (e2 dMod (.ev (eB (on1 dInt) [(.ev (e2 dAdd (.ev (e2 dAdd (.ev (e2 dMul (.ev (eVar 4)) (.ev (eC (.int 48271))))) (.ev (e2 dMod (.ev (eVar 2)) (.ev (eC (.int 2147483549))))))) (.ev (eC (.int 11)))))])) (.ev (eC (.int 2147483647))))))
    (fun _ ρ => ∃ s2 b, 0 ≤ b ∧ b < 2147483647 ∧ Fre s2 ∧ ρ = R s2 b) (cells.map .int) 0 (R .no 3463976) ⟨.no, 3463976, by decide, by decide, .no, rfl⟩ fun i x ρ hx hI => by
      obtain ⟨s2, b, b0, b1, hs2, rfl⟩ := hI
      rw [List.getElem?_map] at hx
      cases ec : cells[i]? with
      | none =>
        rw [ec] at hx
        cases hx
      | some c =>
        rw [ec] at hx
        cases hx
        have sb : Sm 31 b := sm_lt b0 (Int.lt_trans b1 (by decide))
        have mb : dMul (.int b) (.int 48271) = some (.int (b * 48271)) := dMul_sm sb (sm_lt (k := 31) (by decide) (by decide)) (by decide) (by decide)
        have d1 := dMod_pos (a := c) (b := 2147483549) (by decide)
        have d2 := dMod_pos (a := b * 48271 + c % 2147483549 + 11) (b := 2147483647) (by decide)
        refine ⟨R (.va (.int c)) b, R (.va (.int c)) ((b * 48271 + c % 2147483549 + 11) % 2147483647), ?_, .inl ?_, .va (.int c), _, Int.emod_nonneg _ (by decide), Int.emod_lt_of_pos _ (by decide), .va _, rfl⟩
        · simp [gN, R, hs2.io]
        · simp [R, mb, d1, dInt, d2, putSl, isIo]
  have q3 : sFor (iS (eVar 3)) (gN 2) (sSet 4 (e2 dMod (.ev (eB (on1 dInt) [(.ev (e2 dAdd (.ev (e2 dAdd (.ev (e2 dMul (.ev (eVar 4)) (.ev (eC (.int 48271))))) (.ev (e2 dMod (.ev (eVar 2)) (.ev (eC (.int 2147483549))))))) (.ev (eC (.int 11)))))])) (.ev (eC (.int 2147483647))))) (R .no 3463976) = .nx (R s2 b) := by
    rw [sFor_def, hit, fl_ok]
    exact e'
  rw [sqD_nx q3]
  have pw18 : dPow (.int 10) (.int 18) = some (.int (10 ^ 18)) := pow10 (k := 18) (by decide)
  have q4 : eComp (iS (eVar 3)) [2] (gN 2) (eT (e2 dGe (.ev (eVar 2)) (.ev (e2 dPow (.ev (eC (.int 10))) (.ev (eC (.int 18))))))) (eVar 2) (R s2 b) = .ok ((cells.filter fun c => decide (10 ^ 18 ≤ c)).map .int) (R s2 b) := by
    refine comp_filt (l := cells) (fun c : Int => D.int c) (fun c => decide (10 ^ 18 ≤ c)) (fun c => .int c) (it_seq (f := eVar 3) (x := .lst (cells.map .int)) rfl rfl) ?_ (by omega) fun c hc => ?_
    · rcases hs2 with rfl | ⟨d, rfl⟩ <;> rfl
    · by_cases h : (1000000000000000000 : Int) ≤ c <;> simp [stepC, wipeR, gN, isIo, restore, R, pw18, dCmp, h]
  refine ⟨(cells.filter fun c => decide (10 ^ 18 ≤ c)).reverse, b, R s2 b, ⟨?_, fun c hc' => ?_, b0, b1⟩, ?_⟩
  · rw [List.length_reverse]
    exact Nat.le_trans (List.length_filter_le _ _) hc
  · have h := (List.mem_filter.mp (List.mem_reverse.mp hc')).1
    obtain ⟨n, _, rfl⟩ := List.mem_map.mp h
    exact ab_nn n
  · unfold sRetDl eDl
    rw [q4, bind_ok, asIs_map]
    rfl
end Ma
end

section
set_option maxRecDepth 100000
set_option linter.all false
set_option exponentiation.threshold 100000
namespace Ma
open PySem PySem.Spec PyProof.Rows L2 DL Wk
theorem we_rng {f : EM D} {ρ : Env'} {P : List D → Env' → Prop} (h : WE (f ρ) fun d ρ1 => ∃ j : Int, d = .int j ∧ -1000000 ≤ j ∧ j < 1000000 ∧ P (rngD 0 j.toNat) ρ1) : WE (iR1 (.ev f) ρ) P := by
  obtain ⟨d, ρ1, e, j, rfl, a, b, q⟩ := h.out
  have : iR1 (.ev f) ρ = .ok (rngD 0 j.toNat) ρ1 := by
    show ((f ρ).bind fun d ρ1 => (Out.ok [] ρ1).bind fun ds ρ2 => Out.ok (d :: ds) ρ2).bind _ = _
    rw [e, bind_ok, bind_ok, bind_ok]
    show (if -1000000 ≤ j ∧ j < 1000000 then Out.ok (rngD 0 j.toNat) ρ1 else Out.stuck) = _
    rw [if_pos ⟨a, b⟩]
  rw [this]
  exact q
theorem wgt_bound {A B : Int} (hA : 0 ≤ A) (hB : 0 ≤ B) : ∀ (ws cs : List Int), (∀ w ∈ ws, 0 ≤ w ∧ w ≤ A) → (∀ c ∈ cs, 0 ≤ c ∧ c ≤ B) → 0 ≤ wgt ws cs ∧ wgt ws cs ≤ A * B * ws.length
  | [], cs, _, _ => by
    have e : wgt [] cs = 0 := by
      show Nu.wgt [] cs = 0
      unfold Nu.wgt
      rw [List.zip_nil_left]
      rfl
    rw [e]
    simp
  | w :: ws, [], h, _ => by
    have e : wgt (w :: ws) [] = 0 := Nu.wgt_nil _
    rw [e]
    exact ⟨Int.le_refl 0, Int.mul_nonneg (Int.mul_nonneg hA hB) (by omega)⟩
  | w :: ws, c :: cs, h, k => by
    have e : wgt (w :: ws) (c :: cs) = w * c + wgt ws cs := Nu.wgt_cons _ _ _ _
    rw [e]
    obtain ⟨h1, h2⟩ := h w List.mem_cons_self
    obtain ⟨k1, k2⟩ := k c List.mem_cons_self
    obtain ⟨i1, i2⟩ := wgt_bound hA hB ws cs (fun x hx => h x (List.mem_cons_of_mem _ hx)) (fun x hx => k x (List.mem_cons_of_mem _ hx))
    have m1 := Int.mul_nonneg h1 k1
    have m2 : w * c ≤ A * B := Int.mul_le_mul h2 k2 k1 hA
    have e2 : A * B * ((w :: ws).length : Int) = A * B * ws.length + A * B := by
      rw [List.length_cons]
      show A * B * ((ws.length : Int) + 1) = _
      rw [Int.mul_add, Int.mul_one]
    rw [e2]
    omega
theorem sum_bound {A : Int} : ∀ (ws : List Int), (∀ w ∈ ws, 0 ≤ w ∧ w ≤ A) → 0 ≤ ws.sum ∧ ws.sum ≤ A * ws.length
  | [], _ => by simp
  | w :: ws, h => by
    obtain ⟨h1, h2⟩ := h w List.mem_cons_self
    obtain ⟨i1, i2⟩ := sum_bound ws fun x hx => h x (List.mem_cons_of_mem _ hx)
    rw [List.sum_cons, List.length_cons]
    have e2 : A * ((ws.length + 1 : Nat) : Int) = A * ws.length + A := by
      show A * ((ws.length : Int) + 1) = _
      rw [Int.mul_add, Int.mul_one]
    rw [e2]
    omega
theorem small_we {L : List Int} {b : Int} (g : Good L b) : WE (s__law_small [.ow true (.deal L b)]) fun y ps => y = .bl true ∧ ∃ L' b', Good L' b' ∧ ps = [.ow true (.deal L' b')] := by
  obtain ⟨L', b', g', e⟩ := v__law_small g
  rw [e]
  exact ⟨rfl, L', b', g', rfl⟩
def envL (ns : List Int) (L : List Int) (b : Int) (s2 s3 s4 s5 s6 s7 s8 s9 s10 s11 s12 : Sl) : Env' := [.va (.scr ns), .ow false (.deal L b), s2, s3, s4, s5, s6, s7, s8, s9, s10, s11, s12]
/-- a call with the source alone -/
theorem src_we {sem : Sem'} {ns L : List Int} {b : Int} {s2 s3 s4 s5 s6 s7 s8 s9 s10 s11 s12 : Sl} {P : D → Env' → Prop} (h : WE (sem [.ow true (.deal L b)]) fun y ps => y = .bl true ∧ ∃ L' b', Good L' b' ∧ ps = [.ow true (.deal L' b')])
    (k : ∀ L' b', Good L' b' → P (.bl true) (envL ns L' b' s2 s3 s4 s5 s6 s7 s8 s9 s10 s11 s12)) : WE (eCall sem [.io 1] (envL ns L b s2 s3 s4 s5 s6 s7 s8 s9 s10 s11 s12)) P := by
  refine we_io (fs := []) rfl ?_
  rw [show ([] : List (EM D)).map Opd.ev = [] from rfl, argGo_nil, we_ok]
  refine ⟨rfl, false, .deal L b, rfl, h.mono ?_⟩
  rintro d ps ⟨rfl, L', b', g', rfl⟩
  exact ⟨_, [], rfl, Nat.le_refl _, k L' b' g'⟩
/-- numbers one by one -/
theorem nums_we {ns : List Int} {it : EM (List D)} {k : Nat} {f : EM D} {ρ0 : Env'} {s2 s3 s4 s5 s6 s7 s8 s9 s10 s11 s12 : Sl} {P : List D → Env' → Prop} {n0 n1 : Nat} (V : Int → Prop) (hk : k = 10 ∨ k = 11) (h10 : s10 = .no) (h11 : s11 = .no)
    (hi : WE (it ρ0) fun items ρ => n0 ≤ items.length ∧ items.length ≤ n1 ∧ ∃ L b, Good L b ∧ ρ = envL ns L b s2 s3 s4 s5 s6 s7 s8 s9 s10 s11 s12) (hn1 : n1 < 1000)
    (hf : ∀ L b x (Q : D → Env' → Prop), Good L b → (∀ L' b' v, Good L' b' → V v → Q (.int v) ((envL ns L' b' s2 s3 s4 s5 s6 s7 s8 s9 s10 s11 s12).set k (.va x))) → WE (f ((envL ns L b s2 s3 s4 s5 s6 s7 s8 s9 s10 s11 s12).set k (.va x))) Q)
    (hP : ∀ (vs : List Int) L' b', Good L' b' → n0 ≤ vs.length → vs.length ≤ n1 → (∀ v ∈ vs, V v) → P (vs.map .int) (envL ns L' b' s2 s3 s4 s5 s6 s7 s8 s9 s10 s11 s12)) : WE (eComp it [k] (gN k) cYes f ρ0) P := by
  subst h10
  subst h11
  refine we_comp (fun items ys ρ => ∃ (vs : List Int) (L : List Int) (b : Int), Good L b ∧ ys = vs.map .int ∧ n0 ≤ vs.length + items.length ∧ vs.length + items.length ≤ n1 ∧ (∀ v ∈ vs, V v) ∧ ρ = envL ns L b s2 s3 s4 s5 s6 s7 s8 s9 .no .no s12) ?_ ?_ ?_
  · refine hi.mono ?_
    rintro items ρ ⟨h1, h2, L, b, g, rfl⟩
    refine ⟨by rcases hk with rfl | rfl <;> rfl, by omega, [], L, b, g, rfl, by simpa using h1, by simpa using h2, by simp, rfl⟩
  · rintro x xs ys ρ ⟨vs, L, b, g, rfl, h1, h2, h3, rfl⟩
    refine we_step ⟨(envL ns L b s2 s3 s4 s5 s6 s7 s8 s9 .no .no s12).set k (.va x), by rcases hk with rfl | rfl <;> rfl, ?_⟩
    rw [cYes_def, we_ok, if_pos rfl]
    refine hf L b x _ g fun L' b' v g' hv => ?_
    refine ⟨vs ++ [v], L', b', g', by simp, by simp at h1 ⊢; omega, by simp at h2 ⊢; omega, fun u hu => ?_, by rcases hk with rfl | rfl <;> rfl⟩
    rcases List.mem_append.mp hu with q | q
    · exact h3 u q
    · rw [List.mem_singleton.mp q]
      exact hv
  · rintro ys ρ ⟨vs, L, b, g, rfl, h1, h2, h3, rfl⟩
    exact hP vs L b g (by simpa using h1) (by simpa using h2) h3
end Ma
end

section
set_option maxRecDepth 100000
set_option linter.all false
set_option exponentiation.threshold 100000
namespace Ma
open PySem PySem.Spec PyProof.Rows L2 DL Wk
theorem pow30 : dPow (.int 10) (.int 30) = some (.int (10 ^ 30)) := pow10 (k := 30) (by decide)
theorem we_law (ns : List Int) : WE (s_law [.va (.scr ns)]) fun y _ => y = .bl true := by
  refine run_wf (n := 1) (N := 13) (b := b_law) ?_
  show WF (b_law [.va (.scr ns), .no, .no, .no, .no, .no, .no, .no, .no, .no, .no, .no, .no]) _
  unfold b_law
  obtain ⟨L, b, ps, g, ed⟩ := v_draw ns
  have q1 : sMkDl 1 s__law_draw [(eVar 0), (eC (.int 33))] [.va (.scr ns), .no, .no, .no, .no, .no, .no, .no, .no, .no, .no, .no, .no] = .nx (envL ns L b .no .no .no .no .no .no .no .no .no .no .no) := by
    unfold sMkDl
    show (match s__law_draw [.va (.scr ns), .va (.int 33)] with
      | .ok r _ => putSl [.va (.scr ns), .no, .no, .no, .no, .no, .no, .no, .no, .no, .no, .no, .no] 1 (.ow false (.deal r.1 r.2))
      | _ => .stuck) = _
    rw [ed]
    rfl
  rw [wf_seq, q1, wf_nx, sq_nx, wf_seq, sIf_def, wf_fl, tOr_def, we_bind, tNot_def, we_bind, eT_ok, we_bind]
  refine src_we (small_we g) fun L1 b1 g1 => ?_
  rw [asB_bl, lift_some, we_ok, we_ok]
  show WE (tNotB (eT (eCall s__law_wide [(.io 1)])) (envL ns L1 b1 .no .no .no .no .no .no .no .no .no .no .no)) _
  rw [tNot_def, we_bind, eT_ok, we_bind]
  refine src_we (we_wide g1) fun L2 b2 g2 => ?_
  rw [asB_bl, lift_some, we_ok, we_ok]
  show WF (.nx (envL ns L2 b2 .no .no .no .no .no .no .no .no .no .no .no)) _
  rw [wf_nx, sq_nx, wf_seq, sSet_def, wf_fl, eL_def, we_bind]
  -- caps
  have lit6 : ∀ (a b c d e f : Int) ρ, eL (argGo (([(eC (.int a)), (eC (.int b)), (eC (.int c)), (eC (.int d)), (eC (.int e)), (eC (.int f))] : List (EM D)).map Opd.ev)) ρ = .ok (.lst (([a, b, c, d, e, f] : List Int).map .int)) ρ := fun a b c d e f ρ => by
    simp
  refine nums_we (ns := ns) (s2 := .no) (s3 := .no) (s4 := .no) (s5 := .no) (s6 := .no) (s7 := .no) (s8 := .no) (s9 := .no) (s12 := .no) (n0 := 1) (n1 := 3) (fun v => 0 ≤ v ∧ v ≤ 3) (.inl rfl) rfl rfl ?_ (by decide) ?_ ?_
  · refine we_rng (of_we rfl ?_)
    rw [lit6, we_ok]
    refine ⟨([1, 2, 3, 3, 3, 3] : List Int).map .int, false, L2, b2, rfl, by simp, by simp, rfl, g2, fun L3 b3 y g3 hy => ?_⟩
    obtain ⟨m, hm, rfl⟩ := List.mem_map.mp hy
    have hm' : 1 ≤ m ∧ m ≤ 3 := by
      simp at hm
      omega
    refine ⟨m, rfl, by omega, by omega, ?_, ?_, L3, b3, g3, rfl⟩
    · simp [rngD]
      omega
    · simp [rngD]
      omega
  · intro L b x Q g hQ
    refine of_we rfl ?_
    rw [lit6, we_ok]
    refine ⟨([0, 1, 1, 2, 2, 3] : List Int).map .int, false, L, b, rfl, by simp, by simp, rfl, g, fun L3 b3 y g3 hy => ?_⟩
    obtain ⟨m, hm, rfl⟩ := List.mem_map.mp hy
    exact hQ L3 b3 m g3 (by
      simp at hm
      omega)
  intro cs L3 b3 g3 cn0 cn1 hcs
  let C : D := .lst (cs.map .int)
  rw [we_ok]
  show WF (.nx (envL ns L3 b3 (.va C) .no .no .no .no .no .no .no .no .no .no)) _
  rw [wf_nx, sq_nx, wf_seq, sSet_def, wf_fl, eL_def, we_bind]
  -- weights
  refine nums_we (ns := ns) (s2 := .va C) (s3 := .no) (s4 := .no) (s5 := .no) (s6 := .no) (s7 := .no) (s8 := .no) (s9 := .no) (s12 := .no) (n0 := cs.length) (n1 := cs.length) (fun v => 1 ≤ v ∧ v ≤ 5) (.inr rfl) rfl rfl ?_ (by omega) ?_ ?_
  · rw [it_seq (f := eVar 2) (x := C) rfl rfl, we_ok]
    exact ⟨by rw [List.length_map]; omega, by rw [List.length_map]; omega, L3, b3, g3, rfl⟩
  · intro L b x Q g hQ
    rw [e2_ev, eC_go, bind_ok, we_bind]
    refine any_we rfl ?_
    rw [eC_go, we_ok]
    refine ⟨5, false, L, b, rfl, rfl, g, by decide, by decide +kernel, fun L4 b4 v g4 v0 v1 => ?_⟩
    rw [dAdd_int, lift_some, we_ok]
    exact hQ L4 b4 (1 + v) g4 (by omega)
  intro ws L4 b4 g4 wn0 wn1 hws
  have hlw : ws.length = cs.length := by omega
  let W : D := .lst (ws.map .int)
  have sC : SqI C cs := sqI_lst cs
  have sW : SqI W ws := sqI_lst ws
  have few : Few cs := ⟨cn1, fun c hc => by
    have := hcs c hc
    omega⟩
  have p1000 : (100000 : Int) < 2 ^ 1000 := by decide +kernel
  have z : Szs cs ws := ⟨fun c hc => by
    have := hcs c hc
    omega, fun w hw => by
    have := hws w hw
    omega, by omega, hlw⟩
  have wp : ∀ w ∈ ws, 0 < w := fun w hw => by
    have := hws w hw
    omega
  rw [we_ok]
  show WF (.nx (envL ns L4 b4 (.va C) (.va W) .no .no .no .no .no .no .no .no .no)) _
  rw [wf_nx, sq_nx, wf_seq]
  -- the slack
  have vs := v__law_slack sC sW z wp
  have q4 : sIf (tNotB (eT (eCall s__law_slack [(.ev (eVar 2)), (.ev (eVar 3))]))) (sRet (eC (.bl false))) sNx (envL ns L4 b4 (.va C) (.va W) .no .no .no .no .no .no .no .no .no) = .nx (envL ns L4 b4 (.va C) (.va W) .no .no .no .no .no .no .no .no .no) := by
    simp [envL, outR2 _ vs]
  rw [q4, wf_nx, sq_nx, wf_seq, sSet_def, wf_fl]
  -- low
  have wS : ∀ w ∈ ws, Sm 10000 w := z.wS
  have cS : ∀ c ∈ cs, Sm 10000 c := fun c hc => sm_lt (hcs c hc).1 (Int.lt_of_lt_of_le (show c < 2 ^ 1000 from (z.c c hc).2) (by decide +kernel))
  have vw := v__law_weighed sW sC (by omega) wS cS
  obtain ⟨wb0, wb1⟩ := wgt_bound (A := 5) (B := 3) (by decide) (by decide) ws cs (fun w hw => by have := hws w hw; omega) (fun c hc => by have := hcs c hc; omega)
  obtain ⟨sb0, sb1⟩ := sum_bound (A := 5) ws fun w hw => by have := hws w hw; omega
  refine any_we rfl ?_
  have t4 : e2 dAdd (.ev (eCall s__law_weighed [(.ev (eVar 3)), (.ev (eVar 2))])) (.ev (eC (.int 1))) (envL ns L4 b4 (.va C) (.va W) .no .no .no .no .no .no .no .no .no) = .ok (.int (wgt ws cs + 1)) (envL ns L4 b4 (.va C) (.va W) .no .no .no .no .no .no .no .no .no) := by
    simp [envL, outR2 _ vw]
  rw [t4, we_ok]
  refine ⟨_, false, L4, b4, rfl, rfl, g4, by omega, by omega, fun L5 b5 low g5 lo0 lo1 => ?_⟩
  show WF (.nx (envL ns L5 b5 (.va C) (.va W) (.va (.int low)) .no .no .no .no .no .no .no .no)) _
  rw [wf_nx, sq_nx, wf_seq, sIf_def, wf_fl, tNot_def, we_bind, eT_ok, we_bind]
  -- near cuts
  let R (L : List Int) (b : Int) (s5 s6 s7 s8 s9 : Sl) : Env' := envL ns L b (.va C) (.va W) (.va (.int low)) s5 s6 s7 s8 s9 .no .no .no
  refine we_io (fs := [eVar 2, eVar 3, eVar 4, e2 dAdd (.ev (eVar 4)) (.ev (eCall s__law_any [(.io 1), (.ev (e2 dAdd (.ev (eB (on1 dSum) [(.ev (eVar 3))])) (.ev (eC (.int 1)))))]))]) rfl ?_
  show WE (argGo [.ev (eVar 2), .ev (eVar 3), .ev (eVar 4), .ev (e2 dAdd (.ev (eVar 4)) (.ev (eCall s__law_any [(.io 1), (.ev (e2 dAdd (.ev (eB (on1 dSum) [(.ev (eVar 3))])) (.ev (eC (.int 1)))))])))] (R L5 b5 .no .no .no .no .no)) _
  have v2 : ∀ L b s5 s6 s7 s8 s9, eVar 2 (R L b s5 s6 s7 s8 s9) = .ok C (R L b s5 s6 s7 s8 s9) := fun _ _ _ _ _ _ _ => rfl
  have v3 : ∀ L b s5 s6 s7 s8 s9, eVar 3 (R L b s5 s6 s7 s8 s9) = .ok W (R L b s5 s6 s7 s8 s9) := fun _ _ _ _ _ _ _ => rfl
  have v4 : ∀ L b s5 s6 s7 s8 s9, eVar 4 (R L b s5 s6 s7 s8 s9) = .ok (.int low) (R L b s5 s6 s7 s8 s9) := fun _ _ _ _ _ _ _ => rfl
  have dsum : dSum W = some (.int ws.sum) := by
    show ((asIs (ws.map .int)).map fun is => D.int is.sum) = _
    rw [asIs_map]
    rfl
  rw [argGo_cons, v2, bind_ok, we_bind, argGo_cons, v3, bind_ok, we_bind, argGo_cons, v4, bind_ok, we_bind, argGo_cons, we_bind, e2_ev, v4, bind_ok, we_bind]
  refine any_we rfl ?_
  rw [e2_ev, eB_1, v3, bind_ok, dsum, lift_some, bind_ok, eC_go, bind_ok, dAdd_int, lift_some, we_ok]
  refine ⟨_, false, L5, b5, rfl, rfl, g5, by omega, by omega, fun L6 b6 hi g6 hi0 hi1 => ?_⟩
  rw [dAdd_int, lift_some, we_ok, argGo_nil, bind_ok, we_ok, we_ok, we_ok, we_ok]
  refine ⟨rfl, false, .deal L6 b6, rfl, ?_⟩
  refine (we_near_cuts (C := C) (W := W) (low := low) (high := low + hi) g6 sC sW few z (by omega)).mono ?_
  rintro y ps ⟨rfl, L7, b7, g7, rfl⟩
  refine ⟨.deal L7 b7, [.no, .no, .no, .no], rfl, Nat.le_refl _, ?_⟩
  rw [asB_bl, lift_some, we_ok, we_ok]
  show WF (.nx (R L7 b7 .no .no .no .no .no)) _
  rw [wf_nx, sq_nx, wf_seq]
  -- rows at the least slack
  obtain ⟨E, hE⟩ : ∃ E, Nu.enough cs ws = E := ⟨_, rfl⟩
  let rs : List (List Int) := Nu.rowsOf cs ws low (low + E)
  have hl300 : rs.length ≤ 300 := few_rows few
  have hrl : ∀ r ∈ rs, r.length = cs.length := fun r hr => (Nu.mem_rowsOf.mp hr).len
  have ve := v__law_enough sC sW z
  rw [hE] at ve
  have vr := v__law_rows (low := low) (high := low + E) sC sW few z
  have q5 : sSet 5 (eCall s__law_rows [(.ev (eVar 2)), (.ev (eVar 3)), (.ev (eVar 4)), (.ev (e2 dAdd (.ev (eVar 4)) (.ev (eCall s__law_enough [(.ev (eVar 2)), (.ev (eVar 3))]))))]) (R L7 b7 .no .no .no .no .no) = .nx (R L7 b7 (.va (lR rs)) .no .no .no .no) := by
    simp only [sSet_def, call_4, v2, v3, v4, bind_ok, e2_ev, call_2, outR2 _ ve, dAdd_int, lift_some, outR4 _ vr, fl_ok]
    rfl
  rw [q5, wf_nx, sq_nx, wf_seq]
  -- joined
  have tail : ∀ L b s6 s7 s8, Good L b → Fre s6 → Fre s7 → Fre s8 → WF ((sSeq (sSet 9 (eL (eComp (iR1 (.ev (e2 dAdd (.ev (eC (.int 1))) (.ev (eCall s__law_any [(.io 1), (.ev (eC (.int 12)))]))))) [10] (gN 10) cYes (eCall s__law_of [(.io 1), (.ev (eL (argGo (([(eC (.int 0)), (eC (.int 1)), (eCall s__law_great [(.io 1), (.ev (e2 dPow (.ev (eC (.int 10))) (.ev (eC (.int 30)))))])] : List (EM D)).map Opd.ev))))]))))
  (sRet (eCall s__law_slack [(.ev (eVar 9)), (.ev (eL (eComp (iS (eVar 9)) [11] (gN 11) cYes (e2 dAdd (.ev (eC (.int 1))) (.ev (eCall s__law_great [(.io 1), (.ev (eCall s__law_of [(.io 1), (.ev (eL (argGo (([(eC (.int 3)), (e2 dPow (.ev (eC (.int 10))) (.ev (eC (.int 28))))] : List (EM D)).map Opd.ev))))]))]))))))]))) (R L b (.va (lR rs)) s6 s7 s8 .no)) (fun r => ∃ d ρ, r = .rt d ρ ∧ d = .bl true) := by
    intro L8 b8 s6 s7 s8 g8 f6 f7 f8
    rw [wf_seq, sSet_def, wf_fl, eL_def, we_bind]
    refine nums_we (ns := ns) (s2 := .va C) (s3 := .va W) (s4 := .va (.int low)) (s5 := .va (lR rs)) (s6 := s6) (s7 := s7) (s8 := s8) (s9 := .no) (s12 := .no) (n0 := 1) (n1 := 12) (fun v => 0 ≤ v ∧ v < 10 ^ 30) (.inl rfl) rfl rfl ?_ (by decide) ?_ ?_
    · refine we_rng ?_
      rw [e2_ev, eC_go, bind_ok, we_bind]
      refine any_we rfl ?_
      rw [eC_go, we_ok]
      refine ⟨12, false, L8, b8, rfl, rfl, g8, by decide, by decide +kernel, fun L9 b9 v g9 v0 v1 => ?_⟩
      rw [dAdd_int, lift_some, we_ok]
      refine ⟨1 + v, rfl, by omega, by omega, ?_, ?_, L9, b9, g9, rfl⟩
      · simp [rngD]
        omega
      · simp [rngD]
        omega
    · intro L b x Q g hQ
      refine of_we rfl ?_
      rw [eL_def, we_bind, show ∀ f h k : EM D, ([f, h, k] : List (EM D)).map Opd.ev = [.ev f, .ev h, .ev k] from fun _ _ _ => rfl, argGo_cons, eC_go, bind_ok, we_bind, argGo_cons, eC_go, bind_ok, we_bind, argGo_cons, we_bind]
      refine great_we rfl ?_
      rw [e2_ev, eC_go, bind_ok, eC_go, bind_ok, pow30, lift_some, we_ok]
      refine ⟨10 ^ 30, false, L, b, rfl, rfl, g, by decide, fun L9 b9 v g9 v0 v1 => ?_⟩
      rw [argGo_nil, bind_ok, we_ok, we_ok, we_ok, we_ok]
      refine ⟨[.int 0, .int 1, .int v], false, L9, b9, rfl, by simp, by simp, rfl, g9, fun L10 b10 y g10 hy => ?_⟩
      have p30 : (1 : Int) < 10 ^ 30 := by decide
      simp at hy
      rcases hy with rfl | rfl | rfl
      · exact hQ L10 b10 0 g10 ⟨by omega, by omega⟩
      · exact hQ L10 b10 1 g10 ⟨by omega, by omega⟩
      · exact hQ L10 b10 v g10 ⟨v0, v1⟩
    intro gs L9 b9 g9 gn0 gn1 hgs
    let G : D := .lst (gs.map .int)
    rw [we_ok]
    show WF (.nx (R L9 b9 (.va (lR rs)) s6 s7 s8 (.va G))) _
    rw [wf_nx, sq_nx, sRet_def, wf_fl, call_2, we_bind]
    rw [show eVar 9 (R L9 b9 (.va (lR rs)) s6 s7 s8 (.va G)) = .ok G (R L9 b9 (.va (lR rs)) s6 s7 s8 (.va G)) from rfl, we_ok, we_bind, eL_def, we_bind]
    refine nums_we (ns := ns) (s2 := .va C) (s3 := .va W) (s4 := .va (.int low)) (s5 := .va (lR rs)) (s6 := s6) (s7 := s7) (s8 := s8) (s9 := .va G) (s12 := .no) (n0 := gs.length) (n1 := gs.length) (fun v => 1 ≤ v ∧ v ≤ 10 ^ 28) (.inr rfl) rfl rfl ?_ (by omega) ?_ ?_
    · rw [it_seq (f := eVar 9) (x := G) rfl rfl, we_ok]
      exact ⟨by rw [List.length_map]; omega, by rw [List.length_map]; omega, L9, b9, g9, rfl⟩
    · intro L b x Q g hQ
      rw [e2_ev, eC_go, bind_ok, we_bind]
      refine greatof_we (M := 10 ^ 28) (ms := [3, 10 ^ 28]) (io := false) (L := L) (b := b) rfl g (by simp [pow28]) (by simp) (by simp) (by decide) fun L' b' v g' v0 v1 => ?_
      rw [dAdd_int, lift_some, we_ok]
      exact hQ L' b' (1 + v) g' (by omega)
    intro us L10 b10 g10 un0 un1 hus
    have pb : (10 : Int) ^ 30 < 2 ^ 1000 := by decide +kernel
    have pb2 : (10 : Int) ^ 28 < 10 ^ 30 := by decide
    have zz : Szs gs us := ⟨fun c hc => by
      have := hgs c hc
      omega, fun w hw => by
      have := hus w hw
      omega, by omega, by omega⟩
    have vs2 := v__law_slack (d := G) (w := .lst (us.map .int)) (sqI_lst gs) (sqI_lst us) zz fun w hw => by
      have := hus w hw
      omega
    rw [we_ok, outR2 _ vs2, we_ok]
    exact ⟨.bl true, _, rfl, rfl⟩
  have hne : dNe (lR rs) (.lst []) = some (.bl (!rs.isEmpty)) := dNe_rows_nil rs
  have v5 : ∀ L b s6 s7 s8 s9, eVar 5 (R L b (.va (lR rs)) s6 s7 s8 s9) = .ok (lR rs) (R L b (.va (lR rs)) s6 s7 s8 s9) := fun _ _ _ _ _ _ => rfl
  rw [sIf_def, wf_fl, eT_ok, e2_ev, v5, bind_ok, eL_def, disp_0, bind_ok, bind_ok, hne, lift_some, bind_ok, asB_bl, lift_some, we_ok]
  by_cases hrs : rs = []
  · have : rs.isEmpty = true := by rw [hrs]; rfl
    rw [this, if_neg (by decide)]
    exact tail L7 b7 .no .no .no g7 .no .no .no
  have hem : rs.isEmpty = false := by
    cases e : rs with
    | nil => exact (hrs e).elim
    | cons _ _ => rfl
  rw [hem, if_pos (by decide), wf_seq]
  have hmap : rs.map rD ≠ [] := by simpa using hrs
  have hml : (rs.map rD).length < 2 ^ 20 := by rw [List.length_map]; omega
  unfold sAsg
  rw [wf_fl, eTup_2, we_bind]
  refine of_we rfl ?_
  rw [v5, we_ok]
  refine ⟨rs.map rD, false, L7, b7, rfl, hmap, hml, rfl, g7, fun L8 b8 y g8 hy => ?_⟩
  obtain ⟨one, hone, rfl⟩ := List.mem_map.mp hy
  rw [we_bind]
  refine of_we rfl ?_
  show WE (eVar 5 (R L8 b8 (.va (lR rs)) .no .no .no .no)) _
  rw [v5, we_ok]
  refine ⟨rs.map rD, false, L8, b8, rfl, hmap, hml, rfl, g8, fun L9 b9 y g9 hy => ?_⟩
  have hy' : y ∈ rs.map rD := hy
  have hy2 : ∃ o, o ∈ rs ∧ rD o = y := (List.mem_map (l := rs) (f := rD) (b := y)).mp hy'
  cases hy2 with | intro other ho => ?_
  have hother := ho.1
  rw [we_ok, ← ho.2]
  clear ho hy
  show WF (.nx (R L9 b9 (.va (lR rs)) (.va (rD one)) (.va (rD other)) .no .no)) _
  rw [wf_nx, sq_nx, wf_seq]
  have l1 := hrl one hone
  have l2 := hrl other hother
  let ag : List Nat := (List.range cs.length).filter fun k => decide (Nu.at_ one k = Nu.at_ other k)
  let A : D := .lst (ag.map fun i : Nat => D.int (i : Int))
  have q8 : sSet 8 (eL (eComp (iR1 (.ev (eB (on1 dLen) [(.ev (eVar 2))]))) [10] (gN 10) (eT (e2 dEq (.ev (e2 dIx (.ev (eVar 6)) (.ev (eVar 10)))) (.ev (e2 dIx (.ev (eVar 7)) (.ev (eVar 10)))))) (eVar 10))) (R L9 b9 (.va (lR rs)) (.va (rD one)) (.va (rD other)) .no .no) = .nx (R L9 b9 (.va (lR rs)) (.va (rD one)) (.va (rD other)) (.va A) .no) := by
    have k := keys_compJ (ρ := R L9 b9 (.va (lR rs)) (.va (rD one)) (.va (rD other)) .no .no) (j := 2) (k := 10) (n := cs.length) (d := C) (cond := (eT (e2 dEq (.ev (e2 dIx (.ev (eVar 6)) (.ev (eVar 10)))) (.ev (e2 dIx (.ev (eVar 7)) (.ev (eVar 10)))))))
      (fun k => decide (Nu.at_ one k = Nu.at_ other k)) rfl sC.len (by omega) rfl fun i hi => by
        have i1 := ix_at (i := i) (rD_sq one) (by omega)
        have i2 := ix_at (i := i) (rD_sq other) (by omega)
        by_cases h : Nu.at_ one i = Nu.at_ other i <;> simp [R, envL, stepC, wipeR, gN, isIo, restore, i1, i2, h]
    rw [sSet_def, eL_def, k]
    rfl
  rw [q8, wf_nx, sq_nx]
  let rs' : List (List Int) := rs.filter fun r => (ag.filter fun k => decide (Nu.at_ r k ≠ Nu.at_ one k)).isEmpty
  have q9 : eL (eComp (iS (eVar 5)) [12] (gN 12) (eT (e2 dEq (.ev (eL (eComp (iS (eVar 8)) [10] (gN 10) (eT (e2 dNe (.ev (e2 dIx (.ev (eVar 12)) (.ev (eVar 10)))) (.ev (e2 dIx (.ev (eVar 6)) (.ev (eVar 10)))))) (eVar 10)))) (.ev (eL (argGo (([] : List (EM D)).map Opd.ev)))))) (eVar 12)) (R L9 b9 (.va (lR rs)) (.va (rD one)) (.va (rD other)) (.va A) .no) = .ok (lR rs') (R L9 b9 (.va (lR rs)) (.va (rD one)) (.va (rD other)) (.va A) .no) := by
    rw [eL_def, comp_filt (l := rs) rD (fun r => (ag.filter fun k => decide (Nu.at_ r k ≠ Nu.at_ one k)).isEmpty) rD (it_seq (f := eVar 5) (x := lR rs) rfl rfl) rfl (by omega) fun r hr => ?_]
    · rfl
    · let R' : Env' := envL ns L9 b9 (.va C) (.va W) (.va (.int low)) (.va (lR rs)) (.va (rD one)) (.va (rD other)) (.va A) .no .no .no (.va (rD r))
      have hr' := hrl r hr
      have k := comp_filt (it := iS (eVar 8)) (ws := [10]) (g := gN 10) (c := (eT (e2 dNe (.ev (e2 dIx (.ev (eVar 12)) (.ev (eVar 10)))) (.ev (e2 dIx (.ev (eVar 6)) (.ev (eVar 10))))))) (f := eVar 10) (ρ := R') (l := ag) (fun i : Nat => D.int (i : Int)) (fun k => decide (Nu.at_ r k ≠ Nu.at_ one k)) (fun i : Nat => D.int (i : Int)) (it_seq (f := eVar 8) (x := A) rfl rfl) rfl (by
          have : ag.length ≤ (List.range cs.length).length := List.length_filter_le _ _
          rw [List.length_range] at this
          omega) fun i hi => by
            have hi' : i < cs.length := List.mem_range.mp (List.mem_filter.mp hi).1
            have i1 := ix_at (i := i) (rD_sq r) (by omega)
            have i2 := ix_at (i := i) (rD_sq one) (by omega)
            by_cases h : Nu.at_ r i = Nu.at_ one i <;> simp [R', envL, stepC, wipeR, gN, isIo, restore, i1, i2, h]
      have hn : dEq (.lst ((ag.filter fun k => decide (Nu.at_ r k ≠ Nu.at_ one k)).map fun i : Nat => D.int (i : Int))) (.lst []) = some (.bl (ag.filter fun k => decide (Nu.at_ r k ≠ Nu.at_ one k)).isEmpty) := by
        have := dEq_ints_nil ((ag.filter fun k => decide (Nu.at_ r k ≠ Nu.at_ one k)).map fun i : Nat => (i : Int))
        rw [List.map_map, List.isEmpty_map] at this
        exact this
      have k3 : eT (e2 dEq (.ev (eL (eComp (iS (eVar 8)) [10] (gN 10) (eT (e2 dNe (.ev (e2 dIx (.ev (eVar 12)) (.ev (eVar 10)))) (.ev (e2 dIx (.ev (eVar 6)) (.ev (eVar 10)))))) (eVar 10)))) (.ev (eL (argGo (([] : List (EM D)).map Opd.ev))))) R' = .ok ((ag.filter fun k => decide (Nu.at_ r k ≠ Nu.at_ one k)).isEmpty) R' := by
        rw [eT_ok, e2_ev, eL_def, k, bind_ok, bind_ok, eL_def, disp_0, bind_ok, bind_ok, hn, lift_some, bind_ok, asB_bl, lift_some]
      exact step_of (ρ1 := R') rfl k3 rfl rfl rfl
  have hrs' : ∀ r ∈ rs', r ∈ rs := fun r hr => (List.mem_filter.mp hr).1
  have hlr : rs'.length ≤ rs.length := List.length_filter_le _ _
  have vre := v__law_reached (L := cs.length) (rows := rs') (one := one) (fun r hr => hrl r (hrs' r hr)) l1 (by omega) (by omega)
  have in1 : ∀ r ∈ rs, (∀ k, k < cs.length → Nu.at_ one k = Nu.at_ other k → Nu.at_ r k = Nu.at_ one k) → r ∈ rs' := fun r hr h => by
    refine List.mem_filter.mpr ⟨hr, ?_⟩
    rw [List.isEmpty_iff, List.filter_eq_nil_iff]
    intro k hk
    have hk' := List.mem_filter.mp hk
    have h1 := List.mem_range.mp hk'.1
    have h2 : Nu.at_ one k = Nu.at_ other k := by simpa using hk'.2
    simp [h k h1 h2]
  have wpos : ∀ w ∈ ws, 0 < w := wp
  have reach : other ∈ Nu.reached rs' one := by
    refine Nu.reached_all (in1 one hone fun _ _ _ => rfl) ?_
    refine Nu.slack_joined (cs := cs) (ws := ws) (low := low) (high := low + E) hlw wpos ?_ ?_ (Nu.mem_rowsOf.mp hone) (Nu.mem_rowsOf.mp hother)
    · intro k j hk hj hkj ck cj
      have := Nu.enough_max (cs := cs) (ws := ws) (k := k) (j := j) (by omega) (by omega) hkj ck cj
      show _ ≤ low + E - low + 1
      rw [hE] at this
      omega
    · intro r hr h
      exact in1 r (Nu.mem_rowsOf.mpr hr) h
  have nin : dNotIn (rD other) (lR (Nu.reached rs' one)) = some (.bl false) := by
    have := dNotIn_row other (Nu.reached rs' one)
    rw [decide_eq_true reach] at this
    exact this
  have v6 : eVar 6 (R L9 b9 (.va (lR rs)) (.va (rD one)) (.va (rD other)) (.va A) .no) = .ok (rD one) (R L9 b9 (.va (lR rs)) (.va (rD one)) (.va (rD other)) (.va A) .no) := rfl
  have v7 : eVar 7 (R L9 b9 (.va (lR rs)) (.va (rD one)) (.va (rD other)) (.va A) .no) = .ok (rD other) (R L9 b9 (.va (lR rs)) (.va (rD one)) (.va (rD other)) (.va A) .no) := rfl
  rw [sIf_def, wf_fl, eT_ok, e2_ev, v7, bind_ok, call_2, q9, bind_ok, v6, bind_ok, outR2 _ vre, bind_ok, nin, lift_some, bind_ok, asB_bl, lift_some, we_ok, if_neg (by decide), sNx_def, wf_nx]
  exact tail L9 b9 _ _ _ g9 (.va _) (.va _) (.va _)
theorem law_true (ns : List Int) (hl : ns.length ≤ 63) (hb : ∀ z ∈ ns, Builtin.Int.intBits z ≤ 1048576) : ∃ ps, s_law [.va (.scr ns)] = .ok (.bl true) ps := by
  obtain ⟨d, ps, e, rfl⟩ := (we_law ns).out
  exact ⟨ps, e⟩
end Ma
end

section
set_option Elab.async false
set_option linter.all false
set_option maxRecDepth 100000
set_option maxHeartbeats 0
namespace Hd
open PySem PySem.Spec PyProof.Rows L2 DL Wk
def dD (x : Str) (i : Nat) : He.DefD := ⟨(x, none), x, x, defArgs (top i), defBody (top i), defScope (top i), [], []⟩
def fn : List He.DefD := [dD "is_integer" 1, dD "is_number" 2, dD "is_index" 3, dD "is_sequence" 4, dD "is_row_below" 6, dD "weighed" 8, dD "is_cut" 9, dD "first_within" 10, dD "first_row" 11, dD "two_cut" 12, dD "heaviest" 13, dD "enough_slack" 14, dD "slack_cut" 15, dD "_law_draw" 17, dD "_law_any" 18, dD "_law_of" 19, dD "_law_great" 20, dD "_law_weighed" 21, dD "_law_rows" 22, dD "_law_allowed" 23, dD "_law_cut" 24, dD "_law_reached" 25, dD "_law_two" 26, dD "_law_small" 27, dD "_law_wide" 28, dD "_law_near" 29, dD "_law_near_cuts" 30, dD "_law_enough" 31, dD "_law_slack" 32, dD "law" 33]
def fa : List He.Fa := [.glo "is_integer", .glo "is_number", .glo "is_index", .glo "is_sequence", .glo "is_row_below", .glo "weighed", .glo "is_cut", .glo "first_within", .glo "first_row", .glo "two_cut", .glo "heaviest", .glo "enough_slack", .glo "slack_cut", .glo "_law_draw", .glo "_law_any", .glo "_law_of", .glo "_law_great", .glo "_law_weighed", .glo "_law_rows", .glo "_law_allowed", .glo "_law_cut", .glo "_law_reached", .glo "_law_two", .glo "_law_small", .glo "_law_wide", .glo "_law_near", .glo "_law_near_cuts", .glo "_law_enough", .glo "_law_slack", .glo "law", .free "abs", .free "all", .free "bool", .free "enumerate", .free "int", .free "isinstance", .free "len", .free "list", .free "max", .free "min", .free "range", .free "repr", .free "sorted", .free "sum", .free "tuple", .free "zip"]
abbrev R : PySem.W.OpenRow := PySem.W.OpenLaw.row PySem.Challenge.rw_bothplans_k33_whole_weighted_sums
abbrev hk : PySem.W.Hook := He.hookD 4 fa fn
def ob (s : PySem.W.SharedT) : He.AlD := He.obsDG 4 fa fn (HandSHeadRun.getT s)
theorem ob_eq (s : PySem.W.SharedT) : ob s = hk.obs s.abs := He.obsDG_eq (HandSHeadRun.getT_eq s)
def loose : List PySem.Str := ["is_integer", "is_number", "is_index", "is_sequence", "is_row_below", "weighed", "is_cut", "first_within", "first_row", "two_cut", "heaviest", "enough_slack", "slack_cut", "_law_draw", "_law_any", "_law_of", "_law_great", "_law_weighed", "_law_rows", "_law_allowed", "_law_cut", "_law_reached", "_law_two", "_law_small", "_law_wide", "_law_near", "_law_near_cuts", "_law_enough", "_law_slack"]
set_option maxHeartbeats 0 in
theorem run (w : World) : HandSHeadRun.RunEq R (PySem.W.view R.prog [33]) hk ob 4000 loose w := by
  intro os
  kernel_rfl
theorem facts {K : PySem.W.Frag} {h : Heap} {mg : Str → Option Value} (X : K.In h) (G : h.Ns mainGlobals mg) (c : He.SaysD fa fn K) : ∃ C : Fx K mg, C.f_law = (He.ga K "law") := by
  obtain ⟨fd0, F0⟩ := c.def_ 0 (d := dD "is_integer" 1) rfl
  obtain ⟨fd1, F1⟩ := c.def_ 1 (d := dD "is_number" 2) rfl
  obtain ⟨fd2, F2⟩ := c.def_ 2 (d := dD "is_index" 3) rfl
  obtain ⟨fd3, F3⟩ := c.def_ 3 (d := dD "is_sequence" 4) rfl
  obtain ⟨fd4, F4⟩ := c.def_ 4 (d := dD "is_row_below" 6) rfl
  obtain ⟨fd5, F5⟩ := c.def_ 5 (d := dD "weighed" 8) rfl
  obtain ⟨fd6, F6⟩ := c.def_ 6 (d := dD "is_cut" 9) rfl
  obtain ⟨fd7, F7⟩ := c.def_ 7 (d := dD "first_within" 10) rfl
  obtain ⟨fd8, F8⟩ := c.def_ 8 (d := dD "first_row" 11) rfl
  obtain ⟨fd9, F9⟩ := c.def_ 9 (d := dD "two_cut" 12) rfl
  obtain ⟨fd10, F10⟩ := c.def_ 10 (d := dD "heaviest" 13) rfl
  obtain ⟨fd11, F11⟩ := c.def_ 11 (d := dD "enough_slack" 14) rfl
  obtain ⟨fd12, F12⟩ := c.def_ 12 (d := dD "slack_cut" 15) rfl
  obtain ⟨fd13, F13⟩ := c.def_ 13 (d := dD "_law_draw" 17) rfl
  obtain ⟨fd14, F14⟩ := c.def_ 14 (d := dD "_law_any" 18) rfl
  obtain ⟨fd15, F15⟩ := c.def_ 15 (d := dD "_law_of" 19) rfl
  obtain ⟨fd16, F16⟩ := c.def_ 16 (d := dD "_law_great" 20) rfl
  obtain ⟨fd17, F17⟩ := c.def_ 17 (d := dD "_law_weighed" 21) rfl
  obtain ⟨fd18, F18⟩ := c.def_ 18 (d := dD "_law_rows" 22) rfl
  obtain ⟨fd19, F19⟩ := c.def_ 19 (d := dD "_law_allowed" 23) rfl
  obtain ⟨fd20, F20⟩ := c.def_ 20 (d := dD "_law_cut" 24) rfl
  obtain ⟨fd21, F21⟩ := c.def_ 21 (d := dD "_law_reached" 25) rfl
  obtain ⟨fd22, F22⟩ := c.def_ 22 (d := dD "_law_two" 26) rfl
  obtain ⟨fd23, F23⟩ := c.def_ 23 (d := dD "_law_small" 27) rfl
  obtain ⟨fd24, F24⟩ := c.def_ 24 (d := dD "_law_wide" 28) rfl
  obtain ⟨fd25, F25⟩ := c.def_ 25 (d := dD "_law_near" 29) rfl
  obtain ⟨fd26, F26⟩ := c.def_ 26 (d := dD "_law_near_cuts" 30) rfl
  obtain ⟨fd27, F27⟩ := c.def_ 27 (d := dD "_law_enough" 31) rfl
  obtain ⟨fd28, F28⟩ := c.def_ 28 (d := dD "_law_slack" 32) rfl
  obtain ⟨fd29, F29⟩ := c.def_ 29 (d := dD "law" 33) rfl
  exact ⟨⟨_, fd0, F0, He.glo_ok X G (c.fact 0 (f := .glo "is_integer") rfl), _, fd1, F1, He.glo_ok X G (c.fact 1 (f := .glo "is_number") rfl), _, fd2, F2, He.glo_ok X G (c.fact 2 (f := .glo "is_index") rfl), _, fd3, F3, He.glo_ok X G (c.fact 3 (f := .glo "is_sequence") rfl), _, fd4, F4, He.glo_ok X G (c.fact 4 (f := .glo "is_row_below") rfl), _, fd5, F5, He.glo_ok X G (c.fact 5 (f := .glo "weighed") rfl), _, fd6, F6, He.glo_ok X G (c.fact 6 (f := .glo "is_cut") rfl), _, fd7, F7, He.glo_ok X G (c.fact 7 (f := .glo "first_within") rfl), _, fd8, F8, He.glo_ok X G (c.fact 8 (f := .glo "first_row") rfl), _, fd9, F9, He.glo_ok X G (c.fact 9 (f := .glo "two_cut") rfl), _, fd10, F10, He.glo_ok X G (c.fact 10 (f := .glo "heaviest") rfl), _, fd11, F11, He.glo_ok X G (c.fact 11 (f := .glo "enough_slack") rfl), _, fd12, F12, He.glo_ok X G (c.fact 12 (f := .glo "slack_cut") rfl), _, fd13, F13, He.glo_ok X G (c.fact 13 (f := .glo "_law_draw") rfl), _, fd14, F14, He.glo_ok X G (c.fact 14 (f := .glo "_law_any") rfl), _, fd15, F15, He.glo_ok X G (c.fact 15 (f := .glo "_law_of") rfl), _, fd16, F16, He.glo_ok X G (c.fact 16 (f := .glo "_law_great") rfl), _, fd17, F17, He.glo_ok X G (c.fact 17 (f := .glo "_law_weighed") rfl), _, fd18, F18, He.glo_ok X G (c.fact 18 (f := .glo "_law_rows") rfl), _, fd19, F19, He.glo_ok X G (c.fact 19 (f := .glo "_law_allowed") rfl), _, fd20, F20, He.glo_ok X G (c.fact 20 (f := .glo "_law_cut") rfl), _, fd21, F21, He.glo_ok X G (c.fact 21 (f := .glo "_law_reached") rfl), _, fd22, F22, He.glo_ok X G (c.fact 22 (f := .glo "_law_two") rfl), _, fd23, F23, He.glo_ok X G (c.fact 23 (f := .glo "_law_small") rfl), _, fd24, F24, He.glo_ok X G (c.fact 24 (f := .glo "_law_wide") rfl), _, fd25, F25, He.glo_ok X G (c.fact 25 (f := .glo "_law_near") rfl), _, fd26, F26, He.glo_ok X G (c.fact 26 (f := .glo "_law_near_cuts") rfl), _, fd27, F27, He.glo_ok X G (c.fact 27 (f := .glo "_law_enough") rfl), _, fd28, F28, He.glo_ok X G (c.fact 28 (f := .glo "_law_slack") rfl), _, fd29, F29, He.glo_ok X G (c.fact 29 (f := .glo "law") rfl), He.free_ok X G (c.fact 30 (f := .free "abs") rfl), He.free_ok X G (c.fact 31 (f := .free "all") rfl), He.free_ok X G (c.fact 32 (f := .free "bool") rfl), He.free_ok X G (c.fact 33 (f := .free "enumerate") rfl), He.free_ok X G (c.fact 34 (f := .free "int") rfl), He.free_ok X G (c.fact 35 (f := .free "isinstance") rfl), He.free_ok X G (c.fact 36 (f := .free "len") rfl), He.free_ok X G (c.fact 37 (f := .free "list") rfl), He.free_ok X G (c.fact 38 (f := .free "max") rfl), He.free_ok X G (c.fact 39 (f := .free "min") rfl), He.free_ok X G (c.fact 40 (f := .free "range") rfl), He.free_ok X G (c.fact 41 (f := .free "repr") rfl), He.free_ok X G (c.fact 42 (f := .free "sorted") rfl), He.free_ok X G (c.fact 43 (f := .free "sum") rfl), He.free_ok X G (c.fact 44 (f := .free "tuple") rfl), He.free_ok X G (c.fact 45 (f := .free "zip") rfl)⟩, rfl⟩
end Hd
end

set_option Elab.async false
set_option linter.all false
set_option maxRecDepth 100000
set_option maxHeartbeats 0
namespace Fin
open PySem PySem.Spec PyProof.Rows L2 DL Wk
theorem start_script {K : PySem.W.Frag} {mg : Str → Option Value} {H : Hp} {a : Addr} {ns : List Int} (h : SqL K H a (ns.map V.int)) : Sat K mg [.ref a] ⟨H, H, fun _ => False⟩ [some (.ref a)] [.va (.scr ns)] := by
  refine ⟨fun _ _ e => e, fun _ h => h.elim, fun _ h => h.elim, rfl, ⟨fun _ _ => False, fun i sl e => ?_, fun _ _ h => h, fun _ _ _ h => h.elim⟩, fun i o e => ?_⟩
  · cases i with
    | zero =>
      cases e
      exact ⟨some (.ref a), rfl, .ref a, rfl, a, rfl, h⟩
    | succ i => simp at e
  · cases i with
    | zero => cases e
    | succ i => simp at e
theorem law_sp {K : PySem.W.Frag} {mg : Str → Option Value} {H : Hp} {a : Addr} {ns : List Int} (h : SqL K H a (ns.map V.int)) {sem : Sem'} (hl : ∃ ps, sem [.va (.scr ns)] = .ok (.bl true) ps) : spD K mg 1 sem [.ref a] H (fun v _ => v = .bl true) fun _ _ _ => False := by
  obtain ⟨ps, e⟩ := hl
  refine ⟨rfl, ⟨H, H, fun _ => False⟩, [.va (.scr ns)], rfl, start_script h, ?_⟩
  rw [e]
  exact fun S' v _ _ r => r
end Fin
open PySem PySem.W PySem.Calls PyProof.Rows
theorem PySem.Challenge.cw_bothplans_k33_whole_weighted_sums_holds : PySem.Challenge.rw_bothplans_k33_whole_weighted_sums.Holds := by
  w_on; o_law
  refine HandSHeadRun.head_any (r := OpenLaw.row PySem.Challenge.rw_bothplans_k33_whole_weighted_sums) (q := view (OpenLaw.row PySem.Challenge.rw_bothplans_k33_whole_weighted_sums).prog [33]) (H := Hd.hk) (ob := Hd.ob) (M := 4000) (loose := Hd.loose) (d := HandSHeadRun.topDef (OpenLaw.row PySem.Challenge.rw_bothplans_k33_whole_weighted_sums).prog 33) (kwd := []) Hd.ob_eq
    (by kernel_rfl) (fun s => by kernel_rfl) Hd.run (by kernel_rfl) (by kernel_rfl) (by kernel_rfl) (by rfl) (by first | assumption | decide +kernel) (by decide +kernel) ⟨rfl, rfl, rfl, rfl, rfl, by decide +kernel⟩ ?hw ?hc
  case hw => w_witness2
  case hc =>
    refine DL.walkG (l := PySem.Challenge.rw_bothplans_k33_whole_weighted_sums) (n := 63) (k := 105) (x := "_law_script") rfl (by decide) (by kernel_rfl) ⟨rfl, by decide, by decide⟩ ?F
    intro w mg fa h Y G hmg0
    obtain ⟨K, KX, c⟩ := Y
    have hmg : mg ("law" : PySem.Str) = some (.ref fa) := by
      have e : (HandSHeadRun.topDef (OpenLaw.row PySem.Challenge.rw_bothplans_k33_whole_weighted_sums).prog 33).name = ("law" : PySem.Str) := by kernel_rfl
      rw [← e]
      exact hmg0
    obtain ⟨C, eC⟩ := Hd.facts KX G c
    have e := hmg.symm.trans C.g_law
    have e2 : fa = C.f_law := by
      have := Option.some.inj e
      cases this
      rfl
    subst e2
    refine ⟨K, C.fd_law, DL.spD K mg 1 Wk.s_law, KX, ?_, fun H a ns hl hb _ hS => Fin.law_sp hS (Ma.law_true ns hl hb), fun base _ _ => Wk.ok_law C⟩
    have b := L2.FunD.bindsA (ps := ["_law_script"]) C.F_law fun _ _ _ _ _ _ us hl => match us, hl with | [_], _ => rfl
    exact fun s v => b s [v] rfl
