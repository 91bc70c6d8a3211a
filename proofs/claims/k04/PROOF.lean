import PyProof.Rows.All
import Wide.All
import OpenK.AllK
import Wide.FinOn
import HandS.ForMost
import HandS.ForExc
import HandS.Defaults
import HandS.Walk
import HandS.Zip
import HandS.IsInst
import HandS.TupSets
import HandS.DictComp
import HandS.SetKeys
import HandS.Wide
import HandS.TupAny
import HandS.TryMany
import HandS.ExcInit
import HandS.RaiseMore
import HandS.MakeKw
import HandS.EndBits
import HandS.HeadEnd
import HandS.Style
import HandS.TupMul
import HandS.Deep
import HandS.TupLen
import HandS.SortInts
import KE.GoesZip
import KE.GoesEnum
import KE.GoesMore
import PyProof.EnumStmt
import PyProof.EnumMake
import PyProof.StrOps2
import KE.SortData
import PyProof.CallFns
import HandS.Evl
import KE.KExcSuper
import KE.KSuper
import HandS.ExcField
import HandS.OwnEq
import PyProof.InstNe
import HandS.TupLe
import HandS.Conv
import HandS.DictTup
import HandS.HeadHook1
import HandS.HeadHook2
import KE.KTupSum
import PySem.Challenge.RW_bothplans_k04_texts_of_stores
import HandS.Text
import KE.KStateDown
import Lean
import HandS.Ends
import HandS.Words
import HandS.WordsExc
import HandS.Head0
import HandS.Head1
import HandS.Head2
section
set_option Elab.async false
set_option maxRecDepth 100000
/-! The data layer: values D, what stands for them in the abstract heap (RD), slots, configurations. -/
namespace DL
open PySem PySem.Spec PyProof.Rows L2

/-- a value of Python, as a tree -/
inductive D where
  | non | bl (b : Bool) | int (i : Int) | str (x : Str)
  | lst (xs : List D) | tup (xs : List D)
  | dK (ks : List Key) (ds : List D) | dT (ks : List (List Key)) (ds : List D)
  | ins (c : Str) (ns : List Str) (ds : List D)
  /-- a built-in class, an own one -/
  | ty (n : String) | cls (c : Str)
  /-- the script -/
  | scr (ns : List Int)

mutual
/-- v stands for d, all its parts in the heap F -/
def RD (K : PySem.W.Frag) (mg : Str → Option Value) (F : Hp) : D → V → Prop
  | .non, v => v = .non
  | .bl b, v => v = .bl b
  | .int i, v => v = .int i
  | .str x, v => v = .str x
  | .lst xs, v => ∃ a vs, v = .ref a ∧ F a = some (.lst vs) ∧ RDs K mg F xs vs
  | .tup xs, v => ∃ a vs, v = .ref a ∧ F a = some (.tup vs) ∧ RDs K mg F xs vs
  | .dK ks ds, v => ∃ a vs, v = .ref a ∧ F a = some (.dK (ks.zip vs)) ∧ ks.length = vs.length ∧ RDs K mg F ds vs
  | .dT ks ds, v => ∃ a vs, v = .ref a ∧ F a = some (.dT (ks.zip vs)) ∧ ks.length = vs.length ∧ RDs K mg F ds vs
  | .ins c ns ds, v => ∃ a C dx vs, v = .ref a ∧ mg c = some (.ref C) ∧ F a = some (.ins C dx (ns.zip vs)) ∧ ns.length = vs.length ∧ RDs K mg F ds vs
  | .ty n, v => v = .ty n
  | .cls c, v => ∃ C, mg c = some (.ref C) ∧ v = .ref C
  | .scr ns, v => ∃ a, v = .ref a ∧ SqL K F a (ns.map V.int)
def RDs (K : PySem.W.Frag) (mg : Str → Option Value) (F : Hp) : List D → List V → Prop
  | [], vs => vs = []
  | d :: ds, vs => ∃ v r, vs = v :: r ∧ RD K mg F d v ∧ RDs K mg F ds r
end

section
variable {K : PySem.W.Frag} {mg : Str → Option Value} {F F' : Hp}
theorem sqT_mono {a : Addr} {xs : List V} (e : Same F F') (h : SqT K F a xs) : SqT K F' a xs := by
  rcases h with (h | ⟨o, h⟩) | h
  · exact .inl (.inl (e _ _ h))
  · exact .inl (.inr ⟨o, e _ _ h⟩)
  · exact .inr h
theorem sqT_of {a : Addr} {xs : List V} (e : Same F F') (h : F a = some (.tup xs)) : SqT K F' a xs := .inl (.inl (e _ _ h))
theorem sqL_mono {a : Addr} {xs : List V} (e : Same F F') (h : SqL K F a xs) : SqL K F' a xs := by
  rcases h with (h | ⟨o, h⟩) | h
  · exact .inl (.inl (e _ _ h))
  · exact .inl (.inr ⟨o, e _ _ h⟩)
  · exact .inr h
mutual
theorem RD.mono (e : Same F F') : ∀ {d : D} {v : V}, RD K mg F d v → RD K mg F' d v
  | .non, _, h => h
  | .bl _, _, h => h
  | .int _, _, h => h
  | .str _, _, h => h
  | .lst _, _, ⟨a, vs, h1, h2, h3⟩ => ⟨a, vs, h1, e _ _ h2, RDs.mono e h3⟩
  | .tup _, _, ⟨a, vs, h1, h2, h3⟩ => ⟨a, vs, h1, e _ _ h2, RDs.mono e h3⟩
  | .dK _ _, _, ⟨a, vs, h1, h2, h3, h4⟩ => ⟨a, vs, h1, e _ _ h2, h3, RDs.mono e h4⟩
  | .dT _ _, _, ⟨a, vs, h1, h2, h3, h4⟩ => ⟨a, vs, h1, e _ _ h2, h3, RDs.mono e h4⟩
  | .ins _ _ _, _, ⟨a, C, dx, vs, h1, h2, h3, h4, h6⟩ => ⟨a, C, dx, vs, h1, h2, e _ _ h3, h4, RDs.mono e h6⟩
  | .ty _, _, h => h
  | .cls _, _, h => h
  | .scr _, _, ⟨a, h1, h2⟩ => ⟨a, h1, sqL_mono e h2⟩
theorem RDs.mono (e : Same F F') : ∀ {ds : List D} {vs : List V}, RDs K mg F ds vs → RDs K mg F' ds vs
  | [], _, h => h
  | _ :: _, _, ⟨v, r, h1, h2, h3⟩ => ⟨v, r, h1, RD.mono e h2, RDs.mono e h3⟩
end
theorem RDs.length : ∀ {ds : List D} {vs : List V}, RDs K mg F ds vs → ds.length = vs.length
  | [], _, h => by cases h; rfl
  | _ :: ds, _, ⟨v, r, h1, _, h3⟩ => by
    subst h1
    simp [RDs.length h3]
theorem RDs.get : ∀ {ds : List D} {vs : List V} {i : Nat} {d : D}, RDs K mg F ds vs → ds[i]? = some d → ∃ v, vs[i]? = some v ∧ RD K mg F d v
  | [], _, _, _, _, e => by simp at e
  | _ :: _, _, 0, _, ⟨v, r, h1, h2, _⟩, e => by
    simp at e
    subst e
    subst h1
    exact ⟨v, rfl, h2⟩
  | _ :: _, _, i + 1, d, ⟨v, r, h1, _, h3⟩, e => by
    subst h1
    obtain ⟨w, e1, e2⟩ := RDs.get (i := i) (d := d) h3 (by simpa using e)
    exact ⟨w, by simpa using e1, e2⟩
theorem RDs.getV : ∀ {ds : List D} {vs : List V} {i : Nat} {v : V}, RDs K mg F ds vs → vs[i]? = some v → ∃ d, ds[i]? = some d ∧ RD K mg F d v := fun {ds vs i v} h e => by
  have hi : i < vs.length := (List.getElem?_eq_some_iff.mp e).1
  have hl := h.length
  obtain ⟨w, e1, e2⟩ := h.get (i := i) (d := ds[i]'(by omega)) (List.getElem?_eq_getElem _)
  rw [e] at e1
  cases e1
  exact ⟨_, List.getElem?_eq_getElem _, e2⟩
theorem RDs.app : ∀ {ds es : List D} {vs ws : List V}, RDs K mg F ds vs → RDs K mg F es ws → RDs K mg F (ds ++ es) (vs ++ ws)
  | [], _, _, _, h, k => by
    cases h
    exact k
  | _ :: _, _, _, _, ⟨v, r, h1, h2, h3⟩, k => by
    subst h1
    exact ⟨v, _, rfl, h2, RDs.app h3 k⟩
theorem RDs.one {d : D} {v : V} (h : RD K mg F d v) : RDs K mg F [d] [v] := ⟨v, [], rfl, h, rfl⟩
theorem RDs.cons {d : D} {v : V} {ds : List D} {vs : List V} (h : RD K mg F d v) (k : RDs K mg F ds vs) : RDs K mg F (d :: ds) (v :: vs) := ⟨v, vs, rfl, h, k⟩
theorem RDs.of_get : ∀ {ds : List D} {vs : List V}, ds.length = vs.length → (∀ (i : Nat) (d : D) (v : V), ds[i]? = some d → vs[i]? = some v → RD K mg F d v) → RDs K mg F ds vs
  | [], [], _, _ => rfl
  | [], _ :: _, h, _ => by simp at h
  | _ :: _, [], h, _ => by simp at h
  | d :: ds, v :: vs, h, k => ⟨v, vs, rfl, k 0 d v rfl rfl, RDs.of_get (by simpa using h) fun i d v e1 e2 => k (i + 1) d v (by simpa using e1) (by simpa using e2)⟩
theorem RDs.take {ds : List D} {vs : List V} (n : Nat) (h : RDs K mg F ds vs) : RDs K mg F (ds.take n) (vs.take n) := by
  refine RDs.of_get (by simp [h.length]) fun i d v e1 e2 => ?_
  rw [List.getElem?_take] at e1 e2
  split at e1
  · rename_i hi
    rw [if_pos hi] at e2
    obtain ⟨w, q1, q2⟩ := h.get e1
    rw [e2] at q1
    cases q1
    exact q2
  · cases e1
theorem RDs.drop {ds : List D} {vs : List V} (n : Nat) (h : RDs K mg F ds vs) : RDs K mg F (ds.drop n) (vs.drop n) := by
  refine RDs.of_get (by simp [h.length]) fun i d v e1 e2 => ?_
  rw [List.getElem?_drop] at e1 e2
  obtain ⟨w, q1, q2⟩ := h.get e1
  rw [e2] at q1
  cases q1
  exact q2
theorem RDs.ints (ns : List Int) : RDs K mg F (ns.map D.int) (ns.map V.int) := by
  induction ns with
  | nil => rfl
  | cons n ns ih => exact ⟨_, _, rfl, rfl, ih⟩
theorem RDs.of_ints : ∀ {ns : List Int} {vs : List V}, RDs K mg F (ns.map D.int) vs → vs = ns.map V.int
  | [], _, h => h
  | _ :: _, _, ⟨v, r, h1, h2, h3⟩ => by
    subst h1
    have e : v = V.int _ := h2
    rw [e, RDs.of_ints h3]
    rfl
end

/-! ### what a body owns -/
inductive Ow where
  | lst (xs : List D) | dK (ks : List Key) (ds : List D) | dT (ks : List (List Key)) (ds : List D)
  /-- the source of draws: great cells, a blend -/
  | deal (L : List Int) (b : Int)
  /-- an object in the making -/
  | obj (c : Str) (ns : List Str) (ds : List D)
inductive Sl where
  | no | va (d : D)
  /-- owned; handed in by the caller, or the body's own -/
  | ow (io : Bool) (o : Ow)
abbrev Env' := List Sl

/-- frozen part, heap, owned addresses -/
structure Cfg where
  F : Hp
  H : Hp
  O : Addr → Prop
/-- one state behind another -/
structure Ev (S S' : Cfg) : Prop where
  same : ∀ a o, S.H a = some o → ¬ S.O a → S'.H a = some o
  frz : Same S.F S'.F
  newF : ∀ a o, S.H a = some o → ¬ S.O a → S'.F a = S.F a
  own : ∀ p, S'.O p → S.O p ∨ S.H p = none
  there : ∀ a o, S.H a = some o → ∃ o', S'.H a = some o'
theorem Ev.refl (S : Cfg) : Ev S S := ⟨fun _ _ h _ => h, fun _ _ h => h, fun _ _ _ _ => rfl, fun _ h => .inl h, fun _ o h => ⟨o, h⟩⟩
theorem Ev.nil {S S' : Cfg} (e : Ev S S') {a : Addr} (h : S'.H a = none) : S.H a = none := by
  cases q : S.H a with
  | none => rfl
  | some o =>
    obtain ⟨o', z⟩ := e.there a o q
    rw [h] at z
    cases z
theorem Ev.trans {S S1 S2 : Cfg} (a : Ev S S1) (b : Ev S1 S2) : Ev S S2 := by
  have key : ∀ {c o}, S.H c = some o → ¬ S.O c → ¬ S1.O c := fun {c o} h n k => by
    rcases a.own c k with q | q
    · exact n q
    · rw [h] at q
      cases q
  refine ⟨fun c o h n => b.same c o (a.same c o h n) (key h n), fun c o h => b.frz c o (a.frz c o h), fun c o h n => (b.newF c o (a.same c o h n) (key h n)).trans (a.newF c o h n), fun p h => ?_, fun c o h => ?_⟩
  rotate_left
  · obtain ⟨o1, h1⟩ := a.there c o h
    exact b.there c o1 h1
  rcases b.own p h with q | q
  · exact a.own p q
  · cases e : S.H p with
    | none => exact .inr rfl
    | some o =>
      refine .inl (Classical.byContradiction fun n => ?_)
      have z := a.same p o e n
      rw [q] at z
      cases z

section
variable (K : PySem.W.Frag) (mg : Str → Option Value)
def OwR (S : Cfg) (v : V) : Ow → (Addr → Prop) → Prop
  | .lst xs, fp => ∃ p vs, v = .ref p ∧ S.H p = some (.lst vs) ∧ RDs K mg S.F xs vs ∧ fp p
  | .dK ks ds, fp => ∃ p vs, v = .ref p ∧ S.H p = some (.dK (ks.zip vs)) ∧ ks.length = vs.length ∧ RDs K mg S.F ds vs ∧ fp p
  | .dT ks ds, fp => ∃ p vs, v = .ref p ∧ S.H p = some (.dT (ks.zip vs)) ∧ ks.length = vs.length ∧ RDs K mg S.F ds vs ∧ fp p
  | .deal L b, fp => ∃ p q, v = .ref p ∧ S.H p = some (.lst [.ref q, .int b]) ∧ S.H q = some (.lst (L.map V.int)) ∧ p ≠ q ∧ fp p ∧ fp q
  | .obj c ns ds, fp => ∃ p C dx vs, v = .ref p ∧ mg c = some (.ref C) ∧ S.H p = some (.ins C dx (ns.zip vs)) ∧ ns.length = vs.length ∧ RDs K mg S.F ds vs ∧ fp p
def SlR (S : Cfg) (v : Option V) : Sl → (Addr → Prop) → Prop
  | .no, _ => True
  | .va d, _ => ∃ u, v = some u ∧ RD K mg S.F d u
  | .ow _ o, fp => ∃ u, v = some u ∧ OwR K mg S u o fp
/-- the slots σ in the configuration S stand for ρ; A: the arguments -/
structure Sat (A : List V) (S : Cfg) (σ : L2.St) (ρ : Env') : Prop where
  sub : Same S.F S.H
  ownF : ∀ p, S.O p → S.F p = none
  ownH : ∀ p, S.O p → ∃ o, S.H p = some o
  len : σ.length = ρ.length
  sl : ∃ fp : Nat → Addr → Prop, (∀ i s, ρ[i]? = some s → ∃ v, σ[i]? = some v ∧ SlR K mg S v s (fp i)) ∧ (∀ i p, fp i p → S.O p) ∧ (∀ i j p, fp i p → fp j p → i = j)
  io : ∀ (i : Nat) (o : Ow), ρ[i]? = some (Sl.ow true o) → ∃ v : V, σ[i]? = some (some v) ∧ A[i]? = some v
end

/-- grown by new objects alone -/
structure Gr (S S' : Cfg) : Prop where
  O : S'.O = S.O
  H : Same S.H S'.H
  F : Same S.F S'.F
  new : ∀ a o, S.H a = some o → S'.F a = S.F a
  sub : Same S'.F S'.H
section
variable {K : PySem.W.Frag} {mg : Str → Option Value} {A : List V} {S S' S'' : Cfg} {σ : L2.St} {ρ : Env'}
theorem Gr.refl (h : Same S.F S.H) : Gr S S := ⟨rfl, fun _ _ h => h, fun _ _ h => h, fun _ _ _ => rfl, h⟩
theorem Gr.trans (a : Gr S S') (b : Gr S' S'') : Gr S S'' :=
  ⟨b.O.trans a.O, fun c o h => b.H c o (a.H c o h), fun c o h => b.F c o (a.F c o h), fun c o h => (b.new c o (a.H c o h)).trans (a.new c o h), b.sub⟩
theorem Gr.ev (g : Gr S S') : Ev S S' := ⟨fun a o h _ => g.H a o h, g.F, fun a o h _ => g.new a o h, fun p h => .inl (by rw [← g.O]; exact h), fun a o h => ⟨o, g.H a o h⟩⟩
theorem OwR.grow {v : V} {o : Ow} {fp : Addr → Prop} (h : OwR K mg S v o fp) (hf : Same S.F S'.F) (hh : ∀ p o, fp p → S.H p = some o → S'.H p = some o) : OwR K mg S' v o fp := by
  cases o with
  | lst xs =>
    obtain ⟨p, vs, h1, h2, h3, h4⟩ := h
    exact ⟨p, vs, h1, hh _ _ h4 h2, h3.mono hf, h4⟩
  | dK ks ds =>
    obtain ⟨p, vs, h1, h2, h3, h4, h5⟩ := h
    exact ⟨p, vs, h1, hh _ _ h5 h2, h3, h4.mono hf, h5⟩
  | dT ks ds =>
    obtain ⟨p, vs, h1, h2, h3, h4, h5⟩ := h
    exact ⟨p, vs, h1, hh _ _ h5 h2, h3, h4.mono hf, h5⟩
  | deal L b =>
    obtain ⟨p, q, h1, h2, h3, h4, h5, h6⟩ := h
    exact ⟨p, q, h1, hh _ _ h5 h2, hh _ _ h6 h3, h4, h5, h6⟩
  | obj c ns ds =>
    obtain ⟨p, C, dx, vs, h1, h2, h3, h4, h5, h6⟩ := h
    exact ⟨p, C, dx, vs, h1, h2, hh _ _ h6 h3, h4, h5.mono hf, h6⟩
theorem SlR.grow {v : Option V} {s : Sl} {fp : Addr → Prop} (h : SlR K mg S v s fp) (hf : Same S.F S'.F) (hh : ∀ p o, fp p → S.H p = some o → S'.H p = some o) : SlR K mg S' v s fp := by
  cases s with
  | no => trivial
  | va d =>
    obtain ⟨u, h1, h2⟩ := h
    exact ⟨u, h1, h2.mono hf⟩
  | ow b o =>
    obtain ⟨u, h1, h2⟩ := h
    exact ⟨u, h1, h2.grow hf hh⟩
theorem Sat.gr (h : Sat K mg A S σ ρ) (g : Gr S S') : Sat K mg A S' σ ρ := by
  obtain ⟨fp, s1, s2, s3⟩ := h.sl
  refine ⟨g.sub, fun p q => ?_, fun p q => ?_, h.len, ⟨fp, fun i s e => ?_, fun i p q => by rw [g.O]; exact s2 i p q, s3⟩, h.io⟩
  · rw [g.O] at q
    obtain ⟨o, e⟩ := h.ownH p q
    rw [g.new p o e]
    exact h.ownF p q
  · rw [g.O] at q
    obtain ⟨o, e⟩ := h.ownH p q
    exact ⟨o, g.H _ _ e⟩
  · obtain ⟨v, e1, e2⟩ := s1 i s e
    exact ⟨v, e1, e2.grow g.F fun p o _ q => g.H p o q⟩
/-- a new frozen object -/
def Cfg.fz (S : Cfg) (p : Addr) (o : HO) : Cfg := ⟨upd S.F p o, upd S.H p o, S.O⟩
/-- a new object, not (yet) told of -/
def Cfg.raw (S : Cfg) (p : Addr) (o : HO) : Cfg := ⟨S.F, upd S.H p o, S.O⟩
theorem none_sub (h : Same S.F S.H) {p : Addr} (n : S.H p = none) : S.F p = none := h.free n
theorem same_upd {H : Hp} {p : Addr} {o : HO} (n : H p = none) : Same H (upd H p o) := fun a u e => by
  rw [upd_ne (ne_of_none e n)]
  exact e
theorem Gr.fz (h : Same S.F S.H) {p : Addr} {o : HO} (n : S.H p = none) : Gr S (S.fz p o) := by
  refine ⟨rfl, same_upd n, same_upd (none_sub h n), fun a u e => ?_, fun a u e => ?_⟩
  · show upd S.F p o a = S.F a
    rw [upd_ne (ne_of_none e n)]
  · show upd S.H p o a = some u
    have e' : upd S.F p o a = some u := e
    by_cases q : a = p
    · subst q
      rw [upd_same] at e' ⊢
      exact e'
    · rw [upd_ne q] at e' ⊢
      exact h a u e'
theorem Gr.raw (h : Same S.F S.H) {p : Addr} {o : HO} (n : S.H p = none) : Gr S (S.raw p o) := by
  refine ⟨rfl, same_upd n, fun _ _ e => e, fun a u e => rfl, fun a u e => ?_⟩
  exact same_upd n a u (h a u e)
theorem Sat.fz (h : Sat K mg A S σ ρ) {p : Addr} {o : HO} (n : S.H p = none) : Sat K mg A (S.fz p o) σ ρ := h.gr (.fz h.sub n)
end

/-! ### what a piece of code is worth -/
inductive Out (α : Type) where
  | ok (a : α) (ρ : Env')
  | err (c : Str) (d : D) (ρ : Env')
  | stuck
abbrev EM (α : Type) := Env' → Out α
def Out.bind {α β : Type} : Out α → (α → Env' → Out β) → Out β
  | .ok a ρ, f => f a ρ
  | .err c d ρ, _ => .err c d ρ
  | .stuck, _ => .stuck
def Out.lift {α : Type} (ρ : Env') : Option α → Out α
  | some a => .ok a ρ
  | none => .stuck

section
variable (K : PySem.W.Frag) (mg : Str → Option Value) (A : List V) (W : WX)
/-- an error lands with W -/
def PostX (S : Cfg) (c : Str) (d : D) (ρ' : Env') : Prop := ∀ S' σ' C cd v, mg c = some (.ref C) → Ev S S' → Sat K mg A S' σ' ρ' → S'.H cd = some (.xd [(("at" : Str), v)]) → RD K mg S'.F d v → W (.ref C) (some cd) σ' S'.H
def PostE (Q : VK) (S : Cfg) (σ : L2.St) : Out D → Prop
  | .ok d ρ' => ∀ S' v, Ev S S' → Sat K mg A S' σ ρ' → RD K mg S'.F d v → Q v S'.H
  | .err c d ρ' => PostX K mg A W S c d ρ'
  | .stuck => False
/-- the reading «worth f» -/
def tD (f : EM D) : TE := fun σ H Q => ∃ S ρ, S.H = H ∧ Sat K mg A S σ ρ ∧ PostE K mg A W Q S σ (f ρ)
def PostT (Q : Bool → Hp → Prop) (S : Cfg) (σ : L2.St) : Out Bool → Prop
  | .ok b ρ' => ∀ S', Ev S S' → Sat K mg A S' σ ρ' → Q b S'.H
  | .err c d ρ' => PostX K mg A W S c d ρ'
  | .stuck => False
def tT (f : EM Bool) : TT := fun σ H Q => ∃ S ρ, S.H = H ∧ Sat K mg A S σ ρ ∧ PostT K mg A W Q S σ (f ρ)
def PostA (Q : List V → Hp → Prop) (S : Cfg) (σ : L2.St) : Out (List D) → Prop
  | .ok ds ρ' => ∀ S' vs, Ev S S' → Sat K mg A S' σ ρ' → RDs K mg S'.F ds vs → Q vs S'.H
  | .err c d ρ' => PostX K mg A W S c d ρ'
  | .stuck => False
def tAr (f : EM (List D)) : TA := fun σ H Q => ∃ S ρ, S.H = H ∧ Sat K mg A S σ ρ ∧ PostA K mg A W Q S σ (f ρ)
inductive Fl where
  | nx (ρ : Env') | rt (d : D) (ρ : Env') | bk (ρ : Env') | ct (ρ : Env') | er (c : Str) (d : D) (ρ : Env') | stuck
abbrev SM := Env' → Fl
def PostS (D' : Ends) (S : Cfg) : Fl → Prop
  | .nx ρ' => ∀ S' σ', Ev S S' → Sat K mg A S' σ' ρ' → D'.nx σ' S'.H
  | .rt d ρ' => ∀ S' σ' v, Ev S S' → Sat K mg A S' σ' ρ' → RD K mg S'.F d v → D'.rt v S'.H
  | .bk ρ' => ∀ S' σ', Ev S S' → Sat K mg A S' σ' ρ' → D'.bk σ' S'.H
  | .ct ρ' => ∀ S' σ', Ev S S' → Sat K mg A S' σ' ρ' → D'.ct σ' S'.H
  | .er c d ρ' => PostX K mg A W S c d ρ'
  | .stuck => False
def tS (f : SM) : TS := fun D' σ H => ∃ S ρ, S.H = H ∧ Sat K mg A S σ ρ ∧ PostS K mg A W D' S (f ρ)
end

section
variable {K : PySem.W.Frag} {mg : Str → Option Value} {A : List V} {W : WX} {S S' : Cfg} {σ : L2.St} {ρ : Env'}
theorem PostX.ev {c : Str} {d : D} (h : PostX K mg A W S c d ρ) (e : Ev S S') : PostX K mg A W S' c d ρ := fun S2 σ2 C cd v hc e2 => h S2 σ2 C cd v hc (e.trans e2)
theorem PostE.ev {Q : VK} {r : Out D} (h : PostE K mg A W Q S σ r) (e : Ev S S') : PostE K mg A W Q S' σ r := by
  cases r with
  | ok d ρ' => exact fun S2 v e2 => h S2 v (e.trans e2)
  | err c d ρ' => exact PostX.ev h e
  | stuck => exact h
theorem PostT.ev {Q : Bool → Hp → Prop} {r : Out Bool} (h : PostT K mg A W Q S σ r) (e : Ev S S') : PostT K mg A W Q S' σ r := by
  cases r with
  | ok d ρ' => exact fun S2 e2 => h S2 (e.trans e2)
  | err c d ρ' => exact PostX.ev h e
  | stuck => exact h
theorem PostA.ev {Q : List V → Hp → Prop} {r : Out (List D)} (h : PostA K mg A W Q S σ r) (e : Ev S S') : PostA K mg A W Q S' σ r := by
  cases r with
  | ok d ρ' => exact fun S2 v e2 => h S2 v (e.trans e2)
  | err c d ρ' => exact PostX.ev h e
  | stuck => exact h
theorem PostS.ev {D' : Ends} {r : Fl} (h : PostS K mg A W D' S r) (e : Ev S S') : PostS K mg A W D' S' r := by
  cases r with
  | nx ρ' => exact fun S2 σ2 e2 => h S2 σ2 (e.trans e2)
  | rt d ρ' => exact fun S2 σ2 v e2 => h S2 σ2 v (e.trans e2)
  | bk ρ' => exact fun S2 σ2 e2 => h S2 σ2 (e.trans e2)
  | ct ρ' => exact fun S2 σ2 e2 => h S2 σ2 (e.trans e2)
  | er c d ρ' => exact PostX.ev h e
  | stuck => exact h
end

/-! ### weaker readings -/
section
variable {X : Cx}
theorem PE.imp {e : Expr} {t t' : TE} (h : PE X e t) (i : ∀ σ H Q, t' σ H Q → t σ H Q) : PE X e t' := ⟨fun pins s σ H Q I q => h.run pins s σ H Q I (i _ _ _ q)⟩
theorem PT.imp {e : Expr} {t t' : TT} (h : PT X e t) (i : ∀ σ H Q, t' σ H Q → t σ H Q) : PT X e t' := ⟨fun pins s σ H Q I q => h.run pins s σ H Q I (i _ _ _ q)⟩
theorem PA.imp {e : List Expr} {t t' : TA} (h : PA X e t) (i : ∀ σ H Q, t' σ H Q → t σ H Q) : PA X e t' := ⟨fun pos pins s σ H Q I q => h.run pos pins s σ H Q I (i _ _ _ q)⟩
theorem PS.imp {e : Stmt} {t t' : TS} (h : PS X e t) (i : ∀ D σ H, t' D σ H → t D σ H) : PS X e t' := ⟨fun pins s σ H D I q => h.run pins s σ H D I (i _ _ _ q)⟩
theorem PSs.imp {e : List Stmt} {t t' : TS} (h : PSs X e t) (i : ∀ D σ H, t' D σ H → t D σ H) : PSs X e t' := ⟨fun pins s σ H D I q => h.run pins s σ H D I (i _ _ _ q)⟩
abbrev PD (X : Cx) (A : List V) (W : WX) (e : Expr) (f : EM D) : Prop := PE X e (tD X.K X.mg A W f)
abbrev PTD (X : Cx) (A : List V) (W : WX) (e : Expr) (f : EM Bool) : Prop := PT X e (tT X.K X.mg A W f)
abbrev PAD (X : Cx) (A : List V) (W : WX) (e : List Expr) (f : EM (List D)) : Prop := PA X e (tAr X.K X.mg A W f)
abbrev PSD (X : Cx) (A : List V) (W : WX) (e : Stmt) (f : SM) : Prop := PS X e (tS X.K X.mg A W f)
abbrev PSsD (X : Cx) (A : List V) (W : WX) (e : List Stmt) (f : SM) : Prop := PSs X e (tS X.K X.mg A W f)
end
end DL
end

section
set_option Elab.async false
set_option maxRecDepth 100000
/-! Operands, variables, constants, operators. -/
namespace DL
open PySem PySem.Spec PyProof.Rows L2

/-- freeze an owned thing -/
def Ow.fz : Ow → Option D
  | .lst xs => some (.lst xs)
  | .dK ks ds => some (.dK ks ds)
  | .dT ks ds => some (.dT ks ds)
  | .deal _ _ => none
  | .obj c ns ds => some (.ins c ns ds)
/-- what is read of v at the moment: lists and dicts in the heap -/
def RB (K : PySem.W.Frag) (mg : Str → Option Value) (S : Cfg) : D → V → Prop
  | .lst xs, v => ∃ a vs, v = .ref a ∧ S.H a = some (.lst vs) ∧ RDs K mg S.F xs vs
  | .dK ks ds, v => ∃ a vs, v = .ref a ∧ S.H a = some (.dK (ks.zip vs)) ∧ ks.length = vs.length ∧ RDs K mg S.F ds vs
  | .dT ks ds, v => ∃ a vs, v = .ref a ∧ S.H a = some (.dT (ks.zip vs)) ∧ ks.length = vs.length ∧ RDs K mg S.F ds vs
  | .ins c ns ds, v => ∃ a C dx vs, v = .ref a ∧ mg c = some (.ref C) ∧ S.H a = some (.ins C dx (ns.zip vs)) ∧ ns.length = vs.length ∧ RDs K mg S.F ds vs
  | d, v => RD K mg S.F d v
section
variable {K : PySem.W.Frag} {mg : Str → Option Value} {A : List V} {W : WX} {S S' : Cfg} {σ : L2.St} {ρ : Env'}
theorem RD.rb (h : Same S.F S.H) {d : D} {v : V} (r : RD K mg S.F d v) : RB K mg S d v := by
  cases d with
  | lst xs =>
    obtain ⟨a, vs, h1, h2, h3⟩ := r
    exact ⟨a, vs, h1, h _ _ h2, h3⟩
  | dK ks ds =>
    obtain ⟨a, vs, h1, h2, h3⟩ := r
    exact ⟨a, vs, h1, h _ _ h2, h3⟩
  | dT ks ds =>
    obtain ⟨a, vs, h1, h2, h3⟩ := r
    exact ⟨a, vs, h1, h _ _ h2, h3⟩
  | ins c ns ds =>
    obtain ⟨a, C, dx, vs, h1, h2, h3, h4, h5⟩ := r
    exact ⟨a, C, dx, vs, h1, h2, h _ _ h3, h4, h5⟩
  | _ => exact r
theorem OwR.rb {v : V} {o : Ow} {d : D} {fp : Addr → Prop} (h : OwR K mg S v o fp) (e : o.fz = some d) : RB K mg S d v := by
  cases o with
  | lst xs =>
    cases e
    obtain ⟨p, vs, h1, h2, h3, h4⟩ := h
    exact ⟨p, vs, h1, h2, h3⟩
  | dK ks ds =>
    cases e
    obtain ⟨p, vs, h1, h2, h3, h4, h5⟩ := h
    exact ⟨p, vs, h1, h2, h3, h4⟩
  | dT ks ds =>
    cases e
    obtain ⟨p, vs, h1, h2, h3, h4, h5⟩ := h
    exact ⟨p, vs, h1, h2, h3, h4⟩
  | deal L b => cases e
  | obj c ns ds =>
    cases e
    obtain ⟨p, C, dx, vs, h1, h2, h3, h4, h5, h6⟩ := h
    exact ⟨p, C, dx, vs, h1, h2, h3, h4, h5⟩
theorem OwR.freeze {v : V} {o : Ow} {d : D} {fp : Addr → Prop} (h : OwR K mg S v o fp) (e : o.fz = some d) :
    ∃ p ho, v = .ref p ∧ S.H p = some ho ∧ fp p ∧ ∀ F', Same S.F F' → F' p = some ho → RD K mg F' d v := by
  cases o with
  | lst xs =>
    cases e
    obtain ⟨p, vs, h1, h2, h3, h4⟩ := h
    exact ⟨p, _, h1, h2, h4, fun F' k q => ⟨p, vs, h1, q, h3.mono k⟩⟩
  | dK ks ds =>
    cases e
    obtain ⟨p, vs, h1, h2, h3, h4, h5⟩ := h
    exact ⟨p, _, h1, h2, h5, fun F' k q => ⟨p, vs, h1, q, h3, h4.mono k⟩⟩
  | dT ks ds =>
    cases e
    obtain ⟨p, vs, h1, h2, h3, h4, h5⟩ := h
    exact ⟨p, _, h1, h2, h5, fun F' k q => ⟨p, vs, h1, q, h3, h4.mono k⟩⟩
  | deal L b => cases e
  | obj c ns ds =>
    cases e
    obtain ⟨p, C, dx, vs, h1, h2, h3, h4, h5, h6⟩ := h
    exact ⟨p, _, h1, h3, h6, fun F' k q => ⟨p, C, dx, vs, h1, h2, q, h4, h5.mono k⟩⟩
/-- the slot i is frozen -/
theorem Sat.freeze (s : Sat K mg A S σ ρ) {i : Nat} {o : Ow} {d : D} (hi : ρ[i]? = some (Sl.ow false o)) (e : o.fz = some d) :
    ∃ S' v, S'.H = S.H ∧ Ev S S' ∧ Sat K mg A S' σ (ρ.set i (.va d)) ∧ σ[i]? = some (some v) ∧ RD K mg S'.F d v := by
  obtain ⟨fp, s1, s2, s3⟩ := s.sl
  obtain ⟨v, e1, u, e2, r⟩ := s1 i _ hi
  subst e2
  obtain ⟨p, ho, hv, hp, hfp, k⟩ := r.freeze e
  have hO := s2 i p hfp
  have hF := s.ownF p hO
  have sF : Same S.F (upd S.F p ho) := same_upd hF
  refine ⟨⟨upd S.F p ho, S.H, fun a => S.O a ∧ a ≠ p⟩, u, rfl, ⟨fun a o h _ => h, sF, fun a o h n => ?_, fun q h => .inl h.1, fun a o h => ⟨o, h⟩⟩, ⟨fun a o h => ?_, fun q h => ?_, fun q h => s.ownH q h.1, by simp [s.len], ⟨fun j => if j = i then fun _ => False else fp j, fun j sl e => ?_, fun j q h => ?_, fun j l q h1 h2 => ?_⟩, fun j o e => ?_⟩, e1, k _ sF upd_same⟩
  · show upd S.F p ho a = S.F a
    exact upd_ne (fun z => n (by rw [z]; exact hO))
  · have h' : upd S.F p ho a = some o := h
    by_cases q : a = p
    · subst q
      rw [upd_same] at h'
      cases h'
      exact hp
    · rw [upd_ne q] at h'
      exact s.sub a o h'
  · show upd S.F p ho q = none
    rw [upd_ne h.2]
    exact s.ownF q h.1
  · by_cases hj : j = i
    · subst hj
      rw [List.getElem?_set_self (List.getElem?_eq_some_iff.mp hi).1] at e
      cases e
      exact ⟨_, e1, u, rfl, k _ sF upd_same⟩
    · rw [List.getElem?_set_ne (Ne.symm hj)] at e
      obtain ⟨w, q1, q2⟩ := s1 j sl e
      refine ⟨w, q1, ?_⟩
      show SlR K mg _ w sl (if j = i then fun _ => False else fp j)
      rw [if_neg hj]
      exact q2.grow sF fun _ _ _ z => z
  · by_cases hj : j = i
    · have h' : (if j = i then fun _ => False else fp j) q := h
      rw [if_pos hj] at h'
      exact h'.elim
    · have h' : (if j = i then fun _ => False else fp j) q := h
      rw [if_neg hj] at h'
      refine ⟨s2 j q h', fun z => hj (s3 j i p ?_ hfp)⟩
      rw [← z]
      exact h'
  · by_cases hj : j = i
    · have h' : (if j = i then fun _ => False else fp j) q := h1
      rw [if_pos hj] at h'
      exact h'.elim
    · by_cases hl : l = i
      · have h' : (if l = i then fun _ => False else fp l) q := h2
        rw [if_pos hl] at h'
        exact h'.elim
      · have h1' : (if j = i then fun _ => False else fp j) q := h1
        have h2' : (if l = i then fun _ => False else fp l) q := h2
        rw [if_neg hj] at h1'
        rw [if_neg hl] at h2'
        exact s3 j l q h1' h2'
  · by_cases hj : j = i
    · subst hj
      rw [List.getElem?_set_self (List.getElem?_eq_some_iff.mp hi).1] at e
      cases e
    · rw [List.getElem?_set_ne (Ne.symm hj)] at e
      exact s.io j o e

/-! ### sequencing -/
theorem tD_bind {β : Type} {P : Out β → Prop} {f : EM D} {g : D → Env' → Out β} {Q' : VK} (s : Sat K mg A S σ ρ) (hp : P ((f ρ).bind g)) (herr : ∀ c d ρ', P (.err c d ρ') → PostX K mg A W S c d ρ') (hst : ¬ P .stuck)
    (k : ∀ x ρ1 S1 v, P (g x ρ1) → Ev S S1 → Sat K mg A S1 σ ρ1 → RD K mg S1.F x v → Q' v S1.H) : tD K mg A W f σ S.H Q' := by
  refine ⟨S, ρ, rfl, s, ?_⟩
  cases e : f ρ with
  | ok x ρ1 =>
    rw [e] at hp
    exact fun S1 v ev s1 r => k x ρ1 S1 v hp ev s1 r
  | err c d ρ' =>
    rw [e] at hp
    exact herr c d ρ' hp
  | stuck =>
    rw [e] at hp
    exact hst hp
theorem tT_bind {β : Type} {P : Out β → Prop} {f : EM Bool} {g : Bool → Env' → Out β} {Q' : Bool → Hp → Prop} (s : Sat K mg A S σ ρ) (hp : P ((f ρ).bind g)) (herr : ∀ c d ρ', P (.err c d ρ') → PostX K mg A W S c d ρ') (hst : ¬ P .stuck)
    (k : ∀ x ρ1 S1, P (g x ρ1) → Ev S S1 → Sat K mg A S1 σ ρ1 → Q' x S1.H) : tT K mg A W f σ S.H Q' := by
  refine ⟨S, ρ, rfl, s, ?_⟩
  cases e : f ρ with
  | ok x ρ1 =>
    rw [e] at hp
    exact fun S1 ev s1 => k x ρ1 S1 hp ev s1
  | err c d ρ' =>
    rw [e] at hp
    exact herr c d ρ' hp
  | stuck =>
    rw [e] at hp
    exact hst hp
theorem tA_bind {β : Type} {P : Out β → Prop} {f : EM (List D)} {g : List D → Env' → Out β} {Q' : List V → Hp → Prop} (s : Sat K mg A S σ ρ) (hp : P ((f ρ).bind g)) (herr : ∀ c d ρ', P (.err c d ρ') → PostX K mg A W S c d ρ') (hst : ¬ P .stuck)
    (k : ∀ x ρ1 S1 vs, P (g x ρ1) → Ev S S1 → Sat K mg A S1 σ ρ1 → RDs K mg S1.F x vs → Q' vs S1.H) : tAr K mg A W f σ S.H Q' := by
  refine ⟨S, ρ, rfl, s, ?_⟩
  cases e : f ρ with
  | ok x ρ1 =>
    rw [e] at hp
    exact fun S1 v ev s1 r => k x ρ1 S1 v hp ev s1 r
  | err c d ρ' =>
    rw [e] at hp
    exact herr c d ρ' hp
  | stuck =>
    rw [e] at hp
    exact hst hp
def Out.fl {α : Type} : Out α → (α → Env' → Fl) → Fl
  | .ok a ρ, f => f a ρ
  | .err c d ρ, _ => .er c d ρ
  | .stuck, _ => .stuck
theorem tD_fl {D' : Ends} {f : EM D} {g : D → Env' → Fl} {Q' : VK} (s : Sat K mg A S σ ρ) (hp : PostS K mg A W D' S ((f ρ).fl g))
    (k : ∀ x ρ1 S1 v, PostS K mg A W D' S (g x ρ1) → Ev S S1 → Sat K mg A S1 σ ρ1 → RD K mg S1.F x v → Q' v S1.H) : tD K mg A W f σ S.H Q' := by
  refine ⟨S, ρ, rfl, s, ?_⟩
  cases e : f ρ with
  | ok x ρ1 =>
    rw [e] at hp
    exact fun S1 v ev s1 r => k x ρ1 S1 v hp ev s1 r
  | err c d ρ' =>
    rw [e] at hp
    exact hp
  | stuck =>
    rw [e] at hp
    exact hp
theorem tT_fl {D' : Ends} {f : EM Bool} {g : Bool → Env' → Fl} {Q' : Bool → Hp → Prop} (s : Sat K mg A S σ ρ) (hp : PostS K mg A W D' S ((f ρ).fl g))
    (k : ∀ x ρ1 S1, PostS K mg A W D' S (g x ρ1) → Ev S S1 → Sat K mg A S1 σ ρ1 → Q' x S1.H) : tT K mg A W f σ S.H Q' := by
  refine ⟨S, ρ, rfl, s, ?_⟩
  cases e : f ρ with
  | ok x ρ1 =>
    rw [e] at hp
    exact fun S1 ev s1 => k x ρ1 S1 hp ev s1
  | err c d ρ' =>
    rw [e] at hp
    exact hp
  | stuck =>
    rw [e] at hp
    exact hp
theorem PostE.err {Q : VK} {c : Str} {d : D} {ρ' : Env'} (h : PostE K mg A W Q S σ (.err c d ρ')) : PostX K mg A W S c d ρ' := h
theorem PostT.err {Q : Bool → Hp → Prop} {c : Str} {d : D} {ρ' : Env'} (h : PostT K mg A W Q S σ (.err c d ρ')) : PostX K mg A W S c d ρ' := h
theorem PostA.err {Q : List V → Hp → Prop} {c : Str} {d : D} {ρ' : Env'} (h : PostA K mg A W Q S σ (.err c d ρ')) : PostX K mg A W S c d ρ' := h
end

/-! ### names, constants -/
def eVar (i : Nat) : EM D := fun ρ => match ρ[i]? with
  | some (.va d) => .ok d ρ
  | some (.ow false o) => match o.fz with
    | some d => .ok d (ρ.set i (.va d))
    | none => .stuck
  | _ => .stuck
/-- what is read of slot i now -/
def peek (ρ : Env') (i : Nat) : Option D := match ρ[i]? with
  | some (.va d) => some d
  | some (.ow _ o) => o.fz
  | _ => none
def eC (d : D) : EM D := fun ρ => .ok d ρ
section
variable {X : Cx} {A : List V} {W : WX} {S S' : Cfg} {σ : L2.St} {ρ : Env'}
theorem Sat.va (s : Sat X.K X.mg A S σ ρ) {i : Nat} {d : D} (e : ρ[i]? = some (Sl.va d)) : ∃ v, σ[i]? = some (some v) ∧ RD X.K X.mg S.F d v := by
  obtain ⟨fp, s1, s2, s3⟩ := s.sl
  obtain ⟨v, e1, u, e2, r⟩ := s1 i _ e
  subst e2
  exact ⟨u, e1, r⟩
theorem Sat.peek (s : Sat X.K X.mg A S σ ρ) {i : Nat} {d : D} (e : peek ρ i = some d) : ∃ v, σ[i]? = some (some v) ∧ RB X.K X.mg S d v := by
  obtain ⟨fp, s1, s2, s3⟩ := s.sl
  unfold DL.peek at e
  split at e
  · rename_i h
    cases e
    obtain ⟨v, e1, r⟩ := s.va h
    exact ⟨v, e1, r.rb s.sub⟩
  · rename_i h
    obtain ⟨v, e1, u, e2, r⟩ := s1 i _ h
    subst e2
    exact ⟨u, e1, r.rb e⟩
  · cases e
theorem pd_var (i : Nat) {x : Str} {pos : Pos} (hN : X.N[i]? = some x := by rfl) (hv : Vis X.env.scope x := by first | exact Or.inl rfl | exact Or.inr (Or.inl rfl) | exact Or.inr (Or.inr rfl)) (hd : (x == ("__debug__" : Str)) = false := by decide)
    (hcd : (x == ("__classdict__" : Str)) = false := by decide) : PD X A W (.Name x pos) (eVar i) := by
  refine PE.imp (pe_var hN hv hd hcd) fun σ H Q h => ?_
  obtain ⟨S, ρ, rfl, s, h⟩ := h
  unfold eVar at h
  split at h
  · rename_i d e
    obtain ⟨v, e1, r⟩ := s.va e
    exact ⟨v, e1, h S v (Ev.refl S) s r⟩
  · rename_i o e
    cases q : o.fz with
    | none =>
      rw [q] at h
      exact h.elim
    | some d =>
      rw [q] at h
      obtain ⟨S', v, eH, ev, s', e1, r⟩ := s.freeze e q
      have z := h S' v ev s' r
      rw [eH] at z
      exact ⟨v, e1, z⟩
  · exact h.elim
theorem pd_C {d : D} {v : V} {e : Expr} (h : PE X e (tC v)) (r : ∀ F, RD X.K X.mg F d v) : PD X A W e (eC d) := by
  refine PE.imp h fun σ H Q q => ?_
  obtain ⟨S, ρ, rfl, s, q⟩ := q
  exact q S v (Ev.refl S) s (r _)
theorem pd_int {i j pos} : PD X A W (.Constant (.int i) j pos) (eC (.int i)) := pd_C pe_int fun _ => rfl
theorem pd_bl {b j pos} : PD X A W (.Constant (.bool b) j pos) (eC (.bl b)) := pd_C pe_bl fun _ => rfl
theorem pd_non {j pos} : PD X A W (.Constant .none j pos) (eC .non) := pd_C pe_non fun _ => rfl
theorem pd_str {x j pos} : PD X A W (.Constant (.str x) j pos) (eC (.str x)) := pd_C pe_str fun _ => rfl
end

/-! ### operands: evaluated, or borrowed from a slot and read at the very end -/
inductive Opd where
  | ev (f : EM D) | br (i : Nat)
  /-- handed in to be changed -/
  | io (i : Nat)
def Opd.go : Opd → EM D
  | .ev f => f
  | .br i => fun ρ => if (peek ρ i).isSome then .ok .non ρ else .stuck
  | .io i => fun ρ => match ρ[i]? with
    | some (.ow _ _) => .ok .non ρ
    | _ => .stuck
def Opd.rd (ρ : Env') : Opd → D → Option D
  | .ev _, d => some d
  | .br i, _ => peek ρ i
  | .io _, _ => none
def op1 (o : Opd) (k : D → Env' → Out D) : EM D := fun ρ => (o.go ρ).bind fun x ρ1 => (Out.lift ρ1 (o.rd ρ1 x)).bind k
def op2 (o o' : Opd) (k : D → D → Env' → Out D) : EM D := fun ρ => (o.go ρ).bind fun x ρ1 => (o'.go ρ1).bind fun y ρ2 => (Out.lift ρ2 (o.rd ρ2 x)).bind fun x ρ2 => (Out.lift ρ2 (o'.rd ρ2 y)).bind fun y ρ2 => k x y ρ2
section
variable (K : PySem.W.Frag) (mg : Str → Option Value) (A : List V) (W : WX)
def tOpd : Opd → TE
  | .ev f => tD K mg A W f
  | .br i => tVar i
  | .io i => tVar i
end
abbrev PO' (X : Cx) (A : List V) (W : WX) (e : Expr) (o : Opd) : Prop := PE X e (tOpd X.K X.mg A W o)
section
variable {X : Cx} {A : List V} {W : WX} {S S' : Cfg} {σ : L2.St} {ρ : Env'}
theorem po_ev {e : Expr} {f : EM D} (h : PD X A W e f) : PO' X A W e (.ev f) := h
theorem po_io (i : Nat) {x : Str} {pos : Pos} (hN : X.N[i]? = some x := by rfl) (hv : Vis X.env.scope x := by first | exact Or.inl rfl | exact Or.inr (Or.inl rfl) | exact Or.inr (Or.inr rfl)) (hd : (x == ("__debug__" : Str)) = false := by decide)
    (hcd : (x == ("__classdict__" : Str)) = false := by decide) : PO' X A W (.Name x pos) (.io i) := pe_var hN hv hd hcd
theorem po_br (i : Nat) {x : Str} {pos : Pos} (hN : X.N[i]? = some x := by rfl) (hv : Vis X.env.scope x := by first | exact Or.inl rfl | exact Or.inr (Or.inl rfl) | exact Or.inr (Or.inr rfl)) (hd : (x == ("__debug__" : Str)) = false := by decide)
    (hcd : (x == ("__classdict__" : Str)) = false := by decide) : PO' X A W (.Name x pos) (.br i) := pe_var hN hv hd hcd
/-- what is known of an operand's value behind its evaluation -/
def OpdOk (X : Cx) (A : List V) (S : Cfg) (σ : L2.St) (v : V) : Opd → D → Prop
  | .ev _, d => RD X.K X.mg S.F d v
  | .br i, _ => σ[i]? = some (some v)
  | .io i, _ => σ[i]? = some (some v)
theorem OpdOk.ev {v : V} {o : Opd} {d : D} (h : OpdOk X A S σ v o d) (e : Ev S S') : OpdOk X A S' σ v o d := by
  cases o with
  | ev f => exact RD.mono e.frz h
  | br i => exact h
  | io i => exact h
theorem OpdOk.rb {v : V} {o : Opd} {d d' : D} (h : OpdOk X A S σ v o d) (s : Sat X.K X.mg A S σ ρ) (e : o.rd ρ d = some d') : RB X.K X.mg S d' v := by
  cases o with
  | ev f =>
    cases e
    exact RD.rb s.sub h
  | br i =>
    obtain ⟨u, e1, r⟩ := s.peek e
    have h' : σ[i]? = some (some v) := h
    rw [h'] at e1
    cases e1
    exact r
  | io i => cases e
/-- an operand is evaluated -/
theorem opd_bind {β : Type} {P : Out β → Prop} {o : Opd} {g : D → Env' → Out β} {Q' : VK} (s : Sat X.K X.mg A S σ ρ) (hp : P ((o.go ρ).bind g)) (herr : ∀ c d ρ', P (.err c d ρ') → PostX X.K X.mg A W S c d ρ') (hst : ¬ P .stuck)
    (k : ∀ x ρ1 S1 v, P (g x ρ1) → Ev S S1 → Sat X.K X.mg A S1 σ ρ1 → OpdOk X A S1 σ v o x → Q' v S1.H) : tOpd X.K X.mg A W o σ S.H Q' := by
  cases o with
  | ev f => exact tD_bind s hp herr hst k
  | br i =>
    have hp' : P ((if (peek ρ i).isSome then Out.ok D.non ρ else Out.stuck).bind g) := hp
    cases q : peek ρ i with
    | none =>
      rw [q] at hp'
      exact (hst hp').elim
    | some d =>
      rw [q] at hp'
      obtain ⟨v, e, _⟩ := s.peek q
      exact ⟨v, e, k .non ρ S v hp' (Ev.refl S) s e⟩
  | io i =>
    have hp' : P ((match ρ[i]? with
      | some (.ow _ _) => Out.ok D.non ρ
      | _ => Out.stuck).bind g) := hp
    obtain ⟨fp, s1, s2, s3⟩ := s.sl
    cases q : ρ[i]? with
    | none =>
      rw [q] at hp'
      exact (hst hp').elim
    | some sl =>
      rw [q] at hp'
      cases sl with
      | no => exact (hst hp').elim
      | va d => exact (hst hp').elim
      | ow b o =>
        obtain ⟨v, e, u, e2, r⟩ := s1 i _ q
        subst e2
        exact ⟨u, e, k .non ρ S u hp' (Ev.refl S) s e⟩
end
end DL
end

section
set_option Elab.async false
set_option linter.all false
set_option maxRecDepth 100000
/-! Operators, tests, statements. -/
namespace DL
open PySem PySem.Spec PyProof.Rows L2

def VOp1 (X : Cx) (opf : D → Option D) (r : V → Hp → VK → Prop) : Prop :=
  ∀ (S : Cfg) (x z : D) (v : V) (Q : VK), Same S.F S.H → opf x = some z → RB X.K X.mg S x v → (∀ S' w, Gr S S' → RD X.K X.mg S'.F z w → Q w S'.H) → r v S.H Q
def VOp2 (X : Cx) (opf : D → D → Option D) (r : R2) : Prop :=
  ∀ (S : Cfg) (x y z : D) (v u : V) (Q : VK), Same S.F S.H → opf x y = some z → RB X.K X.mg S x v → RB X.K X.mg S y u → (∀ S' w, Gr S S' → RD X.K X.mg S'.F z w → Q w S'.H) → r v u S.H Q
def e1 (opf : D → Option D) (o : Opd) : EM D := op1 o fun x ρ => Out.lift ρ (opf x)
def e2 (opf : D → D → Option D) (o o' : Opd) : EM D := op2 o o' fun x y ρ => Out.lift ρ (opf x y)
def asB : D → Option Bool
  | .bl b => some b
  | _ => none
def eT (f : EM D) : EM Bool := fun ρ => (f ρ).bind fun d ρ => Out.lift ρ (asB d)

section
variable {X : Cx} {A : List V} {W : WX} {S S' : Cfg} {σ : L2.St} {ρ : Env'}
theorem op2_to {opf : D → D → Option D} {r : R2} {a b : Expr} {o o' : Opd} (hv : VOp2 X opf r) (σ : L2.St) (H : Hp) (Q : VK) (h : tD X.K X.mg A W (e2 opf o o') σ H Q) : tOp r (tOpd X.K X.mg A W o) (tOpd X.K X.mg A W o') σ H Q := by
  obtain ⟨S, ρ, rfl, s, h⟩ := h
  have h' : PostE X.K X.mg A W Q S σ ((o.go ρ).bind fun x ρ1 => (o'.go ρ1).bind fun y ρ2 => (Out.lift ρ2 (o.rd ρ2 x)).bind fun x ρ2 => (Out.lift ρ2 (o'.rd ρ2 y)).bind fun y ρ2 => Out.lift ρ2 (opf x y)) := h
  refine opd_bind (P := PostE X.K X.mg A W Q S σ) s h' (fun _ _ _ z => z) (fun z => z) fun x ρ1 S1 v hp1 ev1 s1 r1 => ?_
  refine opd_bind (P := PostE X.K X.mg A W Q S σ) s1 hp1 (fun _ _ _ z => PostX.ev z ev1) (fun z => z) fun y ρ2 S2 u hp2 ev2 s2 r2 => ?_
  have r1' := r1.ev ev2
  cases ex : o.rd ρ2 x with
  | none =>
    rw [ex] at hp2
    exact hp2.elim
  | some x' =>
    rw [ex] at hp2
    have hp4 : PostE X.K X.mg A W Q S σ ((Out.lift ρ2 (o'.rd ρ2 y)).bind fun y ρ2 => Out.lift ρ2 (opf x' y)) := hp2
    cases ey : o'.rd ρ2 y with
    | none =>
      rw [ey] at hp4
      exact hp4.elim
    | some y' =>
      rw [ey] at hp4
      have hp3 : PostE X.K X.mg A W Q S σ (Out.lift ρ2 (opf x' y')) := hp4
      cases ez : opf x' y' with
      | none =>
        rw [ez] at hp3
        exact hp3.elim
      | some z =>
        rw [ez] at hp3
        exact hv S2 x' y' z v u Q s2.sub ez (r1'.rb s2 ex) (r2.rb s2 ey) fun S3 w g r3 => hp3 S3 w ((ev1.trans ev2).trans g.ev) (s2.gr g) r3
theorem op1_to {opf : D → Option D} {r : V → Hp → VK → Prop} {a : Expr} {o : Opd} (hv : VOp1 X opf r) (σ : L2.St) (H : Hp) (Q : VK) (h : tD X.K X.mg A W (e1 opf o) σ H Q) : tUn r (tOpd X.K X.mg A W o) σ H Q := by
  obtain ⟨S, ρ, rfl, s, h⟩ := h
  have h' : PostE X.K X.mg A W Q S σ ((o.go ρ).bind fun x ρ1 => (Out.lift ρ1 (o.rd ρ1 x)).bind fun x ρ1 => Out.lift ρ1 (opf x)) := h
  refine opd_bind (P := PostE X.K X.mg A W Q S σ) s h' (fun _ _ _ z => z) (fun z => z) fun x ρ1 S1 v hp1 ev1 s1 r1 => ?_
  cases ex : o.rd ρ1 x with
  | none =>
    rw [ex] at hp1
    exact hp1.elim
  | some x' =>
    rw [ex] at hp1
    have hp3 : PostE X.K X.mg A W Q S σ (Out.lift ρ1 (opf x')) := hp1
    cases ez : opf x' with
    | none =>
      rw [ez] at hp3
      exact hp3.elim
    | some z =>
      rw [ez] at hp3
      exact hv S1 x' z v Q s1.sub ez (r1.rb s1 ex) fun S3 w g r3 => hp3 S3 w (ev1.trans g.ev) (s1.gr g) r3
theorem pd_bin {op : Operator} {r : R2} {opf : D → D → Option D} {a b : Expr} {o o' : Opd} {pos : Pos} (ho : OpR X (binaryOp op) r) (hv : VOp2 X opf r) (ha : PO' X A W a o) (hb : PO' X A W b o') : PD X A W (.BinOp a op b pos) (e2 opf o o') :=
  PE.imp (pe_op ho ha hb) (op2_to (a := a) (b := b) hv)
theorem pd_un {op : UnaryOp} {r : V → Hp → VK → Prop} {opf : D → Option D} {a : Expr} {o : Opd} {pos : Pos} (ho : UnR X (unaryOp op) r) (hv : VOp1 X opf r) (ha : PO' X A W a o) : PD X A W (.UnaryOp op a pos) (e1 opf o) :=
  PE.imp (pe_un ho ha) (op1_to (a := a) hv)
theorem pd_cmp {op : CmpOp} {r : R2} {opf : D → D → Option D} {a b : Expr} {o o' : Opd} {pos : Pos} (ho : OpR X (compareOp op) r) (hv : VOp2 X opf r) (ha : PO' X A W a o) (hb : PO' X A W b o') (hm : behindInMarks op b = false) :
    PD X A W (.Compare a [op] [b] pos) (e2 opf o o') := PE.imp (pe_cmpR ho ha hb hm) (op2_to (a := a) (b := b) hv)
theorem pd_sub {r : R2} {opf : D → D → Option D} {a b : Expr} {o o' : Opd} {pos : Pos} (hr : IxR X r) (hv : VOp2 X opf r) (ha : PO' X A W a o) (hb : PO' X A W b o') (hs : PlainIx b) : PD X A W (.Subscript a b pos) (e2 opf o o') :=
  PE.imp (pe_ix hr ha hb hs) (op2_to (a := a) (b := b) hv)
/-! ### tests -/
theorem eT_test (f : EM D) (σ : L2.St) (H : Hp) (Q : Bool → Hp → Prop) (h : tT X.K X.mg A W (eT f) σ H Q) : tD X.K X.mg A W f σ H fun x H1 => ∃ c, x = .bl c ∧ Q c H1 := by
  obtain ⟨S, ρ, rfl, s, h⟩ := h
  refine tD_bind (P := PostT X.K X.mg A W Q S σ) s h (fun _ _ _ z => z) (fun z => z) fun x ρ1 S1 v hp1 ev1 s1 r1 => ?_
  cases x with
  | bl b => exact ⟨b, r1, hp1 S1 ev1 s1⟩
  | _ => exact hp1.elim
theorem ptd_cmp {op : CmpOp} {r : R2} {opf : D → D → Option D} {a b : Expr} {o o' : Opd} {pos : Pos} (ho : OpR X (compareOp op) r) (hv : VOp2 X opf r) (ha : PO' X A W a o) (hb : PO' X A W b o') (hm : behindInMarks op b = false) :
    PTD X A W (.Compare a [op] [b] pos) (eT (e2 opf o o')) := PT.imp (pt_cmpR ho ha hb hm) fun σ H Q h => op2_to (a := a) (b := b) hv σ H _ (eT_test _ σ H Q h)
theorem ptd_val {e : Expr} {f : EM D} (h : PD X A W e f) (he : ∀ whole, isTrue e X.env whole = (do let v ← whole; standAt e.pos; holding [v] (truthy v)) := by intro _; rfl) : PTD X A W e (eT f) :=
  PT.imp (pt_val h he) fun σ H Q h => eT_test _ σ H Q h
def tAndB (f g : EM Bool) : EM Bool := fun ρ => (f ρ).bind fun c ρ1 => if c = true then g ρ1 else .ok false ρ1
def tOrB (f g : EM Bool) : EM Bool := fun ρ => (f ρ).bind fun c ρ1 => if c = true then .ok true ρ1 else g ρ1
def tNotB (f : EM Bool) : EM Bool := fun ρ => (f ρ).bind fun c ρ1 => .ok (!c) ρ1
abbrev PWD (X : Cx) (A : List V) (W : WX) (e : Expr) (f : EM Bool) : Prop := PW X e (tT X.K X.mg A W f)
theorem PW.imp {e : Expr} {t t' : TT} (h : PW X e t) (i : ∀ σ H Q, t' σ H Q → t σ H Q) : PW X e t' := ⟨fun whole pins s σ H Q I q => h.run whole pins s σ H Q I (i _ _ _ q)⟩
theorem pwd_and1 {a : Expr} {f : EM Bool} {pos : Pos} (h : PTD X A W a f) : PWD X A W (.BoolOp .And [a] pos) f := pw_and1 h
theorem pwd_or1 {a : Expr} {f : EM Bool} {pos : Pos} (h : PTD X A W a f) : PWD X A W (.BoolOp .Or [a] pos) f := pw_or1 h
theorem pwd_and {a b : Expr} {rest : List Expr} {f g : EM Bool} {pos : Pos} (ha : PTD X A W a f) (hb : PWD X A W (.BoolOp .And (b :: rest) pos) g) : PWD X A W (.BoolOp .And (a :: b :: rest) pos) (tAndB f g) :=
  PW.imp (pw_and ha hb) fun σ H Q h => by
    obtain ⟨S, ρ, rfl, s, h⟩ := h
    refine tT_bind (P := PostT X.K X.mg A W Q S σ) s h (fun _ _ _ z => z) (fun z => z) fun c ρ1 S1 hp1 ev1 s1 => ?_
    cases c with
    | true => exact iteT ⟨S1, ρ1, rfl, s1, PostT.ev (show PostT X.K X.mg A W Q S σ (g ρ1) from hp1) ev1⟩
    | false => exact iteF ((show PostT X.K X.mg A W Q S σ (.ok false ρ1) from hp1) S1 ev1 s1)
theorem pwd_or {a b : Expr} {rest : List Expr} {f g : EM Bool} {pos : Pos} (ha : PTD X A W a f) (hb : PWD X A W (.BoolOp .Or (b :: rest) pos) g) : PWD X A W (.BoolOp .Or (a :: b :: rest) pos) (tOrB f g) :=
  PW.imp (pw_or ha hb) fun σ H Q h => by
    obtain ⟨S, ρ, rfl, s, h⟩ := h
    refine tT_bind (P := PostT X.K X.mg A W Q S σ) s h (fun _ _ _ z => z) (fun z => z) fun c ρ1 S1 hp1 ev1 s1 => ?_
    cases c with
    | false => exact iteF ⟨S1, ρ1, rfl, s1, PostT.ev (show PostT X.K X.mg A W Q S σ (g ρ1) from hp1) ev1⟩
    | true => exact iteT ((show PostT X.K X.mg A W Q S σ (.ok true ρ1) from hp1) S1 ev1 s1)
theorem ptd_w {e : Expr} {f : EM Bool} (h : PWD X A W e f) : PTD X A W e f := h.pt
theorem ptd_not {a : Expr} {f : EM Bool} {pos : Pos} (ha : PTD X A W a f) : PTD X A W (.UnaryOp .Not a pos) (tNotB f) := PT.imp (pt_not ha) fun σ H Q h => by
  obtain ⟨S, ρ, rfl, s, h⟩ := h
  exact tT_bind (P := PostT X.K X.mg A W Q S σ) s h (fun _ _ _ z => z) (fun z => z) fun c ρ1 S1 hp1 ev1 s1 => hp1 S1 ev1 s1
/-! ### and, or, not as values; if as a value -/
def eAnd (f g : EM D) : EM D := fun ρ => (f ρ).bind fun x ρ1 => match x with
  | .bl true => g ρ1
  | .bl false => .ok (.bl false) ρ1
  | _ => .stuck
def eOr (f g : EM D) : EM D := fun ρ => (f ρ).bind fun x ρ1 => match x with
  | .bl true => .ok (.bl true) ρ1
  | .bl false => g ρ1
  | _ => .stuck
def eNot (f : EM D) : EM D := fun ρ => (f ρ).bind fun x ρ1 => match x with
  | .bl b => .ok (.bl (!b)) ρ1
  | _ => .stuck
def eIf (c : EM Bool) (f g : EM D) : EM D := fun ρ => (c ρ).bind fun b ρ1 => if b = true then f ρ1 else g ρ1
theorem pd_one {op} {a : Expr} {f : EM D} {pos : Pos} (h : PD X A W a f) : PD X A W (.BoolOp op [a] pos) f := pe_one h
theorem pd_and {a b : Expr} {rest : List Expr} {f g : EM D} {pos : Pos} (ha : PD X A W a f) (hb : PD X A W (.BoolOp .And (b :: rest) pos) g) : PD X A W (.BoolOp .And (a :: b :: rest) pos) (eAnd f g) :=
  PE.imp (pe_and ha hb) fun σ H Q h => by
    obtain ⟨S, ρ, rfl, s, h⟩ := h
    refine tD_bind (P := PostE X.K X.mg A W Q S σ) s h (fun _ _ _ z => z) (fun z => z) fun x ρ1 S1 v hp1 ev1 s1 r1 => ?_
    cases x with
    | bl b => cases b with
      | true => exact ⟨true, r1, iteT ⟨S1, ρ1, rfl, s1, PostE.ev (show PostE X.K X.mg A W Q S σ (g ρ1) from hp1) ev1⟩⟩
      | false => exact ⟨false, r1, iteF ((show PostE X.K X.mg A W Q S σ (.ok (.bl false) ρ1) from hp1) S1 _ ev1 s1 rfl)⟩
    | _ => exact hp1.elim
theorem pd_or {a b : Expr} {rest : List Expr} {f g : EM D} {pos : Pos} (ha : PD X A W a f) (hb : PD X A W (.BoolOp .Or (b :: rest) pos) g) : PD X A W (.BoolOp .Or (a :: b :: rest) pos) (eOr f g) :=
  PE.imp (pe_or ha hb) fun σ H Q h => by
    obtain ⟨S, ρ, rfl, s, h⟩ := h
    refine tD_bind (P := PostE X.K X.mg A W Q S σ) s h (fun _ _ _ z => z) (fun z => z) fun x ρ1 S1 v hp1 ev1 s1 r1 => ?_
    cases x with
    | bl b => cases b with
      | false => exact ⟨false, r1, iteF ⟨S1, ρ1, rfl, s1, PostE.ev (show PostE X.K X.mg A W Q S σ (g ρ1) from hp1) ev1⟩⟩
      | true => exact ⟨true, r1, iteT ((show PostE X.K X.mg A W Q S σ (.ok (.bl true) ρ1) from hp1) S1 _ ev1 s1 rfl)⟩
    | _ => exact hp1.elim
theorem pd_not {a : Expr} {f : EM D} {pos : Pos} (ha : PD X A W a f) : PD X A W (.UnaryOp .Not a pos) (eNot f) :=
  PE.imp (pe_not ha) fun σ H Q h => by
    obtain ⟨S, ρ, rfl, s, h⟩ := h
    refine tD_bind (P := PostE X.K X.mg A W Q S σ) s h (fun _ _ _ z => z) (fun z => z) fun x ρ1 S1 v hp1 ev1 s1 r1 => ?_
    cases x with
    | bl b => exact ⟨b, r1, (show PostE X.K X.mg A W Q S σ (.ok (.bl (!b)) ρ1) from hp1) S1 _ ev1 s1 rfl⟩
    | _ => exact hp1.elim
theorem pd_if {c a b : Expr} {t : EM Bool} {f g : EM D} {pos : Pos} (hc : PTD X A W c t) (ha : PD X A W a f) (hb : PD X A W b g) : PD X A W (.IfExp c a b pos) (eIf t f g) :=
  PE.imp (pe_ifExp hc ha hb) fun σ H Q h => by
    obtain ⟨S, ρ, rfl, s, h⟩ := h
    refine tT_bind (P := PostE X.K X.mg A W Q S σ) s h (fun _ _ _ z => z) (fun z => z) fun c ρ1 S1 hp1 ev1 s1 => ?_
    cases c with
    | true => exact iteT ⟨S1, ρ1, rfl, s1, PostE.ev (show PostE X.K X.mg A W Q S σ (f ρ1) from hp1) ev1⟩
    | false => exact iteF ⟨S1, ρ1, rfl, s1, PostE.ev (show PostE X.K X.mg A W Q S σ (g ρ1) from hp1) ev1⟩
/-! ### statements -/
def sNx : SM := fun ρ => .nx ρ
def sSeq (f g : SM) : SM := fun ρ => match f ρ with
  | .nx ρ1 => g ρ1
  | r => r
def sRet (f : EM D) : SM := fun ρ => (f ρ).fl fun d ρ1 => .rt d ρ1
def sDrop (f : EM D) : SM := fun ρ => (f ρ).fl fun _ ρ1 => .nx ρ1
def sIf (c : EM Bool) (f g : SM) : SM := fun ρ => (c ρ).fl fun b ρ1 => if b = true then f ρ1 else g ρ1
/-- slot i holds no thing of the caller's -/
def isIo : Option Sl → Bool
  | some (.ow true _) => true
  | _ => false
def putSl (ρ : Env') (i : Nat) (s : Sl) : Fl := if isIo ρ[i]? = true then .stuck else .nx (ρ.set i s)
def sSet (i : Nat) (f : EM D) : SM := fun ρ => (f ρ).fl fun d ρ1 => putSl ρ1 i (.va d)
theorem psd_nil : PSsD X A W [] sNx := PSs.imp pss_nil fun D σ H h => by
  obtain ⟨S, ρ, rfl, s, h⟩ := h
  exact h S σ (Ev.refl S) s
theorem psd_cons {st : Stmt} {rest : List Stmt} {f g : SM} (h1 : PSD X A W st f) (h2 : PSsD X A W rest g) : PSsD X A W (st :: rest) (sSeq f g) := PSs.imp (pss_cons h1 h2) fun D σ H h => by
  obtain ⟨S, ρ, rfl, s, h⟩ := h
  refine ⟨S, ρ, rfl, s, ?_⟩
  have h' : PostS X.K X.mg A W D S (match f ρ with
    | .nx ρ1 => g ρ1
    | r => r) := h
  cases e : f ρ with
  | nx ρ1 =>
    rw [e] at h'
    exact fun S' σ' ev s' => ⟨S', ρ1, rfl, s', PostS.ev h' ev⟩
  | rt d ρ1 => rw [e] at h'; exact h'
  | bk ρ1 => rw [e] at h'; exact h'
  | ct ρ1 => rw [e] at h'; exact h'
  | er c d ρ1 => rw [e] at h'; exact h'
  | stuck => rw [e] at h'; exact h'
theorem psd_one {st : Stmt} {f : SM} (h1 : PSD X A W st f) : PSsD X A W [st] f := pss_one h1
theorem psd_pass {pos : Pos} : PSD X A W (.Pass pos) sNx := PS.imp ps_pass fun D σ H h => by
  obtain ⟨S, ρ, rfl, s, h⟩ := h
  exact h S σ (Ev.refl S) s
theorem psd_doc {x j pos pos'} : PSD X A W (.Expr (.Constant (.str x) j pos) pos') sNx := PS.imp ps_doc fun D σ H h => by
  obtain ⟨S, ρ, rfl, s, h⟩ := h
  exact h S σ (Ev.refl S) s
theorem psd_cont {pos : Pos} : PSD X A W (.Continue pos) (fun ρ => .ct ρ) := PS.imp ps_continue fun D σ H h => by
  obtain ⟨S, ρ, rfl, s, h⟩ := h
  exact h S σ (Ev.refl S) s
theorem psd_break {pos : Pos} : PSD X A W (.Break pos) (fun ρ => .bk ρ) := PS.imp ps_break fun D σ H h => by
  obtain ⟨S, ρ, rfl, s, h⟩ := h
  exact h S σ (Ev.refl S) s
theorem psd_never {st : Stmt} : PSD X A W st (fun _ => .stuck) := PS.imp ps_never fun D σ H h => by
  obtain ⟨S, ρ, rfl, s, h⟩ := h
  exact h.elim
theorem psd_ret {e : Expr} {f : EM D} {pos : Pos} (he : PD X A W e f) : PSD X A W (.Return (some e) pos) (sRet f) := PS.imp (ps_ret he) fun D σ H h => by
  obtain ⟨S, ρ, rfl, s, h⟩ := h
  exact tD_fl s h fun x ρ1 S1 v hp ev s1 r => hp S1 σ v ev s1 r
theorem psd_retN {pos : Pos} : PSD X A W (.Return none pos) (fun ρ => .rt .non ρ) := PS.imp ps_retN fun D σ H h => by
  obtain ⟨S, ρ, rfl, s, h⟩ := h
  exact h S σ .non (Ev.refl S) s rfl
theorem psd_expr {e : Expr} {f : EM D} {pos : Pos} (he : PD X A W e f) (hs : swapsWith e none pos.line X.env = pure false := by rfl) : PSD X A W (.Expr e pos) (sDrop f) := PS.imp (ps_expr he hs) fun D σ H h => by
  obtain ⟨S, ρ, rfl, s, h⟩ := h
  exact tD_fl s h fun x ρ1 S1 v hp ev s1 r => hp S1 σ ev s1
theorem psd_if {c : Expr} {a b : List Stmt} {t : EM Bool} {f g : SM} {pos : Pos} (hc : PTD X A W c t) (ha : PSsD X A W a f) (hb : PSsD X A W b g) : PSD X A W (.If c a b pos) (sIf t f g) := PS.imp (ps_if hc ha hb) fun D σ H h => by
  obtain ⟨S, ρ, rfl, s, h⟩ := h
  refine tT_fl s h fun b ρ1 S1 hp ev s1 => ?_
  cases b with
  | true => exact iteT ⟨S1, ρ1, rfl, s1, PostS.ev (show PostS X.K X.mg A W D S (f ρ1) from hp) ev⟩
  | false => exact iteF ⟨S1, ρ1, rfl, s1, PostS.ev (show PostS X.K X.mg A W D S (g ρ1) from hp) ev⟩
/-- slot i stored anew -/
theorem Sat.put {K : PySem.W.Frag} {mg : Str → Option Value} (s : Sat K mg A S σ ρ) {i : Nat} {sl : Sl} {v : Option V} {fpi : Addr → Prop} (hio : isIo ρ[i]? = false) (hn : isIo (some sl) = false) (r : SlR K mg S v sl fpi) (hO : ∀ p, fpi p → S.O p)
    (hd : ∀ fp : Nat → Addr → Prop, (∀ i s, ρ[i]? = some s → ∃ v, σ[i]? = some v ∧ SlR K mg S v s (fp i)) → (∀ i p, fp i p → S.O p) → ∀ j p, j ≠ i → fpi p → fp j p → False) : Sat K mg A S (σ.set i v) (ρ.set i sl) := by
  obtain ⟨fp, s1, s2, s3⟩ := s.sl
  have hdis := hd fp s1 s2
  refine ⟨s.sub, s.ownF, s.ownH, by simp [s.len], ⟨fun j => if j = i then fpi else fp j, fun j sl' e => ?_, fun j q h => ?_, fun j l q h1 h2 => ?_⟩, fun j o e => ?_⟩
  · by_cases hj : j = i
    · subst hj
      have hlt : j < ρ.length := by
        have := (List.getElem?_eq_some_iff.mp e).1
        simpa using this
      rw [List.getElem?_set_self hlt] at e
      cases e
      exact ⟨v, List.getElem?_set_self (by rw [s.len]; exact hlt), by
        show SlR K mg S v sl (if j = j then fpi else fp j)
        rw [if_pos rfl]
        exact r⟩
    · rw [List.getElem?_set_ne (Ne.symm hj)] at e
      obtain ⟨w, q1, q2⟩ := s1 j sl' e
      exact ⟨w, by rw [List.getElem?_set_ne (Ne.symm hj)]; exact q1, by
        show SlR K mg S w sl' (if j = i then fpi else fp j)
        rw [if_neg hj]
        exact q2⟩
  · by_cases hj : j = i
    · have h' : (if j = i then fpi else fp j) q := h
      rw [if_pos hj] at h'
      exact hO q h'
    · have h' : (if j = i then fpi else fp j) q := h
      rw [if_neg hj] at h'
      exact s2 j q h'
  · have h1' : (if j = i then fpi else fp j) q := h1
    have h2' : (if l = i then fpi else fp l) q := h2
    by_cases hj : j = i
    · by_cases hl : l = i
      · rw [hj, hl]
      · rw [if_pos hj] at h1'
        rw [if_neg hl] at h2'
        exact (hdis l q hl h1' h2').elim
    · rw [if_neg hj] at h1'
      by_cases hl : l = i
      · rw [if_pos hl] at h2'
        exact (hdis j q hj h2' h1').elim
      · rw [if_neg hl] at h2'
        exact s3 j l q h1' h2'
  · by_cases hj : j = i
    · subst hj
      have hlt : j < ρ.length := by
        have := (List.getElem?_eq_some_iff.mp e).1
        simpa using this
      rw [List.getElem?_set_self hlt] at e
      cases e
      cases hn
    · rw [List.getElem?_set_ne (Ne.symm hj)] at e ⊢
      exact s.io j o e
theorem Sat.setVa {K : PySem.W.Frag} {mg : Str → Option Value} (s : Sat K mg A S σ ρ) {i : Nat} {d : D} {v : V} (hio : isIo ρ[i]? = false) (r : RD K mg S.F d v) : Sat K mg A S (σ.set i (some v)) (ρ.set i (.va d)) :=
  s.put (fpi := fun _ => False) hio rfl ⟨v, rfl, r⟩ (fun _ z => z.elim) fun _ _ _ _ _ _ z => z.elim
theorem putSl_ok {D' : Ends} {i : Nat} {sl : Sl} (h : PostS X.K X.mg A W D' S (putSl ρ i sl)) : isIo ρ[i]? = false ∧ PostS X.K X.mg A W D' S (.nx (ρ.set i sl)) := by
  unfold putSl at h
  cases e : isIo ρ[i]? with
  | true =>
    rw [e] at h
    exact h.elim
  | false =>
    rw [e] at h
    exact ⟨rfl, h⟩
theorem psd_set (i : Nat) {x : Str} {e : Expr} {f : EM D} {pos pos' : Pos} (hN : X.N.Nodup) (he : PD X A W e f) (hi : X.N[i]? = some x := by rfl) (hx : Loc X.env.scope x := by first | exact Or.inl rfl | exact Or.inr rfl) (hs : swapsWith e (some (.Name x pos')) pos.line X.env = pure false := by rfl)
    (hf : X.fn x = true ∨ X.env.scope.names.lookup x = some .local := by first | exact .inl rfl | exact .inr rfl | assumption) : PSD X A W (.Assign [.Name x pos'] e pos) (sSet i f) := PS.imp (ps_set hN hi hx he hs hf) fun D σ H h => by
  obtain ⟨S, ρ, rfl, s, h⟩ := h
  refine tD_fl s h fun x ρ1 S1 v hp ev s1 r => ?_
  obtain ⟨h1, h2⟩ := putSl_ok hp
  exact h2 S1 _ ev (s1.setVa h1 r)
end
end DL
end

section
set_option Elab.async false
set_option linter.all false
set_option maxRecDepth 100000
/-! Promises that know that no repr is under way. -/
namespace DL
open PySem PySem.Spec PyProof.Rows L2
/-- a promise kept wherever no guard stands in the stack -/
structure FnG (P : Program) (w : World) (K : PySem.W.Frag) (mg : Str → Option Value) (base : Heap) (k : Nat) (f : Addr) (fd : FuncData) (ps : List Str) (sp : Sp) : Prop where
  len : ∀ vs H Q E, sp vs H Q E → vs.length = ps.length
  run : ∀ (B : Around) (fr : List Env) (t : Shared) (H : Hp) (gs : Args) (us : List Value) (vs : List V) (Q : VK) (E : XK), Room k B → B.guards = some [] → Env0 P w K mg base B fr t H → BindsTo t fd gs (ps.zip us) → Vals vs us → sp vs H Q E →
    codeAny (model P w) B (.call (.ref f) gs) (CR (L2.CX P w) fr P w H t Q E) t
theorem FnG.mono {P : Program} {w : World} {K : PySem.W.Frag} {mg : Str → Option Value} {base : Heap} {j k : Nat} {f : Addr} {fd : FuncData} {ps : List Str} {sp : Sp} (F : FnG P w K mg base j f fd ps sp) (h : j ≤ k) : FnG P w K mg base k f fd ps sp :=
  ⟨F.len, fun B fr t H gs us vs Q E hr => F.run B fr t H gs us vs Q E (hr.mono h)⟩
theorem FnG.imp {P : Program} {w : World} {K : PySem.W.Frag} {mg : Str → Option Value} {base : Heap} {k : Nat} {f : Addr} {fd : FuncData} {ps : List Str} {sp sp' : Sp} (F : FnG P w K mg base k f fd ps sp) (h : ∀ vs H Q E, sp' vs H Q E → sp vs H Q E) : FnG P w K mg base k f fd ps sp' :=
  ⟨fun vs H Q E q => F.len vs H Q E (h _ _ _ _ q), fun B fr t H gs us vs Q E hr hgd he hb hv hs => F.run B fr t H gs us vs Q E hr hgd he hb hv (h _ _ _ _ hs)⟩
theorem FnG.of {P : Program} {w : World} {K : PySem.W.Frag} {mg : Str → Option Value} {base : Heap} {k : Nat} {f : Addr} {fd : FuncData} {ps : List Str} {sp : Sp} (F : FnOk P w K mg base (L2.CX P w) k f fd ps sp) : FnG P w K mg base k f fd ps sp :=
  ⟨F.len, fun B fr t H gs us vs Q E hr _ => F.run B fr t H gs us vs Q E hr⟩
section
variable {P : Program} {w : World} {K : PySem.W.Frag} {mg : Str → Option Value} {base : Heap}
theorem deeper_guards {B : Around} {env : Env} : (B.deeper env).guards = B.guards := rfl
/-- the rule for a def's body -/
theorem fnG_of {k : Nat} {f : Addr} {name qual : Str} {params : Arguments} {body : List Stmt} {scope : Scope} {v1 v2 v3 v4 cdv v5 v6 : Value} {an od : Option Addr} {sl : Array (Option Value)} {N ps : List Str} {sp : Sp}
    (hK : K.lookup f = some ⟨v6, od, .func (PySem.W.fnOf name qual params body scope v1 v2 v3 v4 an cdv v5), sl⟩) (hC : PySem.W.codeIn K cdv qual = true) (S : FnScope N ps scope) (hlen : ∀ vs H Q E, sp vs H Q E → vs.length = ps.length)
    (hB : ∀ (B : Around) (fr : List Env) (t : Shared) (H : Hp) (vs : List V) (Q : VK) (E : XK), Room k (B.deeper (envOfC qual scope t.heap.objs.size f cdv)) → (B.deeper (envOfC qual scope t.heap.objs.size f cdv)).guards = some [] → sp vs H Q E →
      ∃ tr, PSs (cxOf (L2.CX P w) P w K mg base N qual scope f cdv B fr t H E) body tr ∧ tr { nx := fun _ H' => Q .non H', rt := Q } (start N vs) H) : FnG P w K mg base (k + 1) f (PySem.W.fnOf name qual params body scope v1 v2 v3 v4 an cdv v5) ps sp := by
  refine ⟨hlen, fun B fr t H gs us vs Q E room hgd ground bnd rel hs => ?_⟩
  have len1 := hlen _ _ _ _ hs
  have inK : K.In t.heap := ground.mod.kin.keeps fun c o z => (ground.bs c o z).1
  have nolim : t.heap.NoLimit := ground.mod.nolimit.keeps fun c o z => (ground.bs c o z).1
  have kinds : ∀ y ∈ ps.zip us, scope.names.lookup y.1 = some .local ∨ (scope.names.lookup y.1 = some .cell ∧ ((cellsFrom (t.heap.objs.size + 1) scope.names []).lookup y.1).isSome = true) := by
    rintro ⟨n, v⟩ hy
    rcases S.par n (List.of_mem_zip hy).1 with z | z
    · exact Or.inl z
    · exact Or.inr ⟨z, PySem.W.cellsFrom_some _ _ _ (Or.inl z)⟩
  refine codeAny_call_function room.depth (inK _ _ hK) rfl S.co S.gen rfl (PySem.W.codeRec_of inK hC) (bnd _ _ _ _ ?_)
  refine wpAny_newFunctionEnv_cells S.kind kinds fun env he t1 ic => ?_
  subst he
  refine ⟨nolim.keeps ic.toInCall.keep, codeAny_func ?_⟩
  obtain ⟨tr, htr, hq⟩ := hB B fr t H vs Q E (room.deeper _) hgd hs
  have J0 : Inv (cxOf (L2.CX P w) P w K mg base N qual scope f cdv B fr t H E) [] (start N vs) H t1 := inv_start S room.hd ground len1 rel ic
  refine wpAny_mono (htr.run [] t1 (start N vs) H _ J0 hq) (fun fl t' z => ?_) fun _ _ z => z
  have done : ∀ {τ : L2.St} {H' : Hp} {v : V} {u : Value}, Inv (cxOf (L2.CX P w) P w K mg base N qual scope f cdv B fr t H E) [] τ H' t' → RelV v u → Q v H' → CE fr P w H t Q u t' := by
    intro τ H' v u J r z
    exact ⟨v, H', J.os, J.bare, J.base, J.hok, r, z⟩
  cases fl with
  | ret u => exact let ⟨_, _, _, J, r, z'⟩ := z; done J r z'
  | next => exact let ⟨_, _, J, z'⟩ := z; done (v := V.non) (u := Value.none) J rfl z'
  | brk => exact let ⟨_, _, _, z'⟩ := z; False.elim z'
  | cont => exact let ⟨_, _, _, z'⟩ := z; False.elim z'
/-- FunD's rule -/
theorem FunD.okG {x qual : Str} {params : Arguments} {body : List Stmt} {scope : Scope} {dvs : List V} {kws : List (Str × V)} {f : Addr} {fd : FuncData} {N ps : List Str} {k : Nat} {sp : Sp} (F : FunD K x qual params body scope dvs kws f fd) (S : FnScope N ps scope) (hlen : ∀ vs H Q E, sp vs H Q E → vs.length = ps.length)
    (hB : ∀ (cdv : Value) (B : Around) (fr : List Env) (t : Shared) (H : Hp) (vs : List V) (Q : VK) (E : XK), Room k (B.deeper (envOfC qual scope t.heap.objs.size f cdv)) → (B.deeper (envOfC qual scope t.heap.objs.size f cdv)).guards = some [] → sp vs H Q E →
      ∃ tr, PSs (cxOf (L2.CX P w) P w K mg base N qual scope f cdv B fr t H E) body tr ∧ tr { nx := fun _ H' => Q .non H', rt := Q } (start N vs) H) : FnG P w K mg base (k + 1) f fd ps sp := by
  obtain ⟨_, _, _, _, _, _, _, _, _, _, rfl, hk, hc, _, _⟩ := F.ex
  exact fnG_of hk hc S hlen (hB _)
end
section
variable {X : Cx} {k : Nat} {f C : Addr} {fd : FuncData} {ps : List Str} {sp : Sp} {E : L2.St → XK} {x m : Str} {p pos apos : Pos} {e o : Expr} {es : List Expr} {ta : TE} {t : TA}
theorem run_fnG {pins : List (Addr × Obj)} {σ : L2.St} {H : Hp} {s : Shared} {Q : VK} {us : List Value} {vs : List V} {gs : Args} (F : FnG X.prog X.w X.K X.mg X.base k f fd ps sp) (hr : Room k X.A) (hgd : X.A.guards = some []) (hb : ∀ us : List Value, us.length = ps.length → BindsTo s fd gs (ps.zip us) → BindsTo s fd gs (ps.zip us)) (hx : PassesAt (L2.CX X.prog X.w) X σ (E σ))
    (I : Inv X pins σ H s) (r : Vals vs us) (hbd : BindsTo s fd gs (ps.zip us)) (h : sp vs H Q (E σ)) : codeAny (model X.prog X.w) X.A (.call (.ref f) gs) (fun r s' => match r with
      | .ok (.ret u) => EP X pins σ Q u s'
      | .ok _ => False
      | .error e => X.xe e s') s := by
  refine codeAny_mono (F.run X.A X.stack s H gs us vs Q (E σ) hr hgd I.env0 hbd r h) fun r s' z => ?_
  rcases r with e | fl
  · exact hx pins H s e s' I z
  · cases fl with
    | ret u => exact I.after z
    | next => exact z.elim
    | brk => exact z.elim
    | cont => exact z.elim
/-- f(e, ..) -/
theorem pe_callG (F : FnG X.prog X.w X.K X.mg X.base k f fd ps sp) (hr : Room k X.A) (hgd : X.A.guards = some []) (hg : Gl X x) (hm : X.mg x = some (.ref f)) (hk : PySem.W.keepIn X.K (.ref f) = true) (hb : Binds X.K fd ps []) (hx : ∀ σ, PassesAt (L2.CX X.prog X.w) X σ (E σ))
    (ha : PA X (e :: es) t) (hdb : (x == ("__debug__" : Str)) = false := by decide) (he : starEach (e :: es) X.env = (false, eval e X.env) :: starEach es X.env := by rfl) (hpl : (backTo pos (starEach es X.env)).any (·.1) = false := by rfl) : PE X (.Call (.Name x p) (e :: es) [] pos) (tCallS sp E t) := by
  constructor
  intro pins s σ H Q I h
  refine wpAny_Call_Name_kw (ld_glob I hg hm ?_ hdb)
  refine PySem.W.callWith_K (h₀ := X.base) I.ok.mod.kin hk (thn (ha.run pos pins s σ H _ I h) ?_) he hpl
  rintro us s1 ⟨vs, H1, I1, r, q⟩
  have hl : us.length = ps.length := by rw [← r.length]; exact F.len _ _ _ _ q
  have b := hb s1 us I1.kIn (by simpa using hl)
  rw [List.append_nil] at b
  refine ⟨I1.kIn, wpAny_call (codeAny_mono (run_fnG F hr hgd (fun _ _ z => z) (hx σ) I1 r b q) ?_)⟩
  intro r s' z
  rcases r with e | fl
  · exact z
  · cases fl <;> exact z
end
/-! ### the law's own call -/
theorem lawG {P : Program} {w : World} {K : PySem.W.Frag} {mg mb : Str → Option Value} {k : Nat} {fa a : Addr} {fd : FuncData} {x : Str} {sp : Sp} {t : Shared} {us : List Value} {ns : List Int}
    (inK : K.In t.heap) (hglob : t.heap.Ns mainGlobals mg) (hblt : t.heap.Ns builtinsNs mb) (hbb : ∀ y : Str, y ≠ "__name__" → mb y = bootBuiltins y) (hlim : t.heap.NoLimit) (hgen : t.gens = #[])
    (ha : t.heap.get? a = some { cls := .type "list", data := .seq us.toArray }) (hi : IntsAre us ns) (hl : ns.length ≤ sizeLine) (hr : Room k callerA)
    (F : ∀ base : Heap, K.In base → base.Ns mainGlobals mg → FnG P w K mg base k fa fd [x] sp) (hbind : ∀ (s : Shared) (u : Value), BindsTo s fd ⟨[u], []⟩ [(x, u)])
    (hsp : ∀ H : Hp, Only H → SqL K H a (ns.map V.int) → sp [.ref a] H (fun v _ => v = .bl true) fun _ _ _ => False) :
    codeAny (model P w) callerA (.call (.ref fa) ⟨[.ref a], []⟩) (fun r s' => r = .ok (.ret (.bool true)) ∧ OldK t.heap s'.heap ∧ s'.os = t.os ∧ AllBare s'.gens) t := by
  have rel := vals_ints hi
  have nsl := hi.length
  have go : ∀ G : Hp, Only G → SqL K G a (ns.map V.int) → HOk P w G t.heap → (∀ b, G b ≠ none → b = a) → (G a ≠ none → K.lookup a = none) →
      codeAny (model P w) callerA (.call (.ref fa) ⟨[.ref a], []⟩) (fun r s' => r = .ok (.ret (.bool true)) ∧ OldK t.heap s'.heap ∧ s'.os = t.os ∧ AllBare s'.gens) t := by
    intro G only sq hok oneA notK
    have only_a : ∀ {b : Addr} {u : HO}, G b = some u → b = a := fun {b u} z => oneA b (by rw [z]; simp)
    have notDict : ∀ {b : Addr} {o : Obj} {es : Array DictEntry} {ep : Nat}, t.heap.get? b = some o → o.data = .dict es ep → G b = none := by
      intro b o es ep z d
      cases q : G b with
      | none => rfl
      | some u =>
        have hb := only_a q
        rw [hb, ha] at z
        cases z
        exact nomatch (show Data.seq us.toArray _ = Data.dict es ep from d)
    have ns' : ∀ {b : Addr} {m : Str → Option Value}, t.heap.Ns b m → (hidT t.heap G).Ns b m := by
      rintro b m ⟨o, es, ep, z, d, r⟩
      exact ⟨o, es, ep, hidT_get z (notDict z d), d, r⟩
    have inB : K.In (hidT t.heap G) := by
      intro b o z
      refine hidT_get (inK b o z) ?_
      cases q : G b with
      | none => rfl
      | some u =>
        have hb := only_a q
        subst hb
        rw [notK (by rw [q]; simp)] at z
        cases z
    have md : Mod K mg (hidT t.heap G) := by
      refine ⟨inB, ns' hglob, ⟨mb, ns' hblt, hbb⟩, ?_⟩
      obtain ⟨mc, l1, l2⟩ := hlim
      exact ⟨mc, ns' l1, l2⟩
    have nof : ∀ b : Addr, b ∈ frs ([] : List Env) → False := fun b z => by simp [frs] at z
    have ground : Env0 P w K mg (hidT t.heap G) callerA [] t G := ⟨rfl, md, fun b o z => of_hidT z, Nat.le_of_eq (hidT_size _ _), trivial, fun b z => (nof b z).elim, hok, .of_eq hgen⟩
    refine codeAny_mono ((F _ inB (ns' hglob)).run callerA [] t G ⟨[.ref a], []⟩ [.ref a] [.ref a] _ _ hr rfl ground (hbind t (.ref a)) (.cons rfl .nil) (hsp G only sq)) ?_
    intro r s' z
    rcases r with e | fl
    · obtain ⟨_, _, _, _, _, _, _, _, _, _, _, _, bad⟩ := z
      exact bad.elim
    · cases fl with
      | next => exact z.elim
      | brk => exact z.elim
      | cont => exact z.elim
      | ret u =>
        obtain ⟨v, G', hos, hbare, hun, hok', hv, hq⟩ := z
        have hv' : v = .bl true := hq
        rw [hv'] at hv
        have hu : u = Value.bool true := hv
        rw [hu]
        refine ⟨rfl, OldK.of_keep ?_, hos, hbare⟩
        intro b o z
        cases q : G b with
        | none => exact hun.keep b o z q (fun y => nof b y) (by simp)
        | some u' =>
          rcases only b with y | ⟨ob, ys, y⟩
          · rw [q] at y
            cases y
          · obtain ⟨o1, _⟩ := hok b _ y
            obtain ⟨o2, _⟩ := hok' b _ (hun.frzs b ob _ y)
            rw [z] at o1
            cases o1
            exact o2
  cases hk : K.lookup a with
  | some o =>
    have z := inK a o hk
    rw [ha] at z
    cases z
    exact go (fun _ => none) (fun _ => .inl rfl) (.inr ⟨_, us.toArray, _, hk, rfl, rfl, rfl, by simpa [nsl] using hl, by simpa using rel⟩) (fun b u y => nomatch (show (none : Option HO) = some u from y)) (fun b y => absurd rfl y) fun y => absurd rfl y
  | none =>
    let o : Obj := { cls := .type "list", data := .seq us.toArray }
    let G : Hp := fun b => if b = a then some (.frz o (.lst (ns.map V.int))) else none
    have at_a : G a = some (.frz o (.lst (ns.map V.int))) := if_pos rfl
    have off : ∀ {b : Addr}, b ≠ a → G b = none := fun h => if_neg h
    refine go G ?_ (.inl (.inr ⟨o, at_a⟩)) ?_ ?_ fun _ => hk
    · intro b
      by_cases hb : b = a
      · exact .inr ⟨o, _, by rw [hb]; exact at_a⟩
      · exact .inl (off hb)
    · intro b u y
      by_cases hb : b = a
      · rw [hb] at y ⊢
        rw [at_a] at y
        cases y
        exact ⟨ha, by simpa using hl, us, _, rel, ha⟩
      · rw [off hb] at y
        cases y
    · intro b y
      exact Classical.byContradiction fun hb => y (off hb)
/-- a law's row from its promise -/
theorem walkG {l : PySem.W.OpenLaw} {n k : Nat} {q : Program} {loose : List Str} {XP : (Str → Option Value) → Heap → Prop} {YP : World → Heap → Prop} {d : DefRec} {x : Str}
    (hn : l.most = some n) (hn2 : n ≤ sizeLine) (hdf : d.params.defaults = []) (hr : Room k callerA)
    (F : ∀ (w : World) (mg : Str → Option Value) (fa : Addr) (h : Heap), YP w h → h.Ns mainGlobals mg → mg d.name = some (.ref fa) →
      ∃ (K : PySem.W.Frag) (fd : FuncData) (sp : Sp), K.In h ∧ (∀ (s : Shared) (u : Value), BindsTo s fd ⟨[u], []⟩ [(x, u)]) ∧
        (∀ (H : Hp) (a : Addr) (ns : List Int), ns.length ≤ n → (∀ z ∈ ns, Builtin.Int.intBits z ≤ 1048576) → Only H → SqL K H a (ns.map V.int) → sp [.ref a] H (fun v _ => v = .bl true) fun _ _ _ => False) ∧
        ∀ base : Heap, K.In base → base.Ns mainGlobals mg → FnG l.prog w K mg base k fa fd [x] sp) :
    PySem.W.WalkO q loose XP YP l.row.toRowW d [] (fun f vs => PySem.call f vs) := by
  refine Att.attach_callB hn hdf fun w s₀ t mg mb fa o pm cd doc a us ns G Y ho hd hcd hmg hobj hints hlen hbits hgen => ?_
  obtain ⟨K, fd, sp, inK, hb, hs, hF⟩ := F w mg fa _ Y G.T.g hmg
  exact lawG inK G.T.g G.T.b G.T.builtins G.T.nolimit hgen hobj hints (Nat.le_trans hlen hn2) hr hF hb fun H only sq => hs H a ns hlen hbits only sq
end DL
end

section
set_option Elab.async false
set_option linter.all false
set_option maxRecDepth 100000
/-! Arguments, contracts, calls. -/
namespace DL
open PySem PySem.Spec PyProof.Rows L2

def argGo : List Opd → EM (List D)
  | [] => fun ρ => .ok [] ρ
  | o :: r => fun ρ => (o.go ρ).bind fun d ρ1 => (argGo r ρ1).bind fun ds ρ2 => .ok (d :: ds) ρ2
/-- values of operands, borrowed ones read at the end -/
def argRd (ρ : Env') : List Opd → List D → Option (List D)
  | [], [] => some []
  | o :: r, d :: ds => match o.rd ρ d, argRd ρ r ds with
    | some x, some xs => some (x :: xs)
    | _, _ => none
  | _, _ => none
/-- parameters' slots for a call -/
def argSl (ρ : Env') : List Opd → List D → Option (List Sl)
  | [], [] => some []
  | o :: r, d :: ds => match argSl ρ r ds with
    | none => none
    | some xs => match o with
      | .ev _ => some (.va d :: xs)
      | .br i => match peek ρ i with
        | some x => some (.va x :: xs)
        | none => none
      | .io i => match ρ[i]? with
        | some (.ow _ o) => some (.ow true o :: xs)
        | _ => none
  | _, _ => none
section
variable (K : PySem.W.Frag) (mg : Str → Option Value) (A : List V) (W : WX)
def tArgs : List Opd → TA
  | [] => tNil
  | o :: r => tCons (tOpd K mg A W o) (tArgs r)
end
def ArgsOk (X : Cx) (A : List V) (S : Cfg) (σ : L2.St) : List V → List Opd → List D → Prop
  | [], [], [] => True
  | v :: vs, o :: os, d :: ds => OpdOk X A S σ v o d ∧ ArgsOk X A S σ vs os ds
  | _, _, _ => False
abbrev PAr (X : Cx) (A : List V) (W : WX) (es : List Expr) (os : List Opd) : Prop := PA X es (tArgs X.K X.mg A W os)
section
variable {X : Cx} {A : List V} {W : WX} {S S' : Cfg} {σ : L2.St} {ρ : Env'}
theorem par_nil : PAr X A W [] [] := pa_nil
theorem par_cons {e : Expr} {es : List Expr} {o : Opd} {os : List Opd} (ha : PO' X A W e o) (hr : PAr X A W es os) (hs : starEach (e :: es) X.env = (false, eval e X.env) :: starEach es X.env := by rfl) : PAr X A W (e :: es) (o :: os) := pa_cons ha hr hs
theorem ArgsOk.ev : ∀ {vs : List V} {os : List Opd} {ds : List D}, ArgsOk X A S σ vs os ds → Ev S S' → ArgsOk X A S' σ vs os ds
  | [], [], [], _, _ => trivial
  | _ :: _, _ :: _, _ :: _, h, e => ⟨h.1.ev e, ArgsOk.ev h.2 e⟩
  | [], _ :: _, _, h, _ => h.elim
  | [], [], _ :: _, h, _ => h.elim
  | _ :: _, [], _, h, _ => h.elim
  | _ :: _, _ :: _, [], h, _ => h.elim
theorem ArgsOk.lens : ∀ {vs : List V} {os : List Opd} {ds : List D}, ArgsOk X A S σ vs os ds → vs.length = os.length ∧ ds.length = os.length
  | [], [], [], _ => ⟨rfl, rfl⟩
  | _ :: _, _ :: _, _ :: _, h => by
    obtain ⟨a, b⟩ := ArgsOk.lens h.2
    exact ⟨by simp [a], by simp [b]⟩
  | [], _ :: _, _, h => h.elim
  | [], [], _ :: _, h => h.elim
  | _ :: _, [], _, h => h.elim
  | _ :: _, _ :: _, [], h => h.elim
theorem ArgsOk.rds : ∀ {vs : List V} {os : List Opd} {ds xs : List D}, ArgsOk X A S σ vs os ds → Sat X.K X.mg A S σ ρ → argRd ρ os ds = some xs → xs.length = vs.length ∧ ∀ (i : Nat) (x : D) (v : V), xs[i]? = some x → vs[i]? = some v → RB X.K X.mg S x v
  | [], [], [], xs, _, _, e => by
    cases e
    exact ⟨rfl, fun i x v e => by simp at e⟩
  | v :: vs, o :: os, d :: ds, xs, h, s, e => by
    unfold argRd at e
    split at e
    · rename_i x ys e1 e2
      cases e
      obtain ⟨l, k⟩ := ArgsOk.rds h.2 s e2
      refine ⟨by simp [l], fun i y u q1 q2 => ?_⟩
      cases i with
      | zero =>
        cases q1
        cases q2
        exact h.1.rb s e1
      | succ i => exact k i y u (by simpa using q1) (by simpa using q2)
    · cases e
  | [], _ :: _, _, _, h, _, _ => h.elim
  | [], [], _ :: _, _, h, _, _ => h.elim
  | _ :: _, [], _, _, h, _, _ => h.elim
  | _ :: _, _ :: _, [], _, h, _, _ => h.elim
theorem args_bind {β : Type} {P : Out β → Prop} {Q' : List V → Hp → Prop} (hst : ¬ P .stuck) : ∀ {os : List Opd} {S : Cfg} {ρ : Env'} {g : List D → Env' → Out β}, (∀ c d ρ', P (.err c d ρ') → PostX X.K X.mg A W S c d ρ') → Sat X.K X.mg A S σ ρ → P ((argGo os ρ).bind g) →
    (∀ ds ρ1 S1 vs, P (g ds ρ1) → Ev S S1 → Sat X.K X.mg A S1 σ ρ1 → ArgsOk X A S1 σ vs os ds → Q' vs S1.H) → tArgs X.K X.mg A W os σ S.H Q'
  | [], S, ρ, g, _, s, hp, k => k [] ρ S [] hp (Ev.refl S) s trivial
  | o :: os, S, ρ, g, herr, s, hp, k => by
    have hp' : P ((o.go ρ).bind fun d ρ1 => ((argGo os ρ1).bind fun ds ρ2 => g (d :: ds) ρ2)) := by
      have q : (argGo (o :: os) ρ).bind g = (o.go ρ).bind fun d ρ1 => ((argGo os ρ1).bind fun ds ρ2 => g (d :: ds) ρ2) := by
        show Out.bind ((o.go ρ).bind fun d ρ1 => (argGo os ρ1).bind fun ds ρ2 => .ok (d :: ds) ρ2) g = _
        cases o.go ρ with
        | ok d ρ1 =>
          show Out.bind ((argGo os ρ1).bind fun ds ρ2 => .ok (d :: ds) ρ2) g = _
          cases h : argGo os ρ1 with
          | ok ds ρ2 => show _ = Out.bind (argGo os ρ1) _; rw [h]; rfl
          | err c d ρ2 => show _ = Out.bind (argGo os ρ1) _; rw [h]; rfl
          | stuck => show _ = Out.bind (argGo os ρ1) _; rw [h]; rfl
        | err c d ρ1 => rfl
        | stuck => rfl
      rw [q] at hp
      exact hp
    refine opd_bind (P := P) s hp' herr hst fun d ρ1 S1 v hp1 ev1 s1 r1 => ?_
    exact args_bind hst (fun c d ρ' z => PostX.ev (herr c d ρ' z) ev1) s1 hp1 fun ds ρ2 S2 vs hp2 ev2 s2 r2 => k (d :: ds) ρ2 S2 (v :: vs) hp2 (ev1.trans ev2) s2 ⟨r1.ev ev2, r2⟩
end

/-! ### contracts -/
def ioS : Option Sl → Sl
  | some (.ow true o) => .ow true o
  | _ => .no
def outIo (n : Nat) (ρ : Env') : List Sl := (List.range n).map fun j => ioS ρ[j]?
abbrev Sem' := List Sl → Out D
/-- what a body is worth, as a def with n parameters and N names -/
def runDef (n N : Nat) (body : SM) : Sem' := fun ps => match body (ps ++ List.replicate (N - n) Sl.no) with
  | .rt d ρ => .ok d (outIo n ρ)
  | .nx ρ => .ok .non (outIo n ρ)
  | .er c d ρ => .err c d (outIo n ρ)
  | _ => .stuck
section
variable (K : PySem.W.Frag) (mg : Str → Option Value)
def PostF (Q : VK) (E : XK) (S : Cfg) (vs : List V) : Out D → Prop
  | .ok d ps' => ∀ S' v, Ev S S' → Sat K mg vs S' (vs.map some) ps' → RD K mg S'.F d v → Q v S'.H
  | .err c d ps' => ∀ S' C cd v, mg c = some (.ref C) → Ev S S' → Sat K mg vs S' (vs.map some) ps' → S'.H cd = some (.xd [(("at" : Str), v)]) → RD K mg S'.F d v → E (.ref C) (some cd) S'.H
  | .stuck => False
def spD (n : Nat) (sem : Sem') : Sp := fun vs H Q E => vs.length = n ∧ ∃ S ps, S.H = H ∧ Sat K mg vs S (vs.map some) ps ∧ PostF K mg Q E S vs (sem ps)
end
section
variable {K : PySem.W.Frag} {mg : Str → Option Value} {A : List V} {S S' : Cfg} {σ : L2.St} {ρ : Env'}
/-- the caller's things behind a body -/
theorem Sat.out {vs : List V} (s : Sat K mg vs S σ ρ) : Sat K mg vs S (vs.map some) (outIo vs.length ρ) := by
  obtain ⟨fp, s1, s2, s3⟩ := s.sl
  have get : ∀ {i : Nat} {sl : Sl}, (outIo vs.length ρ)[i]? = some sl → i < vs.length ∧ sl = ioS ρ[i]? := fun {i sl} e => by
    unfold outIo at e
    rw [List.getElem?_map] at e
    cases h : (List.range vs.length)[i]? with
    | none =>
      rw [h] at e
      cases e
    | some j =>
      rw [h] at e
      have hi := (List.getElem?_eq_some_iff.mp h)
      obtain ⟨h1, h2⟩ := hi
      rw [List.getElem_range] at h2
      subst h2
      simp only [List.length_range] at h1
      exact ⟨h1, (Option.some.inj e).symm⟩
  have own : ∀ {i : Nat} {o : Ow} {b : Bool}, i < vs.length → Sl.ow b o = ioS ρ[i]? → ρ[i]? = some (Sl.ow true o) ∧ b = true := fun {i o b} hi e => by
    cases q : ρ[i]? with
    | none =>
      rw [q] at e
      cases e
    | some s =>
      rw [q] at e
      cases s with
      | no => cases e
      | va d => cases e
      | ow c u => cases c with
        | true =>
          cases e
          exact ⟨rfl, rfl⟩
        | false => cases e
  have isF : ∀ {i : Nat} {sl : Sl}, sl = ioS ρ[i]? → sl = .no ∨ ∃ o, sl = .ow true o := fun {i sl} e => by
    cases q : ρ[i]? with
    | none =>
      rw [q] at e
      exact .inl e
    | some s =>
      rw [q] at e
      cases s with
      | no => exact .inl e
      | va d => exact .inl e
      | ow c u => cases c with
        | true => exact .inr ⟨u, e⟩
        | false => exact .inl e
  refine ⟨s.sub, s.ownF, s.ownH, by simp [outIo], ⟨fp, fun i sl e => ?_, s2, s3⟩, fun i o e => ?_⟩
  · obtain ⟨hi, e'⟩ := get e
    rcases isF e' with q | ⟨o, q⟩
    · subst q
      exact ⟨some vs[i], by rw [List.getElem?_map, List.getElem?_eq_getElem hi]; rfl, trivial⟩
    · subst q
      obtain ⟨h1, _⟩ := own hi e'
      obtain ⟨v, q1, u, q2, r⟩ := s1 i _ h1
      obtain ⟨w, z1, z2⟩ := s.io i o h1
      rw [q1, q2] at z1
      cases z1
      exact ⟨some u, by rw [List.getElem?_map, z2]; rfl, u, rfl, r⟩
  · obtain ⟨hi, e'⟩ := get e
    obtain ⟨h1, _⟩ := own hi e'
    obtain ⟨w, z1, z2⟩ := s.io i o h1
    exact ⟨w, by rw [List.getElem?_map, z2]; rfl, z2⟩
theorem Sat.start {vs : List V} {ps : List Sl} {N : List Str} (s : Sat K mg vs S (vs.map some) ps) (hl : vs.length ≤ N.length) : Sat K mg vs S (L2.start N vs) (ps ++ List.replicate (N.length - vs.length) Sl.no) := by
  obtain ⟨fp, s1, s2, s3⟩ := s.sl
  have hps : ps.length = vs.length := by
    have := s.len
    simpa using this.symm
  have hlt : ∀ {i : Nat} {sl : Sl}, (ps ++ List.replicate (N.length - vs.length) Sl.no)[i]? = some sl → i < ps.length → ps[i]? = some sl := fun {i sl} e h => by
    rw [List.getElem?_append_left h] at e
    exact e
  refine ⟨s.sub, s.ownF, s.ownH, ?_, ⟨fp, fun i sl e => ?_, s2, s3⟩, fun i o e => ?_⟩
  · unfold L2.start
    simp [hps]
  · by_cases hi : i < ps.length
    · obtain ⟨v, q1, q2⟩ := s1 i sl (hlt e hi)
      refine ⟨v, ?_, q2⟩
      unfold L2.start
      rw [List.getElem?_append_left (by simpa [hps] using hi)]
      exact q1
    · rw [List.getElem?_append_right (by omega)] at e
      have h1 := (List.getElem?_eq_some_iff.mp e)
      obtain ⟨h2, h3⟩ := h1
      rw [List.getElem_replicate] at h3
      subst h3
      simp only [List.length_replicate] at h2
      refine ⟨none, ?_, trivial⟩
      unfold L2.start
      rw [List.getElem?_append_right (by simp; omega)]
      simp only [List.length_map]
      rw [List.getElem?_replicate]
      rw [if_pos (by omega)]
  · have hi : i < ps.length := by
      refine Classical.byContradiction fun h => ?_
      rw [List.getElem?_append_right (by omega)] at e
      obtain ⟨h2, h3⟩ := List.getElem?_eq_some_iff.mp e
      rw [List.getElem_replicate] at h3
      cases h3
    obtain ⟨v, q1, q2⟩ := s.io i o (hlt e hi)
    refine ⟨v, ?_, q2⟩
    unfold L2.start
    rw [List.getElem?_append_left (by simpa [hps] using hi)]
    exact q1
end
/-- THE RULE for a def -/
theorem fnD {P : Program} {w : World} {K : PySem.W.Frag} {mg : Str → Option Value} {base : Heap} {x qual : Str} {params : Arguments} {body : List Stmt} {scope : Scope} {dvs : List V} {kws : List (Str × V)} {f : Addr} {fd : FuncData} {N ps : List Str} {k : Nat} {sm : SM}
    (F : FunD K x qual params body scope dvs kws f fd) (S : FnScope N ps scope) (hn : ps.length ≤ N.length)
    (hb : ∀ (cdv : Value) (A : Around) (outer : List Env) (s : Shared) (H : Hp) (vs : List V) (E : XK), Room k (A.deeper (envOfC qual scope s.heap.objs.size f cdv)) → (A.deeper (envOfC qual scope s.heap.objs.size f cdv)).guards = some [] →
      PSsD (cxOf (L2.CX P w) P w K mg base N qual scope f cdv A outer s H E) vs (fun cls d _ H => E cls d H) body sm) : FnG P w K mg base (k + 1) f fd ps (spD K mg ps.length (runDef ps.length N.length sm)) := by
  refine FunD.okG F S (fun vs H Q E h => h.1) (fun cdv A outer s H vs Q E hr hgd h => ⟨_, hb cdv A outer s H vs E hr hgd, ?_⟩)
  obtain ⟨hl, S, qs, rfl, sa, hq⟩ := h
  refine ⟨S, qs ++ List.replicate (N.length - ps.length) Sl.no, rfl, by rw [← hl]; exact sa.start (by rw [hl]; exact hn), ?_⟩
  unfold runDef at hq
  cases e : sm (qs ++ List.replicate (N.length - ps.length) Sl.no) with
  | rt d ρ =>
    rw [e] at hq
    exact fun S' σ' v ev s' r => hq S' v ev (by rw [← hl]; exact s'.out) r
  | nx ρ =>
    rw [e] at hq
    exact fun S' σ' ev s' => hq S' .non ev (by rw [← hl]; exact s'.out) rfl
  | er c d ρ =>
    rw [e] at hq
    exact fun S' σ' C cd v hc ev s' hcd r => hq S' C cd v hc ev (by rw [← hl]; exact s'.out) hcd r
  | bk ρ =>
    rw [e] at hq
    exact (show False from hq).elim
  | ct ρ =>
    rw [e] at hq
    exact (show False from hq).elim
  | stuck =>
    rw [e] at hq
    exact (show False from hq).elim
end DL
end

section
set_option Elab.async false
set_option linter.all false
set_option maxRecDepth 100000
/-! Calls of defs by their contracts. -/
namespace DL
open PySem PySem.Spec PyProof.Rows L2
open Classical in
/-- the configuration of the callee -/
noncomputable def subCfg (S : Cfg) (bor io : Addr → Prop) : Cfg := ⟨fun a => if bor a then S.H a else S.F a, S.H, io⟩
open Classical in
/-- back at the caller's -/
noncomputable def backCfg (S S' : Cfg) (bor io : Addr → Prop) : Cfg := ⟨fun a => if bor a then none else S'.F a, S'.H, fun a => (S.O a ∧ ¬ io a) ∨ S'.O a⟩
def iosOf : List Opd → List Nat
  | [] => []
  | .io i :: r => i :: iosOf r
  | _ :: r => iosOf r
def brsOf : List Opd → List Nat
  | [] => []
  | .br i :: r => i :: brsOf r
  | _ :: r => brsOf r
def flat : D → Bool
  | .non => true
  | .bl _ => true
  | .int _ => true
  | .str _ => true
  | _ => false
def flatO : Sl → Bool
  | .ow _ (.deal _ _) => true
  | .ow _ (.lst xs) => xs.all flat
  | .ow _ (.dK _ ds) => ds.all flat
  | .ow _ (.dT _ ds) => ds.all flat
  | .ow _ (.obj _ _ ds) => ds.all flat
  | _ => true
def back : List Opd → List Sl → Env' → Option Env'
  | [], _, ρ => some ρ
  | .io i :: os, .ow true u :: ss, ρ => match ρ[i]? with
    | some (.ow b _) => back os ss (ρ.set i (.ow b u))
    | _ => none
  | .io _ :: _, _ :: _, _ => none
  | .ev _ :: os, _ :: ss, ρ => back os ss ρ
  | .br _ :: os, _ :: ss, ρ => back os ss ρ
  | _ :: _, [], _ => none
def okArgs (os : List Opd) : Bool := decide (iosOf os).Nodup && (iosOf os).all fun i => !(brsOf os).contains i
def safe (os : List Opd) (d : D) (ps' : List Sl) : Bool := (brsOf os).isEmpty || (flat d && ps'.all flatO)
def eCallK (sem : Sem') (os : List Opd) (ds : List D) : EM D := fun ρ => match argSl ρ os ds with
  | none => .stuck
  | some ps => if okArgs os = true then (match sem ps with
    | .ok d ps' => if safe os d ps' = true then (match back os ps' ρ with
      | some ρ' => .ok d ρ'
      | none => .stuck) else .stuck
    | .err c d ps' => if safe os d ps' = true then (match back os ps' ρ with
      | some ρ' => .err c d ρ'
      | none => .stuck) else .stuck
    | .stuck => .stuck) else .stuck
def eCall (sem : Sem') (os : List Opd) : EM D := fun ρ => (argGo os ρ).bind fun ds ρ1 => eCallK sem os ds ρ1

def SlOf (ρ : Env') : Opd → D → Sl → Prop
  | .ev _, d, sl => sl = .va d
  | .br i, _, sl => ∃ x, peek ρ i = some x ∧ sl = .va x
  | .io i, _, sl => ∃ b u, ρ[i]? = some (Sl.ow b u) ∧ sl = .ow true u
theorem argSl_get {ρ : Env'} : ∀ {os : List Opd} {ds : List D} {ps : List Sl}, argSl ρ os ds = some ps → ps.length = os.length ∧ ∀ (j : Nat) (sl : Sl), ps[j]? = some sl → ∃ o d, os[j]? = some o ∧ ds[j]? = some d ∧ SlOf ρ o d sl
  | [], [], ps, e => by
    cases e
    exact ⟨rfl, fun j sl e => by simp at e⟩
  | o :: os, d :: ds, ps, e => by
    unfold argSl at e
    cases h : argSl ρ os ds with
    | none =>
      rw [h] at e
      cases e
    | some xs =>
      rw [h] at e
      obtain ⟨l, k⟩ := argSl_get h
      have fin : ∀ sl, SlOf ρ o d sl → ps = sl :: xs → ps.length = (o :: os).length ∧ ∀ (j : Nat) (sl : Sl), ps[j]? = some sl → ∃ o' d', (o :: os)[j]? = some o' ∧ (d :: ds)[j]? = some d' ∧ SlOf ρ o' d' sl := fun sl hs hp => by
        subst hp
        refine ⟨by simp [l], fun j s' e' => ?_⟩
        cases j with
        | zero =>
          cases e'
          exact ⟨o, d, rfl, rfl, hs⟩
        | succ j => exact k j s' (by simpa using e')
      cases o with
      | ev f =>
        have e' : some (Sl.va d :: xs) = some ps := e
        cases e'
        exact fin _ rfl rfl
      | br i =>
        have e' : (match peek ρ i with
          | some x => some (Sl.va x :: xs)
          | none => none) = some ps := e
        cases q : peek ρ i with
        | none =>
          rw [q] at e'
          cases e'
        | some x =>
          rw [q] at e'
          cases e'
          exact fin _ ⟨x, q, rfl⟩ rfl
      | io i =>
        have e' : (match ρ[i]? with
          | some (.ow _ o) => some (Sl.ow true o :: xs)
          | _ => none) = some ps := e
        cases q : ρ[i]? with
        | none =>
          rw [q] at e'
          cases e'
        | some x =>
          rw [q] at e'
          cases x with
          | no => cases e'
          | va d => cases e'
          | ow b u =>
            cases e'
            exact fin _ ⟨b, u, q, rfl⟩ rfl
  | [], _ :: _, _, e => by cases e
  | _ :: _, [], _, e => by cases e
theorem mem_ios : ∀ {os : List Opd} {i : Nat}, i ∈ iosOf os ↔ ∃ j : Nat, os[j]? = some (Opd.io i)
  | [], i => by simp [iosOf]
  | o :: os, i => by
    have ih := mem_ios (os := os) (i := i)
    constructor
    · intro h
      cases o with
      | io k =>
        rcases List.mem_cons.mp (show i ∈ k :: iosOf os from h) with q | q
        · exact ⟨0, by rw [q]; rfl⟩
        · obtain ⟨j, e⟩ := ih.mp q
          exact ⟨j + 1, by simpa using e⟩
      | ev f =>
        obtain ⟨j, e⟩ := ih.mp (show i ∈ iosOf os from h)
        exact ⟨j + 1, by simpa using e⟩
      | br k =>
        obtain ⟨j, e⟩ := ih.mp (show i ∈ iosOf os from h)
        exact ⟨j + 1, by simpa using e⟩
    · rintro ⟨j, e⟩
      cases j with
      | zero =>
        cases e
        exact List.mem_cons_self
      | succ j =>
        have q := ih.mpr ⟨j, by simpa using e⟩
        cases o with
        | io k => exact List.mem_cons_of_mem _ q
        | ev f => exact q
        | br k => exact q
theorem mem_brs : ∀ {os : List Opd} {i : Nat}, (∃ j : Nat, os[j]? = some (Opd.br i)) → i ∈ brsOf os
  | [], i, ⟨j, e⟩ => by simp at e
  | o :: os, i, ⟨j, e⟩ => by
    cases j with
    | zero =>
      cases e
      exact List.mem_cons_self
    | succ j =>
      have q := mem_brs (os := os) (i := i) ⟨j, by simpa using e⟩
      cases o with
      | br k => exact List.mem_cons_of_mem _ q
      | ev f => exact q
      | io k => exact q
theorem back_get : ∀ {os : List Opd} {ss : List Sl} {ρ ρ' : Env'}, (iosOf os).Nodup → back os ss ρ = some ρ' → ρ'.length = ρ.length ∧ ∀ (i : Nat) (s : Sl), ρ'[i]? = some s →
    (i ∉ iosOf os ∧ ρ[i]? = some s) ∨ ∃ (j : Nat) (b : Bool) (u u0 : Ow), os[j]? = some (Opd.io i) ∧ ss[j]? = some (Sl.ow true u) ∧ ρ[i]? = some (Sl.ow b u0) ∧ s = .ow b u
  | [], ss, ρ, ρ', _, e => by
    have e' : some ρ = some ρ' := by
      cases ss <;> exact e
    cases e'
    exact ⟨rfl, fun i s q => .inl ⟨by simp [iosOf], q⟩⟩
  | o :: os, [], ρ, ρ', _, e => by
    cases o <;> cases e
  | .ev f :: os, x :: ss, ρ, ρ', hn, e => by
    obtain ⟨l, k⟩ := back_get (os := os) (ss := ss) (ρ := ρ) (ρ' := ρ') hn e
    refine ⟨l, fun i s q => ?_⟩
    rcases k i s q with z | ⟨j, b, u, u0, z1, z2, z3, z4⟩
    · exact .inl z
    · exact .inr ⟨j + 1, b, u, u0, by simpa using z1, by simpa using z2, z3, z4⟩
  | .br f :: os, x :: ss, ρ, ρ', hn, e => by
    obtain ⟨l, k⟩ := back_get (os := os) (ss := ss) (ρ := ρ) (ρ' := ρ') hn e
    refine ⟨l, fun i s q => ?_⟩
    rcases k i s q with z | ⟨j, b, u, u0, z1, z2, z3, z4⟩
    · exact .inl z
    · exact .inr ⟨j + 1, b, u, u0, by simpa using z1, by simpa using z2, z3, z4⟩
  | .io m :: os, x :: ss, ρ, ρ', hn, e => by
    have hn' : (m :: iosOf os).Nodup := hn
    obtain ⟨hm, hn2⟩ := List.nodup_cons.mp hn'
    have bad : ∀ {P : Prop}, back (.io m :: os) (x :: ss) ρ = none → P := fun {P} z => by
      rw [e] at z
      cases z
    cases x with
    | no => exact bad rfl
    | va d => exact bad rfl
    | ow c u => cases c with
      | false => exact bad rfl
      | true =>
        have e' : (match ρ[m]? with
          | some (.ow b _) => back os ss (ρ.set m (.ow b u))
          | _ => none) = some ρ' := e
        cases q : ρ[m]? with
        | none =>
          rw [q] at e'
          cases e'
        | some y =>
          rw [q] at e'
          cases y with
          | no => cases e'
          | va d => cases e'
          | ow b u0 =>
            have e2 : back os ss (ρ.set m (.ow b u)) = some ρ' := e'
            obtain ⟨l, k⟩ := back_get hn2 e2
            refine ⟨by simpa using l, fun i s q2 => ?_⟩
            by_cases hi : i = m
            · subst hi
              rcases k i s q2 with ⟨z1, z2⟩ | ⟨j, b', u', u0', z1, z2, z3, z4⟩
              · rw [List.getElem?_set_self (List.getElem?_eq_some_iff.mp q).1] at z2
                cases z2
                exact .inr ⟨0, b, u, u0, rfl, rfl, q, rfl⟩
              · exact absurd (mem_ios.mpr ⟨j, z1⟩) hm
            · rcases k i s q2 with ⟨z1, z2⟩ | ⟨j, b', u', u0', z1, z2, z3, z4⟩
              · rw [List.getElem?_set_ne (Ne.symm hi)] at z2
                exact .inl ⟨fun h => by
                  rcases List.mem_cons.mp (show i ∈ m :: iosOf os from h) with r | r
                  · exact hi r
                  · exact z1 r, z2⟩
              · rw [List.getElem?_set_ne (Ne.symm hi)] at z3
                exact .inr ⟨j + 1, b', u', u0', by simpa using z1, by simpa using z2, z3, z4⟩
section
variable {X : Cx} {A : List V} {W : WX} {S S' : Cfg} {σ : L2.St} {ρ : Env'}
theorem ArgsOk.get : ∀ {vs : List V} {os : List Opd} {ds : List D} {j : Nat} {o : Opd} {d : D}, ArgsOk X A S σ vs os ds → os[j]? = some o → ds[j]? = some d → ∃ v, vs[j]? = some v ∧ OpdOk X A S σ v o d
  | v :: vs, o :: os, d :: ds, j, o', d', h, e1, e2 => by
    cases j with
    | zero =>
      cases e1
      cases e2
      exact ⟨v, rfl, h.1⟩
    | succ j => exact ArgsOk.get (j := j) h.2 (by simpa using e1) (by simpa using e2)
  | [], [], [], j, _, _, _, e1, _ => by simp at e1
  | [], _ :: _, _, _, _, _, h, _, _ => h.elim
  | [], [], _ :: _, _, _, _, h, _, _ => h.elim
  | _ :: _, [], _, _, _, _, h, _, _ => h.elim
  | _ :: _, _ :: _, [], _, _, _, h, _, _ => h.elim
theorem OwR.wide {K : PySem.W.Frag} {mg : Str → Option Value} {v : V} {o : Ow} {fp fp' : Addr → Prop} (h : OwR K mg S v o fp) (k : ∀ p, fp p → fp' p) : OwR K mg S v o fp' := by
  cases o with
  | lst xs =>
    obtain ⟨p, vs, h1, h2, h3, h4⟩ := h
    exact ⟨p, vs, h1, h2, h3, k _ h4⟩
  | dK ks ds =>
    obtain ⟨p, vs, h1, h2, h3, h4, h5⟩ := h
    exact ⟨p, vs, h1, h2, h3, h4, k _ h5⟩
  | dT ks ds =>
    obtain ⟨p, vs, h1, h2, h3, h4, h5⟩ := h
    exact ⟨p, vs, h1, h2, h3, h4, k _ h5⟩
  | deal L b =>
    obtain ⟨p, q, h1, h2, h3, h4, h5, h6⟩ := h
    exact ⟨p, q, h1, h2, h3, h4, k _ h5, k _ h6⟩
  | obj c ns ds =>
    obtain ⟨p, C, dx, vs, h1, h2, h3, h4, h5, h6⟩ := h
    exact ⟨p, C, dx, vs, h1, h2, h3, h4, h5, k _ h6⟩
theorem SlR.wide {K : PySem.W.Frag} {mg : Str → Option Value} {v : Option V} {s : Sl} {fp fp' : Addr → Prop} (h : SlR K mg S v s fp) (k : ∀ p, fp p → fp' p) : SlR K mg S v s fp' := by
  cases s with
  | no => trivial
  | va d => exact h
  | ow b o =>
    obtain ⟨u, h1, h2⟩ := h
    exact ⟨u, h1, h2.wide k⟩
theorem flat_rd {K : PySem.W.Frag} {mg : Str → Option Value} {F F' : Hp} {d : D} {v : V} (hf : flat d = true) (h : RD K mg F d v) : RD K mg F' d v := by
  cases d with
  | non => exact h
  | bl b => exact h
  | int i => exact h
  | str x => exact h
  | _ => cases hf
theorem flat_rds {K : PySem.W.Frag} {mg : Str → Option Value} {F F' : Hp} : ∀ {ds : List D} {vs : List V}, ds.all flat = true → RDs K mg F ds vs → RDs K mg F' ds vs
  | [], _, _, h => h
  | d :: ds, vs, hf, ⟨v, r, h1, h2, h3⟩ => by
    simp only [List.all_cons, Bool.and_eq_true] at hf
    exact ⟨v, r, h1, flat_rd hf.1 h2, flat_rds hf.2 h3⟩
/-- a call's way there and back -/
theorem call_sp {n : Nat} {sem : Sem'} {Q : VK} {os : List Opd} {ds : List D} {vs : List V} (hn : os.length = n) (s : Sat X.K X.mg A S σ ρ) (ha : ArgsOk X A S σ vs os ds) (h : PostE X.K X.mg A W Q S σ (eCallK sem os ds ρ)) : spD X.K X.mg n sem vs S.H Q (WE W σ) := by
  classical
  unfold eCallK at h
  cases hs : argSl ρ os ds with
  | none =>
    rw [hs] at h
    exact h.elim
  | some ps =>
    rw [hs] at h
    cases ho : okArgs os with
    | false =>
      simp only [ho] at h
      exact (show False from h).elim
    | true =>
      simp only [ho, if_true] at h
      obtain ⟨fp, s1, s2, s3⟩ := s.sl
      obtain ⟨hl, hget⟩ := argSl_get hs
      obtain ⟨hvl, hdl⟩ := ha.lens
      have hok : (iosOf os).Nodup ∧ ∀ i ∈ iosOf os, i ∉ brsOf os := by
        unfold okArgs at ho
        simp only [Bool.and_eq_true, decide_eq_true_eq, List.all_eq_true, Bool.not_eq_true', List.contains_eq_mem] at ho
        exact ⟨ho.1, fun i hi z => by simpa [z] using ho.2 i hi⟩
      let bor : Addr → Prop := fun a => ∃ (i j : Nat), os[j]? = some (Opd.br i) ∧ fp i a
      let io : Addr → Prop := fun a => ∃ (i j : Nat), os[j]? = some (Opd.io i) ∧ fp i a
      have borO : ∀ a, bor a → S.O a := fun a ⟨i, j, _, h2⟩ => s2 i a h2
      have ioO : ∀ a, io a → S.O a := fun a ⟨i, j, _, h2⟩ => s2 i a h2
      have dis : ∀ a, io a → ¬ bor a := fun a ⟨i, j, e1, h1⟩ ⟨i', j', e2, h2⟩ => by
        have e := s3 i i' a h1 h2
        subst e
        exact hok.2 i (mem_ios.mpr ⟨j, e1⟩) (mem_brs ⟨j', e2⟩)
      let Sc := subCfg S bor io
      have hF : ∀ a, Sc.F a = if bor a then S.H a else S.F a := fun _ => rfl
      have sF : Same S.F Sc.F := fun a o e => by
        rw [hF]
        by_cases q : bor a
        · have z := s.ownF a (borO a q)
          rw [z] at e
          cases e
        · rw [if_neg q]
          exact e
      have satc : Sat X.K X.mg vs Sc (vs.map some) ps := by
        refine ⟨fun a o e => ?_, fun p hp => ?_, fun p hp => s.ownH p (ioO p hp), by simp [hvl, hl], ⟨fun j a => ∃ i : Nat, os[j]? = some (Opd.io i) ∧ fp i a, fun j sl e => ?_, fun j a ⟨i, e, h1⟩ => ⟨i, j, e, h1⟩, fun j l a ⟨i, e1, h1⟩ ⟨i', e2, h2⟩ => ?_⟩, fun j o e => ?_⟩
        · rw [hF] at e
          by_cases q : bor a
          · rw [if_pos q] at e
            exact e
          · rw [if_neg q] at e
            exact s.sub a o e
        · rw [hF, if_neg (dis p hp)]
          exact s.ownF p (ioO p hp)
        · obtain ⟨o, d, e1, e2, hso⟩ := hget j sl e
          obtain ⟨v, e3, hv⟩ := ha.get e1 e2
          refine ⟨some v, by rw [List.getElem?_map, e3]; rfl, ?_⟩
          cases o with
          | ev f =>
            have q : sl = .va d := hso
            subst q
            exact ⟨v, rfl, RD.mono sF hv⟩
          | br i =>
            obtain ⟨x, q1, q2⟩ := hso
            subst q2
            refine ⟨v, rfl, ?_⟩
            have hv' : σ[i]? = some (some v) := hv
            unfold peek at q1
            split at q1
            · rename_i h2
              cases q1
              obtain ⟨w, z1, z2⟩ := s.va h2
              rw [hv'] at z1
              cases z1
              exact z2.mono sF
            · rename_i h2
              obtain ⟨w, z1, u, z2, r⟩ := s1 i _ h2
              rw [hv', z2] at z1
              cases z1
              obtain ⟨p, hho, r1, r2, r3, r4⟩ := r.freeze q1
              refine r4 _ sF ?_
              rw [hF, if_pos ⟨i, j, e1, r3⟩]
              exact r2
            · cases q1
          | io i =>
            obtain ⟨b, u, q1, q2⟩ := hso
            subst q2
            have hv' : σ[i]? = some (some v) := hv
            obtain ⟨w, z1, u', z2, r⟩ := s1 i _ q1
            rw [hv', z2] at z1
            cases z1
            exact ⟨_, rfl, (r.grow sF fun _ _ _ z => z).wide fun p hp => ⟨i, e1, hp⟩⟩
        · have e := s3 i i' a h1 h2
          subst e
          refine Classical.byContradiction fun hne => ?_
          have key : ∀ {os : List Opd} {j l : Nat}, (iosOf os).Nodup → os[j]? = some (Opd.io i) → os[l]? = some (Opd.io i) → j = l := by
            intro os
            induction os with
            | nil =>
              intro j l _ e1 _
              simp at e1
            | cons o os ih =>
              intro j l hn e1 e2
              cases j with
              | zero =>
                cases l with
                | zero => rfl
                | succ l =>
                  cases e1
                  exact absurd (mem_ios.mpr ⟨l, by simpa using e2⟩) (List.nodup_cons.mp (show (i :: iosOf os).Nodup from hn)).1
              | succ j =>
                cases l with
                | zero =>
                  cases e2
                  exact absurd (mem_ios.mpr ⟨j, by simpa using e1⟩) (List.nodup_cons.mp (show (i :: iosOf os).Nodup from hn)).1
                | succ l =>
                  have hn' : (iosOf os).Nodup := by
                    cases o with
                    | io k => exact (List.nodup_cons.mp (show (k :: iosOf os).Nodup from hn)).2
                    | ev f => exact hn
                    | br k => exact hn
                  exact congrArg (· + 1) (ih (j := j) (l := l) hn' (by simpa using e1) (by simpa using e2))
          exact hne (key hok.1 e1 e2)
        · obtain ⟨o', d, e1, e2, hso⟩ := hget j _ e
          obtain ⟨v, e3, hv⟩ := ha.get e1 e2
          exact ⟨v, by rw [List.getElem?_map, e3]; rfl, e3⟩
      have bk : ∀ S' ps' ρ', Ev Sc S' → Sat X.K X.mg vs S' (vs.map some) ps' → back os ps' ρ = some ρ' → ((brsOf os).isEmpty = true ∨ ps'.all flatO = true) → ∃ S2 : Cfg, S2.H = S'.H ∧ Ev S S2 ∧ Sat X.K X.mg A S2 σ ρ' ∧ ((brsOf os).isEmpty = true → Same S'.F S2.F) := fun S' ps' ρ' ev s' hb hsafe => by
        obtain ⟨fq, t1, t2, t3⟩ := s'.sl
        obtain ⟨bl, bg⟩ := back_get hok.1 hb
        have hF2 : ∀ a, (backCfg S S' bor io).F a = if bor a then none else S'.F a := fun _ => rfl
        have noB : (brsOf os).isEmpty = true → ∀ a, ¬ bor a := fun hz a ⟨i, j, e1, _⟩ => by
          have m := mem_brs ⟨j, e1⟩
          cases hq : brsOf os with
          | nil =>
            rw [hq] at m
            cases m
          | cons a b =>
            rw [hq] at hz
            cases hz
        have sF2 : Same S.F (backCfg S S' bor io).F := fun a o e => by
          have nb : ¬ bor a := fun q => by
            rw [s.ownF a (borO a q)] at e
            cases e
          rw [hF2, if_neg nb]
          exact ev.frz a o (sF a o e)
        refine ⟨backCfg S S' bor io, rfl, ⟨fun a o e n => ev.same a o e fun q => n (ioO a q), sF2, fun a o e n => ?_, fun p hp => ?_, ev.there⟩, ⟨fun a o e => ?_, fun p hp => ?_, fun p hp => ?_, by rw [bl]; exact s.len, ⟨fun i a => (i ∉ iosOf os ∧ fp i a) ∨ ∃ j : Nat, os[j]? = some (Opd.io i) ∧ fq j a, fun i sl e => ?_, fun i p hp => ?_, fun i l p h1 h2 => ?_⟩, fun i o e => ?_⟩, fun hz a o e => ?_⟩
        · have nb : ¬ bor a := fun q => n (borO a q)
          rw [hF2, if_neg nb, ev.newF a o e fun q => n (ioO a q), hF, if_neg nb]
        · rcases hp with hp | hp
          · exact .inl hp.1
          · rcases ev.own p hp with q | q
            · exact .inl (ioO p q)
            · exact .inr q
        · rw [hF2] at e
          by_cases q : bor a
          · rw [if_pos q] at e
            cases e
          · rw [if_neg q] at e
            exact s'.sub a o e
        · rw [hF2]
          by_cases q : bor p
          · rw [if_pos q]
          · rw [if_neg q]
            rcases hp with hp | hp
            · obtain ⟨o, e⟩ := s.ownH p hp.1
              rw [ev.newF p o e hp.2, hF, if_neg q]
              exact s.ownF p hp.1
            · exact s'.ownF p hp
        · rcases hp with hp | hp
          · obtain ⟨o, e⟩ := s.ownH p hp.1
            exact ⟨o, ev.same p o e hp.2⟩
          · exact s'.ownH p hp
        · rcases bg i sl e with ⟨z1, z2⟩ | ⟨j, b, u, u0, z1, z2, z3, z4⟩
          · obtain ⟨v, q1, q2⟩ := s1 i sl z2
            refine ⟨v, q1, ((q2.grow sF2 fun p o hp hh => ev.same p o hh fun ⟨i', j', e', hp'⟩ => ?_)).wide fun p hp => .inl ⟨z1, hp⟩⟩
            have ee := s3 i i' p hp hp'
            subst ee
            exact z1 (mem_ios.mpr ⟨j', e'⟩)
          · subst z4
            obtain ⟨v, q1, w, q2, r⟩ := t1 j _ z2
            subst q2
            obtain ⟨v0, y1, w0, y2, _⟩ := s1 i _ z3
            have ej : ∃ d, ds[j]? = some d := by
              have : j < os.length := (List.getElem?_eq_some_iff.mp z1).1
              exact ⟨ds[j]'(by omega), List.getElem?_eq_getElem _⟩
            obtain ⟨d, ed⟩ := ej
            obtain ⟨v1, x1, x2⟩ := ha.get z1 ed
            have x2' : σ[i]? = some (some v1) := x2
            rw [List.getElem?_map, x1] at q1
            have hw : v1 = w := by
              have := Option.some.inj q1
              exact Option.some.inj this
            subst hw
            refine ⟨some v1, x2', v1, rfl, ?_⟩
            have fin : OwR X.K X.mg (backCfg S S' bor io) v1 u (fq j) := by
              rcases hsafe with hz | hz
              · refine r.grow (S' := backCfg S S' bor io) (fun a o e => ?_) fun _ _ _ z => z
                rw [hF2, if_neg (noB hz a)]
                exact e
              · have hfl : flatO (Sl.ow true u) = true := List.all_eq_true.mp hz _ (List.mem_of_getElem? z2)
                cases u with
                | lst xs =>
                  obtain ⟨p, us, r1, r2, r3, r4⟩ := r
                  exact ⟨p, us, r1, r2, flat_rds hfl r3, r4⟩
                | dK ks xs =>
                  obtain ⟨p, us, r1, r2, r3, r4, r5⟩ := r
                  exact ⟨p, us, r1, r2, r3, flat_rds hfl r4, r5⟩
                | dT ks xs =>
                  obtain ⟨p, us, r1, r2, r3, r4, r5⟩ := r
                  exact ⟨p, us, r1, r2, r3, flat_rds hfl r4, r5⟩
                | deal L b =>
                  obtain ⟨p, q, r1, r2, r3, r4, r5, r6⟩ := r
                  exact ⟨p, q, r1, r2, r3, r4, r5, r6⟩
                | obj c ns xs =>
                  obtain ⟨p, C, dx, us, r1, r2, r3, r4, r5, r6⟩ := r
                  exact ⟨p, C, dx, us, r1, r2, r3, r4, flat_rds hfl r5, r6⟩
            exact fin.wide fun p hp => .inr ⟨j, z1, hp⟩
        · rcases hp with ⟨z1, z2⟩ | ⟨j, z1, z2⟩
          · refine .inl ⟨s2 i p z2, fun ⟨i', j', e', hp'⟩ => ?_⟩
            have ee := s3 i i' p z2 hp'
            subst ee
            exact z1 (mem_ios.mpr ⟨j', e'⟩)
          · exact .inr (t2 j p z2)
        · have mix : ∀ {i l : Nat}, (i ∉ iosOf os ∧ fp i p) → (∃ j : Nat, os[j]? = some (Opd.io l) ∧ fq j p) → False := fun {i l} ⟨z1, z2⟩ ⟨j, z3, z4⟩ => by
            obtain ⟨o, e⟩ := s.ownH p (s2 i p z2)
            rcases ev.own p (t2 j p z4) with ⟨i', j', e', hp'⟩ | q
            · have ee := s3 i i' p z2 hp'
              subst ee
              exact z1 (mem_ios.mpr ⟨j', e'⟩)
            · have q' : S.H p = none := q
              rw [e] at q'
              cases q'
          rcases h1 with h1 | h1
          · rcases h2 with h2 | h2
            · exact s3 i l p h1.2 h2.2
            · exact (mix h1 h2).elim
          · rcases h2 with h2 | h2
            · exact (mix h2 h1).elim
            · obtain ⟨j, e1, q1⟩ := h1
              obtain ⟨j', e2, q2⟩ := h2
              have ej := t3 j j' p q1 q2
              subst ej
              rw [e1] at e2
              cases e2
              rfl
        · rcases bg i _ e with ⟨z1, z2⟩ | ⟨j, b, u, u0, z1, z2, z3, z4⟩
          · exact s.io i o z2
          · cases z4
            exact s.io i _ z3
        · rw [hF2, if_neg (noB hz a)]
          exact e
      refine ⟨by omega, Sc, ps, rfl, satc, ?_⟩
      cases hr : sem ps with
      | ok d ps' =>
        rw [hr] at h
        intro S' v ev s' r
        cases hsf : safe os d ps' with
        | false =>
          simp only [hsf] at h
          exact (show False from h).elim
        | true =>
          simp only [hsf, if_true] at h
          cases hb : back os ps' ρ with
          | none =>
            rw [hb] at h
            exact (show False from h).elim
          | some ρ' =>
            rw [hb] at h
            unfold safe at hsf
            simp only [Bool.or_eq_true, Bool.and_eq_true] at hsf
            obtain ⟨S2, e2, ev2, sat2, hF⟩ := bk S' ps' ρ' ev s' hb (hsf.imp id fun z => z.2)
            rw [← e2]
            refine h S2 v ev2 sat2 ?_
            rcases hsf with z | z
            · exact r.mono (hF z)
            · exact flat_rd z.1 r
      | err c d ps' =>
        rw [hr] at h
        intro S' C cd v hc ev s' hcd r
        cases hsf : safe os d ps' with
        | false =>
          simp only [hsf] at h
          exact (show False from h).elim
        | true =>
          simp only [hsf, if_true] at h
          cases hb : back os ps' ρ with
          | none =>
            rw [hb] at h
            exact (show False from h).elim
          | some ρ' =>
            rw [hb] at h
            unfold safe at hsf
            simp only [Bool.or_eq_true, Bool.and_eq_true] at hsf
            obtain ⟨S2, e2, ev2, sat2, hF⟩ := bk S' ps' ρ' ev s' hb (hsf.imp id fun z => z.2)
            show W (.ref C) (some cd) σ S'.H
            rw [← e2]
            refine h S2 σ C cd v hc ev2 sat2 (by rw [e2]; exact hcd) ?_
            rcases hsf with z | z
            · exact r.mono (hF z)
            · exact flat_rd z.1 r
      | stuck =>
        rw [hr] at h
        exact (show False from h).elim
/-- f(e, ..) -/
theorem pd_call {k n : Nat} {f : Addr} {fd : FuncData} {ps : List Str} {sem : Sem'} {x : Str} {p pos : Pos} {e : Expr} {es : List Expr} {os : List Opd} (F : FnG X.prog X.w X.K X.mg X.base k f fd ps (spD X.K X.mg n sem)) (hr : Room k X.A) (hgd : X.A.guards = some []) (hg : Gl X x) (hm : X.mg x = some (.ref f))
    (hk : PySem.W.keepIn X.K (.ref f) = true) (hb : Binds X.K fd ps []) (tk : Takes X W) (hn : os.length = n) (ha : PAr X A W (e :: es) os) (hdb : (x == ("__debug__" : Str)) = false := by decide)
    (he : starEach (e :: es) X.env = (false, eval e X.env) :: starEach es X.env := by rfl) (hpl : (backTo pos (starEach es X.env)).any (·.1) = false := by rfl) : PD X A W (.Call (.Name x p) (e :: es) [] pos) (eCall sem os) := by
  refine PE.imp (pe_callG F hr hgd hg hm hk hb (fun σ => passAt tk σ) ha hdb he hpl) fun σ H Q h => ?_
  obtain ⟨S, ρ, rfl, s, h⟩ := h
  refine args_bind (P := PostE X.K X.mg A W Q S σ) (fun z => z) (fun _ _ _ z => z) s h fun ds ρ1 S1 vs hp ev s1 ok => ?_
  exact call_sp hn s1 ok (PostE.ev hp ev)
end
end DL
end

section
set_option Elab.async false
set_option linter.all false
set_option maxRecDepth 100000
/-! New lists, displays, owned lists. -/
namespace DL
open PySem PySem.Spec PyProof.Rows L2
section
variable (K : PySem.W.Frag) (mg : Str → Option Value) (A : List V) (W : WX)
/-- a new list -/
def PostL (Q : VK) (S : Cfg) (σ : L2.St) : Out (List D) → Prop
  | .ok xs ρ' => ∀ S' p vs, Ev S S' → Sat K mg A S' σ ρ' → RDs K mg S'.F xs vs → S'.H p = some (.lst vs) → S'.F p = none → ¬ S'.O p → S.H p = none → Q (.ref p) S'.H
  | .err c d ρ' => PostX K mg A W S c d ρ'
  | .stuck => False
def tL (f : EM (List D)) : TE := fun σ H Q => ∃ S ρ, S.H = H ∧ Sat K mg A S σ ρ ∧ PostL K mg A W Q S σ (f ρ)
end
abbrev PL (X : Cx) (A : List V) (W : WX) (e : Expr) (f : EM (List D)) : Prop := PE X e (tL X.K X.mg A W f)
def eL (f : EM (List D)) : EM D := fun ρ => (f ρ).bind fun xs ρ1 => .ok (.lst xs) ρ1
section
variable {X : Cx} {A : List V} {W : WX} {S S' : Cfg} {σ : L2.St} {ρ : Env'}
/-- a thing laid apart becomes frozen -/
theorem Sat.fzRaw {K : PySem.W.Frag} {mg : Str → Option Value} (s : Sat K mg A S σ ρ) {p : Addr} {o : HO} (hp : S.H p = some o) (hF : S.F p = none) (hO : ¬ S.O p) : Sat K mg A ⟨upd S.F p o, S.H, S.O⟩ σ ρ := by
  obtain ⟨fp, s1, s2, s3⟩ := s.sl
  have sF : Same S.F (upd S.F p o) := same_upd hF
  refine ⟨fun a u e => ?_, fun q h => ?_, s.ownH, s.len, ⟨fp, fun i sl e => ?_, s2, s3⟩, s.io⟩
  · have e' : upd S.F p o a = some u := e
    by_cases q : a = p
    · subst q
      rw [upd_same] at e'
      cases e'
      exact hp
    · rw [upd_ne q] at e'
      exact s.sub a u e'
  · show upd S.F p o q = none
    rw [upd_ne (fun z : q = p => hO (by rw [← z]; exact h))]
    exact s.ownF q h
  · obtain ⟨v, q1, q2⟩ := s1 i sl e
    exact ⟨v, q1, q2.grow sF fun _ _ _ z => z⟩
theorem Ev.fzRaw {S0 : Cfg} (e : Ev S0 S) {p : Addr} {o : HO} (hF : S.F p = none) (h0 : S0.H p = none) : Ev S0 ⟨upd S.F p o, S.H, S.O⟩ :=
  ⟨e.same, fun a u q => same_upd hF a u (e.frz a u q), fun a u q n => by
    show upd S.F p o a = S0.F a
    rw [upd_ne (ne_of_none q h0)]
    exact e.newF a u q n, e.own, e.there⟩
theorem pl_pd {e : Expr} {f : EM (List D)} (h : PL X A W e f) : PD X A W e (eL f) := PE.imp h fun σ H Q h => by
  obtain ⟨S, ρ, rfl, s, h⟩ := h
  refine ⟨S, ρ, rfl, s, ?_⟩
  have h' : PostE X.K X.mg A W Q S σ ((f ρ).bind fun xs ρ1 => .ok (.lst xs) ρ1) := h
  cases e : f ρ with
  | ok xs ρ' =>
    rw [e] at h'
    intro S' p vs ev s' r hp hF hO h0
    exact h' ⟨upd S'.F p (.lst vs), S'.H, S'.O⟩ (.ref p) (ev.fzRaw hF h0) (s'.fzRaw hp hF hO) ⟨p, vs, rfl, upd_same, r.mono (same_upd hF)⟩
  | err c d ρ' =>
    rw [e] at h'
    exact h'
  | stuck =>
    rw [e] at h'
    exact h'
theorem ArgsOk.rdsEv : ∀ {vs : List V} {fs : List (EM D)} {ds : List D}, ArgsOk X A S σ vs (fs.map Opd.ev) ds → RDs X.K X.mg S.F ds vs
  | [], [], [], _ => rfl
  | v :: vs, f :: fs, d :: ds, h => ⟨v, vs, rfl, h.1, ArgsOk.rdsEv h.2⟩
  | [], _ :: _, _, h => h.elim
  | [], [], _ :: _, h => h.elim
  | _ :: _, [], _, h => h.elim
  | _ :: _, _ :: _, [], h => h.elim
/-- a new object laid at a free place -/
theorem laid {K : PySem.W.Frag} {mg : Str → Option Value} {Q : VK} {S0 S : Cfg} {xs : List D} {vs : List V} (ev : Ev S0 S) (s : Sat K mg A S σ ρ) (r : RDs K mg S.F xs vs) (h : PostL K mg A W Q S0 σ (.ok xs ρ)) (p : Addr) (hp : S.H p = none) : Q (.ref p) (upd S.H p (.lst vs)) := by
  have g : Gr S (S.raw p (.lst vs)) := .raw s.sub hp
  exact h (S.raw p (.lst vs)) p vs (ev.trans g.ev) (s.gr g) r upd_same (none_sub s.sub hp) (fun q => by
    obtain ⟨o, e⟩ := s.ownH p q
    rw [hp] at e
    cases e) (ev.nil hp)
theorem PostL.err {K : PySem.W.Frag} {mg : Str → Option Value} {Q : VK} {c : Str} {d : D} {ρ' : Env'} (h : PostL K mg A W Q S σ (.err c d ρ')) : PostX K mg A W S c d ρ' := h
/-- [e, ..] -/
theorem pl_disp {es : List Expr} {fs : List (EM D)} {pos : Pos} (ha : PAr X A W es (fs.map Opd.ev)) (hn : fs.length ≤ 1000) : PL X A W (.List es pos) (argGo (fs.map Opd.ev)) := PE.imp (pe_lst ha) fun σ H Q h => by
  obtain ⟨S, ρ, rfl, s, h⟩ := h
  refine args_bind (P := fun r => PostL X.K X.mg A W Q S σ (r.bind fun ds ρ1 => .ok ds ρ1)) (g := fun ds ρ1 => .ok ds ρ1) (fun z => z) (fun _ _ _ z => z) s ?_ fun ds ρ1 S1 vs hp ev s1 ok => ?_
  · cases e : argGo (fs.map Opd.ev) ρ with
    | ok ds ρ1 =>
      rw [e] at h
      exact h
    | err c d ρ1 =>
      rw [e] at h
      exact h
    | stuck =>
      rw [e] at h
      exact h
  · refine ⟨?_, fun p np => laid ev s1 ok.rdsEv hp p np⟩
    rw [(ok.lens).1, List.length_map]
    exact Nat.le_of_lt (small1000 hn)
def eTup (fs : List (EM D)) : EM D := fun ρ => (argGo (fs.map Opd.ev) ρ).bind fun ds ρ1 => .ok (.tup ds) ρ1
theorem pd_tup {x1} {es : List Expr} {fs : List (EM D)} {pos : Pos} (ha : PAr X A W es (fs.map Opd.ev)) (hn : fs.length ≤ 1000) : PD X A W (.Tuple es x1 pos) (eTup fs) := PE.imp (pe_tup ha) fun σ H Q h => by
  obtain ⟨S, ρ, rfl, s, h⟩ := h
  refine args_bind (P := PostE X.K X.mg A W Q S σ) (fun z => z) (fun _ _ _ z => z) s h fun ds ρ1 S1 vs hp ev s1 ok => ?_
  refine ⟨?_, fun p np => ?_⟩
  · rw [(ok.lens).1, List.length_map]
    exact Nat.le_of_lt (small1000 hn)
  · have g : Gr S1 (S1.fz p (.tup vs)) := .fz s1.sub np
    exact hp (S1.fz p (.tup vs)) (.ref p) (ev.trans g.ev) (s1.gr g) ⟨p, vs, rfl, upd_same, ok.rdsEv.mono g.F⟩

/-! ### owned lists -/
/-- x = a new list that the body owns -/
def sOwn (i : Nat) (f : EM (List D)) : SM := fun ρ => (f ρ).fl fun xs ρ1 => putSl ρ1 i (.ow false (.lst xs))
theorem Sat.own {K : PySem.W.Frag} {mg : Str → Option Value} (s : Sat K mg A S σ ρ) {i : Nat} {p : Addr} {o : Ow} {ho : HO} (hio : isIo ρ[i]? = false) (hp : S.H p = some ho) (hF : S.F p = none) (hO : ¬ S.O p)
    (r : OwR K mg ⟨S.F, S.H, fun a => S.O a ∨ a = p⟩ (.ref p) o (fun a => a = p)) : Sat K mg A ⟨S.F, S.H, fun a => S.O a ∨ a = p⟩ (σ.set i (some (.ref p))) (ρ.set i (.ow false o)) := by
  obtain ⟨fp, s1, s2, s3⟩ := s.sl
  refine ⟨s.sub, fun q h => ?_, fun q h => ?_, by simp [s.len], ⟨fun j a => if j = i then a = p else fp j a, fun j sl e => ?_, fun j q h => ?_, fun j l q h1 h2 => ?_⟩, fun j u e => ?_⟩
  · rcases h with h | h
    · exact s.ownF q h
    · rw [h]
      exact hF
  · rcases h with h | h
    · exact s.ownH q h
    · rw [h]
      exact ⟨ho, hp⟩
  · by_cases hj : j = i
    · subst hj
      have hlt : j < ρ.length := by
        have := (List.getElem?_eq_some_iff.mp e).1
        simpa using this
      rw [List.getElem?_set_self hlt] at e
      cases e
      refine ⟨some (.ref p), List.getElem?_set_self (by rw [s.len]; exact hlt), .ref p, rfl, r.wide fun a ha => ?_⟩
      show if j = j then a = p else fp j a
      rw [if_pos rfl]
      exact ha
    · rw [List.getElem?_set_ne (Ne.symm hj)] at e
      obtain ⟨w, q1, q2⟩ := s1 j sl e
      refine ⟨w, by rw [List.getElem?_set_ne (Ne.symm hj)]; exact q1, (q2.grow (S' := ⟨S.F, S.H, fun a => S.O a ∨ a = p⟩) (fun _ _ z => z) fun _ _ _ z => z).wide fun a ha => ?_⟩
      show if j = i then a = p else fp j a
      rw [if_neg hj]
      exact ha
  · have h' : if j = i then q = p else fp j q := h
    by_cases hj : j = i
    · rw [if_pos hj] at h'
      exact .inr h'
    · rw [if_neg hj] at h'
      exact .inl (s2 j q h')
  · have h1' : if j = i then q = p else fp j q := h1
    have h2' : if l = i then q = p else fp l q := h2
    by_cases hj : j = i
    · by_cases hl : l = i
      · rw [hj, hl]
      · rw [if_pos hj] at h1'
        rw [if_neg hl] at h2'
        exact (hO (h1' ▸ s2 l q h2')).elim
    · rw [if_neg hj] at h1'
      by_cases hl : l = i
      · rw [if_pos hl] at h2'
        exact (hO (h2' ▸ s2 j q h1')).elim
      · rw [if_neg hl] at h2'
        exact s3 j l q h1' h2'
  · by_cases hj : j = i
    · subst hj
      have hlt : j < ρ.length := by
        have := (List.getElem?_eq_some_iff.mp e).1
        simpa using this
      rw [List.getElem?_set_self hlt] at e
      cases e
    · rw [List.getElem?_set_ne (Ne.symm hj)] at e ⊢
      exact s.io j u e
theorem Ev.ownRaw {S0 : Cfg} (e : Ev S0 S) {p : Addr} (h0 : S0.H p = none) : Ev S0 ⟨S.F, S.H, fun a => S.O a ∨ a = p⟩ := ⟨e.same, e.frz, e.newF, fun q h => by
  rcases h with h | h
  · exact e.own q h
  · rw [h]
    exact .inr h0, e.there⟩
theorem psd_own (i : Nat) {x : Str} {e : Expr} {f : EM (List D)} {pos pos' : Pos} (hN : X.N.Nodup) (he : PL X A W e f) (hi : X.N[i]? = some x := by rfl) (hx : Loc X.env.scope x := by first | exact Or.inl rfl | exact Or.inr rfl) (hs : swapsWith e (some (.Name x pos')) pos.line X.env = pure false := by rfl)
    (hf : X.fn x = true ∨ X.env.scope.names.lookup x = some .local := by first | exact .inl rfl | exact .inr rfl | assumption) : PSD X A W (.Assign [.Name x pos'] e pos) (sOwn i f) := PS.imp (ps_set hN hi hx he hs hf) fun D σ H h => by
  obtain ⟨S, ρ, rfl, s, h⟩ := h
  refine ⟨S, ρ, rfl, s, ?_⟩
  have h' : PostS X.K X.mg A W D S ((f ρ).fl fun xs ρ1 => putSl ρ1 i (.ow false (.lst xs))) := h
  cases e : f ρ with
  | ok xs ρ1 =>
    rw [e] at h'
    intro S' p vs ev s' r hp hF hO h0
    have h2 : PostS X.K X.mg A W D S (putSl ρ1 i (.ow false (.lst xs))) := h'
    obtain ⟨k1, k2⟩ := putSl_ok h2
    exact k2 ⟨S'.F, S'.H, fun a => S'.O a ∨ a = p⟩ _ (ev.ownRaw h0) (s'.own k1 hp hF hO ⟨p, vs, rfl, hp, r, rfl⟩)
  | err c d ρ1 =>
    rw [e] at h'
    exact h'
  | stuck =>
    rw [e] at h'
    exact h'
/-- the list in slot i, owned, becomes another -/
theorem Sat.mutL {K : PySem.W.Frag} {mg : Str → Option Value} (s : Sat K mg A S σ ρ) {i : Nat} {b : Bool} {xs : List D} (hi : ρ[i]? = some (Sl.ow b (.lst xs))) :
    ∃ p vs, σ[i]? = some (some (.ref p)) ∧ S.H p = some (.lst vs) ∧ RDs K mg S.F xs vs ∧ ∀ ys us, RDs K mg S.F ys us → Ev S ⟨S.F, upd S.H p (.lst us), S.O⟩ ∧ Sat K mg A ⟨S.F, upd S.H p (.lst us), S.O⟩ σ (ρ.set i (.ow b (.lst ys))) := by
  obtain ⟨fp, s1, s2, s3⟩ := s.sl
  obtain ⟨v, e1, u, e2, p, vs, hv, hp, hr, hfp⟩ := s1 i _ hi
  subst e2
  subst hv
  have hO := s2 i p hfp
  refine ⟨p, vs, e1, hp, hr, fun ys us r => ⟨⟨fun a o e n => ?_, fun _ _ z => z, fun _ _ _ _ => rfl, fun q h => .inl h, fun a o e => ?_⟩, ⟨fun a o e => ?_, s.ownF, fun q h => ?_, by simp [s.len], ⟨fp, fun j sl e => ?_, s2, s3⟩, fun j o e => ?_⟩⟩⟩
  · show upd S.H p (.lst us) a = some o
    rw [upd_ne (fun z : a = p => n (by rw [z]; exact hO))]
    exact e
  · by_cases q : a = p
    · exact ⟨_, by rw [q]; exact upd_same⟩
    · exact ⟨o, by show upd S.H p (.lst us) a = some o; rw [upd_ne q]; exact e⟩
  · show upd S.H p (.lst us) a = some o
    have na : a ≠ p := fun z => by
      rw [z, s.ownF p hO] at e
      cases e
    rw [upd_ne na]
    exact s.sub a o e
  · by_cases z : q = p
    · exact ⟨_, by rw [z]; exact upd_same⟩
    · obtain ⟨o, e⟩ := s.ownH q h
      exact ⟨o, by show upd S.H p (.lst us) q = some o; rw [upd_ne z]; exact e⟩
  · by_cases hj : j = i
    · subst hj
      rw [List.getElem?_set_self (List.getElem?_eq_some_iff.mp hi).1] at e
      cases e
      exact ⟨_, e1, .ref p, rfl, p, us, rfl, upd_same, r, hfp⟩
    · rw [List.getElem?_set_ne (Ne.symm hj)] at e
      obtain ⟨w, q1, q2⟩ := s1 j sl e
      refine ⟨w, q1, q2.grow (fun _ _ z => z) fun q o hq hh => ?_⟩
      show upd S.H p (.lst us) q = some o
      have : q ≠ p := fun z => hj (s3 j i p (z ▸ hq) hfp)
      rw [upd_ne this]
      exact hh
  · by_cases hj : j = i
    · subst hj
      rw [List.getElem?_set_self (List.getElem?_eq_some_iff.mp hi).1] at e
      cases e
      exact s.io j _ hi
    · rw [List.getElem?_set_ne (Ne.symm hj)] at e
      exact s.io j o e
def ownL (ρ : Env') (i : Nat) : Option (Bool × List D) := match ρ[i]? with
  | some (.ow b (.lst xs)) => some (b, xs)
  | _ => none
theorem ownL_eq {i : Nat} {b : Bool} {xs : List D} (h : ownL ρ i = some (b, xs)) : ρ[i]? = some (Sl.ow b (.lst xs)) := by
  unfold ownL at h
  split at h
  · rename_i e
    cases h
    exact e
  · cases h
/-- x.append(e) -/
def sApp (i : Nat) (f : EM D) : SM := fun ρ => if (ownL ρ i).isSome = true then (f ρ).fl fun d ρ1 => match ownL ρ1 i with
  | some (b, xs) => if xs.length < 1000000 then .nx (ρ1.set i (.ow b (.lst (xs ++ [d])))) else .stuck
  | none => .stuck else .stuck
theorem psd_app (i : Nat) {x : Str} {e : Expr} {f : EM D} {p1 p2 p3 p4 : Pos} (he : PD X A W e f) (hN : X.N[i]? = some x := by rfl) (hv : Vis X.env.scope x := by first | exact Or.inl rfl | exact Or.inr (Or.inl rfl) | exact Or.inr (Or.inr rfl))
    (hd : (x == ("__debug__" : Str)) = false := by decide) (hcd : (x == ("__classdict__" : Str)) = false := by decide)
    (hm : ∀ {t : TE}, PE X e t → PE X (.Call (.Attribute (.Name x p1) "append" p2) [e] [] p3) (tBM X.K "list" rAppend (tVar i) (tCons t tNil)))
    (hs : swapsWith (.Call (.Attribute (.Name x p1) "append" p2) [e] [] p3) none p4.line X.env = pure false := by rfl) :
    PSD X A W (.Expr (.Call (.Attribute (.Name x p1) "append" p2) [e] [] p3) p4) (sApp i f) := PS.imp (ps_expr (hm he) hs) fun D σ H h => by
  obtain ⟨S, ρ, rfl, s, h⟩ := h
  have h' : PostS X.K X.mg A W D S (if (ownL ρ i).isSome = true then (f ρ).fl fun d ρ1 => match ownL ρ1 i with
    | some (b, xs) => if xs.length < 1000000 then .nx (ρ1.set i (.ow b (.lst (xs ++ [d])))) else .stuck
    | none => .stuck else .stuck) := h
  cases e0 : ownL ρ i with
  | none =>
    rw [e0] at h'
    exact (show False from h').elim
  | some bx =>
    obtain ⟨b0, xs0⟩ := bx
    rw [e0] at h'
    obtain ⟨p0, vs0, q1, q2, _, _⟩ := s.mutL (ownL_eq e0)
    refine ⟨.ref p0, q1, .inl ⟨rfl, _, SqL.of q2⟩, ?_⟩
    refine tD_fl s h' fun d ρ1 S1 v hp ev s1 r => ?_
    cases e1 : ownL ρ1 i with
    | none =>
      rw [e1] at hp
      exact (show False from hp).elim
    | some bx =>
      obtain ⟨b, xs⟩ := bx
      rw [e1] at hp
      obtain ⟨p, vs, z1, z2, z3, z4⟩ := s1.mutL (ownL_eq e1)
      rw [q1] at z1
      cases z1
      have hp' : PostS X.K X.mg A W D S (if xs.length < 1000000 then .nx (ρ1.set i (.ow b (.lst (xs ++ [d])))) else .stuck) := hp
      by_cases hl : xs.length < 1000000
      · rw [if_pos hl] at hp'
        obtain ⟨y1, y2⟩ := z4 (xs ++ [d]) (vs ++ [v]) (z3.app (RDs.one r))
        exact ⟨p0, vs, v, rfl, rfl, z2, Nat.lt_of_lt_of_le (by rw [← z3.length]; exact hl) (by decide), hp' _ σ (ev.trans y1) y2⟩
      · rw [if_neg hl] at hp'
        exact (show False from hp').elim
/-- x.pop() -/
def ePop (i : Nat) : EM D := fun ρ => match ownL ρ i with
  | some (b, xs) => match xs.getLast? with
    | some d => .ok d (ρ.set i (.ow b (.lst xs.dropLast)))
    | none => .stuck
  | none => .stuck
theorem pd_pop (i : Nat) {x : Str} {p1 p2 p3 : Pos} (hm : PE X (.Call (.Attribute (.Name x p1) "pop" p2) [] [] p3) (tBM0 X.K "list" rPop (tVar i))) : PD X A W (.Call (.Attribute (.Name x p1) "pop" p2) [] [] p3) (ePop i) := PE.imp hm fun σ H Q h => by
  obtain ⟨S, ρ, rfl, s, h⟩ := h
  have h' : PostE X.K X.mg A W Q S σ (match ownL ρ i with
    | some (b, xs) => match xs.getLast? with
      | some d => .ok d (ρ.set i (.ow b (.lst xs.dropLast)))
      | none => .stuck
    | none => .stuck) := h
  cases e1 : ownL ρ i with
  | none =>
    rw [e1] at h'
    exact (show False from h').elim
  | some bx =>
    obtain ⟨b, xs⟩ := bx
    rw [e1] at h'
    obtain ⟨p, vs, z1, z2, z3, z4⟩ := s.mutL (ownL_eq e1)
    cases e2 : xs.getLast? with
    | none =>
      simp only [e2] at h'
      exact (show False from h').elim
    | some d =>
      simp only [e2] at h'
      have e3 : xs[xs.length - 1]? = some d := by
        rw [List.getLast?_eq_getElem?] at e2
        exact e2
      obtain ⟨v, y1, y2⟩ := z3.get e3
      rw [z3.length] at y1
      have y3 : RDs X.K X.mg S.F xs.dropLast vs.dropLast := by
        rw [List.dropLast_eq_take, List.dropLast_eq_take, z3.length]
        exact z3.take _
      obtain ⟨w1, w2⟩ := z4 _ _ y3
      exact ⟨.ref p, z1, .inl ⟨rfl, _, SqL.of z2⟩, p, vs, v, rfl, rfl, z2, y1, h' _ v w1 w2 y2⟩
/-- x.pop(e) -/
def ePopAt (i : Nat) (f : EM D) : EM D := fun ρ => if (ownL ρ i).isSome = true then (f ρ).bind fun k ρ1 => match k, ownL ρ1 i with
  | .int j, some (b, xs) => if 0 ≤ j ∧ j < 1000000 then (match xs[j.toNat]? with
    | some d => .ok d (ρ1.set i (.ow b (.lst (xs.eraseIdx j.toNat))))
    | none => .stuck) else .stuck
  | _, _ => .stuck else .stuck
theorem RDs.erase {K : PySem.W.Frag} {mg : Str → Option Value} {F : Hp} : ∀ {ds : List D} {vs : List V} (n : Nat), RDs K mg F ds vs → RDs K mg F (ds.eraseIdx n) (vs.eraseIdx n)
  | [], _, _, h => by
    cases h
    rfl
  | d :: ds, _, 0, ⟨v, r, h1, h2, h3⟩ => by
    subst h1
    exact h3
  | d :: ds, _, n + 1, ⟨v, r, h1, h2, h3⟩ => by
    subst h1
    exact ⟨v, _, rfl, h2, RDs.erase n h3⟩
theorem pd_popAt (i : Nat) {x : Str} {e : Expr} {f : EM D} {p1 p2 p3 : Pos} (he : PD X A W e f) (hm : ∀ {t : TE}, PE X e t → PE X (.Call (.Attribute (.Name x p1) "pop" p2) [e] [] p3) (tBM X.K "list" rPopAt (tVar i) (tCons t tNil))) :
    PD X A W (.Call (.Attribute (.Name x p1) "pop" p2) [e] [] p3) (ePopAt i f) := PE.imp (hm he) fun σ H Q h => by
  obtain ⟨S, ρ, rfl, s, h⟩ := h
  have h' : PostE X.K X.mg A W Q S σ (if (ownL ρ i).isSome = true then (f ρ).bind fun k ρ1 => match k, ownL ρ1 i with
    | .int j, some (b, xs) => if 0 ≤ j ∧ j < 1000000 then (match xs[j.toNat]? with
      | some d => .ok d (ρ1.set i (.ow b (.lst (xs.eraseIdx j.toNat))))
      | none => .stuck) else .stuck
    | _, _ => .stuck else .stuck) := h
  cases e0 : ownL ρ i with
  | none =>
    rw [e0] at h'
    exact (show False from h').elim
  | some bx =>
    obtain ⟨b0, xs0⟩ := bx
    rw [e0] at h'
    obtain ⟨p0, vs0, q1, q2, _, _⟩ := s.mutL (ownL_eq e0)
    refine ⟨.ref p0, q1, .inl ⟨rfl, _, SqL.of q2⟩, ?_⟩
    refine tD_bind (P := PostE X.K X.mg A W Q S σ) s h' (fun _ _ _ z => z) (fun z => z) fun k ρ1 S1 v hp ev s1 r => ?_
    cases k with
    | int j =>
      cases e1 : ownL ρ1 i with
      | none =>
        simp only [e1] at hp
        exact (show False from hp).elim
      | some bx =>
        obtain ⟨b, xs⟩ := bx
        simp only [e1] at hp
        obtain ⟨p, vs, z1, z2, z3, z4⟩ := s1.mutL (ownL_eq e1)
        rw [q1] at z1
        cases z1
        by_cases hj : 0 ≤ j ∧ j < 1000000
        · rw [if_pos hj] at hp
          cases e2 : xs[j.toNat]? with
          | none =>
            simp only [e2] at hp
            exact (show False from hp).elim
          | some d =>
            simp only [e2] at hp
            obtain ⟨u, y1, y2⟩ := z3.get e2
            have hlt : j.toNat < vs.length := (List.getElem?_eq_some_iff.mp y1).1
            obtain ⟨w1, w2⟩ := z4 _ _ (z3.erase j.toNat)
            have r' : v = .int j := r
            subst r'
            refine ⟨p0, vs, j, j.toNat, u, rfl, rfl, z2, by omega, by omega, ?_, y1, hp _ u (ev.trans w1) w2 y2⟩
            unfold seqIndex?
            have h1 : ¬ j < 0 := by omega
            have h2 : j < (vs.length : Int) := by omega
            simp [h1]
            omega
        · rw [if_neg hj] at hp
          exact (show False from hp).elim
    | _ => exact (show False from hp).elim
/-- x[k] = e -/
def sSetIt (i : Nat) (fk fv : EM D) : SM := fun ρ => (fv ρ).fl fun d ρ1 => if (ownL ρ1 i).isSome = true then (fk ρ1).fl fun k ρ2 => match k, ownL ρ2 i with
  | .int j, some (b, xs) => if 0 ≤ j ∧ j < (xs.length : Int) ∧ xs.length < 1000000 then .nx (ρ2.set i (.ow b (.lst (xs.set j.toNat d)))) else .stuck
  | _, _ => .stuck else .stuck
theorem RDs.setAt {K : PySem.W.Frag} {mg : Str → Option Value} {F : Hp} {d : D} {v : V} (hd : RD K mg F d v) : ∀ {ds : List D} {vs : List V} (n : Nat), RDs K mg F ds vs → RDs K mg F (ds.set n d) (vs.set n v)
  | [], _, _, h => by
    cases h
    rfl
  | _ :: ds, _, 0, ⟨u, r, h1, h2, h3⟩ => by
    subst h1
    exact ⟨v, r, rfl, hd, h3⟩
  | d' :: ds, _, n + 1, ⟨u, r, h1, h2, h3⟩ => by
    subst h1
    exact ⟨u, _, rfl, h2, RDs.setAt hd n h3⟩
end
end DL
end

section
set_option Elab.async false
set_option linter.all false
set_option maxRecDepth 100000
/-! Targets, what is walked, comprehensions, loops. -/
namespace DL
open PySem PySem.Spec PyProof.Rows L2

theorem wipe_get (σ : L2.St) : ∀ (ws : List Nat) (j : Nat), (wipe σ ws)[j]? = if j ∈ ws then σ[j]?.map (fun _ => none) else σ[j]?
  | [], j => by simp [wipe]
  | w :: ws, j => by
    have ih := wipe_get σ ws j
    unfold wipe
    by_cases h : w = j
    · subst h
      by_cases hl : w < σ.length
      · rw [List.getElem?_set_self (by rw [wipe_length]; exact hl)]
        simp [hl]
      · rw [List.getElem?_eq_none (by rw [List.length_set, wipe_length]; omega)]
        simp [hl]
    · rw [List.getElem?_set_ne h, ih]
      have : ¬ j = w := fun z => h z.symm
      simp [this]
theorem wipe_set {σ : L2.St} {ws : List Nat} {i : Nat} {x : Option V} (hi : i ∈ ws) : wipe (σ.set i x) ws = wipe σ ws := by
  refine List.ext_getElem? fun j => ?_
  rw [wipe_get, wipe_get]
  by_cases h : j ∈ ws
  · rw [if_pos h, if_pos h]
    by_cases hj : i = j
    · subst hj
      rw [List.getElem?_set]
      by_cases hl : i < σ.length
      · simp [hl]
      · simp [hl]
    · rw [List.getElem?_set_ne hj]
  · rw [if_neg h, if_neg h, List.getElem?_set_ne (fun z : i = j => h (by rw [← z]; exact hi))]
theorem wipe_wipe {σ : L2.St} {ws : List Nat} : wipe (wipe σ ws) ws = wipe σ ws := by
  refine List.ext_getElem? fun j => ?_
  rw [wipe_get, wipe_get]
  by_cases h : j ∈ ws
  · rw [if_pos h, if_pos h]
    cases σ[j]? <;> rfl
  · rw [if_neg h, if_neg h]
def wipeR (ρ : Env') : List Nat → Env'
  | [] => ρ
  | w :: ws => (wipeR ρ ws).set w .no
def restore (ρ ρ2 : Env') : List Nat → Env'
  | [] => ρ2
  | w :: ws => (restore ρ ρ2 ws).set w (ρ[w]?.getD .no)
def notOw : Option Sl → Bool
  | some (.ow _ _) => false
  | _ => true
theorem wipeR_get (ρ : Env') : ∀ (ws : List Nat) (j : Nat), (wipeR ρ ws)[j]? = if j ∈ ws then ρ[j]?.map (fun _ => Sl.no) else ρ[j]?
  | [], j => by simp [wipeR]
  | w :: ws, j => by
    have ih := wipeR_get ρ ws j
    have hlen : ∀ ws : List Nat, (wipeR ρ ws).length = ρ.length := fun ws => by
      induction ws with
      | nil => rfl
      | cons a b ih => unfold wipeR; rw [List.length_set, ih]
    unfold wipeR
    by_cases h : w = j
    · subst h
      by_cases hl : w < ρ.length
      · rw [List.getElem?_set_self (by rw [hlen]; exact hl)]
        simp [hl]
      · rw [List.getElem?_eq_none (by rw [List.length_set, hlen]; omega)]
        simp [hl]
    · rw [List.getElem?_set_ne h, ih]
      have : ¬ j = w := fun z => h z.symm
      simp [this]
theorem restore_len (ρ ρ2 : Env') : ∀ ws : List Nat, (restore ρ ρ2 ws).length = ρ2.length
  | [] => rfl
  | w :: ws => by unfold restore; rw [List.length_set, restore_len ρ ρ2 ws]
theorem restore_get (ρ ρ2 : Env') (hl : ρ.length = ρ2.length) : ∀ (ws : List Nat) (j : Nat), (restore ρ ρ2 ws)[j]? = if j ∈ ws then ρ[j]? else ρ2[j]?
  | [], j => by simp [restore]
  | w :: ws, j => by
    have ih := restore_get ρ ρ2 hl ws j
    unfold restore
    by_cases h : w = j
    · subst h
      by_cases hlt : w < ρ2.length
      · rw [List.getElem?_set_self (by rw [restore_len]; exact hlt)]
        simp [hl, hlt]
      · rw [List.getElem?_eq_none (by rw [List.length_set, restore_len]; omega)]
        rw [if_pos List.mem_cons_self, List.getElem?_eq_none (by omega)]
    · rw [List.getElem?_set_ne h, ih]
      have : ¬ j = w := fun z => h z.symm
      simp [this]
section
variable {X : Cx} {A : List V} {W : WX} {S S' : Cfg} {σ σ2 : L2.St} {ρ ρ2 : Env'}
theorem Sat.wipe {K : PySem.W.Frag} {mg : Str → Option Value} (s : Sat K mg A S σ ρ) (ws : List Nat) : Sat K mg A S (L2.wipe σ ws) (wipeR ρ ws) := by
  obtain ⟨fp, s1, s2, s3⟩ := s.sl
  have hlen : (wipeR ρ ws).length = ρ.length := by
    induction ws with
    | nil => rfl
    | cons a b ih => unfold wipeR; rw [List.length_set, ih]
  refine ⟨s.sub, s.ownF, s.ownH, by rw [wipe_length, hlen, s.len], ⟨fp, fun i sl e => ?_, s2, s3⟩, fun i o e => ?_⟩
  · rw [wipeR_get] at e
    by_cases h : i ∈ ws
    · rw [if_pos h] at e
      cases q : ρ[i]? with
      | none =>
        rw [q] at e
        cases e
      | some t =>
        rw [q] at e
        cases e
        obtain ⟨v, e1, _⟩ := s1 i t q
        exact ⟨none, by rw [wipe_get, if_pos h, e1]; rfl, trivial⟩
    · rw [if_neg h] at e
      obtain ⟨v, e1, e2⟩ := s1 i sl e
      exact ⟨v, by rw [wipe_get, if_neg h]; exact e1, e2⟩
  · rw [wipeR_get] at e
    by_cases h : i ∈ ws
    · rw [if_pos h] at e
      cases q : ρ[i]? with
      | none =>
        rw [q] at e
        cases e
      | some t =>
        rw [q] at e
        cases e
    · rw [if_neg h] at e
      rw [wipe_get, if_neg h]
      exact s.io i o e
theorem Sat.restore {K : PySem.W.Frag} {mg : Str → Option Value} (s : Sat K mg A S σ ρ) (s' : Sat K mg A S' σ2 ρ2) (hF : Same S.F S'.F) {ws : List Nat} (hw : L2.wipe σ2 ws = L2.wipe σ ws) (hn : (ws.all fun w => notOw ρ[w]?) = true) : Sat K mg A S' σ (restore ρ ρ2 ws) := by
  obtain ⟨fp, s1, s2, s3⟩ := s.sl
  obtain ⟨fq, t1, t2, t3⟩ := s'.sl
  have hl : ρ.length = ρ2.length := by
    have := congrArg List.length hw
    rw [wipe_length, wipe_length] at this
    rw [← s.len, ← s'.len, this]
  have hσ : ∀ j, j ∉ ws → σ2[j]? = σ[j]? := fun j hj => by
    have := congrArg (fun l : L2.St => l[j]?) hw
    simp only [wipe_get, if_neg hj] at this
    exact this
  refine ⟨s'.sub, s'.ownF, s'.ownH, by rw [restore_len, ← hl, s.len], ⟨fun j p => j ∉ ws ∧ fq j p, fun i sl e => ?_, fun i p h => t2 i p h.2, fun i j p h1 h2 => t3 i j p h1.2 h2.2⟩, fun i o e => ?_⟩
  · rw [restore_get ρ ρ2 hl] at e
    by_cases h : i ∈ ws
    · rw [if_pos h] at e
      obtain ⟨v, e1, e2⟩ := s1 i sl e
      have hno := List.all_eq_true.mp hn i h
      refine ⟨v, e1, ?_⟩
      cases sl with
      | no => trivial
      | va d =>
        obtain ⟨u, q1, q2⟩ := e2
        exact ⟨u, q1, q2.mono hF⟩
      | ow b o =>
        rw [e] at hno
        cases hno
    · rw [if_neg h] at e
      obtain ⟨v, e1, e2⟩ := t1 i sl e
      exact ⟨v, by rw [← hσ i h]; exact e1, e2.wide fun p hp => ⟨h, hp⟩⟩
  · rw [restore_get ρ ρ2 hl] at e
    by_cases h : i ∈ ws
    · have hno := List.all_eq_true.mp hn i h
      rw [if_pos h] at e
      rw [e] at hno
      cases hno
    · rw [if_neg h] at e
      obtain ⟨v, e1, e2⟩ := s'.io i o e
      exact ⟨v, by rw [← hσ i h]; exact e1, e2⟩

/-! ### targets -/
abbrev Tgt := D → Env' → Option Env'
section
variable (K : PySem.W.Frag) (mg : Str → Option Value) (A : List V)
def tG (ws : List Nat) (g : Tgt) : TG := fun v σ H Q => ∃ S ρ d, S.H = H ∧ Sat K mg A S σ ρ ∧ RD K mg S.F d v ∧ match g d ρ with
  | some ρ' => ∀ σ', L2.wipe σ' ws = L2.wipe σ ws → Sat K mg A S σ' ρ' → Q σ' S.H
  | none => False
def tGs (ws : List Nat) (g : List D → Env' → Option Env') : TGs := fun vs σ H Q => ∃ S ρ ds, S.H = H ∧ Sat K mg A S σ ρ ∧ RDs K mg S.F ds vs ∧ match g ds ρ with
  | some ρ' => ∀ σ', L2.wipe σ' ws = L2.wipe σ ws → Sat K mg A S σ' ρ' → Q σ' S.H
  | none => False
end
abbrev PGD (X : Cx) (A : List V) (e : Expr) (ws : List Nat) (g : Tgt) : Prop := PG X e (tG X.K X.mg A ws g)
abbrev PGsD (X : Cx) (A : List V) (es : List Expr) (ws : List Nat) (g : List D → Env' → Option Env') : Prop := PGs X es (tGs X.K X.mg A ws g)
theorem PG.imp {e : Expr} {t t' : TG} (h : PG X e t) (i : ∀ v σ H Q, t' v σ H Q → t v σ H Q) : PG X e t' := ⟨fun pins s σ H v u Q I r q => h.run pins s σ H v u Q I r (i _ _ _ _ q)⟩
theorem PGs.imp {es : List Expr} {t t' : TGs} (h : PGs X es t) (i : ∀ v σ H Q, t' v σ H Q → t v σ H Q) : PGs X es t' := ⟨fun pins s σ H v u Q I r q => h.run pins s σ H v u Q I r (i _ _ _ _ q)⟩
def gN (i : Nat) : Tgt := fun d ρ => if isIo ρ[i]? = true then none else some (ρ.set i (.va d))
theorem pgd_name (i : Nat) {x : Str} {pos : Pos} (ws : List Nat) (hw : i ∈ ws) (hN : X.N.Nodup) (hi : X.N[i]? = some x := by rfl) (hx : Loc X.env.scope x := by first | exact Or.inl rfl | exact Or.inr rfl)
    (hf : X.fn x = true ∨ X.env.scope.names.lookup x = some .local := by first | exact .inl rfl | exact .inr rfl | assumption) : PGD X A (.Name x pos) ws (gN i) := PG.imp (pg_name hN hi hx hf) fun v σ H Q h => by
  obtain ⟨S, ρ, d, rfl, s, r, h⟩ := h
  unfold gN at h
  by_cases q : isIo ρ[i]? = true
  · rw [if_pos q] at h
    exact h.elim
  · rw [if_neg q] at h
    exact h _ (wipe_set hw) (s.setVa (by simpa using q) r)
def gsNil : List D → Env' → Option Env' := fun ds ρ => match ds with
  | [] => some ρ
  | _ => none
def gsCons (g : Tgt) (gs : List D → Env' → Option Env') : List D → Env' → Option Env' := fun ds ρ => match ds with
  | d :: r => match g d ρ with
    | some ρ1 => gs r ρ1
    | none => none
  | [] => none
theorem pgsd_nil {ws : List Nat} : PGsD X A [] ws gsNil := PGs.imp pgs_nil fun v σ H Q h => by
  obtain ⟨S, ρ, ds, rfl, s, r, h⟩ := h
  cases ds with
  | nil => exact ⟨r, h σ rfl s⟩
  | cons a b => exact h.elim
theorem pgsd_cons {e : Expr} {es : List Expr} {ws : List Nat} {g : Tgt} {gs : List D → Env' → Option Env'} (h1 : PGD X A e ws g) (h2 : PGsD X A es ws gs) (hs : (assignEach (e :: es) X.env).map (·.2) = assign e X.env :: (assignEach es X.env).map (·.2) := by rfl) : PGsD X A (e :: es) ws (gsCons g gs) :=
  PGs.imp (pgs_cons h1 h2 hs) fun v σ H Q h => by
    obtain ⟨S, ρ, ds, rfl, s, r, h⟩ := h
    cases ds with
    | nil => exact h.elim
    | cons d ds =>
      obtain ⟨v1, r1, h1, h2, h3⟩ := r
      refine ⟨v1, r1, h1, S, ρ, d, rfl, s, h2, ?_⟩
      have h' : (match (match g d ρ with
        | some ρ1 => gs ds ρ1
        | none => none) with
        | some ρ' => ∀ σ', L2.wipe σ' ws = L2.wipe σ ws → Sat X.K X.mg A S σ' ρ' → Q σ' S.H
        | none => False) := h
      cases e : g d ρ with
      | none =>
        rw [e] at h'
        exact h'.elim
      | some ρ1 =>
        rw [e] at h'
        intro σ1 w1 s1
        refine ⟨S, ρ1, ds, rfl, s1, h3, ?_⟩
        have h'' : (match gs ds ρ1 with
          | some ρ' => ∀ σ', L2.wipe σ' ws = L2.wipe σ ws → Sat X.K X.mg A S σ' ρ' → Q σ' S.H
          | none => False) := h'
        cases e2 : gs ds ρ1 with
        | none =>
          rw [e2] at h''
          exact h''.elim
        | some ρ2 =>
          rw [e2] at h''
          exact fun σ2 w2 s2 => h'' σ2 (w2.trans w1) s2
def gT (n : Nat) (gs : List D → Env' → Option Env') : Tgt := fun d ρ => match d with
  | .tup ds => if ds.length = n then gs ds ρ else none
  | _ => none
theorem pgd_tup {es : List Expr} {k : Nat} {pos : Pos} {ws : List Nat} {gs : List D → Env' → Option Env'} {n : Nat} (hc : X.calm = true) (h : PGsD X A es ws gs) (hn : (assignEach es X.env).length = n := by rfl) (hst : (assignEach es X.env).findIdx? (·.1) = none := by rfl) :
    PGD X A (.Tuple es k pos) ws (gT n gs) := PG.imp (pg_tup hc h hn hst) fun v σ H Q h => by
  obtain ⟨S, ρ, d, rfl, s, r, h⟩ := h
  cases d with
  | tup ds =>
    obtain ⟨a, vs, h1, h2, h3⟩ := r
    have h' : (match (if ds.length = n then gs ds ρ else none) with
      | some ρ' => ∀ σ', L2.wipe σ' ws = L2.wipe σ ws → Sat X.K X.mg A S σ' ρ' → Q σ' S.H
      | none => False) := h
    by_cases hl : ds.length = n
    · rw [if_pos hl] at h'
      exact ⟨a, vs, h1, sqT_of s.sub h2, by rw [← h3.length]; exact hl, S, ρ, ds, rfl, s, h3, h'⟩
    · rw [if_neg hl] at h'
      exact h'.elim
  | _ => exact h.elim

/-! ### what is walked -/
def WalkD (X : Cx) (J : It) (S : Cfg) (items : List D) : Prop :=
  ∃ G Y, Walk J items.length G Y ∧ (∀ S', Ev S S' → Same S'.F S'.H → G S'.H) ∧ ∀ i S' x H', i < items.length → Ev S S' → Same S'.F S'.H → Y i S'.H x H' → ∃ S2 d, S2.H = H' ∧ Gr S' S2 ∧ items[i]? = some d ∧ RD X.K X.mg S2.F d x
theorem WalkD.ev {J : It} {items : List D} (h : WalkD X J S items) (e : Ev S S') : WalkD X J S' items := by
  obtain ⟨G, Y, w, h1, h2⟩ := h
  exact ⟨G, Y, w, fun S2 e2 => h1 S2 (e.trans e2), fun i S2 x H' hi e2 => h2 i S2 x H' hi (e.trans e2)⟩
section
variable (X : Cx) (A : List V) (W : WX)
def PostI (R : It → Hp → Prop) (S : Cfg) (σ : L2.St) : Out (List D) → Prop
  | .ok items ρ' => ∀ S' J, Ev S S' → Sat X.K X.mg A S' σ ρ' → WalkD X J S' items → R J S'.H
  | .err c d ρ' => PostX X.K X.mg A W S c d ρ'
  | .stuck => False
def tI (it : EM (List D)) : TI := fun σ H R => ∃ S ρ, S.H = H ∧ Sat X.K X.mg A S σ ρ ∧ PostI X A W R S σ (it ρ)
end
abbrev PID (X : Cx) (A : List V) (W : WX) (tg iter : Expr) (it : EM (List D)) : Prop := PI X tg iter (tI X A W it)
theorem PI.imp {tg iter : Expr} {t t' : TI} (h : PI X tg iter t) (i : ∀ σ H R, t' σ H R → t σ H R) : PI X tg iter t' := ⟨fun pins s σ H R I q => h.run pins s σ H R I (i _ _ _ q)⟩
def asL : D → Option (List D)
  | .lst xs => some xs
  | _ => none
def asT : D → Option (List D)
  | .tup xs => some xs
  | _ => none
def iL (f : EM D) : EM (List D) := fun ρ => (f ρ).bind fun d ρ1 => Out.lift ρ1 (asL d)
def iT (f : EM D) : EM (List D) := fun ρ => (f ρ).bind fun d ρ1 => Out.lift ρ1 (asT d)
theorem walkD_list {a : Addr} {xs : List D} {vs : List V} (h : S.F a = some (.lst vs)) (r : RDs X.K X.mg S.F xs vs) : WalkD X (Itl X.K a) S xs := by
  refine ⟨_, _, by rw [r.length]; exact walk_list (K := X.K) (a := a) (xs := vs), fun S' e sb => SqL.of (sb _ _ (e.frz _ _ h)), fun i S' x H' hi e sb y => ?_⟩
  obtain ⟨y1, y2⟩ := y
  obtain ⟨d, e1, e2⟩ := r.getV y2
  exact ⟨S', d, y1.symm, Gr.refl sb, e1, e2.mono e.frz⟩
theorem walkD_tup {a : Addr} {xs : List D} {vs : List V} (h : S.F a = some (.tup vs)) (r : RDs X.K X.mg S.F xs vs) : WalkD X (Itt X.K a) S xs := by
  refine ⟨_, _, by rw [r.length]; exact walk_tup (K := X.K) (a := a) (xs := vs), fun S' e sb => sqT_of sb (e.frz _ _ h), fun i S' x H' hi e sb y => ?_⟩
  obtain ⟨y1, y2⟩ := y
  obtain ⟨d, e1, e2⟩ := r.getV y2
  exact ⟨S', d, y1.symm, Gr.refl sb, e1, e2.mono e.frz⟩
theorem pid_list {tg e : Expr} {f : EM D} (he : PD X A W e f) : PID X A W tg e (iL f) := PI.imp (pi_list he) fun σ H R h => by
  obtain ⟨S, ρ, rfl, s, h⟩ := h
  refine tD_bind (P := PostI X A W R S σ) s h (fun _ _ _ z => z) (fun z => z) fun x ρ1 S1 v hp ev s1 r => ?_
  cases x with
  | lst xs =>
    obtain ⟨a, vs, h1, h2, h3⟩ := r
    exact ⟨a, h1, ⟨vs, SqL.of (s1.sub _ _ h2)⟩, hp S1 _ ev s1 (walkD_list h2 h3)⟩
  | _ => exact hp.elim
theorem pid_tup {tg e : Expr} {f : EM D} (he : PD X A W e f) : PID X A W tg e (iT f) := PI.imp (pi_tup he) fun σ H R h => by
  obtain ⟨S, ρ, rfl, s, h⟩ := h
  refine tD_bind (P := PostI X A W R S σ) s h (fun _ _ _ z => z) (fun z => z) fun x ρ1 S1 v hp ev s1 r => ?_
  cases x with
  | tup xs =>
    obtain ⟨a, vs, h1, h2, h3⟩ := r
    exact ⟨a, h1, ⟨vs, sqT_of s1.sub h2⟩, hp S1 _ ev s1 (walkD_tup h2 h3)⟩
  | _ => exact hp.elim
/-- range(b), range(a, b) -/
def rngD (lo : Int) (n : Nat) : List D := (List.range n).map fun i => D.int (lo + (i : Nat))
def iR1 (o : Opd) : EM (List D) := fun ρ => (argGo [o] ρ).bind fun ds ρ1 => match argRd ρ1 [o] ds with
  | some [.int j] => if -1000000 ≤ j ∧ j < 1000000 then .ok (rngD 0 j.toNat) ρ1 else .stuck
  | _ => .stuck
def iR2 (o o' : Opd) : EM (List D) := fun ρ => (argGo [o, o'] ρ).bind fun ds ρ1 => match argRd ρ1 [o, o'] ds with
  | some [.int i, .int j] => if -1000000 ≤ i ∧ i < 1000000 ∧ -1000000 ≤ j ∧ j < 1000000 then .ok (rngD i (j - i).toNat) ρ1 else .stuck
  | _ => .stuck
theorem walkD_rng {lo : Int} {n : Nat} : WalkD X (Itr lo n) S (rngD lo n) := by
  have hl : (rngD lo n).length = n := by simp [rngD]
  refine ⟨_, _, by rw [hl]; exact walk_range (lo := lo) (n := n), fun _ _ _ => trivial, fun i S' x H' hi e sb y => ?_⟩
  obtain ⟨y1, y2⟩ := y
  have y2' : x = .int (lo + i) := y2
  rw [hl] at hi
  refine ⟨S', .int (lo + i), y1.symm, Gr.refl sb, ?_, y2'⟩
  unfold rngD
  rw [List.getElem?_map, List.getElem?_range hi]
  rfl
theorem pid_range1 {tg e : Expr} {o : Opd} {p pos : Pos} (hg : Gl X "range") (hm : X.mg "range" = none) (ha : PAr X A W [e] [o]) (hs : starEach [e] X.env = [(false, eval e X.env)] := by rfl) : PID X A W tg (.Call (.Name "range" p) [e] [] pos) (iR1 o) :=
  PI.imp (pi_range1 hg hm ha hs) fun σ H R h => by
    obtain ⟨S, ρ, rfl, s, h⟩ := h
    refine args_bind (P := PostI X A W R S σ) (fun z => z) (fun _ _ _ z => z) s h fun ds ρ1 S1 vs hp ev s1 ok => ?_
    have hp0 : ∃ j, argRd ρ1 [o] ds = some [.int j] ∧ PostI X A W R S σ (if -1000000 ≤ j ∧ j < 1000000 then .ok (rngD 0 j.toNat) ρ1 else .stuck) := by
      revert hp
      show PostI X A W R S σ (match argRd ρ1 [o] ds with
        | some [.int j] => if -1000000 ≤ j ∧ j < 1000000 then .ok (rngD 0 j.toNat) ρ1 else .stuck
        | _ => .stuck) → _
      split
      · rename_i j e
        exact fun hp => ⟨j, e, hp⟩
      · exact fun hp => (show False from hp).elim
    obtain ⟨j, e, hp'⟩ := hp0
    obtain ⟨hl, k⟩ := ok.rds s1 e
    match vs, hl, k with
    | [v], hl, k =>
      have r : v = .int j := k 0 _ _ rfl rfl
      subst r
      by_cases hj : -1000000 ≤ j ∧ j < 1000000
      · rw [if_pos hj] at hp'
        exact ⟨j, rfl, by omega, by omega, hp' S1 _ ev s1 walkD_rng⟩
      · rw [if_neg hj] at hp'
        exact (show False from hp').elim
theorem pid_range2 {tg e e' : Expr} {o o' : Opd} {p pos : Pos} (hg : Gl X "range") (hm : X.mg "range" = none) (ha : PAr X A W [e, e'] [o, o']) (hs : starEach [e, e'] X.env = [(false, eval e X.env), (false, eval e' X.env)] := by rfl) (hs2 : starEach [e'] X.env = [(false, eval e' X.env)] := by rfl) :
    PID X A W tg (.Call (.Name "range" p) [e, e'] [] pos) (iR2 o o') :=
  PI.imp (pi_range2 hg hm ha hs hs2) fun σ H R h => by
    obtain ⟨S, ρ, rfl, s, h⟩ := h
    refine args_bind (P := PostI X A W R S σ) (fun z => z) (fun _ _ _ z => z) s h fun ds ρ1 S1 vs hp ev s1 ok => ?_
    have hp0 : ∃ i j, argRd ρ1 [o, o'] ds = some [.int i, .int j] ∧ PostI X A W R S σ (if -1000000 ≤ i ∧ i < 1000000 ∧ -1000000 ≤ j ∧ j < 1000000 then .ok (rngD i (j - i).toNat) ρ1 else .stuck) := by
      revert hp
      show PostI X A W R S σ (match argRd ρ1 [o, o'] ds with
        | some [.int i, .int j] => if -1000000 ≤ i ∧ i < 1000000 ∧ -1000000 ≤ j ∧ j < 1000000 then .ok (rngD i (j - i).toNat) ρ1 else .stuck
        | _ => .stuck) → _
      split
      · rename_i i j e
        exact fun hp => ⟨i, j, e, hp⟩
      · exact fun hp => (show False from hp).elim
    obtain ⟨i, j, e, hp'⟩ := hp0
    obtain ⟨hl, k⟩ := ok.rds s1 e
    match vs, hl, k with
    | [v, u], hl, k =>
      have r : v = .int i := k 0 _ _ rfl rfl
      have r' : u = .int j := k 1 _ _ rfl rfl
      subst r
      subst r'
      by_cases hj : -1000000 ≤ i ∧ i < 1000000 ∧ -1000000 ≤ j ∧ j < 1000000
      · rw [if_pos hj] at hp'
        exact ⟨i, j, rfl, ⟨by omega, by omega, by omega, by omega⟩, hp' S1 _ ev s1 walkD_rng⟩
      · rw [if_neg hj] at hp'
        exact (show False from hp').elim
end

/-! ### comprehensions -/
def compL (ws : List Nat) (g : Tgt) (c : EM Bool) (f : EM D) : List D → EM (List D)
  | [] => fun ρ => .ok [] ρ
  | x :: xs => fun ρ => match g x (wipeR ρ ws) with
    | none => .stuck
    | some ρ1 => match c ρ1 with
      | .ok true ρ2 => match f ρ2 with
        | .ok y ρ3 => (compL ws g c f xs (restore ρ ρ3 ws)).bind fun ys ρ4 => .ok (y :: ys) ρ4
        | _ => .stuck
      | .ok false ρ2 => compL ws g c f xs (restore ρ ρ2 ws)
      | _ => .stuck
def eComp (it : EM (List D)) (ws : List Nat) (g : Tgt) (c : EM Bool) (f : EM D) : EM (List D) := fun ρ => (it ρ).bind fun items ρ1 => if (ws.all fun w => notOw ρ1[w]?) = true ∧ items.length < 1000000 then compL ws g c f items ρ1 else .stuck
abbrev W0 : WX := fun _ _ _ _ => False
def cYes : EM Bool := fun ρ => .ok true ρ
abbrev PTsD (X : Cx) (A : List V) (W : WX) (es : List Expr) (f : EM Bool) : Prop := PTs X es (tT X.K X.mg A W f)
theorem PTs.imp {X : Cx} {e : List Expr} {t t' : TT} (h : PTs X e t) (i : ∀ σ H Q, t' σ H Q → t σ H Q) : PTs X e t' := ⟨fun pins s σ H Q I q => h.run pins s σ H Q I (i _ _ _ q)⟩
theorem ptsd_nil {X : Cx} {A : List V} {W : WX} : PTsD X A W [] cYes := PTs.imp pts_nil fun σ H Q h => by
  obtain ⟨S, ρ, rfl, s, h⟩ := h
  exact h S (Ev.refl S) s
theorem ptsd_one {X : Cx} {A : List V} {W : WX} {c : Expr} {f : EM Bool} (h : PTD X A W c f) : PTsD X A W [c] f := pts_one h
/-- the configuration without what stands at D -/
def hideC (S : Cfg) (D : Addr) : Cfg := ⟨S.F, fun a => if a = D then none else S.H a, S.O⟩
section
variable {X : Cx} {A : List V} {W : WX} {S S' : Cfg} {σ σ2 : L2.St} {ρ ρ2 : Env'}
theorem hide_ne {S : Cfg} {D a : Addr} (h : a ≠ D) : (hideC S D).H a = S.H a := if_neg h
theorem hide_at {S : Cfg} {D : Addr} : (hideC S D).H D = none := if_pos rfl
theorem hide_some {S : Cfg} {D a : Addr} {o : HO} (h : (hideC S D).H a = some o) : a ≠ D ∧ S.H a = some o := by
  by_cases q : a = D
  · rw [q, hide_at] at h
    cases h
  · rw [hide_ne q] at h
    exact ⟨q, h⟩
theorem Ev.hide {D : Addr} (e : Ev S S') : Ev (hideC S D) (hideC S' D) := by
  refine ⟨fun a o h n => ?_, e.frz, fun a o h n => ?_, fun p h => ?_, fun a o h => ?_⟩
  · obtain ⟨h1, h2⟩ := hide_some h
    rw [hide_ne h1]
    exact e.same a o h2 n
  · obtain ⟨h1, h2⟩ := hide_some h
    exact e.newF a o h2 n
  · rcases e.own p h with q | q
    · exact .inl q
    · right
      by_cases z : p = D
      · rw [z]
        exact hide_at
      · rw [hide_ne z]
        exact q
  · obtain ⟨h1, h2⟩ := hide_some h
    rw [hide_ne h1]
    exact e.there a o h2
theorem comp_to {it : EM (List D)} {ws : List Nat} {g : Tgt} {c : EM Bool} {f : EM D} (σ : L2.St) (H : Hp) (Q : VK) (h : tL X.K X.mg A W (eComp it ws g c f) σ H Q) :
    tLc (tI X A W it) (tG X.K X.mg A ws g) (tT X.K X.mg A W0 c) (tD X.K X.mg A W0 f) ws σ H Q := by
  obtain ⟨S, ρ, rfl, s, h⟩ := h
  refine ⟨S, ρ, rfl, s, ?_⟩
  have h0 : PostL X.K X.mg A W Q S σ ((it ρ).bind fun items ρ1 => if (ws.all fun w => notOw ρ1[w]?) = true ∧ items.length < 1000000 then compL ws g c f items ρ1 else .stuck) := h
  clear h
  cases hi : it ρ with
  | err c d ρ' =>
    rw [hi] at h0
    exact h0
  | stuck =>
    rw [hi] at h0
    exact h0
  | ok items ρ1 =>
    rw [hi] at h0
    have h := h0
    have h1 : PostL X.K X.mg A W Q S σ (if (ws.all fun w => notOw ρ1[w]?) = true ∧ items.length < 1000000 then compL ws g c f items ρ1 else .stuck) := h
    by_cases hw : (ws.all fun w => notOw ρ1[w]?) = true ∧ items.length < 1000000
    · rw [if_pos hw] at h1
      intro S1 J ev1 s1 wk D hD
      obtain ⟨G, Y, wk1, wk2, wk3⟩ := wk
      -- the invariant
      let Pv : Nat → Hp → Prop := fun i H => ∃ (S2 : Cfg) (ρ2 : Env') (acc : List V) (ad : List DL.D), S2.H = H ∧ Ev S1 (hideC S2 D) ∧ Sat X.K X.mg A S2 σ ρ2 ∧ S2.H D = some (.lst acc) ∧ RDs X.K X.mg S2.F ad acc ∧ S2.F D = none ∧ ¬ S2.O D ∧ acc.length ≤ i ∧ (ws.all fun w => notOw ρ2[w]?) = true ∧
        PostL X.K X.mg A W Q S σ ((compL ws g c f (items.drop i) ρ2).bind fun ys ρ3 => .ok (ad ++ ys) ρ3)
      have hOD : ¬ S1.O D := fun q => by
        obtain ⟨o, e⟩ := s1.ownH D q
        rw [hD] at e
        cases e
      refine lc_it (w := wk1) Pv ?_ (fun i H _ p => ?_) (fun i x H H' hlt p y => ?_) (fun H p => ?_)
      · refine ⟨S1.raw D (.lst []), ρ1, [], [], rfl, ?_, s1.gr (.raw s1.sub hD), upd_same, rfl, none_sub s1.sub hD, hOD, Nat.le_refl _, hw.1, ?_⟩
        · refine ⟨fun a o h n => ?_, fun _ _ h => h, fun _ _ _ _ => rfl, fun p h => .inl h, fun a o h => ⟨o, ?_⟩⟩
          · rw [hide_ne (ne_of_none h hD)]
            exact same_upd hD a o h
          · rw [hide_ne (ne_of_none h hD)]
            exact same_upd hD a o h
        · rw [List.drop_zero]
          cases e : compL ws g c f items ρ1 with
          | ok ys ρ3 =>
            rw [e] at h1
            exact h1
          | err c d ρ3 =>
            rw [e] at h1
            exact h1
          | stuck =>
            rw [e] at h1
            exact h1
      · obtain ⟨S2, ρ2, acc, ad, rfl, ev2, s2, hd2, r2, f2, o2, l2, w2, hp2⟩ := p
        have sbh : Same (hideC S2 D).F (hideC S2 D).H := fun a o e => by
          have na : a ≠ D := fun z => by
            have e' : S2.F a = some o := e
            rw [z, f2] at e'
            cases e'
          rw [hide_ne na]
          exact s2.sub a o e
        have gh := wk2 (hideC S2 D) ev2 sbh
        -- G holds at the whole heap too: by a configuration that owns D's place
        exact wk2 ⟨S2.F, S2.H, S2.O⟩ ⟨fun a o h n => by
          have z := ev2.same a o h n
          exact (hide_some z).2, ev2.frz, ev2.newF, fun p h => ev2.own p h, fun a o h => by
          obtain ⟨o', z⟩ := ev2.there a o h
          exact ⟨o', (hide_some z).2⟩⟩ s2.sub
      · obtain ⟨S2, ρ2, acc, ad, rfl, ev2, s2, hd2, r2, f2, o2, l2, w2, hp2⟩ := p
        have evR : Ev S1 S2 := ⟨fun a o h n => (hide_some (ev2.same a o h n)).2, ev2.frz, ev2.newF, fun p h => ev2.own p h, fun a o h => by
          obtain ⟨o', z⟩ := ev2.there a o h
          exact ⟨o', (hide_some z).2⟩⟩
        obtain ⟨S3, d, rfl, g3, di, rd⟩ := wk3 i S2 x H' hlt evR s2.sub y
        have hdrop : items.drop i = d :: items.drop (i + 1) := by
          rw [List.drop_eq_getElem_cons hlt]
          rw [List.getElem?_eq_getElem hlt] at di
          rw [Option.some.inj di]
        rw [hdrop] at hp2
        have s3 := s2.gr g3
        refine ⟨S3, wipeR ρ2 ws, d, rfl, s3.wipe ws, rd, ?_⟩
        have hp3 : PostL X.K X.mg A W Q S σ ((match g d (wipeR ρ2 ws) with
          | none => Out.stuck
          | some ρ1 => match c ρ1 with
            | .ok true ρ2' => match f ρ2' with
              | .ok y ρ3 => (compL ws g c f (items.drop (i + 1)) (restore ρ2 ρ3 ws)).bind fun ys ρ4 => .ok (y :: ys) ρ4
              | _ => .stuck
            | .ok false ρ2' => compL ws g c f (items.drop (i + 1)) (restore ρ2 ρ2' ws)
            | _ => .stuck).bind fun ys ρ3 => .ok (ad ++ ys) ρ3) := hp2
        cases eg : g d (wipeR ρ2 ws) with
        | none =>
          rw [eg] at hp3
          exact hp3.elim
        | some ρa =>
          rw [eg] at hp3
          intro σa wa sa
          have wa' : L2.wipe σa ws = L2.wipe σ ws := wa.trans wipe_wipe
          refine ⟨wa', S3, ρa, rfl, sa, ?_⟩
          cases ec : c ρa with
          | err _ _ _ =>
            simp only [ec] at hp3
            exact (show False from hp3).elim
          | stuck =>
            simp only [ec] at hp3
            exact (show False from hp3).elim
          | ok b ρb =>
            -- facts kept through a turn's evaluation
            have hD3 : S3.H D = some (.lst acc) := g3.H _ _ hd2
            have fD3 : S3.F D = none := by rw [g3.new D _ hd2]; exact f2
            have oD3 : ¬ S3.O D := by rw [g3.O]; exact o2
            have ev23 : Ev (hideC S2 D) (hideC S3 D) := g3.ev.hide
            cases b with
            | false =>
              simp only [ec] at hp3
              intro S4 ev4 s4
              refine iteF ⟨S4, restore ρ2 ρb ws, acc, ad, rfl, (ev2.trans ev23).trans ev4.hide, ?_, ev4.same _ _ hD3 oD3, (r2.mono g3.F).mono ev4.frz, ?_, ?_, by omega, ?_, hp3⟩
              · exact s2.restore s4 (fun a o e => ev4.frz a o (g3.F a o e)) wa' w2
              · rw [ev4.newF D _ hD3 oD3]
                exact fD3
              · intro q
                rcases ev4.own D q with z | z
                · exact oD3 z
                · rw [hD3] at z
                  cases z
              · refine List.all_eq_true.mpr fun w hw' => ?_
                have hl : ρ2.length = ρb.length := by
                  have e1 := s2.len
                  have e2 := s4.len
                  have e3 := congrArg List.length wa'
                  rw [wipe_length, wipe_length] at e3
                  omega
                rw [restore_get _ _ hl, if_pos hw']
                exact List.all_eq_true.mp w2 w hw'
            | true =>
              simp only [ec] at hp3
              intro S4 ev4 s4
              refine iteT ⟨S4, ρb, rfl, s4, ?_⟩
              cases ef : f ρb with
              | err _ _ _ =>
                simp only [ef] at hp3
                exact (show False from hp3).elim
              | stuck =>
                simp only [ef] at hp3
                exact (show False from hp3).elim
              | ok y ρc =>
                simp only [ef] at hp3
                intro S5 v ev5 s5 rv
                have hD4 : S4.H D = some (.lst acc) := ev4.same _ _ hD3 oD3
                have oD4 : ¬ S4.O D := fun q => by
                  rcases ev4.own D q with z | z
                  · exact oD3 z
                  · rw [hD3] at z
                    cases z
                have fD4 : S4.F D = none := by rw [ev4.newF D _ hD3 oD3]; exact fD3
                have hD5 : S5.H D = some (.lst acc) := ev5.same _ _ hD4 oD4
                have oD5 : ¬ S5.O D := fun q => by
                  rcases ev5.own D q with z | z
                  · exact oD4 z
                  · rw [hD4] at z
                    cases z
                have fD5 : S5.F D = none := by rw [ev5.newF D _ hD4 oD4]; exact fD4
                refine ⟨acc, hD5, ?_, ?_⟩
                · have : acc.length ≤ items.length := by omega
                  have h2 := hw.2
                  exact Nat.lt_of_lt_of_le (Nat.lt_of_le_of_lt this h2) (by decide)
                have sr : Sat X.K X.mg A S5 σ (restore ρ2 ρc ws) := s2.restore s5 (fun a o e => ev5.frz a o (ev4.frz a o (g3.F a o e))) wa' w2
                refine ⟨⟨S5.F, upd S5.H D (.lst (acc ++ [v])), S5.O⟩, restore ρ2 ρc ws, acc ++ [v], ad ++ [y], rfl, ?_, ?_, upd_same, (((r2.mono g3.F).mono ev4.frz).mono ev5.frz).app (RDs.one rv), fD5, oD5, by simp; omega, ?_, ?_⟩
                · have e5 : hideC (⟨S5.F, upd S5.H D (.lst (acc ++ [v])), S5.O⟩ : Cfg) D = hideC S5 D := by
                    have : (fun a => if a = D then none else upd S5.H D (.lst (acc ++ [v])) a) = fun a => if a = D then none else S5.H a := by
                      funext a
                      by_cases q : a = D
                      · rw [if_pos q, if_pos q]
                      · rw [if_neg q, if_neg q, upd_ne q]
                    show (⟨S5.F, fun a => if a = D then none else upd S5.H D (.lst (acc ++ [v])) a, S5.O⟩ : Cfg) = _
                    rw [this]
                    rfl
                  rw [e5]
                  exact ((ev2.trans ev23).trans ev4.hide).trans ev5.hide
                · obtain ⟨fp, t1, t2, t3⟩ := sr.sl
                  refine ⟨fun a o e => ?_, sr.ownF, fun p hp => ?_, sr.len, ⟨fp, fun i sl e => ?_, t2, t3⟩, sr.io⟩
                  · have na : a ≠ D := fun z => by
                      have e' : S5.F a = some o := e
                      rw [z, fD5] at e'
                      cases e'
                    show upd S5.H D (.lst (acc ++ [v])) a = some o
                    rw [upd_ne na]
                    exact sr.sub a o e
                  · have np : p ≠ D := fun z => oD5 (by rw [← z]; exact hp)
                    obtain ⟨o, e⟩ := sr.ownH p hp
                    exact ⟨o, by show upd S5.H D (.lst (acc ++ [v])) p = some o; rw [upd_ne np]; exact e⟩
                  · obtain ⟨u, q1, q2⟩ := t1 i sl e
                    refine ⟨u, q1, q2.grow (fun _ _ z => z) fun p o hp hh => ?_⟩
                    have np : p ≠ D := fun z => oD5 (by rw [← z]; exact t2 i p hp)
                    show upd S5.H D (.lst (acc ++ [v])) p = some o
                    rw [upd_ne np]
                    exact hh
                · refine List.all_eq_true.mpr fun w hw' => ?_
                  have hl : ρ2.length = ρc.length := by
                    have e1 := s2.len
                    have e2 := s5.len
                    have e3 := congrArg List.length wa'
                    rw [wipe_length, wipe_length] at e3
                    omega
                  rw [restore_get _ _ hl, if_pos hw']
                  exact List.all_eq_true.mp w2 w hw'
                · have e6 : (compL ws g c f (items.drop (i + 1)) (restore ρ2 ρc ws)).bind (fun ys ρ3 => Out.ok ((ad ++ [y]) ++ ys) ρ3) = ((compL ws g c f (items.drop (i + 1)) (restore ρ2 ρc ws)).bind fun ys ρ4 => .ok (y :: ys) ρ4).bind fun ys ρ3 => .ok (ad ++ ys) ρ3 := by
                    cases compL ws g c f (items.drop (i + 1)) (restore ρ2 ρc ws) with
                    | ok ys ρ3 =>
                      show Out.ok ((ad ++ [y]) ++ ys) ρ3 = Out.ok (ad ++ y :: ys) ρ3
                      rw [List.append_assoc]
                      rfl
                    | err _ _ _ => rfl
                    | stuck => rfl
                  rw [e6]
                  exact hp3
      · obtain ⟨S2, ρ2, acc, ad, rfl, ev2, s2, hd2, r2, f2, o2, l2, w2, hp2⟩ := p
        rw [List.drop_length] at hp2
        have hp3 : PostL X.K X.mg A W Q S σ (.ok (ad ++ []) ρ2) := hp2
        rw [List.append_nil] at hp3
        have evR : Ev S1 S2 := ⟨fun a o h n => (hide_some (ev2.same a o h n)).2, ev2.frz, ev2.newF, fun p h => ev2.own p h, fun a o h => by
          obtain ⟨o', z⟩ := ev2.there a o h
          exact ⟨o', (hide_some z).2⟩⟩
        exact hp3 S2 D acc (ev1.trans evR) s2 r2 hd2 f2 o2 (ev1.nil hD)
    · rw [if_neg hw] at h1
      exact (show False from h1).elim
/-- [e for target in it if ..] -/
theorem pl_comp {elt tg iter : Expr} {ifs : List Expr} {scope : Scope} (own : List (Str × Nat)) {pos : Pos} {it : EM (List D)} {g : Tgt} {c : EM Bool} {f : EM D} (hc : X.calm = true) (hN : X.N.Nodup) (hi : PID X A W tg iter it) (ok : BlkOk X.N X.env.scope scope own)
    (hg : ∀ (s : Shared) (H : Hp) (C : Addr) (cl : List (Str × Addr)) (fp : List Addr), PGD (X.blk s H scope (compEnvC scope cl C X.env) fp) A tg (own.map (·.2)) g)
    (ht : ∀ (s : Shared) (H : Hp) (C : Addr) (cl : List (Str × Addr)) (fp : List Addr), PTsD (X.blk s H scope (compEnvC scope cl C X.env) fp) A W0 ifs c)
    (he : ∀ (s : Shared) (H : Hp) (C : Addr) (cl : List (Str × Addr)) (fp : List Addr), PD (X.blk s H scope (compEnvC scope cl C X.env) fp) A W0 elt f) (hs : ∀ x, foldedSetIterable iter X.env x = pure x := by intro _; rfl) :
    PL X A W (.ListComp elt [⟨tg, iter, ifs, 0⟩] scope pos) (eComp it (own.map (·.2)) g c f) := PE.imp (pe_lc hc hN hi ok hg ht he hs) fun σ H Q h => comp_to σ H Q h
/-- x = [..] on one line, a new list frozen at once -/
theorem psd_setLc (i : Nat) {y : Str} {py : Pos} {elt tg iter : Expr} {ifs : List Expr} {scope : Scope} (own : List (Str × Nat)) {pos spos : Pos} {it : EM (List D)} {g : Tgt} {c : EM Bool} {f : EM D} (hc : X.calm = true) (hN : X.N.Nodup) (hi : PID X A W tg iter it) (ok : BlkOk X.N X.env.scope scope own)
    (hg : ∀ (s : Shared) (H : Hp) (C : Addr) (cl : List (Str × Addr)) (fp : List Addr), PGD (X.blk s H scope (compEnvC scope cl C X.env) fp) A tg (own.map (·.2)) g)
    (ht : ∀ (s : Shared) (H : Hp) (C : Addr) (cl : List (Str × Addr)) (fp : List Addr), PTsD (X.blk s H scope (compEnvC scope cl C X.env) fp) A W0 ifs c)
    (he : ∀ (s : Shared) (H : Hp) (C : Addr) (cl : List (Str × Addr)) (fp : List Addr), PD (X.blk s H scope (compEnvC scope cl C X.env) fp) A W0 elt f)
    (hsw : swapsWith (.ListComp elt [⟨tg, iter, ifs, 0⟩] scope pos) (some (.Name y py)) spos.line X.env = pure true) (hy : X.N[i]? = some y := by rfl) (hyl : X.env.scope.names.lookup y = some .local := by rfl) (hs : ∀ x, foldedSetIterable iter X.env x = pure x := by intro _; rfl) :
    PSD X A W (.Assign [.Name y py] (.ListComp elt [⟨tg, iter, ifs, 0⟩] scope pos) spos) (sSet i (eL (eComp it (own.map (·.2)) g c f))) := PS.imp (ps_setLc hc hN hy hyl hsw hi ok hg ht he hs) fun D σ H h => by
  obtain ⟨S, ρ, rfl, s, h⟩ := h
  refine comp_to (g := g) (c := c) (f := f) σ S.H _ ⟨S, ρ, rfl, s, ?_⟩
  have h' : PostS X.K X.mg A W D S (((eComp it (own.map (·.2)) g c f ρ).bind fun xs ρ1 => .ok (.lst xs) ρ1).fl fun d ρ1 => putSl ρ1 i (.va d)) := h
  cases e : eComp it (own.map (·.2)) g c f ρ with
  | ok xs ρ1 =>
    rw [e] at h'
    intro S' p vs ev s' r hp hF hO h0
    obtain ⟨k1, k2⟩ := putSl_ok (show PostS X.K X.mg A W D S (putSl ρ1 i (.va (.lst xs))) from h')
    exact k2 ⟨upd S'.F p (.lst vs), S'.H, S'.O⟩ _ (ev.fzRaw hF h0) ((s'.fzRaw hp hF hO).setVa k1 ⟨p, vs, rfl, upd_same, r.mono (same_upd hF)⟩)
  | err c d ρ1 =>
    rw [e] at h'
    exact h'
  | stuck =>
    rw [e] at h'
    exact h'
/-- x = [..] on one line, a new list that the body owns -/
theorem psd_ownLc (i : Nat) {y : Str} {py : Pos} {elt tg iter : Expr} {ifs : List Expr} {scope : Scope} (own : List (Str × Nat)) {pos spos : Pos} {it : EM (List D)} {g : Tgt} {c : EM Bool} {f : EM D} (hc : X.calm = true) (hN : X.N.Nodup) (hi : PID X A W tg iter it) (ok : BlkOk X.N X.env.scope scope own)
    (hg : ∀ (s : Shared) (H : Hp) (C : Addr) (cl : List (Str × Addr)) (fp : List Addr), PGD (X.blk s H scope (compEnvC scope cl C X.env) fp) A tg (own.map (·.2)) g)
    (ht : ∀ (s : Shared) (H : Hp) (C : Addr) (cl : List (Str × Addr)) (fp : List Addr), PTsD (X.blk s H scope (compEnvC scope cl C X.env) fp) A W0 ifs c)
    (he : ∀ (s : Shared) (H : Hp) (C : Addr) (cl : List (Str × Addr)) (fp : List Addr), PD (X.blk s H scope (compEnvC scope cl C X.env) fp) A W0 elt f)
    (hsw : swapsWith (.ListComp elt [⟨tg, iter, ifs, 0⟩] scope pos) (some (.Name y py)) spos.line X.env = pure true) (hy : X.N[i]? = some y := by rfl) (hyl : X.env.scope.names.lookup y = some .local := by rfl) (hs : ∀ x, foldedSetIterable iter X.env x = pure x := by intro _; rfl) :
    PSD X A W (.Assign [.Name y py] (.ListComp elt [⟨tg, iter, ifs, 0⟩] scope pos) spos) (sOwn i (eComp it (own.map (·.2)) g c f)) := PS.imp (ps_setLc hc hN hy hyl hsw hi ok hg ht he hs) fun D σ H h => by
  obtain ⟨S, ρ, rfl, s, h⟩ := h
  refine comp_to (g := g) (c := c) (f := f) σ S.H _ ⟨S, ρ, rfl, s, ?_⟩
  have h' : PostS X.K X.mg A W D S ((eComp it (own.map (·.2)) g c f ρ).fl fun xs ρ1 => putSl ρ1 i (.ow false (.lst xs))) := h
  cases e : eComp it (own.map (·.2)) g c f ρ with
  | ok xs ρ1 =>
    rw [e] at h'
    intro S' p vs ev s' r hp hF hO h0
    obtain ⟨k1, k2⟩ := putSl_ok (show PostS X.K X.mg A W D S (putSl ρ1 i (.ow false (.lst xs))) from h')
    exact k2 ⟨S'.F, S'.H, fun a => S'.O a ∨ a = p⟩ _ (ev.ownRaw h0) (s'.own k1 hp hF hO ⟨p, vs, rfl, hp, r, rfl⟩)
  | err c d ρ1 =>
    rw [e] at h'
    exact h'
  | stuck =>
    rw [e] at h'
    exact h'

/-! ### loops -/
def forL (g : Tgt) (b : SM) : List D → SM
  | [] => fun ρ => .nx ρ
  | x :: xs => fun ρ => match g x ρ with
    | none => .stuck
    | some ρ1 => match b ρ1 with
      | .nx ρ2 => forL g b xs ρ2
      | .ct ρ2 => forL g b xs ρ2
      | .bk ρ2 => .nx ρ2
      | r => r
def sFor (it : EM (List D)) (g : Tgt) (b : SM) : SM := fun ρ => (it ρ).fl fun items ρ1 => forL g b items ρ1
theorem psd_for {tg iter : Expr} {body : List Stmt} {it : EM (List D)} {ws : List Nat} {g : Tgt} {b : SM} {pos : Pos} (hp : PassesOwn (model X.prog X.w) X.A X.env X.xe) (hc : X.calm = true) (hi : PID X A W tg iter it) (hg : PGD X A tg ws g) (hb : PSsD X A W body b)
    (hs : ∀ x, foldedSetIterable iter X.env x = pure x := by intro _; rfl) : PSD X A W (.For tg iter body [] pos) (sFor it g b) := PS.imp (ps_for hp hc hi hg hb hs) fun D σ H h => by
  obtain ⟨S, ρ, rfl, s, h⟩ := h
  refine ⟨S, ρ, rfl, s, ?_⟩
  have h0 : PostS X.K X.mg A W D S ((it ρ).fl fun items ρ1 => forL g b items ρ1) := h
  clear h
  cases hi : it ρ with
  | err c d ρ' =>
    rw [hi] at h0
    exact h0
  | stuck =>
    rw [hi] at h0
    exact h0
  | ok items ρ1 =>
    rw [hi] at h0
    have h1 : PostS X.K X.mg A W D S (forL g b items ρ1) := h0
    intro S1 J ev1 s1 wk
    obtain ⟨G, Y, wk1, wk2, wk3⟩ := wk
    refine for_it (w := wk1) (fun i σ H => ∃ S2 ρ2, S2.H = H ∧ Ev S1 S2 ∧ Sat X.K X.mg A S2 σ ρ2 ∧ PostS X.K X.mg A W D S (forL g b (items.drop i) ρ2)) ⟨S1, ρ1, rfl, Ev.refl S1, s1, h1⟩ (fun i σ H _ p => ?_) (fun i x σ H H' hlt p y => ?_) (fun σ H p => ?_)
    · obtain ⟨S2, ρ2, rfl, ev2, s2, _⟩ := p
      exact wk2 S2 ev2 s2.sub
    · obtain ⟨S2, ρ2, rfl, ev2, s2, hp2⟩ := p
      obtain ⟨S3, d, rfl, g3, di, rd⟩ := wk3 i S2 x H' hlt ev2 s2.sub y
      have hdrop : items.drop i = d :: items.drop (i + 1) := by
        rw [List.drop_eq_getElem_cons hlt]
        rw [List.getElem?_eq_getElem hlt] at di
        rw [Option.some.inj di]
      rw [hdrop] at hp2
      have s3 := s2.gr g3
      refine ⟨S3, ρ2, d, rfl, s3, rd, ?_⟩
      have hp3 : PostS X.K X.mg A W D S (match g d ρ2 with
        | none => .stuck
        | some ρ1 => match b ρ1 with
          | .nx ρ2 => forL g b (items.drop (i + 1)) ρ2
          | .ct ρ2 => forL g b (items.drop (i + 1)) ρ2
          | .bk ρ2 => .nx ρ2
          | r => r) := hp2
      cases eg : g d ρ2 with
      | none =>
        rw [eg] at hp3
        exact hp3.elim
      | some ρa =>
        rw [eg] at hp3
        intro σa wa sa
        refine ⟨S3, ρa, rfl, sa, ?_⟩
        have ev13 : Ev S1 S3 := ev2.trans g3.ev
        cases eb : b ρa with
        | nx ρb =>
          simp only [eb] at hp3
          exact fun S4 σ4 ev4 s4 => ⟨S4, ρb, rfl, ev13.trans ev4, s4, hp3⟩
        | ct ρb =>
          simp only [eb] at hp3
          exact fun S4 σ4 ev4 s4 => ⟨S4, ρb, rfl, ev13.trans ev4, s4, hp3⟩
        | bk ρb =>
          simp only [eb] at hp3
          exact fun S4 σ4 ev4 s4 => hp3 S4 σ4 ((ev1.trans ev13).trans ev4) s4
        | rt d ρb =>
          simp only [eb] at hp3
          exact fun S4 σ4 v ev4 s4 r => hp3 S4 σ4 v ((ev1.trans ev13).trans ev4) s4 r
        | er c d ρb =>
          simp only [eb] at hp3
          exact fun S4 σ4 C cd v hC ev4 => hp3 S4 σ4 C cd v hC ((ev1.trans ev13).trans ev4)
        | stuck =>
          simp only [eb] at hp3
          exact (show False from hp3).elim
    · obtain ⟨S2, ρ2, rfl, ev2, s2, hp2⟩ := p
      rw [List.drop_length] at hp2
      exact hp2 S2 σ (ev1.trans ev2) s2
def whileF (c : EM Bool) (b : SM) : Nat → SM
  | 0 => fun _ => .stuck
  | m + 1 => fun ρ => (c ρ).fl fun t ρ1 => if t = true then (match b ρ1 with
    | .nx ρ2 => whileF c b m ρ2
    | .ct ρ2 => whileF c b m ρ2
    | .bk ρ2 => .nx ρ2
    | r => r) else .nx ρ1
theorem psd_while (n : Nat) {c : Expr} {body : List Stmt} {t : EM Bool} {b : SM} {pos : Pos} (hp : PassesOwn (model X.prog X.w) X.A X.env X.xe) (hc : PTD X A W c t) (hb : PSsD X A W body b) : PSD X A W (.While c body [] pos) (whileF t b n) := PS.imp (ps_while hp hc hb) fun D σ H h => by
  obtain ⟨S, ρ, rfl, s, h⟩ := h
  refine ⟨fun m σ H => ∃ S2 ρ2, S2.H = H ∧ Ev S S2 ∧ Sat X.K X.mg A S2 σ ρ2 ∧ PostS X.K X.mg A W D S (whileF t b m ρ2), ⟨n, S, ρ, rfl, Ev.refl S, s, h⟩, ?_⟩
  rintro m σ H ⟨S2, ρ2, rfl, ev2, s2, h2⟩
  cases m with
  | zero => exact h2.elim
  | succ m =>
    have h3 : PostS X.K X.mg A W D S ((t ρ2).fl fun t' ρ1 => if t' = true then (match b ρ1 with
      | .nx ρ2 => whileF t b m ρ2
      | .ct ρ2 => whileF t b m ρ2
      | .bk ρ2 => .nx ρ2
      | r => r) else .nx ρ1) := h2
    refine ⟨S2, ρ2, rfl, s2, ?_⟩
    cases et : t ρ2 with
    | err c d ρ' =>
      rw [et] at h3
      exact fun S4 σ4 C cd v hC ev4 => h3 S4 σ4 C cd v hC (ev2.trans ev4)
    | stuck =>
      rw [et] at h3
      exact h3
    | ok c ρa =>
      rw [et] at h3
      have h4 : PostS X.K X.mg A W D S (if c = true then (match b ρa with
        | .nx ρ2 => whileF t b m ρ2
        | .ct ρ2 => whileF t b m ρ2
        | .bk ρ2 => .nx ρ2
        | r => r) else .nx ρa) := h3
      intro S3 ev3 s3
      cases c with
      | false =>
        rw [if_neg Bool.false_ne_true] at h4
        exact iteF (h4 S3 σ (ev2.trans ev3) s3)
      | true =>
        rw [if_pos rfl] at h4
        refine iteT ⟨fun σ' H' => ∃ S4 ρ4, S4.H = H' ∧ Ev S S4 ∧ Sat X.K X.mg A S4 σ' ρ4 ∧ PostS X.K X.mg A W D S (whileF t b m ρ4), fun σ' H' q => ⟨m, Nat.lt_succ_self m, q⟩, S3, ρa, rfl, s3, ?_⟩
        have e3 := ev2.trans ev3
        cases eb : b ρa with
        | nx ρb =>
          simp only [eb] at h4
          exact fun S4 σ4 ev4 s4 => ⟨S4, ρb, rfl, e3.trans ev4, s4, h4⟩
        | ct ρb =>
          simp only [eb] at h4
          exact fun S4 σ4 ev4 s4 => ⟨S4, ρb, rfl, e3.trans ev4, s4, h4⟩
        | bk ρb =>
          simp only [eb] at h4
          exact fun S4 σ4 ev4 s4 => h4 S4 σ4 (e3.trans ev4) s4
        | rt d ρb =>
          simp only [eb] at h4
          exact fun S4 σ4 v ev4 s4 r => h4 S4 σ4 v (e3.trans ev4) s4 r
        | er c d ρb =>
          simp only [eb] at h4
          exact fun S4 σ4 C cd v hC ev4 => h4 S4 σ4 C cd v hC (e3.trans ev4)
        | stuck =>
          simp only [eb] at h4
          exact (show False from h4).elim
end
end DL
end

section
set_option Elab.async false
set_option linter.all false
set_option maxRecDepth 100000
/-! Assignments to several names. -/
namespace DL
open PySem PySem.Spec PyProof.Rows L2
/-- t = e, any target -/
def sAsg (f : EM D) (g : Tgt) : SM := fun ρ => (f ρ).fl fun d ρ1 => match g d ρ1 with
  | some ρ2 => .nx ρ2
  | none => .stuck
/-- an element of a display: a value, or a new list that the body owns -/
inductive El where
  | fz (f : EM D) | nw (f : EM (List D))
def El.go : El → EM D
  | .fz f => f
  | .nw f => eL f
def El.sl : El → D → Option Sl
  | .fz _, d => some (.va d)
  | .nw _, .lst xs => some (.ow false (.lst xs))
  | _, _ => none
def putEl (ρ : Env') (i : Nat) (o : Option Sl) (k : Env' → Fl) : Fl := match o with
  | some s => if isIo ρ[i]? = true then .stuck else k (ρ.set i s)
  | none => .stuck
def sPar (i j : Nat) (a b : El) : SM := fun ρ => (a.go ρ).fl fun x ρ1 => (b.go ρ1).fl fun y ρ2 => putEl ρ2 i (a.sl x) fun ρ3 => putEl ρ3 j (b.sl y) fun ρ4 => .nx ρ4
def sPar3 (i j l : Nat) (a b c : El) : SM := fun ρ => (a.go ρ).fl fun x ρ1 => (b.go ρ1).fl fun y ρ2 => (c.go ρ2).fl fun z ρ3 => putEl ρ3 i (a.sl x) fun ρ4 => putEl ρ4 j (b.sl y) fun ρ5 => putEl ρ5 l (c.sl z) fun ρ6 => .nx ρ6
section
variable (K : PySem.W.Frag) (mg : Str → Option Value) (A : List V) (W : WX)
def tEl : El → TE
  | .fz f => tD K mg A W f
  | .nw f => tL K mg A W f
end
abbrev PEl (X : Cx) (A : List V) (W : WX) (e : Expr) (o : El) : Prop := PE X e (tEl X.K X.mg A W o)
section
variable {X : Cx} {A : List V} {W : WX} {S S' : Cfg} {σ : L2.St} {ρ : Env'}
theorem pel_fz {e : Expr} {f : EM D} (h : PD X A W e f) : PEl X A W e (.fz f) := h
theorem pel_nw {e : Expr} {f : EM (List D)} (h : PL X A W e f) : PEl X A W e (.nw f) := h
def ElOk (X : Cx) (S0 S : Cfg) (v : V) : El → D → Prop
  | .fz _, d => RD X.K X.mg S.F d v
  | .nw _, d => ∃ p vs xs, v = .ref p ∧ d = .lst xs ∧ S.H p = some (.lst vs) ∧ RDs X.K X.mg S.F xs vs ∧ S.F p = none ∧ ¬ S.O p ∧ S0.H p = none
theorem ElOk.ev {S0 : Cfg} {v : V} {o : El} {d : D} (h : ElOk X S0 S v o d) (e : Ev S S') : ElOk X S0 S' v o d := by
  cases o with
  | fz f => exact RD.mono e.frz h
  | nw f =>
    obtain ⟨p, vs, xs, h1, h2, h3, h4, h5, h6, h7⟩ := h
    refine ⟨p, vs, xs, h1, h2, e.same _ _ h3 h6, h4.mono e.frz, ?_, fun q => ?_, h7⟩
    · rw [e.newF p _ h3 h6]
      exact h5
    · rcases e.own p q with z | z
      · exact h6 z
      · rw [h3] at z
        cases z
theorem el_fl {D' : Ends} {S0 : Cfg} {o : El} {g : D → Env' → Fl} {Q' : VK} (h0 : Ev S0 S) (s : Sat X.K X.mg A S σ ρ) (hp : PostS X.K X.mg A W D' S0 ((o.go ρ).fl g))
    (k : ∀ x ρ1 S1 v, PostS X.K X.mg A W D' S0 (g x ρ1) → Ev S S1 → Sat X.K X.mg A S1 σ ρ1 → ElOk X S S1 v o x → Q' v S1.H) : tEl X.K X.mg A W o σ S.H Q' := by
  cases o with
  | fz f =>
    refine ⟨S, ρ, rfl, s, ?_⟩
    have hp' : PostS X.K X.mg A W D' S0 ((f ρ).fl g) := hp
    cases e : f ρ with
    | ok x ρ1 =>
      rw [e] at hp'
      exact fun S1 v ev s1 r => k x ρ1 S1 v hp' ev s1 r
    | err c d ρ1 =>
      rw [e] at hp'
      exact PostX.ev (show PostX X.K X.mg A W S0 c d ρ1 from hp') h0
    | stuck =>
      rw [e] at hp'
      exact hp'
  | nw f =>
    refine ⟨S, ρ, rfl, s, ?_⟩
    have hp' : PostS X.K X.mg A W D' S0 (((f ρ).bind fun xs ρ1 => .ok (.lst xs) ρ1).fl g) := hp
    cases e : f ρ with
    | ok xs ρ1 =>
      rw [e] at hp'
      exact fun S1 p vs ev s1 r h1 h2 h3 h4 => k (.lst xs) ρ1 S1 (.ref p) hp' ev s1 ⟨p, vs, xs, rfl, rfl, h1, r, h2, h3, h4⟩
    | err c d ρ1 =>
      rw [e] at hp'
      exact PostX.ev (show PostX X.K X.mg A W S0 c d ρ1 from hp') h0
    | stuck =>
      rw [e] at hp'
      exact hp'
def Dst (a b : El) (v u : V) : Prop := match a, b with
  | .nw _, .nw _ => u ≠ v
  | _, _ => True
/-- an element is stored -/
theorem el_put {D' : Ends} {S0 S0' : Cfg} {o : El} {d : D} {v : V} {i : Nat} {k : Env' → Fl} (s : Sat X.K X.mg A S σ ρ) (h0 : Ev S0 S) (ok : ElOk X S0' S v o d) (hn : ∀ p, S0'.H p = none → S0.H p = none) (hp : PostS X.K X.mg A W D' S0 (putEl ρ i (o.sl d) k)) :
    ∃ S1 sl, S1.H = S.H ∧ S1.F = S.F ∧ Ev S0 S1 ∧ Sat X.K X.mg A S1 (σ.set i (some v)) (ρ.set i sl) ∧ PostS X.K X.mg A W D' S0 (k (ρ.set i sl)) ∧ ∀ (b : El) (d2 : D) (u : V) (Sb : Cfg), Dst o b v u → ElOk X Sb S u b d2 → ElOk X Sb S1 u b d2 := by
  cases o with
  | fz f =>
    have hp' : PostS X.K X.mg A W D' S0 (if isIo ρ[i]? = true then .stuck else k (ρ.set i (.va d))) := hp
    by_cases q : isIo ρ[i]? = true
    · rw [if_pos q] at hp'
      exact (show False from hp').elim
    · rw [if_neg q] at hp'
      exact ⟨S, .va d, rfl, rfl, h0, s.setVa (by simpa using q) ok, hp', fun _ _ _ _ _ z => z⟩
  | nw f =>
    obtain ⟨p, vs, xs, rfl, rfl, h3, h4, h5, h6, h7⟩ := ok
    have hp' : PostS X.K X.mg A W D' S0 (if isIo ρ[i]? = true then .stuck else k (ρ.set i (.ow false (.lst xs)))) := hp
    by_cases q : isIo ρ[i]? = true
    · rw [if_pos q] at hp'
      exact (show False from hp').elim
    · rw [if_neg q] at hp'
      refine ⟨⟨S.F, S.H, fun a => S.O a ∨ a = p⟩, .ow false (.lst xs), rfl, rfl, h0.ownRaw (hn p h7), s.own (by simpa using q) h3 h5 h6 ⟨p, vs, rfl, h3, h4, rfl⟩, hp', fun b d2 u Sb hd z => ?_⟩
      cases b with
      | fz g => exact z
      | nw g =>
        obtain ⟨p2, vs2, xs2, rfl, rfl, k3, k4, k5, k6, k7⟩ := z
        refine ⟨p2, vs2, xs2, rfl, rfl, k3, k4, k5, fun w => ?_, k7⟩
        rcases w with w | w
        · exact k6 w
        · have hd' : V.ref p2 ≠ V.ref p := hd
          exact hd' (by rw [w])
theorem el_dst {S0 : Cfg} {a b : El} {x y : D} {v u : V} (ha : ElOk X S0 S v a x) (hb : ElOk X S S' u b y) : Dst a b v u := by
  cases a with
  | fz f => trivial
  | nw f => cases b with
    | fz g => trivial
    | nw g =>
      obtain ⟨p, vs, xs, rfl, rfl, h3, _⟩ := ha
      obtain ⟨p2, vs2, xs2, rfl, rfl, k3, k4, k5, k6, k7⟩ := hb
      intro z
      cases z
      rw [h3] at k7
      cases k7
theorem psd_par {i j : Nat} {x y : Str} {a b : Expr} {ea eb : El} {px py pt pos : Pos} {kt k2 pt2} (hc : X.calm = true) (hN : X.N.Nodup) (ha : PEl X A W a ea) (hb : PEl X A W b eb) (hi : X.N[i]? = some x := by rfl) (hj : X.N[j]? = some y := by rfl) (hij : i ≠ j := by decide)
    (hx : X.env.scope.names.lookup x = some .local := by rfl) (hy : X.env.scope.names.lookup y = some .local := by rfl)
    (hs1 : starEach (a :: [b]) X.env = (false, eval a X.env) :: starEach [b] X.env := by rfl) (hs2 : starEach (b :: []) X.env = (false, eval b X.env) :: starEach [] X.env := by rfl)
    (hw : swappedStores [.Tuple [.Name x px, .Name y py] kt pt] (.Tuple [a, b] k2 pt2) X.env = pure (some [x, y]) := by rfl)
    (hs : swapsWithSole [.Tuple [.Name x px, .Name y py] kt pt] (.Tuple [a, b] k2 pt2) pos.line X.env = pure false := by rfl) :
    PSD X A W (.Assign [.Tuple [.Name x px, .Name y py] kt pt] (.Tuple [a, b] k2 pt2) pos) (sPar i j ea eb) := PS.imp (ps_par hc hN hi hj hij hx hy (pa_cons ha (pa_cons hb pa_nil hs2) hs1) hw hs) fun D σ H h => by
  obtain ⟨S, ρ, rfl, s, h⟩ := h
  refine el_fl (Ev.refl S) s h fun d1 ρ1 S1 v hp1 ev1 s1 ok1 => ?_
  refine el_fl ev1 s1 hp1 fun d2 ρ2 S2 u hp2 ev2 s2 ok2 => ?_
  have hd := el_dst ok1 ok2
  have hp2' : PostS X.K X.mg A W D S (putEl ρ2 i (ea.sl d1) fun ρ3 => putEl ρ3 j (eb.sl d2) fun ρ4 => .nx ρ4) := hp2
  obtain ⟨S3, sl1, hH3, hF3, ev3, s3, hp3, mv⟩ := el_put s2 (ev1.trans ev2) (ok1.ev ev2) (fun p z => z) hp2'
  obtain ⟨S4, sl2, hH4, hF4, ev4, s4, hp4, _⟩ := el_put s3 ev3 (mv _ _ _ _ hd ok2) (fun p z => ev1.nil z) hp3
  refine ⟨v, u, rfl, ?_⟩
  have z := hp4 S4 _ ev4 s4
  rw [hH4, hH3] at z
  exact z
theorem psd_par3 {i j l : Nat} {x y w : Str} {a b c : Expr} {ea eb ec : El} {px py pz pt pos : Pos} {kt k2 pt2} (hc : X.calm = true) (hN : X.N.Nodup) (ha : PEl X A W a ea) (hb : PEl X A W b eb) (hce : PEl X A W c ec) (hi : X.N[i]? = some x := by rfl) (hj : X.N[j]? = some y := by rfl) (hl : X.N[l]? = some w := by rfl) (hij : i ≠ j := by decide) (hil : i ≠ l := by decide) (hjl : j ≠ l := by decide)
    (hx : X.env.scope.names.lookup x = some .local := by rfl) (hy : X.env.scope.names.lookup y = some .local := by rfl) (hz : X.env.scope.names.lookup w = some .local := by rfl)
    (hs1 : starEach (a :: [b, c]) X.env = (false, eval a X.env) :: starEach [b, c] X.env := by rfl) (hs2 : starEach (b :: [c]) X.env = (false, eval b X.env) :: starEach [c] X.env := by rfl) (hs3 : starEach (c :: []) X.env = (false, eval c X.env) :: starEach [] X.env := by rfl)
    (hw : swappedStores [.Tuple [.Name x px, .Name y py, .Name w pz] kt pt] (.Tuple [a, b, c] k2 pt2) X.env = pure (some [x, y, w]) := by rfl)
    (hs : swapsWithSole [.Tuple [.Name x px, .Name y py, .Name w pz] kt pt] (.Tuple [a, b, c] k2 pt2) pos.line X.env = pure false := by rfl) :
    PSD X A W (.Assign [.Tuple [.Name x px, .Name y py, .Name w pz] kt pt] (.Tuple [a, b, c] k2 pt2) pos) (sPar3 i j l ea eb ec) := PS.imp (ps_par3 hc hN hi hj hl hij hil hjl hx hy hz (pa_cons ha (pa_cons hb (pa_cons hce pa_nil hs3) hs2) hs1) hw hs) fun D σ H h => by
  obtain ⟨S, ρ, rfl, s, h⟩ := h
  refine el_fl (Ev.refl S) s h fun d1 ρ1 S1 v hp1 ev1 s1 ok1 => ?_
  refine el_fl ev1 s1 hp1 fun d2 ρ2 S2 u hp2 ev2 s2 ok2 => ?_
  refine el_fl (ev1.trans ev2) s2 hp2 fun d3 ρ3 S3 t hp3 ev3 s3 ok3 => ?_
  have hd12 := el_dst ok1 ok2
  have hd13 := el_dst (ok1.ev ev2) ok3
  have hd23 := el_dst ok2 ok3
  have hp3' : PostS X.K X.mg A W D S (putEl ρ3 i (ea.sl d1) fun ρ4 => putEl ρ4 j (eb.sl d2) fun ρ5 => putEl ρ5 l (ec.sl d3) fun ρ6 => .nx ρ6) := hp3
  have ev13 := (ev1.trans ev2).trans ev3
  obtain ⟨S4, sl1, hH4, hF4, ev4, s4, hp4, mv4⟩ := el_put s3 ev13 ((ok1.ev ev2).ev ev3) (fun p z => z) hp3'
  obtain ⟨S5, sl2, hH5, hF5, ev5, s5, hp5, mv5⟩ := el_put s4 ev4 (mv4 _ _ _ _ hd12 (ok2.ev ev3)) (fun p z => ev1.nil z) hp4
  obtain ⟨S6, sl3, hH6, hF6, ev6, s6, hp6, _⟩ := el_put s5 ev5 (mv5 _ _ _ _ hd23 (mv4 _ _ _ _ hd13 ok3)) (fun p z => (ev1.trans ev2).nil z) hp5
  refine ⟨v, u, t, rfl, ?_⟩
  have z := hp6 S6 _ ev6 s6
  rw [hH6, hH5, hH4] at z
  exact z
/-- t = e, any target, e no display of two or three names' values -/
theorem psd_asg {tg e : Expr} {f : EM D} {ws : List Nat} {g : Tgt} {pos : Pos} (he : PD X A W e f) (hg : PGD X A tg ws g) (hs : swapsWithSole [tg] e pos.line X.env = pure false := by rfl) (hw : swappedStores [tg] e X.env = pure none := by rfl) (h1 : (assignEach [tg] X.env).map (·.2) = [assign tg X.env] := by rfl) :
    PSD X A W (.Assign [tg] e pos) (sAsg f g) := PS.imp (ps_asg he hg hs hw h1) fun D σ H h => by
  obtain ⟨S, ρ, rfl, s, h⟩ := h
  refine tD_fl s h fun d ρ1 S1 v hp ev s1 r => ?_
  refine ⟨S1, ρ1, d, rfl, s1, r, ?_⟩
  have hp' : PostS X.K X.mg A W D S (match g d ρ1 with
    | some ρ2 => .nx ρ2
    | none => .stuck) := hp
  cases e : g d ρ1 with
  | none =>
    rw [e] at hp'
    exact (show False from hp').elim
  | some ρ2 =>
    rw [e] at hp'
    exact fun σ' _ s' => hp' S1 σ' ev s'
end
end DL
end

section
set_option Elab.async false
set_option linter.all false
set_option maxRecDepth 100000
/-! Value operations. -/
namespace DL
open PySem PySem.Spec PyProof.Rows L2
/-! ### as plain data -/
mutual
def toPy : D → Option PyData
  | .non => some .none
  | .bl b => some (.bool b)
  | .int i => some (.int i)
  | .str x => some (.str x)
  | .lst xs => (toPys xs).map .list
  | .tup xs => (toPys xs).map .tuple
  | _ => none
def toPys : List D → Option (List PyData)
  | [] => some []
  | x :: xs => match toPy x, toPys xs with
    | some d, some ds => some (d :: ds)
    | _, _ => none
end
section
variable {K : PySem.W.Frag} {mg : Str → Option Value} {F : Hp}
mutual
theorem RD.dp : ∀ {d : D} {v : V} {p : PyData}, RD K mg F d v → toPy d = some p → Dp K F v p
  | .non, v, p, r, e => by
    cases e
    have : v = .non := r
    subst this
    exact .non
  | .bl b, v, p, r, e => by
    cases e
    have : v = .bl b := r
    subst this
    exact .bl b
  | .int i, v, p, r, e => by
    cases e
    have : v = .int i := r
    subst this
    exact .int i
  | .str x, v, p, r, e => by
    cases e
    have : v = .str x := r
    subst this
    exact .str x
  | .lst xs, v, p, r, e => by
    obtain ⟨a, vs, h1, h2, h3⟩ := r
    unfold toPy at e
    cases q : toPys xs with
    | none =>
      rw [q] at e
      cases e
    | some ps =>
      rw [q] at e
      cases e
      subst h1
      exact .lst (SqL.of h2) (RDs.dp h3 q)
  | .tup xs, v, p, r, e => by
    obtain ⟨a, vs, h1, h2, h3⟩ := r
    unfold toPy at e
    cases q : toPys xs with
    | none =>
      rw [q] at e
      cases e
    | some ps =>
      rw [q] at e
      cases e
      subst h1
      exact .tup (SqT.of h2) (RDs.dp h3 q)
  | .dK _ _, _, _, _, e => by cases e
  | .dT _ _, _, _, _, e => by cases e
  | .ins _ _ _, _, _, _, e => by cases e
  | .ty _, _, _, _, e => by cases e
  | .cls _, _, _, _, e => by cases e
  | .scr _, _, _, _, e => by cases e
theorem RDs.dp : ∀ {ds : List D} {vs : List V} {ps : List PyData}, RDs K mg F ds vs → toPys ds = some ps → DpAll K F vs ps
  | [], vs, ps, r, e => by
    cases e
    have : vs = [] := r
    subst this
    exact .nil
  | d :: ds, vs, ps, ⟨v, r, h1, h2, h3⟩, e => by
    unfold toPys at e
    split at e
    · rename_i p qs e1 e2
      cases e
      subst h1
      exact .cons (RD.dp h2 e1) (RDs.dp h3 e2)
    · cases e
end
theorem RB.dp {S : Cfg} (h : Same S.F S.H) {d : D} {v : V} {p : PyData} (r : RB K mg S d v) (e : toPy d = some p) : Dp K S.H v p := by
  cases d with
  | lst xs =>
    obtain ⟨a, vs, h1, h2, h3⟩ := r
    unfold toPy at e
    cases q : toPys xs with
    | none =>
      rw [q] at e
      cases e
    | some ps =>
      rw [q] at e
      cases e
      subst h1
      exact .lst (SqL.of h2) ((h3.mono h).dp q)
  | dK _ _ => cases e
  | dT _ _ => cases e
  | non => exact (RD.mono h r).dp e
  | bl _ => exact (RD.mono h r).dp e
  | int _ => exact (RD.mono h r).dp e
  | str _ => exact (RD.mono h r).dp e
  | tup _ => exact (RD.mono h r).dp e
  | ins _ _ _ => cases e
  | ty _ => cases e
  | cls _ => cases e
  | scr _ => cases e
end
section
variable {X : Cx}
theorem OpR.or {f : Value → Value → Sem Value} {r r' : R2} (h : OpR X f r) (h' : OpR X f r') : OpR X f (fun x y H Q => r x y H Q ∨ r' x y H Q) := fun pins s σ H x y v u Q I rx ry q => by
  rcases q with q | q
  · exact h pins s σ H x y v u Q I rx ry q
  · exact h' pins s σ H x y v u Q I rx ry q
theorem rb_int {S : Cfg} {i : Int} {v : V} (h : RB X.K X.mg S (.int i) v) : v = .int i := h
theorem rb_bl {S : Cfg} {i : Bool} {v : V} (h : RB X.K X.mg S (.bl i) v) : v = .bl i := h
theorem rb_str {S : Cfg} {i : Str} {v : V} (h : RB X.K X.mg S (.str i) v) : v = .str i := h
theorem rb_tup {S : Cfg} {xs : List D} {v : V} (h : RB X.K X.mg S (.tup xs) v) : ∃ a vs, v = .ref a ∧ S.F a = some (.tup vs) ∧ RDs X.K X.mg S.F xs vs := h
/-- a new frozen tuple, list -/
theorem give_tup {S : Cfg} (hS : Same S.F S.H) {xs : List D} {vs : List V} {Q : VK} (r : RDs X.K X.mg S.F xs vs) (k : ∀ S' w, Gr S S' → RD X.K X.mg S'.F (.tup xs) w → Q w S'.H) (p : Addr) (hp : S.H p = none) : Q (.ref p) (upd S.H p (.tup vs)) :=
  k (S.fz p (.tup vs)) (.ref p) (.fz hS hp) ⟨p, vs, rfl, upd_same, r.mono (same_upd (none_sub hS hp))⟩
theorem give_lst {S : Cfg} (hS : Same S.F S.H) {xs : List D} {vs : List V} {Q : VK} (r : RDs X.K X.mg S.F xs vs) (k : ∀ S' w, Gr S S' → RD X.K X.mg S'.F (.lst xs) w → Q w S'.H) (p : Addr) (hp : S.H p = none) : Q (.ref p) (upd S.H p (.lst vs)) :=
  k (S.fz p (.lst vs)) (.ref p) (.fz hS hp) ⟨p, vs, rfl, upd_same, r.mono (same_upd (none_sub hS hp))⟩
abbrev BIG : Nat := 1000000
theorem big_size {n : Nat} (h : n ≤ BIG) : n ≤ sizeLine := Nat.le_trans h (by decide)
/-! ### + -/
def dAdd : D → D → Option D
  | .int i, .int j => some (.int (i + j))
  | .lst a, .lst b => if a.length + b.length ≤ BIG then some (.lst (a ++ b)) else none
  | .tup a, .tup b => if a.length + b.length ≤ BIG then some (.tup (a ++ b)) else none
  | .str a, .str b => if a.length + b.length ≤ BIG then some (.str (a ++ b)) else none
  | _, _ => none
def rAddD (K : PySem.W.Frag) : R2 := fun x y H Q => rI0 (fun i j => .int (i + j)) x y H Q ∨ rCat x y H Q ∨ L2.rCatA K x y H Q ∨ ∃ i j, x = .str i ∧ y = .str j ∧ i.length + j.length ≤ sizeLine ∧ Q (.str (i ++ j)) H
theorem op_addD : OpR X (binaryOp .Add) (rAddD X.K) := op_add.or (op_cat.or (op_catA.or op_add_str))
theorem vop_add : VOp2 X dAdd (rAddD X.K) := fun S x y z v u Q hS e rx ry k => by
  unfold dAdd at e
  split at e
  · cases e
    exact .inl ⟨_, _, rx, ry, k S _ (.refl hS) rfl⟩
  · rename_i a b
    split at e
    · rename_i hl
      cases e
      obtain ⟨p, vs, rfl, h2, h3⟩ := rx
      obtain ⟨q, us, rfl, k2, k3⟩ := ry
      exact .inr (.inl ⟨p, q, vs, us, rfl, rfl, h2, k2, big_size (by rw [← h3.length, ← k3.length]; exact hl), fun n hn => give_lst hS (h3.app k3) k n hn⟩)
    · cases e
  · rename_i a b
    split at e
    · rename_i hl
      cases e
      obtain ⟨p, vs, rfl, h2, h3⟩ := rx
      obtain ⟨q, us, rfl, k2, k3⟩ := ry
      refine .inr (.inr (.inl ⟨p, q, vs, us, rfl, rfl, sqT_of hS h2, sqT_of hS k2, big_size (by rw [← h3.length, ← k3.length]; exact hl), fun e => ?_, fun _ e => ?_, fun _ _ n hn => give_tup hS (h3.app k3) k n hn⟩))
      · cases a with
        | nil => exact k S _ (.refl hS) ⟨q, us, rfl, k2, k3⟩
        | cons c r =>
          subst e
          exact nomatch h3.length
      · cases b with
        | nil => exact k S _ (.refl hS) ⟨p, vs, rfl, h2, by rw [List.append_nil]; exact h3⟩
        | cons c r =>
          subst e
          exact nomatch k3.length
    · cases e
  · split at e
    · rename_i hl
      cases e
      exact .inr (.inr (.inr ⟨_, _, rx, ry, big_size hl, k S _ (.refl hS) rfl⟩))
    · cases e
  · cases e
/-! ### ints -/
def dSub : D → D → Option D
  | .int i, .int j => some (.int (i - j))
  | _, _ => none
theorem vop_sub : VOp2 X dSub (rI0 fun i j => .int (i - j)) := fun S x y z v u Q hS e rx ry k => by
  unfold dSub at e
  split at e
  · cases e
    exact ⟨_, _, rx, ry, k S _ (.refl hS) rfl⟩
  · cases e
def dFdiv : D → D → Option D
  | .int i, .int j => if 0 < j ∧ j < 1073741824 then some (.int (i / j)) else none
  | _, _ => none
theorem vop_fdiv : VOp2 X dFdiv (rI CDiv fun i j => .int (i / j)) := fun S x y z v u Q hS e rx ry k => by
  unfold dFdiv at e
  split at e
  · split at e
    · rename_i h
      cases e
      exact ⟨_, _, rx, ry, h, k S _ (.refl hS) rfl⟩
    · cases e
  · cases e
def dMod : D → D → Option D
  | .int i, .int j => if 0 < j then some (.int (i % j)) else none
  | _, _ => none
theorem vop_mod : VOp2 X dMod (rI (fun _ j => 0 < j) fun i j => .int (i % j)) := fun S x y z v u Q hS e rx ry k => by
  unfold dMod at e
  split at e
  · split at e
    · rename_i h
      cases e
      exact ⟨_, _, rx, ry, h, k S _ (.refl hS) rfl⟩
    · cases e
  · cases e
/-! ### order -/
def dCmp (p : Int → Int → Bool) : D → D → Option D
  | .int i, .int j => some (.bl (p i j))
  | _, _ => none
theorem vop_cmp (p : Int → Int → Bool) : VOp2 X (dCmp p) (rI0 fun i j => .bl (p i j)) := fun S x y z v u Q hS e rx ry k => by
  unfold dCmp at e
  split at e
  · cases e
    exact ⟨_, _, rx, ry, k S _ (.refl hS) rfl⟩
  · cases e
abbrev dLt := dCmp fun i j => decide (i < j)
abbrev dLe := dCmp fun i j => decide (i ≤ j)
abbrev dGt := dCmp fun i j => decide (j < i)
abbrev dGe := dCmp fun i j => decide (j ≤ i)
/-! ### ==, !=, is None -/
def dEqv (x y : D) : Option Bool := match toPy x, toPy y with
  | some p, some q => if SeqAt.shaped p = true ∧ SeqAt.shaped q = true then some (PyData.eqv p q) else none
  | _, _ => none
def dEq (x y : D) : Option D := (dEqv x y).map .bl
def dNe (x y : D) : Option D := (dEqv x y).map fun b => .bl (!b)
theorem dEqv_some {x y : D} {b : Bool} (h : dEqv x y = some b) : ∃ p q, toPy x = some p ∧ toPy y = some q ∧ SeqAt.shaped p = true ∧ SeqAt.shaped q = true ∧ b = PyData.eqv p q := by
  unfold dEqv at h
  split at h
  · rename_i p q e1 e2
    split at h
    · rename_i hs
      cases h
      exact ⟨p, q, e1, e2, hs.1, hs.2, rfl⟩
    · cases h
  · cases h
theorem vop_eq : VOp2 X dEq (rEqD X.K) := fun S x y z v u Q hS e rx ry k => by
  unfold dEq at e
  cases q : dEqv x y with
  | none =>
    rw [q] at e
    cases e
  | some b =>
    rw [q] at e
    cases e
    obtain ⟨p, p', e1, e2, h1, h2, rfl⟩ := dEqv_some q
    exact ⟨p, p', rx.dp hS e1, ry.dp hS e2, h1, h2, k S _ (.refl hS) rfl⟩
theorem vop_ne : VOp2 X dNe (rNeD X.K) := fun S x y z v u Q hS e rx ry k => by
  unfold dNe at e
  cases q : dEqv x y with
  | none =>
    rw [q] at e
    cases e
  | some b =>
    rw [q] at e
    cases e
    obtain ⟨p, p', e1, e2, h1, h2, rfl⟩ := dEqv_some q
    exact ⟨p, p', rx.dp hS e1, ry.dp hS e2, h1, h2, k S _ (.refl hS) rfl⟩
def isNon : D → Bool
  | .non => true
  | _ => false
theorem rb_non {S : Cfg} {d : D} {v : V} (h : RB X.K X.mg S d v) : decide (v = .non) = isNon d := by
  cases d with
  | non =>
    have : v = .non := h
    subst this
    rfl
  | bl b =>
    have : v = .bl b := h
    subst this
    rfl
  | int b =>
    have : v = .int b := h
    subst this
    rfl
  | str b =>
    have : v = .str b := h
    subst this
    rfl
  | lst xs =>
    obtain ⟨a, vs, rfl, _⟩ := h
    rfl
  | tup xs =>
    obtain ⟨a, vs, rfl, _⟩ := h
    rfl
  | dK ks xs =>
    obtain ⟨a, vs, rfl, _⟩ := h
    rfl
  | dT ks xs =>
    obtain ⟨a, vs, rfl, _⟩ := h
    rfl
  | ins c ns xs =>
    obtain ⟨a, C, dx, vs, rfl, _⟩ := h
    rfl
  | ty n =>
    have : v = .ty n := h
    subst this
    rfl
  | cls c =>
    obtain ⟨C, _, rfl⟩ := h
    rfl
  | scr ns =>
    obtain ⟨a, rfl, _⟩ := h
    rfl
def dIsN (x y : D) : Option D := if isNon y = true then some (.bl (isNon x)) else none
def dNotN (x y : D) : Option D := if isNon y = true then some (.bl (!isNon x)) else none
theorem vop_isN : VOp2 X dIsN (fun x y H Q => y = .non ∧ Q (.bl (decide (x = .non))) H) := fun S x y z v u Q hS e rx ry k => by
  unfold dIsN at e
  split at e
  · rename_i h
    cases e
    rw [← rb_non ry] at h
    refine ⟨of_decide_eq_true h, ?_⟩
    rw [rb_non rx]
    exact k S _ (.refl hS) rfl
  · cases e
theorem vop_notN : VOp2 X dNotN (fun x y H Q => y = .non ∧ Q (.bl (!decide (x = .non))) H) := fun S x y z v u Q hS e rx ry k => by
  unfold dNotN at e
  split at e
  · rename_i h
    cases e
    rw [← rb_non ry] at h
    refine ⟨of_decide_eq_true h, ?_⟩
    rw [rb_non rx]
    exact k S _ (.refl hS) rfl
  · cases e
/-! ### in, not in (a list) -/
def dInL (x y : D) : Option Bool := match toPy x, toPy y with
  | some p, some (.list qs) => if SeqAt.shaped p = true ∧ SeqAt.shaped (.list qs) = true then some (qs.any fun z => PyData.eqv z p) else none
  | _, _ => none
def dIn (x y : D) : Option D := (dInL x y).map .bl
def dNotIn (x y : D) : Option D := (dInL x y).map fun b => .bl (!b)
theorem dInL_some {x y : D} {b : Bool} (h : dInL x y = some b) : ∃ p qs, toPy x = some p ∧ toPy y = some (.list qs) ∧ SeqAt.shaped p = true ∧ SeqAt.shaped (.list qs) = true ∧ b = qs.any fun z => PyData.eqv z p := by
  unfold dInL at h
  split at h
  · rename_i p q e1 e2
    split at h
    · rename_i hs
      cases h
      exact ⟨p, q, e1, e2, hs.1, hs.2, rfl⟩
    · cases h
  · cases h
theorem vop_in : VOp2 X dIn (rInD X.K) := fun S x y z v u Q hS e rx ry k => by
  unfold dIn at e
  cases q : dInL x y with
  | none =>
    rw [q] at e
    cases e
  | some b =>
    rw [q] at e
    cases e
    obtain ⟨p, p', e1, e2, h1, h2, rfl⟩ := dInL_some q
    exact ⟨p, p', rx.dp hS e1, ry.dp hS e2, h1, h2, k S _ (.refl hS) rfl⟩
theorem vop_notIn : VOp2 X dNotIn (rNotInD X.K) := fun S x y z v u Q hS e rx ry k => by
  unfold dNotIn at e
  cases q : dInL x y with
  | none =>
    rw [q] at e
    cases e
  | some b =>
    rw [q] at e
    cases e
    obtain ⟨p, p', e1, e2, h1, h2, rfl⟩ := dInL_some q
    exact ⟨p, p', rx.dp hS e1, ry.dp hS e2, h1, h2, k S _ (.refl hS) rfl⟩
/-! ### subscripts -/
def dIx : D → D → Option D
  | .lst xs, .int i => atI xs i
  | .tup xs, .int i => atI xs i
  | _, _ => none
theorem atI_rds {S : Cfg} {xs : List D} {vs : List V} {i : Int} {d : D} (h : RDs X.K X.mg S.F xs vs) (e : atI xs i = some d) : ∃ v, atI vs i = some v ∧ RD X.K X.mg S.F d v := by
  unfold atI at e ⊢
  rw [← h.length]
  cases q : ixN xs.length i with
  | none =>
    rw [q] at e
    cases e
  | some j =>
    rw [q] at e
    exact h.get e
theorem vop_ix : VOp2 X dIx (rIx X.K) := fun S x y z v u Q hS e rx ry k => by
  unfold dIx at e
  split at e
  · obtain ⟨a, vs, rfl, h2, h3⟩ := rx
    obtain ⟨w, e1, e2⟩ := atI_rds h3 e
    exact .inl ⟨a, vs, _, w, rfl, ry, SqL.of h2, e1, k S w (.refl hS) e2⟩
  · obtain ⟨a, vs, rfl, h2, h3⟩ := rx
    obtain ⟨w, e1, e2⟩ := atI_rds h3 e
    exact .inr (.inl ⟨a, vs, _, w, rfl, ry, sqT_of hS h2, e1, k S w (.refl hS) e2⟩)
  · cases e
end
end DL
end

section
set_option Elab.async false
set_option linter.all false
set_option maxRecDepth 100000
/-! Built-in functions. -/
namespace DL
open PySem PySem.Spec PyProof.Rows L2
section
variable {X : Cx} {A : List V} {W : WX}
def VOpL (X : Cx) (opf : List D → Option D) (r : List V → Hp → VK → Prop) : Prop := ∀ (S : Cfg) (xs : List D) (d : D) (vs : List V) (Q : VK), Same S.F S.H → opf xs = some d → xs.length = vs.length → (∀ (i : Nat) (x : D) (v : V), xs[i]? = some x → vs[i]? = some v → RB X.K X.mg S x v) →
  (∀ S' w, Gr S S' → RD X.K X.mg S'.F d w → Q w S'.H) → r vs S.H Q
def eB (opf : List D → Option D) (os : List Opd) : EM D := fun ρ => (argGo os ρ).bind fun ds ρ1 => (Out.lift ρ1 (argRd ρ1 os ds)).bind fun xs ρ2 => Out.lift ρ2 (opf xs)
theorem eB_to {opf : List D → Option D} {r : List V → Hp → VK → Prop} {os : List Opd} (hv : VOpL X opf r) (σ : L2.St) (H : Hp) (Q : VK) (h : tD X.K X.mg A W (eB opf os) σ H Q) : tCB r (tArgs X.K X.mg A W os) σ H Q := by
  obtain ⟨S, ρ, rfl, s, h⟩ := h
  refine args_bind (P := PostE X.K X.mg A W Q S σ) (fun z => z) (fun _ _ _ z => z) s h fun ds ρ1 S1 vs hp ev s1 ok => ?_
  cases e1 : argRd ρ1 os ds with
  | none =>
    rw [e1] at hp
    exact (show False from hp).elim
  | some xs =>
    rw [e1] at hp
    have hp' : PostE X.K X.mg A W Q S σ (Out.lift ρ1 (opf xs)) := hp
    cases e2 : opf xs with
    | none =>
      rw [e2] at hp'
      exact (show False from hp').elim
    | some d =>
      rw [e2] at hp'
      obtain ⟨h1, h2⟩ := ok.rds s1 e1
      exact hv S1 xs d vs Q s1.sub e2 h1 h2 fun S' w g r => hp' S' w (ev.trans g.ev) (s1.gr g) r
theorem CallR.or {f : Value} {r r' : List V → Hp → VK → Prop} (h : CallR X f r) (h' : CallR X f r') : CallR X f (fun x H Q => r x H Q ∨ r' x H Q) := fun pins s σ H xs us Q I rx q => by
  rcases q with q | q
  · exact h pins s σ H xs us Q I rx q
  · exact h' pins s σ H xs us Q I rx q
theorem pd_b {id : String} {x : Str} {e : Expr} {es : List Expr} {p pos : Pos} {r : List V → Hp → VK → Prop} {opf : List D → Option D} {os : List Opd} (hc : CallR X (.builtin id) r) (hv : VOpL X opf r) (hg : Gl X x) (hm : X.mg x = none) (ha : PAr X A W (e :: es) os) (hb : bootBuiltins x = some (.builtin id) := by rfl)
    (hn : x ≠ "__name__" := by decide) (hdb : (x == ("__debug__" : Str)) = false := by decide)
    (he : starEach (e :: es) X.env = (false, eval e X.env) :: starEach es X.env := by rfl) (hpl : (backTo pos (starEach es X.env)).any (·.1) = false := by rfl) : PD X A W (.Call (.Name x p) (e :: es) [] pos) (eB opf os) :=
  PE.imp (pe_callB hc hg hm hb ha hn hdb he hpl) (eB_to hv)
theorem pd_ty {T : String} {x : Str} {e : Expr} {es : List Expr} {p pos : Pos} {r : List V → Hp → VK → Prop} {opf : List D → Option D} {os : List Opd} (hc : CallR X (.type T) r) (hv : VOpL X opf r) (hg : Gl X x) (hm : X.mg x = none) (ha : PAr X A W (e :: es) os) (hb : bootBuiltins x = some (.type T) := by rfl)
    (hn : x ≠ "__name__" := by decide) (hdb : (x == ("__debug__" : Str)) = false := by decide)
    (he : starEach (e :: es) X.env = (false, eval e X.env) :: starEach es X.env := by rfl) (hpl : (backTo pos (starEach es X.env)).any (·.1) = false := by rfl) : PD X A W (.Call (.Name x p) (e :: es) [] pos) (eB opf os) :=
  PE.imp (pe_callTy hc hg hm hb ha hn hdb he hpl) (eB_to hv)
/-- one argument -/
def on1 (f : D → Option D) : List D → Option D
  | [x] => f x
  | _ => none
def on2 (f : D → D → Option D) : List D → Option D
  | [x, y] => f x y
  | _ => none
theorem vopl1 {f : D → Option D} {r : List V → Hp → VK → Prop} (h : ∀ (S : Cfg) (x d : D) (v : V) (Q : VK), Same S.F S.H → f x = some d → RB X.K X.mg S x v → (∀ S' w, Gr S S' → RD X.K X.mg S'.F d w → Q w S'.H) → r [v] S.H Q) : VOpL X (on1 f) r := fun S xs d vs Q hS e hl hr k => by
  unfold on1 at e
  split at e
  · rename_i x
    match vs, hl with
    | [v], _ => exact h S x d v Q hS e (hr 0 x v rfl rfl) k
  · cases e
theorem vopl2 {f : D → D → Option D} {r : List V → Hp → VK → Prop} (h : ∀ (S : Cfg) (x y d : D) (v u : V) (Q : VK), Same S.F S.H → f x y = some d → RB X.K X.mg S x v → RB X.K X.mg S y u → (∀ S' w, Gr S S' → RD X.K X.mg S'.F d w → Q w S'.H) → r [v, u] S.H Q) : VOpL X (on2 f) r := fun S xs d vs Q hS e hl hr k => by
  unfold on2 at e
  split at e
  · rename_i x y
    match vs, hl with
    | [v, u], _ => exact h S x y d v u Q hS e (hr 0 x v rfl rfl) (hr 1 y u rfl rfl) k
  · cases e
/-! ### len -/
def dLen : D → Option D
  | .lst xs => some (.int xs.length)
  | .tup xs => some (.int xs.length)
  | .str x => if x.length ≤ BIG then some (.int x.length) else none
  | _ => none
abbrev rLenD (K : PySem.W.Frag) : List V → Hp → VK → Prop := fun xs H Q => (∃ p ys, xs = [.ref p] ∧ (SqL K H p ys ∨ SqT K H p ys) ∧ Q (.int ys.length) H) ∨ (∃ z, xs = [.str z] ∧ z.length ≤ sizeLine ∧ Q (.int z.length) H)
theorem call_lenD' : CallR X (.builtin "len") (rLenD X.K) := CallR.or call_len_seq call_len_str
theorem vop_len : VOpL X (on1 dLen) (rLenD X.K) := vopl1 fun S x d v Q hS e rx k => by
  unfold dLen at e
  split at e
  · cases e
    obtain ⟨a, vs, rfl, h2, h3⟩ := rx
    refine .inl ⟨a, vs, rfl, .inl (SqL.of h2), ?_⟩
    rw [← h3.length]
    exact k S _ (.refl hS) rfl
  · cases e
    obtain ⟨a, vs, rfl, h2, h3⟩ := rx
    refine .inl ⟨a, vs, rfl, .inr (sqT_of hS h2), ?_⟩
    rw [← h3.length]
    exact k S _ (.refl hS) rfl
  · split at e
    · rename_i hl
      cases e
      cases (show v = _ from rx)
      exact .inr ⟨_, rfl, big_size hl, k S _ (.refl hS) rfl⟩
    · cases e
  · cases e
/-! ### list(), tuple() -/
def dItems : D → Option (List D)
  | .lst xs => some xs
  | .tup xs => some xs
  | _ => none
def dList (x : D) : Option D := (dItems x).map .lst
def dTuple (x : D) : Option D := (dItems x).map .tup
theorem rb_items {S : Cfg} (hS : Same S.F S.H) {x : D} {v : V} {xs : List D} (rx : RB X.K X.mg S x v) (e : dItems x = some xs) : ∃ a vs, v = .ref a ∧ (SqL X.K S.H a vs ∨ SqT X.K S.H a vs) ∧ RDs X.K X.mg S.F xs vs := by
  unfold dItems at e
  split at e
  · cases e
    obtain ⟨a, vs, rfl, h2, h3⟩ := rx
    exact ⟨a, vs, rfl, .inl (SqL.of h2), h3⟩
  · cases e
    obtain ⟨a, vs, rfl, h2, h3⟩ := rx
    exact ⟨a, vs, rfl, .inr (sqT_of hS h2), h3⟩
  · cases e
theorem vop_list : VOpL X (on1 dList) (fun xs H Q => ∃ p ys, xs = [.ref p] ∧ (SqL X.K H p ys ∨ SqT X.K H p ys) ∧ ∀ l, H l = none → Q (.ref l) (upd H l (.lst ys))) := vopl1 fun S x d v Q hS e rx k => by
  unfold dList at e
  cases q : dItems x with
  | none =>
    rw [q] at e
    cases e
  | some xs =>
    rw [q] at e
    cases e
    obtain ⟨a, vs, rfl, h2, h3⟩ := rb_items hS rx q
    exact ⟨a, vs, rfl, h2, fun l hl => give_lst hS h3 k l hl⟩
theorem vop_tuple : VOpL X (on1 dTuple) (fun xs H Q => ∃ p ys, xs = [.ref p] ∧ ((SqL X.K H p ys ∧ ∀ l, H l = none → Q (.ref l) (upd H l (.tup ys))) ∨ (SqT X.K H p ys ∧ Q (.ref p) H))) := vopl1 fun S x d v Q hS e rx k => by
  unfold dTuple dItems at e
  cases x with
  | lst xs =>
    cases e
    obtain ⟨a, vs, rfl, h2, h3⟩ := rx
    exact ⟨a, vs, rfl, .inl ⟨SqL.of h2, fun l hl => give_tup hS h3 k l hl⟩⟩
  | tup xs =>
    cases e
    obtain ⟨a, vs, rfl, h2, h3⟩ := rx
    exact ⟨a, vs, rfl, .inr ⟨sqT_of hS h2, k S _ (.refl hS) ⟨a, vs, rfl, h2, h3⟩⟩⟩
  | _ => cases e
/-! ### ints -/
def dAbs : D → Option D
  | .int i => some (.int (if i < 0 then -i else i))
  | _ => none
theorem vop_abs : VOpL X (on1 dAbs) (fun xs H Q => ∃ i, xs = [.int i] ∧ Q (.int (if i < 0 then -i else i)) H) := vopl1 fun S x d v Q hS e rx k => by
  unfold dAbs at e
  split at e
  · cases e
    cases (show v = _ from rx)
    exact ⟨_, rfl, k S _ (.refl hS) rfl⟩
  · cases e
def dInt : D → Option D
  | .int i => some (.int i)
  | .bl b => some (.int (if b then 1 else 0))
  | _ => none
theorem vop_int : VOpL X (on1 dInt) (fun xs H Q => (∃ i, xs = [.int i] ∧ Q (.int i) H) ∨ ∃ k, xs = [.bl k] ∧ Q (.int (if k then 1 else 0)) H) := vopl1 fun S x d v Q hS e rx k => by
  unfold dInt at e
  split at e
  · cases e
    cases (show v = _ from rx)
    exact .inl ⟨_, rfl, k S _ (.refl hS) rfl⟩
  · cases e
    cases (show v = _ from rx)
    exact .inr ⟨_, rfl, k S _ (.refl hS) rfl⟩
  · cases e
def dMax2 : D → D → Option D
  | .int i, .int j => some (.int (if j > i then j else i))
  | _, _ => none
def dMin2 : D → D → Option D
  | .int i, .int j => some (.int (if j < i then j else i))
  | _, _ => none
theorem vop_max2 : VOpL X (on2 dMax2) (fun xs H Q => ∃ i j, xs = [.int i, .int j] ∧ Q (.int (if j > i then j else i)) H) := vopl2 fun S x y d v u Q hS e rx ry k => by
  unfold dMax2 at e
  split at e
  · cases e
    cases (show v = _ from rx)
    cases (show u = _ from ry)
    exact ⟨_, _, rfl, k S _ (.refl hS) rfl⟩
  · cases e
theorem vop_min2 : VOpL X (on2 dMin2) (fun xs H Q => ∃ i j, xs = [.int i, .int j] ∧ Q (.int (if j < i then j else i)) H) := vopl2 fun S x y d v u Q hS e rx ry k => by
  unfold dMin2 at e
  split at e
  · cases e
    cases (show v = _ from rx)
    cases (show u = _ from ry)
    exact ⟨_, _, rfl, k S _ (.refl hS) rfl⟩
  · cases e
/-! ### lists of ints, of bools -/
def asI : D → Option Int
  | .int i => some i
  | _ => none
def asBl : D → Option Bool
  | .bl b => some b
  | _ => none
def asIs : List D → Option (List Int)
  | [] => some []
  | x :: xs => match asI x, asIs xs with
    | some i, some is => some (i :: is)
    | _, _ => none
def asBls : List D → Option (List Bool)
  | [] => some []
  | x :: xs => match asBl x, asBls xs with
    | some i, some is => some (i :: is)
    | _, _ => none
theorem asIs_eq : ∀ {xs : List D} {is : List Int}, asIs xs = some is → xs = is.map .int
  | [], is, e => by
    cases e
    rfl
  | x :: xs, is, e => by
    unfold asIs at e
    split at e
    · rename_i i js e1 e2
      cases e
      rw [asIs_eq e2]
      cases x with
      | int j =>
        cases e1
        rfl
      | _ => cases e1
    · cases e
theorem asBls_eq : ∀ {xs : List D} {is : List Bool}, asBls xs = some is → xs = is.map .bl
  | [], is, e => by
    cases e
    rfl
  | x :: xs, is, e => by
    unfold asBls at e
    split at e
    · rename_i i js e1 e2
      cases e
      rw [asBls_eq e2]
      cases x with
      | bl j =>
        cases e1
        rfl
      | _ => cases e1
    · cases e
theorem asIs_map (is : List Int) : asIs (is.map .int) = some is := by
  induction is with
  | nil => rfl
  | cons i is ih =>
    show (match asI (.int i), asIs (is.map .int) with
      | some i, some is => some (i :: is)
      | _, _ => none) = _
    rw [ih]
    rfl
theorem asBls_map (is : List Bool) : asBls (is.map .bl) = some is := by
  induction is with
  | nil => rfl
  | cons i is ih =>
    show (match asBl (.bl i), asBls (is.map .bl) with
      | some i, some is => some (i :: is)
      | _, _ => none) = _
    rw [ih]
    rfl
theorem RDs.of_bls {K : PySem.W.Frag} {mg : Str → Option Value} {F : Hp} : ∀ {ns : List Bool} {vs : List V}, RDs K mg F (ns.map D.bl) vs → vs = ns.map V.bl
  | [], _, h => h
  | _ :: _, _, ⟨v, r, h1, h2, h3⟩ => by
    subst h1
    have e : v = V.bl _ := h2
    rw [e, RDs.of_bls h3]
    rfl
def onBs (f : List Bool → Bool) : D → Option D
  | .lst xs => (asBls xs).map fun bs => .bl (f bs)
  | _ => none
theorem vop_onBs (f : List Bool → Bool) : VOpL X (on1 (onBs f)) (fun vs H Q => ∃ (a : Addr) (bs : List Bool), vs = [V.ref a] ∧ SqL X.K H a (bs.map V.bl) ∧ Q (.bl (f bs)) H) := vopl1 fun S x d v Q hS e rx k => by
  cases x with
  | lst xs =>
    have e' : ((asBls xs).map fun bs => D.bl (f bs)) = some d := e
    cases q : asBls xs with
    | none =>
      rw [q] at e'
      cases e'
    | some bs =>
      rw [q] at e'
      cases e'
      obtain ⟨a, vs, rfl, h2, h3⟩ := rx
      rw [asBls_eq q] at h3
      rw [h3.of_bls] at h2
      exact ⟨a, bs, rfl, SqL.of h2, k S _ (.refl hS) rfl⟩
  | _ => cases e
abbrev dAll := onBs fun bs => bs.all id
abbrev dAny := onBs fun bs => bs.any id
def dSum : D → Option D
  | .lst xs => (asIs xs).map fun is => .int is.sum
  | _ => none
theorem vop_sum : VOpL X (on1 dSum) (rSum X.K) := vopl1 fun S x d v Q hS e rx k => by
  cases x with
  | lst xs =>
    have e' : ((asIs xs).map fun is => D.int is.sum) = some d := e
    cases q : asIs xs with
    | none =>
      rw [q] at e'
      cases e'
    | some bs =>
      rw [q] at e'
      cases e'
      obtain ⟨a, vs, rfl, h2, h3⟩ := rx
      rw [asIs_eq q] at h3
      rw [h3.of_ints] at h2
      exact ⟨a, bs, rfl, SqL.of h2, k S _ (.refl hS) rfl⟩
  | _ => cases e
/-! ### sorted(ints) -/
def insI (i : Int) : List Int → List Int
  | [] => [i]
  | j :: r => if i ≤ j then i :: j :: r else j :: insI i r
def sortI : List Int → List Int
  | [] => []
  | i :: r => insI i (sortI r)
theorem insI_perm (i : Int) : ∀ l : List Int, (insI i l).Perm (i :: l)
  | [] => .refl _
  | j :: r => by
    unfold insI
    split
    · exact .refl _
    · exact ((insI_perm i r).cons j).trans (.swap i j r)
theorem sortI_perm : ∀ l : List Int, (sortI l).Perm l
  | [] => .refl _
  | i :: r => (insI_perm i (sortI r)).trans ((sortI_perm r).cons i)
theorem insI_sorted (i : Int) : ∀ {l : List Int}, l.Pairwise (· ≤ ·) → (insI i l).Pairwise (· ≤ ·)
  | [], _ => by simp [insI]
  | j :: r, h => by
    obtain ⟨h1, h2⟩ := List.pairwise_cons.mp h
    unfold insI
    split
    · rename_i hle
      refine List.pairwise_cons.mpr ⟨fun x hx => ?_, h⟩
      rcases List.mem_cons.mp hx with q | q
      · rw [q]
        exact hle
      · have := h1 x q
        omega
    · rename_i hle
      refine List.pairwise_cons.mpr ⟨fun x hx => ?_, insI_sorted i h2⟩
      rcases List.mem_cons.mp ((insI_perm i r).mem_iff.mp hx) with q | q
      · rw [q]
        omega
      · exact h1 x q
theorem sortI_sorted : ∀ l : List Int, (sortI l).Pairwise (· ≤ ·)
  | [] => .nil
  | i :: r => insI_sorted i (sortI_sorted r)
theorem sortI_eq {l l' : List Int} (p : l'.Perm l) (h : l'.Pairwise (· ≤ ·)) : l' = sortI l :=
  (p.trans (sortI_perm l).symm).eq_of_pairwise (fun a b _ _ h1 h2 => Int.le_antisymm h1 h2) h (sortI_sorted l)
def dSorted : D → Option D
  | .lst xs => (asIs xs).map fun is => .lst ((sortI is).map .int)
  | _ => none
theorem vop_sorted : VOpL X (on1 dSorted) (rSortedI X.K) := vopl1 fun S x d v Q hS e rx k => by
  cases x with
  | lst xs =>
    have e' : ((asIs xs).map fun is => D.lst ((sortI is).map .int)) = some d := e
    cases q : asIs xs with
    | none =>
      rw [q] at e'
      cases e'
    | some bs =>
      rw [q] at e'
      cases e'
      obtain ⟨a, vs, rfl, h2, h3⟩ := rx
      rw [asIs_eq q] at h3
      rw [h3.of_ints] at h2
      refine ⟨a, bs, rfl, SqL.of h2, fun ns' p hp hs hn => ?_⟩
      rw [sortI_eq hp hs]
      exact give_lst hS (RDs.ints _) k p hn
  | _ => cases e
/-! ### isinstance -/
def tyName : D → Option String
  | .non => some "NoneType"
  | .bl _ => some "bool"
  | .int _ => some "int"
  | .str _ => some "str"
  | .lst _ => some "list"
  | .tup _ => some "tuple"
  | .dK _ _ => some "dict"
  | .dT _ _ => some "dict"
  | _ => none
theorem rb_tyx {S : Cfg} (hS : Same S.F S.H) {x : D} {v : V} {t : String} (rx : RB X.K X.mg S x v) (e : tyName x = some t) : TyX X.K S.H v (.type t) := by
  cases x with
  | non =>
    cases e
    cases (show v = _ from rx)
    exact .base .non
  | bl b =>
    cases e
    cases (show v = _ from rx)
    exact .base (.bl b)
  | int b =>
    cases e
    cases (show v = _ from rx)
    exact .base (.int b)
  | str b =>
    cases e
    cases (show v = _ from rx)
    exact .base (.str b)
  | lst xs =>
    cases e
    obtain ⟨a, vs, rfl, h2, _⟩ := rx
    exact .base (.lst h2)
  | tup xs =>
    cases e
    obtain ⟨a, vs, rfl, h2, _⟩ := rx
    rcases sqT_of hS h2 with (h | ⟨o, h⟩) | h
    · exact .base (.tup h)
    · exact .fTuple h
    · obtain ⟨o, us, n, h1, h3, h4, _⟩ := h
      exact .kTuple h1 (by first | exact h3 | (subst h3; rfl))
  | dK ks xs =>
    cases e
    obtain ⟨a, vs, rfl, h2, _⟩ := rx
    exact .base (.dK h2)
  | dT ks xs =>
    cases e
    obtain ⟨a, vs, rfl, h2, _⟩ := rx
    exact .base (.dT h2)
  | _ => cases e
end
end DL
end

section
set_option Elab.async false
set_option linter.all false
set_option maxRecDepth 100000
/-! zip and enumerate over lists and tuples, in any mixture. -/
namespace DL
open PySem PySem.Spec PyProof.Rows L2
def SqX (K : PySem.W.Frag) (b : Bool) (H : Hp) (a : Addr) (xs : List V) : Prop := match b with
  | true => SqT K H a xs
  | false => SqL K H a xs
def ItX (b : Bool) (h : Heap) (it l : Addr) (i : Nat) : Prop := match b with
  | true => h.IsTupleIter it l i
  | false => h.IsListIter it l i
def SX (b : Bool) (h : Heap) (l : Addr) (items : Array Value) : Prop := match b with
  | true => h.IsTuple l items
  | false => h.IsList l items
def itN (b : Bool) : String := match b with
  | true => "tuple_iterator"
  | false => "list_iterator"
theorem drawsX {prog : Program} {w : World} {A : Around} (b : Bool) (hh : A.handled = none) (it l : Addr) (hne : l ≠ it) (items : Array Value) :
    Draws prog w A it [it, l] items.size (fun i v => items[i]? = some v) (fun i h => ItX b h it l i ∧ SX b h l items) := by
  cases b
  · exact Draws.list hh it l hne items
  · exact Draws.tuple hh it l hne items
theorem ItX.ob {b : Bool} {h : Heap} {it l : Addr} {i : Nat} (st : ItX b h it l i) : ∃ o, h.get? it = some o ∧ ∀ v, o.data ≠ .cell v := by
  cases b
  · obtain ⟨o, e, _, d⟩ := st
    exact ⟨o, e, fun v q => by rw [d] at q; cases q⟩
  · obtain ⟨o, e, _, d⟩ := st
    exact ⟨o, e, fun v q => by rw [d] at q; cases q⟩
theorem ItX.at {b : Bool} {h h' : Heap} {it l : Addr} {i : Nat} (st : ItX b h it l i) (k : ∀ o, h.get? it = some o → h'.get? it = some o) : ItX b h' it l i := by
  cases b
  · exact Heap.IsListIter.at st k
  · exact Heap.IsTupleIter.at st k
theorem seqX {X : Cx} {pins : List (Addr × Obj)} {σ : L2.St} {H : Hp} {s : Shared} {b : Bool} {a : Addr} {xs : List V} (I : Inv X pins σ H s) (h : SqX X.K b H a xs) : ∃ its : List Value, Vals xs its ∧ SX b s.heap a its.toArray ∧ a < s.heap.objs.size := by
  cases b
  · obtain ⟨its, rv, p, _⟩ := I.list h
    exact ⟨its, rv, p.isList, p.lt⟩
  · obtain ⟨its, rv, p, _⟩ := I.tuple h
    obtain ⟨o, ho, _⟩ := id p
    exact ⟨its, rv, p, Heap.lt_size ho⟩
theorem sqX_inj {X : Cx} {pins : List (Addr × Obj)} {σ : L2.St} {H : Hp} {s : Shared} {b : Bool} {a : Addr} {xs ys : List V} (I : Inv X pins σ H s) (h : SqX X.K b H a xs) (h' : SqX X.K b H a ys) : xs = ys := by
  cases b
  · exact I.list_inj h h'
  · exact I.tuple_inj h h'
def ItzX (K : PySem.W.Frag) (b1 b2 : Bool) (a b : Addr) : It :=
  ⟨fun i H => ∃ (xs ys : List V) (x y : V), SqX K b1 H a xs ∧ SqX K b2 H b ys ∧ xs[i]? = some x ∧ ys[i]? = some y,
    fun i H v H' => ∃ T x y, v = .ref T ∧ H T = none ∧ H' = upd H T (.tup [x, y]) ∧ (∀ xs, SqX K b1 H a xs → xs[i]? = some x) ∧ ∀ ys, SqX K b2 H b ys → ys[i]? = some y,
    fun i H => ∃ xs ys : List V, SqX K b1 H a xs ∧ SqX K b2 H b ys ∧ (xs.length = i ∨ ys.length = i) ∧ i ≤ xs.length ∧ i ≤ ys.length⟩
theorem turn_zipX {P : Program} {w : World} {K : PySem.W.Frag} {elts : List Expr} {kk : Nat} {tpos : Pos} (b1 b2 : Bool) {a b z TI TO i1 i2 : Addr} (D : ZipApart z TI TO i1 i2 a b) :
    Turn P w K (.Tuple elts kk tpos) (ItzX K b1 b2 a b) [z, TI, TO, i1, i2] z (fun i h => IsZip h z TI TO .none ∧ IsPair h TI (.ref i1) (.ref i2) ∧ (∃ x y, IsPair h TO x y) ∧ ItX b1 h i1 a i ∧ ItX b2 h i2 b i) := by
  have S2 : ZipSep2 z TI TO i1 i2 [i1, a] [i2, b] := by
    have q1 := D.i1z; have q2 := D.i2z; have q3 := D.TOi1; have q4 := D.TOi2; have q5 := D.i12; have q6 := D.l1z; have q7 := D.l1TO; have q8 := D.l1i2; have q9 := D.l2z; have q10 := D.l2TO; have q11 := D.l2i1; have q12 := D.l1i1; have q13 := D.l2i2
    refine ⟨D.TIz, D.TOz, D.TITO, D.TIi1, by simp, ?_, ?_, D.TIi2, by simp, ?_, ?_, ?_, ?_⟩ <;> simp only [List.mem_cons, List.not_mem_nil, or_false, not_or]
    · exact ⟨q1.symm, q6.symm⟩
    · exact ⟨q3, q7.symm⟩
    · exact ⟨q2.symm, q9.symm⟩
    · exact ⟨q4, q10.symm⟩
    · exact ⟨q5, q11.symm⟩
    · exact ⟨q5.symm, q8.symm⟩
  exact {
  mem := by simp
  obj := fun i h st c hc => by
    obtain ⟨hz, hTI, ⟨x, y, hTO⟩, h1, h2⟩ := st
    have e' : c = z ∨ c = TI ∨ c = TO ∨ c = i1 ∨ c = i2 := by simpa using hc
    rcases e' with q | q | q | q | q
    · rw [q]; exact ⟨_, hz, fun v q => nomatch q⟩
    · rw [q]; exact ⟨_, hTI, fun v q => nomatch q⟩
    · rw [q]; exact ⟨_, hTO, fun v q => nomatch q⟩
    · rw [q]; exact h1.ob
    · rw [q]; exact h2.ob
  keep := fun i h h' st k => by
    obtain ⟨hz, hTI, ⟨x, y, hTO⟩, h1, h2⟩ := st
    exact ⟨k z (by simp) _ hz, k TI (by simp) _ hTI, ⟨x, y, k TO (by simp) _ hTO⟩, h1.at fun o q => k i1 (by simp) o q, h2.at fun o q => k i2 (by simp) o q⟩
  item := by
    intro X hP hw hK hc i pins s σ H E I hf st hg
    subst hP hw hK
    obtain ⟨hz, hTI, ⟨x0, y0, hTO⟩, h1, h2⟩ := st
    obtain ⟨xs, ys, x, y, hqx, hqy, hx, hy⟩ := hg
    obtain ⟨its, rv, p, _⟩ := seqX I hqx
    obtain ⟨its2, rv2, p2, _⟩ := seqX I hqy
    obtain ⟨u, hu, ru⟩ := rv.get hx
    obtain ⟨u2, hu2, ru2⟩ := rv2.get hy
    have hzl : z < s.heap.objs.size := Heap.lt_size hz
    have hh : X.A.in1.handled = none := I.ok.hd hc
    refine wpAny_pyNext_zipD2_item S2 (drawsX b1 hh i1 a D.l1i1 its.toArray) (drawsX b2 hh i2 b D.l2i2 its2.toArray) hz hTI hTO ⟨h1, p⟩ ⟨h2, p2⟩ (by have := (List.getElem?_eq_some_iff.mp hu).1; simpa using this) (by have := (List.getElem?_eq_some_iff.mp hu2).1; simpa using this) fun v1 v2 h' tk e1 e2 z' TO' d1' d2' hT hsz hk => ?_
    have ev1 : v1 = u := by
      have e1' : its[i]? = some v1 := by simpa using e1
      rw [hu] at e1'
      exact (Option.some.inj e1').symm
    have ev2 : v2 = u2 := by
      have e2' : its2[i]? = some v2 := by simpa using e2
      rw [hu2] at e2'
      exact (Option.some.inj e2').symm
    subst ev1
    subst ev2
    obtain ⟨h1', _⟩ := d1'
    obtain ⟨h2', _⟩ := d2'
    refine ⟨_, rfl, wpAny_letOwnedTupleGo_zip (s := { s with heap := h', toks := tk }) z' fun h'' z'' sb => ?_⟩
    have hT2 : h''.get? s.heap.objs.size = some { cls := .type "tuple", data := .seq #[v1, v2] } := (sb.2 _ (Nat.ne_of_gt hzl)).trans hT
    have new : ObjOk X.prog X.w (upd H s.heap.objs.size (.tup [x, y])) h'' s.heap.objs.size (.tup [x, y]) :=
      ⟨by show 2 ≤ sizeLine; decide, [v1, v2], .cons ru (.cons ru2 .nil), ⟨_, hT2, rfl, _, rfl⟩⟩
    have I1 : Inv X pins σ (upd H s.heap.objs.size (.tup [x, y])) { s with heap := h'', toks := tk } :=
      I.turnedNew (t' := tk) (ch := [z, TI, TO, i1, i2]) (fun c o hb q => (sb.2 c (fun q' => hb (by simp [q']))).trans (hk c o (fun q' => hb (by simp [q'])) (fun q' => hb (by simp [q'])) (fun q' => hb (by simp [q'])) (fun q' => hb (by simp [q'])) q)) hf (Nat.le_refl _) new
    refine ⟨.ref s.heap.objs.size, _, I1, rfl, ⟨_, x, y, rfl, I.hok.fresh (Nat.le_refl _), rfl, fun l hl => by rw [sqX_inj I hl hqx]; exact hx, fun l hl => by rw [sqX_inj I hl hqy]; exact hy⟩, ⟨z'', ?_, ⟨v1, v2, ?_⟩, ?_, ?_⟩, fun c hcm => ?_⟩
    · exact (sb.2 _ D.TIz).trans (hk _ _ D.TIz D.TITO D.TIi1 D.TIi2 hTI)
    · exact (sb.2 _ D.TOz).trans TO'
    · exact h1'.at fun o q => (sb.2 _ D.i1z).trans q
    · exact h2'.at fun o q => (sb.2 _ D.i2z).trans q
    · have hlt : c < s.heap.objs.size := by
        have e' : c = z ∨ c = TI ∨ c = TO ∨ c = i1 ∨ c = i2 := by simpa using hcm
        rcases e' with q | q | q | q | q
        · rw [q]; exact hzl
        · rw [q]; exact Heap.lt_size hTI
        · rw [q]; exact Heap.lt_size hTO
        · rw [q]; obtain ⟨_, e1, _⟩ := h1.ob; exact Heap.lt_size e1
        · rw [q]; obtain ⟨_, e2, _⟩ := h2.ob; exact Heap.lt_size e2
      rw [upd_ne (Nat.ne_of_lt hlt)]
      exact (hf c hcm).1
  done := by
    intro X hP hw hK hc i pins s σ H E I hf st hg
    subst hP hw hK
    obtain ⟨hz, hTI, ⟨x0, y0, hTO⟩, h1, h2⟩ := st
    obtain ⟨xs, ys, hqx, hqy, hend, le1, le2⟩ := hg
    obtain ⟨its, rv, p, _⟩ := seqX I hqx
    obtain ⟨its2, rv2, p2, _⟩ := seqX I hqy
    have l1 := rv.length
    have l2 := rv2.length
    have hh : X.A.in1.handled = none := I.ok.hd hc
    exact wpAny_pyNext_zipD2_end S2 (drawsX b1 hh i1 a D.l1i1 its.toArray) (drawsX b2 hh i2 b D.l2i2 its2.toArray) hz hTI hTO ⟨h1, p⟩ ⟨h2, p2⟩ (by simp; omega) (by simp; omega) (by simp; omega) fun h' tk hk => ⟨rfl, I.turnedL (t' := tk) (ch := [z, TI, TO, i1, i2]) (fun c o hb q =>
      hk c o (fun q' => hb (by simp [q'])) (fun q' => hb (by simp [q'])) (fun q' => hb (by simp [q'])) (fun q' => hb (by simp [q'])) q) hf⟩
  self := fun A i s Q E st h => wpAny_pyIter_zip st.1 h }
abbrev zxH1 (b1 : Bool) (h : Heap) (l1 : Addr) : Heap := h.push { cls := .type (itN b1), data := .fields #[.ref l1, .int 0 0] }
abbrev zxH2 (b1 b2 : Bool) (h : Heap) (l1 l2 : Addr) : Heap := (zxH1 b1 h l1).push { cls := .type (itN b2), data := .fields #[.ref l2, .int 0 0] }
abbrev zxH3 (b1 b2 : Bool) (h : Heap) (l1 l2 : Addr) : Heap := (zxH2 b1 b2 h l1 l2).push { cls := .type "tuple", data := .seq #[.ref h.objs.size, .ref (zxH1 b1 h l1).objs.size] }
abbrev zxH4 (b1 b2 : Bool) (h : Heap) (l1 l2 : Addr) : Heap := (zxH3 b1 b2 h l1 l2).push { cls := .type "tuple", data := .seq #[.none, .none] }
abbrev zxH5 (b1 b2 : Bool) (h : Heap) (l1 l2 : Addr) : Heap := (zxH4 b1 b2 h l1 l2).push { cls := .type "zip", data := .fields #[.none, .bool false, .bool false, .ref (zxH2 b1 b2 h l1 l2).objs.size, .ref (zxH3 b1 b2 h l1 l2).objs.size] }
theorem iterX {prog : Program} {w : World} {A : Around} {E : Value → Shared → Prop} {s : Shared} {b : Bool} {l : Addr} {items : Array Value} {Q : Value → Shared → Prop} (hl : SX b s.heap l items)
    (hQ : Q (.ref s.heap.objs.size) { s with heap := s.heap.push { cls := .type (itN b), data := .fields #[.ref l, .int 0 0] } }) : wpAny (model prog w) A (pyIter (.ref l)) Q E s := by
  cases b
  · exact wpAny_pyIter_list hl hQ
  · exact wpAny_pyIter_tuple hl hQ
theorem SX.push {b : Bool} {h : Heap} {l : Addr} {items : Array Value} (hl : SX b h l items) (o : Obj) : SX b (h.push o) l items := by
  cases b
  · exact Heap.IsList.push hl o
  · exact Heap.IsTuple.push hl o
theorem meets_zipX (b1 b2 : Bool) (l1 l2 : Addr) (xs ys : Array Value) :
    Meets (Builtin.«zip.__new__» ⟨[.type "zip", .ref l1, .ref l2], []⟩) (fun _ R s => SX b1 s.heap l1 xs ∧ SX b2 s.heap l2 ys ∧
      R (.ok (.ret (.ref (zxH4 b1 b2 s.heap l1 l2).objs.size))) { s with heap := zxH5 b1 b2 s.heap l1 l2 }) :=
  .of_wp fun prog w A R s h => by
    obtain ⟨hp, g, d, tk, os⟩ := s; obtain ⟨hl1, hl2, h⟩ := h
    have hsub := sub_zip
    have hL1 : SX b1 (Shared.heap ⟨hp, g, d, tk, os⟩) l1 xs := hl1
    have hL2 : SX b2 (Shared.heap ⟨hp.push { cls := .type (itN b1), data := .fields #[.ref l1, .int 0 0] }, g, d, tk, os⟩) l2 ys := SX.push hl2 _
    wp_walk using iterX hL1, iterX hL2
    exact ⟨_, rfl, h⟩
theorem itX_new {b : Bool} {h : Heap} {it l : Addr} (e : h.get? it = some { cls := .type (itN b), data := .fields #[.ref l, .int 0 0] }) : ItX b h it l 0 := by
  cases b
  · exact ⟨_, e, rfl, rfl⟩
  · exact ⟨_, e, rfl, rfl⟩
section
variable {prog : Program} {w : World} {A : Around} {E : Value → Shared → Prop} {s : Shared}
theorem call_zipX (b1 b2 : Bool) {l1 l2 : Addr} {xs ys : Array Value} {Q : Value → Shared → Prop} (hl1 : SX b1 s.heap l1 xs) (hl2 : SX b2 s.heap l2 ys)
    (h : ∀ h', IsZip h' (s.heap.objs.size + 4) (s.heap.objs.size + 2) (s.heap.objs.size + 3) .none → IsPair h' (s.heap.objs.size + 2) (.ref s.heap.objs.size) (.ref (s.heap.objs.size + 1)) →
      IsPair h' (s.heap.objs.size + 3) .none .none → ItX b1 h' s.heap.objs.size l1 0 → ItX b2 h' (s.heap.objs.size + 1) l2 0 → h'.objs.size = s.heap.objs.size + 5 →
      (∀ c o, s.heap.get? c = some o → h'.get? c = some o) → Q (.ref (s.heap.objs.size + 4)) { s with heap := h' }) :
    wpAny (model prog w) A (call (.type "zip") [.ref l1, .ref l2]) Q E s := by
  refine callType_new F.called_zip (by decide) (F.typeCall_zip_2 _ _) (F.newCall_zip_2 _ _) (fun obj => F.args_object_init_3 obj _ _) F.entry_zip_new
    (meets_zipX b1 b2 l1 l2 xs ys) ⟨hl1, hl2, ?_⟩
  have z1 : (zxH1 b1 s.heap l1).objs.size = s.heap.objs.size + 1 := Heap.size_push ..
  have z2 : (zxH2 b1 b2 s.heap l1 l2).objs.size = s.heap.objs.size + 2 := by rw [Heap.size_push, z1]
  have z3 : (zxH3 b1 b2 s.heap l1 l2).objs.size = s.heap.objs.size + 3 := by rw [Heap.size_push, z2]
  have z4 : (zxH4 b1 b2 s.heap l1 l2).objs.size = s.heap.objs.size + 4 := by rw [Heap.size_push, z3]
  have z5 : (zxH5 b1 b2 s.heap l1 l2).objs.size = s.heap.objs.size + 5 := by rw [Heap.size_push, z4]
  have g5 : (zxH5 b1 b2 s.heap l1 l2).get? (zxH4 b1 b2 s.heap l1 l2).objs.size = some _ := Heap.get?_push_size _ rfl
  have g4 : (zxH5 b1 b2 s.heap l1 l2).get? (zxH3 b1 b2 s.heap l1 l2).objs.size = some _ := Heap.get?_push_of_some _ (Heap.get?_push_size _ rfl)
  have g3 : (zxH5 b1 b2 s.heap l1 l2).get? (zxH2 b1 b2 s.heap l1 l2).objs.size = some _ := Heap.get?_push_of_some _ (Heap.get?_push_of_some _ (Heap.get?_push_size _ rfl))
  have g2 : (zxH5 b1 b2 s.heap l1 l2).get? (zxH1 b1 s.heap l1).objs.size = some _ := Heap.get?_push_of_some _ (Heap.get?_push_of_some _ (Heap.get?_push_of_some _ (Heap.get?_push_size _ rfl)))
  have g1 : (zxH5 b1 b2 s.heap l1 l2).get? s.heap.objs.size = some _ := Heap.get?_push_of_some _ (Heap.get?_push_of_some _ (Heap.get?_push_of_some _ (Heap.get?_push_of_some _ (Heap.get?_push_size _ rfl))))
  show _ ∧ _
  rw [z2, z3, z4] at g5
  rw [z1, z2] at g3
  rw [z3] at g4
  rw [z1] at g2
  rw [z4]
  exact ⟨⟨_, g5, rfl⟩, h _ g5 g3 g4 (itX_new g1) (itX_new g2) z5 fun c o x =>
    Heap.get?_push_of_some _ (Heap.get?_push_of_some _ (Heap.get?_push_of_some _ (Heap.get?_push_of_some _ (Heap.get?_push_of_some _ x))))⟩
end
def iZipX (K : PySem.W.Frag) (ta : TA) : TI := fun σ H R => ta σ H fun vs H1 => ∃ b1 b2 a b xs ys, vs = [.ref a, .ref b] ∧ SqX K b1 H1 a xs ∧ SqX K b2 H1 b ys ∧ R (ItzX K b1 b2 a b) H1
theorem pi_zipX {X : Cx} {e e2 : Expr} {ta : TA} {p pos tpos : Pos} {elts : List Expr} {kk : Nat} (hg : Gl X "zip") (hm : X.mg "zip" = none) (ha : PA X [e, e2] ta)
    (hs : starEach [e, e2] X.env = (false, eval e X.env) :: starEach [e2] X.env := by rfl) (hpl : (backTo pos (starEach [e2] X.env)).any (·.1) = false := by rfl) :
    PI X (.Tuple elts kk tpos) (.Call (.Name "zip" p) [e, e2] [] pos) (iZipX X.K ta) := by
  refine ⟨fun pins s σ H R I h => ?_⟩
  refine Call_ (ld_blt I hg hm PyProof.Rows.boot_zip (PyProof.Rows.callWith_type1 (thn (ha.run pos pins s σ H _ I h) fun us s1 ⟨vs, H1, I1, r1, q1⟩ => ?_) hs hpl))
  obtain ⟨b1, b2, a, b, xs, ys, ex, hqx, hqy, q⟩ := q1
  subst ex
  cases r1 with
  | cons r rr =>
    cases rr with
    | cons r' rr =>
      cases rr
      cases r
      cases r'
      have fresh5 : ∀ c, c ∈ [s1.heap.objs.size + 4, s1.heap.objs.size + 2, s1.heap.objs.size + 3, s1.heap.objs.size, s1.heap.objs.size + 1] → FpOk X pins H1 c := fun c hcm => by
        have e' : c = s1.heap.objs.size + 4 ∨ c = s1.heap.objs.size + 2 ∨ c = s1.heap.objs.size + 3 ∨ c = s1.heap.objs.size ∨ c = s1.heap.objs.size + 1 := by simpa using hcm
        have hle : s1.heap.objs.size ≤ c := by
          rcases e' with z | z | z | z | z
          · rw [z]; exact Nat.le_add_right _ _
          · rw [z]; exact Nat.le_add_right _ _
          · rw [z]; exact Nat.le_add_right _ _
          · rw [z]; exact Nat.le_refl _
          · rw [z]; exact Nat.le_add_right _ _
        exact I1.fpOk hle (I1.hok.fresh hle)
      obtain ⟨its, rv, p1, lt1⟩ := seqX I1 hqx
      obtain ⟨its2, rv2, p2, lt2⟩ := seqX I1 hqy
      refine call_zipX b1 b2 p1 p2 fun h' hz hTI hTO h1 h2 hsz hk => wpAny_pyIter_zip hz ?_
      have I2 : Inv X pins σ H1 { s1 with heap := h' } := I1.kept (t' := s1.toks) hk
      exact ⟨s1.heap.objs.size + 4, [s1.heap.objs.size + 4, s1.heap.objs.size + 2, s1.heap.objs.size + 3, s1.heap.objs.size, s1.heap.objs.size + 1], _, _, H1, rfl, I2, turn_zipX b1 b2 (PySem.W.ktu_apart s1.heap.objs.size a b lt1 lt2), ⟨hz, hTI, ⟨_, _, hTO⟩, h1, h2⟩, fresh5, q⟩
/-! ### enumerate -/
def IteX (K : PySem.W.Frag) (b : Bool) (a : Addr) : It :=
  ⟨fun i H => ∃ (xs : List V) (x : V), SqX K b H a xs ∧ xs[i]? = some x, fun i H v H' => ∃ T x, v = .ref T ∧ H T = none ∧ H' = upd H T (.tup [.int (i : Nat), x]) ∧ ∀ xs, SqX K b H a xs → xs[i]? = some x, fun i H => ∃ xs : List V, SqX K b H a xs ∧ xs.length = i⟩
theorem turn_enumX {P : Program} {w : World} {K : PySem.W.Frag} {elts : List Expr} {kk : Nat} {tpos : Pos} (b : Bool) {a e it : Addr} (ne1 : e ≠ it) (ne2 : a ≠ it) (ne3 : e ≠ a) :
    Turn P w K (.Tuple elts kk tpos) (IteX K b a) [e, it] e (fun i h => (∃ old, IsEnum h e it ((i : Nat) : Int) old) ∧ ItX b h it a i) := by
  have hef : e ∉ [it, a] := by simp [ne1, ne3]
  exact {
  mem := by simp
  obj := fun i h st c hc => by
    obtain ⟨⟨old, he⟩, hi⟩ := st
    have e' : c = e ∨ c = it := by simpa using hc
    rcases e' with z | z
    · rw [z]; exact ⟨_, he, fun v q => nomatch q⟩
    · rw [z]; exact hi.ob
  keep := fun i h h' st k => let ⟨⟨old, he⟩, hi⟩ := st; ⟨⟨old, k e (by simp) _ he⟩, hi.at fun o q => k it (by simp) o q⟩
  item := by
    intro X hP hw hK hc i pins s σ H E I hf st hg
    subst hP hw hK
    obtain ⟨⟨old, he⟩, hit⟩ := st
    obtain ⟨xs, x, hq, hx⟩ := hg
    obtain ⟨its, rv, p, hz⟩ := seqX I hq
    obtain ⟨u, hu, ru⟩ := rv.get hx
    have hel : e < s.heap.objs.size := Heap.lt_size he
    have hil : it < s.heap.objs.size := by obtain ⟨_, q, _⟩ := hit.ob; exact Heap.lt_size q
    have hh : X.A.in1.handled = none := I.ok.hd hc
    refine wpAny_pyNext_enum_itemC (drawsX b hh it a ne2 its.toArray) he ⟨hit, p⟩ (by have := (List.getElem?_eq_some_iff.mp hu).1; simpa using this) ne1 hef fun v h' tk e1 ho st' hT hsz hk => ?_
    have ev : v = u := by
      have e1' : its[i]? = some v := by simpa using e1
      rw [hu] at e1'
      exact (Option.some.inj e1').symm
    subst ev
    obtain ⟨hit', _⟩ := st'
    refine ⟨_, rfl, wpAny_letOwnedTupleGo_enum (s := { s with heap := h', toks := tk + 1 }) ho fun h'' he' sb => ?_⟩
    have hT2 : h''.get? s.heap.objs.size = some { cls := .type "tuple", data := .seq #[.int i tk, v] } := (sb.2 _ (Nat.ne_of_gt hel)).trans hT
    have new : ObjOk X.prog X.w (upd H s.heap.objs.size (.tup [.int (i : Nat), x])) h'' s.heap.objs.size (.tup [.int (i : Nat), x]) :=
      ⟨by show 2 ≤ sizeLine; decide, [.int i tk, v], .cons ⟨_, rfl⟩ (.cons ru .nil), ⟨_, hT2, rfl, _, rfl⟩⟩
    have I1 : Inv X pins σ (upd H s.heap.objs.size (.tup [.int (i : Nat), x])) { s with heap := h'', toks := tk + 1 } :=
      I.turnedNew (ch := [e, it]) (fun c ob hb q => (sb.2 c (fun z => hb (by simp [z]))).trans (hk c ob (fun z => hb (by simp [z])) (fun z => hb (by simp [z])) q)) hf (Nat.le_refl _) new
    refine ⟨.ref s.heap.objs.size, _, I1, rfl, ⟨_, x, rfl, I.hok.fresh (Nat.le_refl _), rfl, fun ys hy => by rw [sqX_inj I hy hq]; exact hx⟩, ⟨⟨v, ?_⟩, hit'.at fun o q => (sb.2 it (Ne.symm ne1)).trans q⟩, fun c hb => ?_⟩
    · have e1 : ((i + 1 : Nat) : Int) = (i : Int) + 1 := by omega
      rw [e1]; exact he'
    · have hb' : c < s.heap.objs.size := by
        have e' : c = e ∨ c = it := by simpa using hb
        rcases e' with z | z
        · rw [z]; exact hel
        · rw [z]; exact hil
      rw [upd_ne (Nat.ne_of_lt hb')]
      exact (hf c hb).1
  done := by
    intro X hP hw hK hc i pins s σ H E I hf st hg
    subst hP hw hK
    obtain ⟨⟨old, he⟩, hit⟩ := st
    obtain ⟨xs, hq, hx⟩ := hg
    obtain ⟨its, rv, p, hz⟩ := seqX I hq
    obtain ⟨f0, f1, f2, f3, f4, f5⟩ := hf it (by simp)
    have hl := rv.length
    have hh : X.A.in1.handled = none := I.ok.hd hc
    have hlen : its.toArray.size = i := by simp; omega
    exact wpAny_pyNext_enum_endD (drawsX b hh it a ne2 its.toArray) he (by rw [hlen]; exact ⟨hit, p⟩) fun h' eb => ⟨rfl, I.turned (t' := s.toks) (fun b o hb q => eb b o hb q) f0 f1 f3 f4 f5⟩
  self := fun A i s Q E st h => let ⟨⟨_, he⟩, _⟩ := st; wpAny_pyIter_enum he h }
end DL
end

section
set_option Elab.async false
set_option linter.all false
set_option maxRecDepth 100000
/-! enumerate of a tuple; what is walked, told of data. -/
namespace DL
open PySem PySem.Spec PyProof.Rows L2
open AutoSeq1 (wpAny_loadPart')
theorem meets_enumT (l : Addr) (items : Array Value) (n : Nat) (dct : Option Addr) (sl : Array (Option Value)) :
    Meets (Builtin.«enumerate.__new__» ⟨[.type "enumerate", .ref l], []⟩) (fun _ R s => s.heap.get? l = some { cls := .type "tuple", dict := dct, data := .seq items n, slots := sl } ∧
      R (.ok (.ret (.ref (s.heap.push { cls := .type "tuple_iterator", data := .fields #[.ref l, .int 0 0] }).objs.size)))
        { s with heap := (s.heap.push { cls := .type "tuple_iterator", data := .fields #[.ref l, .int 0 0] }).push { cls := .type "enumerate", data := .fields #[.none, .bool false, .ref s.heap.objs.size, rawInt 0, .none, .none] } }) :=
  .of_wp fun prog w A R s h => by
    obtain ⟨hp, g, d, tk, os⟩ := s; obtain ⟨hl, h⟩ := h
    have hsub := sub_enumerate
    have hL : Heap.IsTuple (Shared.heap ⟨hp, g, d, tk, os⟩) l items := ⟨_, hl, rfl, n, rfl⟩
    wp_walk using wpAny_loadPart' hl
    refine wpAny_stack_any fun st => wpAny_pure ?_
    split
    · rename_i c _ _ _ _ _
      cases (c == Value.type "enumerate")
      · wp_walk using wpAny_loadPart' hl, wpAny_pyIter_tuple hL
        exact ⟨_, rfl, h⟩
      · wp_walk using wpAny_loadPart' hl, wpAny_pyIter_tuple hL
        exact ⟨_, rfl, h⟩
    · wp_walk using wpAny_loadPart' hl, wpAny_pyIter_tuple hL
      exact ⟨_, rfl, h⟩
section
variable {prog : Program} {w : World} {A : Around} {E : Value → Shared → Prop} {s : Shared}
theorem call_enumT {l : Addr} {items : Array Value} {Q : Value → Shared → Prop} (hL : s.heap.IsTuple l items)
    (h : ∀ h', IsEnum h' (s.heap.objs.size + 1) s.heap.objs.size 0 .none → h'.IsTupleIter s.heap.objs.size l 0 → h'.objs.size = s.heap.objs.size + 2 →
      (∀ b o, s.heap.get? b = some o → h'.get? b = some o) → Q (.ref (s.heap.objs.size + 1)) { s with heap := h' }) :
    wpAny (model prog w) A (call (.type "enumerate") [.ref l]) Q E s := by
  obtain ⟨⟨c, dct, dt, sl⟩, hl, hc, n, hd⟩ := hL
  replace hc : c = .type "tuple" := hc
  replace hd : dt = .seq items n := hd
  subst hc hd
  refine callType_new F.called_enumerate (by decide) (F.typeCall_enumerate_1 _) (F.newCall_enumerate_1 _) (fun obj => F.args_object_init_2 obj _) F.entry_enumerate_new
    (meets_enumT l items n dct sl) ⟨hl, ?_⟩
  have hz : (s.heap.push { cls := .type "tuple_iterator", data := .fields #[.ref l, .int 0 0] }).objs.size = s.heap.objs.size + 1 := Heap.size_push ..
  show _ ∧ _
  rw [hz]
  have he : IsEnum ((s.heap.push { cls := .type "tuple_iterator", data := .fields #[.ref l, .int 0 0] }).push
      { cls := .type "enumerate", data := .fields #[.none, .bool false, .ref s.heap.objs.size, rawInt 0, .none, .none] }) (s.heap.objs.size + 1) s.heap.objs.size 0 .none := by
    have := Heap.get?_push_size (s.heap.push { cls := .type "tuple_iterator", data := .fields #[.ref l, .int 0 0] })
      (o := { cls := .type "enumerate", data := .fields #[.none, .bool false, .ref s.heap.objs.size, rawInt 0, .none, .none] }) rfl
    rw [hz] at this; exact this
  refine ⟨⟨_, he, rfl⟩, h _ he ⟨_, Heap.get?_push_of_some _ (Heap.get?_push_size _ rfl), rfl, rfl⟩ (by rw [Heap.size_push, hz]) fun b o x => Heap.get?_push_of_some _ (Heap.get?_push_of_some _ x)⟩
theorem call_enumX (b : Bool) {l : Addr} {items : Array Value} {Q : Value → Shared → Prop} (hL : SX b s.heap l items)
    (h : ∀ h', IsEnum h' (s.heap.objs.size + 1) s.heap.objs.size 0 .none → ItX b h' s.heap.objs.size l 0 → h'.objs.size = s.heap.objs.size + 2 →
      (∀ b o, s.heap.get? b = some o → h'.get? b = some o) → Q (.ref (s.heap.objs.size + 1)) { s with heap := h' }) :
    wpAny (model prog w) A (call (.type "enumerate") [.ref l]) Q E s := by
  cases b
  · exact call_enumerate_list hL h
  · exact call_enumT hL h
end
def iEnumX (K : PySem.W.Frag) (ta : TA) : TI := fun σ H R => ta σ H fun vs H1 => ∃ b a xs, vs = [.ref a] ∧ SqX K b H1 a xs ∧ R (IteX K b a) H1
theorem pi_enumX {X : Cx} {e : Expr} {ta : TA} {p pos tpos : Pos} {elts : List Expr} {kk : Nat} (hg : Gl X "enumerate") (hm : X.mg "enumerate" = none) (ha : PA X [e] ta) (hs : starEach [e] X.env = [(false, eval e X.env)] := by rfl) :
    PI X (.Tuple elts kk tpos) (.Call (.Name "enumerate" p) [e] [] pos) (iEnumX X.K ta) := by
  refine ⟨fun pins s σ H R I h => ?_⟩
  refine Call_ (ld_blt I hg hm boot_enumerate (PyProof.Rows.callWith_type1 (thn (ha.run pos pins s σ H _ I h) fun us s1 ⟨vs, H1, I1, r1, q1⟩ => ?_) hs rfl))
  obtain ⟨b, a, xs, ex, hq, q⟩ := q1
  subst ex
  cases r1 with
  | cons r rr =>
    cases rr
    cases r
    obtain ⟨its, rv, p', hz⟩ := seqX I1 hq
    refine call_enumX b p' fun h' he hit hsz hk => wpAny_pyIter_enum he ?_
    have I2 : Inv X pins σ H1 { s1 with heap := h' } := I1.kept (t' := s1.toks) hk
    refine ⟨s1.heap.objs.size + 1, [s1.heap.objs.size + 1, s1.heap.objs.size], _, _, H1, rfl, I2, turn_enumX b (e := s1.heap.objs.size + 1) (it := s1.heap.objs.size) (a := a) (Nat.succ_ne_self _) (Nat.ne_of_lt hz) (Nat.ne_of_gt (Nat.lt_succ_of_lt hz)), ⟨⟨.none, he⟩, hit⟩, fun b hb => ?_, q⟩
    have e' : b = s1.heap.objs.size + 1 ∨ b = s1.heap.objs.size := by simpa using hb
    have hle : s1.heap.objs.size ≤ b := by
      rcases e' with z | z
      · rw [z]; exact Nat.le_add_right _ _
      · rw [z]; exact Nat.le_refl _
    exact I1.fpOk hle (I1.hok.fresh hle)
/-! ### told of data -/
section
variable {X : Cx} {A : List V} {W : WX} {S : Cfg}
theorem sqX_mono {b : Bool} {H H' : Hp} {a : Addr} {xs : List V} (K : PySem.W.Frag) (e : Same H H') (h : SqX K b H a xs) (hl : b = false → H a = some (.lst xs)) : SqX K b H' a xs := by
  cases b
  · exact SqL.of (e _ _ (hl rfl))
  · exact sqT_mono e h
/-- the items of a frozen sequence -/
theorem rd_items {x : D} {v : V} {xs : List D} (rx : RD X.K X.mg S.F x v) (e : dItems x = some xs) : ∃ b a vs, v = .ref a ∧ SqX X.K b S.F a vs ∧ (b = false → S.F a = some (.lst vs)) ∧ RDs X.K X.mg S.F xs vs := by
  unfold dItems at e
  split at e
  · cases e
    obtain ⟨a, vs, rfl, h2, h3⟩ := rx
    exact ⟨false, a, vs, rfl, SqL.of h2, fun _ => h2, h3⟩
  · cases e
    obtain ⟨a, vs, rfl, h2, h3⟩ := rx
    exact ⟨true, a, vs, rfl, SqT.of h2, (fun z => nomatch z), h3⟩
  · cases e
def numD (i : Nat) : List D → List D
  | [] => []
  | x :: xs => .tup [.int (i : Int), x] :: numD (i + 1) xs
theorem numD_len (i : Nat) : ∀ xs : List D, (numD i xs).length = xs.length
  | [] => rfl
  | x :: xs => by simp [numD, numD_len (i + 1) xs]
theorem numD_get : ∀ (xs : List D) (i j : Nat), (numD i xs)[j]? = xs[j]?.map fun x => .tup [.int ((i + j : Nat) : Int), x]
  | [], _, _ => by simp [numD]
  | x :: xs, i, 0 => by simp [numD]
  | x :: xs, i, j + 1 => by
    simp only [numD, List.getElem?_cons_succ]
    rw [numD_get xs (i + 1) j]
    have : i + 1 + j = i + (j + 1) := by omega
    rw [this]
def zipD : List D → List D → List D
  | x :: xs, y :: ys => .tup [x, y] :: zipD xs ys
  | _, _ => []
theorem zipD_len : ∀ xs ys : List D, (zipD xs ys).length = min xs.length ys.length
  | [], _ => by simp [zipD]
  | x :: xs, [] => by simp [zipD]
  | x :: xs, y :: ys => by
    show (zipD xs ys).length + 1 = min (xs.length + 1) (ys.length + 1)
    rw [zipD_len xs ys]
    omega
theorem zipD_get : ∀ (xs ys : List D) (j : Nat) (x y : D), xs[j]? = some x → ys[j]? = some y → (zipD xs ys)[j]? = some (.tup [x, y])
  | [], _, _, _, _, h, _ => by simp at h
  | x :: xs, [], _, _, _, _, h => by simp at h
  | x :: xs, y :: ys, 0, a, b, h1, h2 => by
    simp at h1 h2
    subst h1 h2
    rfl
  | x :: xs, y :: ys, j + 1, a, b, h1, h2 => by
    simp only [zipD, List.getElem?_cons_succ] at *
    exact zipD_get xs ys j a b h1 h2
theorem walkD_enum {b : Bool} {a : Addr} {xs : List D} {vs : List V} (h : SqX X.K b S.F a vs) (hl : b = false → S.F a = some (.lst vs)) (r : RDs X.K X.mg S.F xs vs) : WalkD X (IteX X.K b a) S (numD 0 xs) := by
  refine ⟨fun H => SqX X.K b H a vs, fun i H v H' => ∃ T x, v = .ref T ∧ H T = none ∧ H' = upd H T (.tup [.int (i : Nat), x]) ∧ vs[i]? = some x, ⟨fun i H hi hq => ?_, fun H hq => ?_, fun i H x H' hi hq y => ?_⟩, fun S' e sb => ?_, fun i S' x H' hi e sb y => ?_⟩
  · rw [numD_len, r.length] at hi
    exact ⟨vs, vs[i], hq, List.getElem?_eq_getElem hi⟩
  · exact ⟨vs, hq, by rw [numD_len, r.length]⟩
  · obtain ⟨T, u, h1, h2, h3, h4⟩ := y
    exact ⟨T, u, h1, h2, h3, h4 vs hq⟩
  · exact sqX_mono X.K sb (sqX_mono X.K e.frz h hl) fun z => e.frz _ _ (hl z)
  · obtain ⟨T, u, h1, h2, h3, h4⟩ := y
    obtain ⟨d, e1, e2⟩ := r.getV h4
    subst h1 h3
    have g : Gr S' (S'.fz T (.tup [.int (i : Nat), u])) := .fz sb h2
    refine ⟨_, .tup [.int (i : Int), d], rfl, g, ?_, T, _, rfl, upd_same, ⟨_, _, rfl, rfl, _, _, rfl, (e2.mono e.frz).mono g.F, rfl⟩⟩
    rw [numD_get, e1]
    simp
theorem walkD_zip {b1 b2 : Bool} {a1 a2 : Addr} {xs ys : List D} {vs us : List V} (h : SqX X.K b1 S.F a1 vs) (hl : b1 = false → S.F a1 = some (.lst vs)) (r : RDs X.K X.mg S.F xs vs) (k : SqX X.K b2 S.F a2 us) (kl : b2 = false → S.F a2 = some (.lst us)) (q : RDs X.K X.mg S.F ys us) : WalkD X (ItzX X.K b1 b2 a1 a2) S (zipD xs ys) := by
  refine ⟨fun H => SqX X.K b1 H a1 vs ∧ SqX X.K b2 H a2 us, fun i H v H' => ∃ T x y, v = .ref T ∧ H T = none ∧ H' = upd H T (.tup [x, y]) ∧ vs[i]? = some x ∧ us[i]? = some y, ⟨fun i H hi hq => ?_, fun H hq => ?_, fun i H x H' hi hq y => ?_⟩, fun S' e sb => ?_, fun i S' x H' hi e sb y => ?_⟩
  · rw [zipD_len, r.length, q.length] at hi
    exact ⟨vs, us, vs[i], us[i], hq.1, hq.2, List.getElem?_eq_getElem (by omega), List.getElem?_eq_getElem (by omega)⟩
  · refine ⟨vs, us, hq.1, hq.2, ?_, ?_, ?_⟩ <;> rw [zipD_len, r.length, q.length] <;> omega
  · obtain ⟨T, u, u', h1, h2, h3, h4, h5⟩ := y
    exact ⟨T, u, u', h1, h2, h3, h4 vs hq.1, h5 us hq.2⟩
  · exact ⟨sqX_mono X.K sb (sqX_mono X.K e.frz h hl) fun z => e.frz _ _ (hl z), sqX_mono X.K sb (sqX_mono X.K e.frz k kl) fun z => e.frz _ _ (kl z)⟩
  · obtain ⟨T, u, u', h1, h2, h3, h4, h5⟩ := y
    obtain ⟨d, e1, e2⟩ := r.getV h4
    obtain ⟨d', e1', e2'⟩ := q.getV h5
    subst h1 h3
    have g : Gr S' (S'.fz T (.tup [u, u'])) := .fz sb h2
    exact ⟨_, .tup [d, d'], rfl, g, zipD_get _ _ _ _ _ e1 e1', T, _, rfl, upd_same, ⟨_, _, rfl, (e2.mono e.frz).mono g.F, _, _, rfl, (e2'.mono e.frz).mono g.F, rfl⟩⟩
/-- enumerate(f) -/
def iEn (f : EM D) : EM (List D) := fun ρ => (argGo [.ev f] ρ).bind fun ds ρ1 => match ds with
  | [x] => Out.lift ρ1 ((dItems x).map (numD 0))
  | _ => .stuck
theorem pid_enum {e : Expr} {f : EM D} {p pos tpos : Pos} {elts : List Expr} {kk : Nat} (hg : Gl X "enumerate") (hm : X.mg "enumerate" = none) (he : PD X A W e f) (hs : starEach [e] X.env = [(false, eval e X.env)] := by rfl) :
    PID X A W (.Tuple elts kk tpos) (.Call (.Name "enumerate" p) [e] [] pos) (iEn f) := PI.imp (pi_enumX hg hm (pa_cons he pa_nil hs) hs) fun σ H R h => by
  obtain ⟨S, ρ, rfl, s, h⟩ := h
  refine args_bind (os := [.ev f]) (P := PostI X A W R S σ) (fun z => z) (fun _ _ _ z => z) s h fun ds ρ1 S1 vs hp ev s1 ok => ?_
  match ds, vs, ok with
  | [x], [v], ok =>
    have rx : RD X.K X.mg S1.F x v := ok.1
    have hp' : PostI X A W R S σ (Out.lift ρ1 ((dItems x).map (numD 0))) := hp
    cases q : dItems x with
    | none =>
      rw [q] at hp'
      exact hp'.elim
    | some xs =>
      rw [q] at hp'
      obtain ⟨b, a, us, h1, h2, h3, h4⟩ := rd_items rx q
      exact ⟨b, a, us, by rw [h1], sqX_mono X.K s1.sub h2 h3, hp' S1 _ ev s1 (walkD_enum h2 h3 h4)⟩
/-- zip(f, g) -/
def iZp (f g : EM D) : EM (List D) := fun ρ => (argGo [.ev f, .ev g] ρ).bind fun ds ρ1 => match ds with
  | [x, y] => match dItems x, dItems y with
    | some xs, some ys => .ok (zipD xs ys) ρ1
    | _, _ => .stuck
  | _ => .stuck
theorem pid_zip {e e2 : Expr} {f g : EM D} {p pos tpos : Pos} {elts : List Expr} {kk : Nat} (hg : Gl X "zip") (hm : X.mg "zip" = none) (he : PD X A W e f) (he2 : PD X A W e2 g)
    (hs : starEach [e, e2] X.env = (false, eval e X.env) :: starEach [e2] X.env := by rfl) (hs2 : starEach [e2] X.env = (false, eval e2 X.env) :: starEach [] X.env := by rfl) (hpl : (backTo pos (starEach [e2] X.env)).any (·.1) = false := by rfl) :
    PID X A W (.Tuple elts kk tpos) (.Call (.Name "zip" p) [e, e2] [] pos) (iZp f g) := PI.imp (pi_zipX hg hm (pa_cons he (pa_cons he2 pa_nil hs2) hs) hs hpl) fun σ H R h => by
  obtain ⟨S, ρ, rfl, s, h⟩ := h
  refine args_bind (os := [.ev f, .ev g]) (P := PostI X A W R S σ) (fun z => z) (fun _ _ _ z => z) s h fun ds ρ1 S1 vs hp ev s1 ok => ?_
  match ds, vs, ok with
  | [x, y], [v, u], ok =>
    have rx : RD X.K X.mg S1.F x v := ok.1
    have ry : RD X.K X.mg S1.F y u := ok.2.1
    have hp' : PostI X A W R S σ (match dItems x, dItems y with
      | some xs, some ys => .ok (zipD xs ys) ρ1
      | _, _ => .stuck) := hp
    cases q : dItems x with
    | none =>
      simp only [q] at hp'
      exact (show False from hp').elim
    | some xs =>
      cases q2 : dItems y with
      | none =>
        simp only [q, q2] at hp'
        exact (show False from hp').elim
      | some ys =>
        simp only [q, q2] at hp'
        obtain ⟨b1, a1, us1, h1, h2, h3, h4⟩ := rd_items rx q
        obtain ⟨b2, a2, us2, k1, k2, k3, k4⟩ := rd_items ry q2
        exact ⟨b1, b2, a1, a2, us1, us2, by rw [h1, k1], sqX_mono X.K s1.sub h2 h3, sqX_mono X.K s1.sub k2 k3, hp' S1 _ ev s1 (walkD_zip h2 h3 h4 k2 k3 k4)⟩
end
end DL
end

section
set_option Elab.async false
set_option linter.all false
set_option maxRecDepth 100000
/-! More operations. -/
namespace DL
open PySem PySem.Spec PyProof.Rows L2
section
variable {X : Cx} {A : List V} {W : WX} {S S' : Cfg} {σ : L2.St} {ρ : Env'}
/-! ### * -/
theorem RDs.rep {K : PySem.W.Frag} {mg : Str → Option Value} {F : Hp} {ds : List D} {vs : List V} (h : RDs K mg F ds vs) : ∀ n : Nat, RDs K mg F (List.replicate n ds).flatten (List.replicate n vs).flatten
  | 0 => rfl
  | n + 1 => by
    rw [List.replicate_succ, List.replicate_succ, List.flatten_cons, List.flatten_cons]
    exact h.app (RDs.rep h n)
def repStr (x : Str) (n : Nat) : Str := ⟨(List.replicate n x.cps).foldl (· ++ ·) #[]⟩
def dMul : D → D → Option D
  | .int i, .int j => if i.natAbs.log2 + j.natAbs.log2 < 1000000 then some (.int (i * j)) else none
  | .lst xs, .int k => if 0 ≤ k ∧ k ≤ 1000 ∧ xs.length ≤ 1000 then some (.lst (List.replicate k.toNat xs).flatten) else none
  | .tup xs, .int k => if 1 ≤ k ∧ k ≤ 1000 ∧ 0 < xs.length ∧ xs.length ≤ 1000 then some (.tup (List.replicate k.toNat xs).flatten) else none
  | .str x, .int k => if 1 ≤ k ∧ k ≤ 1000 ∧ 0 < x.length ∧ x.length ≤ 1000 then some (.str (if k = 1 then x else repStr x k.toNat)) else none
  | _, _ => none
def rRepT1 (K : PySem.W.Frag) : R2 := fun x y H Q => ∃ l xs, x = .ref l ∧ y = .int 1 ∧ SqT K H l xs ∧ xs ≠ [] ∧ Q x H
theorem tuple_mul1 (l : Addr) (items : Array Value) (n : Nat) (dd : Option Addr) (sl : Array (Option Value)) (u : Tok) :
    Meets (Builtin.«tuple.__mul__» ⟨[.ref l, .int 1 u], []⟩) (fun _ R s => s.heap.get? l = some { cls := .type "tuple", dict := dd, data := .seq items n, slots := sl } ∧ R (.ok (.ret (Value.ref l))) s) :=
  .of_wp fun prog w A R s h => by
    obtain ⟨hp, g, d, tk, os⟩ := s
    obtain ⟨hl, h⟩ := h
    have f1 := AutoSeq1.idx_int
    wp_walk using wpAny_loadPart' hl
    repeat (first
      | (refine wpAny_ite_true (decide_eq_true (by simp)) ?_; wp_walk using wpAny_loadPart' hl)
      | (refine wpAny_ite_false (decide_eq_false (by decide)) ?_; wp_walk using wpAny_loadPart' hl))
    exact ⟨_, rfl, h⟩
theorem size_foldl {α : Type} (a : Array α) : ∀ (m : Nat) (acc : Array α), ((List.replicate m a).foldl (· ++ ·) acc).size = acc.size + m * a.size
  | 0, acc => by simp
  | m + 1, acc => by
    rw [List.replicate_succ, List.foldl_cons, size_foldl a m, Array.size_append, Nat.succ_mul]
    omega
theorem op_repT1 : OpR X (binaryOp .Mult) (rRepT1 X.K) := by
  intro pins s σ H x y v u Q I rx ry h
  obtain ⟨l, xs, rfl, rfl, hT, hne, q⟩ := h
  cases rx
  obtain ⟨t, rfl⟩ := ry
  obtain ⟨its, r, ⟨⟨cls, dd, data, sl⟩, ho, hc, n, hd⟩, hs⟩ := I.tuple hT
  simp only at hc hd
  subst hc hd
  refine wpAny_binaryOp_repeat_ref (T := "tuple") (U := "int") (by decide) ⟨_, ho, rfl⟩ (fun s' => typeIs_int s' 1 t) noFill_tuple_mul F.fills_int_mul F.slot_int_rmul repeat_tuple F.slot_int_index.lookup
    (call_meets F.slot_int_rmul (typeIs_int s 1 t) F.entry_int_rmul (F.args_int_rmul_2 _ _) (int_rmul_tuple 1 t l its.toArray n dd sl)
      ⟨ho, rfl, ⟨_, ho, rfl⟩, call_meets F.slot_tuple_mul ⟨_, ho, rfl⟩ F.entry_tuple_mul (F.args_tuple_mul_2 _ _) (tuple_mul1 l its.toArray n dd sl t) ⟨ho, ?_⟩⟩)
  exact ⟨.ref l, H, I, rfl, q⟩
def rRepS : R2 := fun x y H Q => ∃ z k, x = .str z ∧ y = .int k ∧ 1 ≤ k ∧ k ≤ 1000 ∧ 0 < z.length ∧ z.length ≤ 1000 ∧ Q (.str (if k = 1 then z else repStr z k.toNat)) H
theorem op_repS : OpR X (binaryOp .Mult) rRepS := by
  intro pins s σ H x y v u Q I rx ry h
  obtain ⟨z, k, rfl, rfl, h1, h2, h3, h4, q⟩ := h
  obtain ⟨t, rfl⟩ := rx
  obtain ⟨t2, rfl⟩ := ry
  have hm : z.length * k.toNat ≤ 1000 * 1000 := Nat.mul_le_mul h4 (by omega)
  refine PySem.P.mul_str (by rw [decide_eq_false (by omega), decide_eq_false (by omega)] <;> rfl) (fun _ _ hb => ?_) (fun _ _ => ?_) ?_
  · have e1 : (1000 : Int) ≤ (2 ^ 63 - 1) / k := by
      rw [Int.le_ediv_iff_mul_le (by omega)]
      omega
    omega
  · unfold Builtin.Str.tooLong
    rw [sizeLine_eq]
    exact decide_eq_false (by omega)
  · rw [if_neg (by omega)]
    have e0 : (k == 1 || z.length == 0) = decide (k = 1) := by
      have : (z.length == 0) = false := beq_eq_false_iff_ne.mpr (by omega)
      rw [this, Bool.or_false]
      rfl
    rw [e0]
    by_cases hk : k = 1
    · rw [if_pos (decide_eq_true hk)]
      rw [if_pos hk] at q
      exact ⟨.str z, H, I, ⟨t, rfl⟩, q⟩
    · rw [if_neg (by simpa using hk)]
      rw [if_neg hk] at q
      refine ⟨?_, ⟨.str _, H, I.tok _, ⟨_, rfl⟩, q⟩⟩
      show (repStr z k.toNat).length ≤ _
      have e1 : (repStr z k.toNat).length = k.toNat * z.length := by
        show ((List.replicate k.toNat z.cps).foldl (· ++ ·) #[]).size = _
        rw [size_foldl]
        show (#[] : Array Nat).size + k.toNat * z.cps.size = _
        simp
        rfl
      rw [e1, Nat.mul_comm, sizeLine_eq]
      omega
abbrev rMulD (K : PySem.W.Frag) : R2 := fun x y H Q => rI CMulW (fun i j => .int (i * j)) x y H Q ∨ rRep x y H Q ∨ rRepT K x y H Q ∨ rRepT1 K x y H Q ∨ rRepS x y H Q
theorem op_mulD : OpR X (binaryOp .Mult) (rMulD X.K) := op_mulW.or (op_rep.or (op_repT.or (op_repT1.or op_repS)))
theorem vop_mul : VOp2 X dMul (rMulD X.K) := fun S x y z v u Q hS e rx ry k => by
  unfold dMul at e
  split at e
  · split at e
    · rename_i h
      cases e
      exact .inl ⟨_, _, rx, ry, h, k S _ (.refl hS) rfl⟩
    · cases e
  · split at e
    · rename_i xs n h
      cases e
      obtain ⟨a, vs, rfl, h2, h3⟩ := rx
      refine .inr (.inl ⟨a, n, vs, rfl, ry, h2, by omega, by omega, ?_, fun p hp => give_lst hS (h3.rep _) k p hp⟩)
      rw [← h3.length, sizeLine_eq]
      have a1 : xs.length * n.toNat ≤ 1000 * 1000 := Nat.mul_le_mul h.2.2 (by omega)
      omega
    · cases e
  · split at e
    · rename_i xs n h
      cases e
      obtain ⟨a, vs, rfl, h2, h3⟩ := rx
      have hne : vs ≠ [] := fun z => by
        have e1 := h3.length
        rw [z, List.length_nil] at e1
        omega
      by_cases hn : n = 1
      · subst hn
        refine .inr (.inr (.inr (.inl ⟨a, vs, rfl, ry, sqT_of hS h2, hne, k S _ (.refl hS) ⟨a, vs, rfl, h2, ?_⟩⟩)))
        have e1 : (List.replicate (1 : Int).toNat xs).flatten = xs := by
          show (List.replicate 1 xs).flatten = xs
          simp
        rw [e1]
        exact h3
      · exact .inr (.inr (.inl ⟨a, n, vs, rfl, ry, sqT_of hS h2, hne, by omega, by omega, by rw [← h3.length]; omega, fun p hp => give_tup hS (h3.rep _) k p hp⟩))
    · cases e
  · split at e
    · rename_i h
      cases e
      exact .inr (.inr (.inr (.inr ⟨_, _, rx, ry, h.1, h.2.1, h.2.2.1, h.2.2.2, k S _ (.refl hS) rfl⟩)))
    · cases e
  · cases e
/-! ### //, by wide numbers, too -/
def dDivW : D → D → Option D
  | .int i, .int j => if 0 < j ∧ j.natAbs.log2 < 9000 then some (.int (i / j)) else none
  | _, _ => none
theorem vop_divW : VOp2 X dDivW (rI CDivW fun i j => .int (i / j)) := fun S x y z v u Q hS e rx ry k => by
  unfold dDivW at e
  split at e
  · split at e
    · rename_i h
      cases e
      exact ⟨_, _, rx, ry, h, k S _ (.refl hS) rfl⟩
    · cases e
  · cases e
/-! ### slices -/
def cutD (xs : List D) (lo hi : Option Int) : List D := (xs.drop (HT.sIx xs.length 0 lo)).take (HT.sIx xs.length xs.length hi - HT.sIx xs.length 0 lo)
def dSlice (x : D) (lo hi : Option Int) : Option D := match x with
  | .lst xs => some (.lst (cutD xs lo hi))
  | .tup xs => some (.tup (cutD xs lo hi))
  | .scr ns => some (.lst (cutD (ns.map .int) lo hi))
  | _ => none
theorem RDs.cut {K : PySem.W.Frag} {mg : Str → Option Value} {F : Hp} {ds : List D} {vs : List V} (h : RDs K mg F ds vs) (lo hi : Option Int) : RDs K mg F (cutD ds lo hi) (cutV vs lo hi) := by
  unfold cutD cutV
  rw [h.length]
  exact (h.drop _).take _
/-- a bound -/
def oBd : Option (EM D) → EM (Option Int)
  | none => fun ρ => .ok none ρ
  | some f => fun ρ => (f ρ).bind fun d ρ1 => match d with
    | .int i => .ok (some i) ρ1
    | _ => .stuck
def eSl (o : Opd) (lo hi : Option (EM D)) : EM D := fun ρ => (o.go ρ).bind fun x ρ1 => (oBd lo ρ1).bind fun l ρ2 => (oBd hi ρ2).bind fun h ρ3 => (Out.lift ρ3 (o.rd ρ3 x)).bind fun x ρ4 => Out.lift ρ4 (dSlice x l h)
def POb (X : Cx) (A : List V) (W : WX) (e : Option Expr) (o : Option (EM D)) : Prop := match e, o with
  | none, none => True
  | some e, some o => PD X A W e o
  | _, _ => False
def tBd (X : Cx) (A : List V) (W : WX) (o : Option (EM D)) : TO := match o with
  | none => tNoPart
  | some o => tPart (tD X.K X.mg A W o)
theorem po_bd {e : Option Expr} {o : Option (EM D)} (h : POb X A W e o) : PO X e (tBd X A W o) := by
  cases e with
  | none => cases o with
    | none => exact po_none
    | some o => exact h.elim
  | some e => cases o with
    | none => exact h.elim
    | some o => exact po_some h
theorem bd_bind {β : Type} {P : Out β → Prop} {o : Option (EM D)} {g : Option Int → Env' → Out β} {Q' : Option Int → Hp → Prop} (s : Sat X.K X.mg A S σ ρ) (hp : P ((oBd o ρ).bind g)) (herr : ∀ c d ρ', P (.err c d ρ') → PostX X.K X.mg A W S c d ρ') (hst : ¬ P .stuck)
    (k : ∀ x ρ1 S1, P (g x ρ1) → Ev S S1 → Sat X.K X.mg A S1 σ ρ1 → Q' x S1.H) : tBd X A W o σ S.H Q' := by
  cases o with
  | none => exact k none ρ S hp (Ev.refl S) s
  | some f =>
    have hp' : P ((f ρ).bind fun d ρ1 => (match d with
      | .int i => Out.ok (some i) ρ1
      | _ => .stuck).bind g) := by
      have e : (oBd (some f) ρ).bind g = ((f ρ).bind fun d ρ1 => (match d with
        | .int i => Out.ok (some i) ρ1
        | _ => .stuck).bind g) := by
        show ((f ρ).bind fun d ρ1 => _).bind g = _
        cases f ρ <;> rfl
      rw [e] at hp
      exact hp
    refine tD_bind (P := P) s hp' herr hst fun d ρ1 S1 v hp1 ev s1 rv => ?_
    cases d with
    | int j => exact ⟨j, rv, k (some j) ρ1 S1 hp1 ev s1⟩
    | _ => exact (hst hp1).elim
theorem pd_slice {e : Expr} {lo hi : Option Expr} {o : Opd} {ol oh : Option (EM D)} {pos p2 : Pos} (he : PO' X A W e o) (hl : POb X A W lo ol) (hh : POb X A W hi oh) : PD X A W (.Subscript e (.Slice lo hi none p2) pos) (eSl o ol oh) := by
  have hr : L2.SlR X (fun x l u H Q => rSlL X.K x l u H Q ∨ rSlA X.K x l u H Q) := fun pins s σ H x v vl vu lo hi sl Q I rx hs il iu q => by
    rcases q with q | q
    · exact sl_list pins s σ H x v vl vu lo hi sl Q I rx hs il iu q
    · exact sl_tupA pins s σ H x v vl vu lo hi sl Q I rx hs il iu q
  refine PE.imp (pe_slice hr he (po_bd hl) (po_bd hh)) fun σ H Q h => ?_
  obtain ⟨S, ρ, rfl, s, h⟩ := h
  refine opd_bind (P := PostE X.K X.mg A W Q S σ) s h (fun _ _ _ z => z) (fun z => z) fun x ρ1 S1 v hp1 ev1 s1 r1 => ?_
  refine bd_bind (P := PostE X.K X.mg A W Q S σ) s1 hp1 (fun _ _ _ z => PostX.ev z ev1) (fun z => z) fun i ρ2 S2 hp2 ev2 s2 => ?_
  refine bd_bind (P := PostE X.K X.mg A W Q S σ) s2 hp2 (fun _ _ _ z => PostX.ev z (ev1.trans ev2)) (fun z => z) fun j ρ3 S3 hp3 ev3 s3 => ?_
  have r3 := (r1.ev ev2).ev ev3
  cases ex : o.rd ρ3 x with
  | none =>
    rw [ex] at hp3
    exact (show False from hp3).elim
  | some y =>
    rw [ex] at hp3
    have hp4 : PostE X.K X.mg A W Q S σ (Out.lift ρ3 (dSlice y i j)) := hp3
    have rb := r3.rb s3 ex
    have ev := (ev1.trans ev2).trans ev3
    cases y with
    | lst xs =>
      obtain ⟨a, vs, rfl, q2, q3⟩ := rb
      exact .inl ⟨a, vs, rfl, SqL.of q2, fun p hp => give_lst s3.sub (q3.cut i j) (fun S' w g r => hp4 S' w (ev.trans g.ev) (s3.gr g) r) p hp⟩
    | tup xs =>
      obtain ⟨a, vs, rfl, q2, q3⟩ := rb
      refine .inr ⟨a, vs, rfl, sqT_of s3.sub q2, fun e => ?_, fun _ p hp => give_tup s3.sub (q3.cut i j) (fun S' w g r => hp4 S' w (ev.trans g.ev) (s3.gr g) r) p hp⟩
      refine hp4 S3 _ ev s3 ⟨a, vs, rfl, q2, ?_⟩
      have e1 : cutD xs i j = xs := by
        unfold cutD
        rw [q3.length, e.1, e.2, List.drop_zero, Nat.sub_zero, ← q3.length, List.take_length]
      rw [e1]
      exact q3
    | scr ns =>
      obtain ⟨a, rfl, q2⟩ := rb
      exact .inl ⟨a, _, rfl, sqL_mono s3.sub q2, fun p hp => give_lst s3.sub ((RDs.ints ns).cut i j) (fun S' w g r => hp4 S' w (ev.trans g.ev) (s3.gr g) r) p hp⟩
    | _ => exact (show False from hp4).elim
/-- xs[::-1] -/
def eRev (f : EM D) : EM D := fun ρ => (f ρ).bind fun d ρ1 => Out.lift ρ1 ((asL d).map fun xs => .lst xs.reverse)
theorem RDs.rev {K : PySem.W.Frag} {mg : Str → Option Value} {F : Hp} : ∀ {ds : List D} {vs : List V}, RDs K mg F ds vs → RDs K mg F ds.reverse vs.reverse
  | [], _, h => by
    cases h
    rfl
  | d :: ds, _, ⟨v, r, h1, h2, h3⟩ => by
    subst h1
    rw [List.reverse_cons, List.reverse_cons]
    exact (RDs.rev h3).app (RDs.one h2)
theorem pd_rev {e : Expr} {f : EM D} {k : Nat} {p1 p2 p3 pos : Pos} (he : PD X A W e f) : PD X A W (.Subscript e (.Slice none none (some (.UnaryOp .USub (.Constant (.int 1) k p1) p2)) p3) pos) (eRev f) := PE.imp (pe_revL he) fun σ H Q h => by
  obtain ⟨S, ρ, rfl, s, h⟩ := h
  refine tD_bind (P := PostE X.K X.mg A W Q S σ) s h (fun _ _ _ z => z) (fun z => z) fun x ρ1 S1 v hp1 ev1 s1 r1 => ?_
  cases x with
  | lst xs =>
    obtain ⟨a, vs, rfl, q2, q3⟩ := r1
    exact ⟨a, vs, rfl, SqL.of (s1.sub _ _ q2), fun p hp => give_lst s1.sub q3.rev (fun S' w g r => hp1 S' w (ev1.trans g.ev) (s1.gr g) r) p hp⟩
  | _ => exact (show False from hp1).elim
/-! ### a <= b <= c -/
def eChain (f g : D → D → Option D) (ea eb ec : EM D) : EM D := fun ρ => (ea ρ).bind fun x ρ1 => (eb ρ1).bind fun y ρ2 => (Out.lift ρ2 (f x y)).bind fun z ρ3 => match z with
  | .bl true => (ec ρ3).bind fun w ρ4 => Out.lift ρ4 (g y w)
  | .bl false => .ok (.bl false) ρ3
  | _ => .stuck
theorem chain_to {r r' : R2} {f g : D → D → Option D} {ea eb ec : EM D} (hv : VOp2 X f r) (hv' : VOp2 X g r') (σ : L2.St) (H : Hp) (Q : VK) (h : tD X.K X.mg A W (eChain f g ea eb ec) σ H Q) : tChain r r' (tD X.K X.mg A W ea) (tD X.K X.mg A W eb) (tD X.K X.mg A W ec) σ H Q := by
  obtain ⟨S, ρ, rfl, s, h⟩ := h
  refine tD_bind (P := PostE X.K X.mg A W Q S σ) s h (fun _ _ _ z => z) (fun z => z) fun x ρ1 S1 v hp1 ev1 s1 r1 => ?_
  refine tD_bind (P := PostE X.K X.mg A W Q S σ) s1 hp1 (fun _ _ _ z => PostX.ev z ev1) (fun z => z) fun y ρ2 S2 u hp2 ev2 s2 r2 => ?_
  cases e : f x y with
  | none =>
    rw [e] at hp2
    exact (show False from hp2).elim
  | some z =>
    rw [e] at hp2
    have ev := ev1.trans ev2
    refine hv S2 x y z v u _ s2.sub e ((r1.mono ev2.frz).rb s2.sub) (r2.rb s2.sub) fun S3 w g3 r3 => ?_
    have s3 := s2.gr g3
    have ev3 := ev.trans g3.ev
    cases z with
    | bl c => cases c with
      | true =>
        have hp3 : PostE X.K X.mg A W Q S σ ((ec ρ2).bind fun w ρ4 => Out.lift ρ4 (g y w)) := hp2
        refine ⟨true, r3, iteT ?_⟩
        refine tD_bind (P := PostE X.K X.mg A W Q S σ) s3 hp3 (fun _ _ _ z => PostX.ev z ev3) (fun z => z) fun t ρ4 S4 q hp4 ev4 s4 r4 => ?_
        cases e2 : g y t with
        | none =>
          rw [e2] at hp4
          exact (show False from hp4).elim
        | some z =>
          rw [e2] at hp4
          exact hv' S4 y t z u q _ s4.sub e2 (((r2.mono g3.F).mono ev4.frz).rb s4.sub) (r4.rb s4.sub) fun S5 w5 g5 r5 => hp4 S5 w5 ((ev3.trans ev4).trans g5.ev) (s4.gr g5) r5
      | false =>
        have hp3 : PostE X.K X.mg A W Q S σ (.ok (.bl false) ρ2) := hp2
        exact ⟨false, r3, iteF (hp3 S3 _ ev3 s3 rfl)⟩
    | _ => exact (show False from hp2).elim
theorem pd_chain {op op' : CmpOp} {r r' : R2} {f g : D → D → Option D} {a b c : Expr} {ea eb ec : EM D} {pos : Pos} (ho : OpR X (compareOp op) r) (ho' : OpR X (compareOp op') r') (hv : VOp2 X f r) (hv' : VOp2 X g r') (ha : PD X A W a ea) (hb : PD X A W b eb) (hc : PD X A W c ec)
    (hm : lastMarks [op, op'] [b, c] = false := by with_unfolding_all rfl) : PD X A W (.Compare a [op, op'] [b, c] pos) (eChain f g ea eb ec) := PE.imp (pe_chain ho ho' ha hb hc hm) (chain_to hv hv')
theorem ptd_chain {op op' : CmpOp} {r r' : R2} {f g : D → D → Option D} {a b c : Expr} {ea eb ec : EM D} {pos : Pos} (ho : OpR X (compareOp op) r) (ho' : OpR X (compareOp op') r') (hv : VOp2 X f r) (hv' : VOp2 X g r') (ha : PD X A W a ea) (hb : PD X A W b eb) (hc : PD X A W c ec)
    (hm : lastMarks [op, op'] [b, c] = false := by with_unfolding_all rfl) : PTD X A W (.Compare a [op, op'] [b, c] pos) (eT (eChain f g ea eb ec)) := PT.imp (pt_chain ho ho' ha hb hc hm) fun σ H Q h => chain_to hv hv' σ H _ (eT_test _ σ H Q h)
/-! ### isinstance -/
def kitBs (t : String) : List String → Option Bool
  | [] => some false
  | c :: r => match kitB t c with
    | some true => some true
    | some false => kitBs t r
    | none => none
theorem kitBs_any {K : PySem.W.Frag} {t : String} : ∀ {cs : List String} {b : Bool}, kitBs t cs = some b → PySem.W.kitAny K (.type t) (cs.map Value.type) = some b
  | [], b, e => by
    cases e
    rfl
  | c :: r, b, e => by
    unfold kitBs at e
    split at e
    · rename_i h
      cases e
      exact kitAny_cons (kit_ty h) (fun z => nomatch z) fun _ => rfl
    · rename_i h
      exact kitAny_cons (kit_ty h) (fun _ => kitBs_any e) fun z => nomatch z
    · cases e
def dIsi (T : String) (x : D) : Option D := (tyName x).bind fun t => (kitB t T).map .bl
def dIsis (Ts : List String) (x : D) : Option D := (tyName x).bind fun t => (kitBs t Ts).map .bl
/-- isinstance(e, T) -/
theorem pd_isi {T : String} {e : Expr} {o : Opd} {p q pos : Pos} {Tx : Str} (hg : Gl X "isinstance") (hm : X.mg "isinstance" = none) (hg2 : Gl X Tx) (hm2 : X.mg Tx = none) (he : PO' X A W e o) (hT : bootBuiltins Tx = some (.type T) := by rfl) (hn : Tx ≠ "__name__" := by decide) (hd : (Tx == ("__debug__" : Str)) = false := by decide)
    (hs1 : starEach [e, .Name Tx q] X.env = (false, eval e X.env) :: starEach [.Name Tx q] X.env := by rfl) (hs2 : starEach [.Name Tx q] X.env = (false, eval (.Name Tx q) X.env) :: starEach [] X.env := by rfl) (hpl : (backTo pos (starEach [.Name Tx q] X.env)).any (·.1) = false := by rfl) :
    PD X A W (.Call (.Name "isinstance" p) [e, .Name Tx q] [] pos) (e1 (dIsi T) o) :=
  PE.imp (pe_callB call_isi hg hm rfl (pa_cons he (pa_cons (pe_bltn (v := .ty T) hg2 hm2 hT rfl hn hd) pa_nil hs2) hs1) (by decide) (by decide) hs1 hpl) fun σ H Q h => by
    obtain ⟨S, ρ, rfl, s, h⟩ := h
    have h' : PostE X.K X.mg A W Q S σ ((o.go ρ).bind fun x ρ1 => (Out.lift ρ1 (o.rd ρ1 x)).bind fun x ρ1 => Out.lift ρ1 (dIsi T x)) := h
    refine opd_bind (P := PostE X.K X.mg A W Q S σ) s h' (fun _ _ _ z => z) (fun z => z) fun x ρ1 S1 v hp1 ev1 s1 r1 => ?_
    cases ex : o.rd ρ1 x with
    | none =>
      rw [ex] at hp1
      exact (show False from hp1).elim
    | some y =>
      rw [ex] at hp1
      have hp2 : PostE X.K X.mg A W Q S σ (Out.lift ρ1 ((tyName y).bind fun t => (kitB t T).map .bl)) := hp1
      cases et : tyName y with
      | none =>
        rw [et] at hp2
        exact (show False from hp2).elim
      | some t =>
        rw [et] at hp2
        have hp3 : PostE X.K X.mg A W Q S σ (Out.lift ρ1 ((kitB t T).map .bl)) := hp2
        cases ek : kitB t T with
        | none =>
          rw [ek] at hp3
          exact (show False from hp3).elim
        | some b =>
          rw [ek] at hp3
          exact ⟨v, .ty T, .type t, .type T, b, rfl, .ty T, rb_tyx s1.sub (r1.rb s1 ex) et, kit_ty ek, hp3 S1 _ ev1 s1 rfl⟩
/-- isinstance(e, (T, U)) -/
theorem pd_isi2 {T U : String} {e : Expr} {o : Opd} {p q q2 q3 pos : Pos} {Tx Ux : Str} {kk} (hg : Gl X "isinstance") (hm : X.mg "isinstance" = none) (hg2 : Gl X Tx) (hm2 : X.mg Tx = none) (hg3 : Gl X Ux) (hm3 : X.mg Ux = none) (he : PO' X A W e o) (hT : bootBuiltins Tx = some (.type T) := by rfl) (hU : bootBuiltins Ux = some (.type U) := by rfl)
    (hn : Tx ≠ "__name__" := by decide) (hd : (Tx == ("__debug__" : Str)) = false := by decide) (hn2 : Ux ≠ "__name__" := by decide) (hd2 : (Ux == ("__debug__" : Str)) = false := by decide)
    (hs1 : starEach [e, .Tuple [.Name Tx q, .Name Ux q2] kk q3] X.env = (false, eval e X.env) :: starEach [.Tuple [.Name Tx q, .Name Ux q2] kk q3] X.env := by rfl) (hs2 : starEach [.Tuple [.Name Tx q, .Name Ux q2] kk q3] X.env = (false, eval (.Tuple [.Name Tx q, .Name Ux q2] kk q3) X.env) :: starEach [] X.env := by rfl)
    (hs3 : starEach [.Name Tx q, .Name Ux q2] X.env = (false, eval (.Name Tx q) X.env) :: starEach [.Name Ux q2] X.env := by rfl) (hs4 : starEach [.Name Ux q2] X.env = (false, eval (.Name Ux q2) X.env) :: starEach [] X.env := by rfl)
    (hpl : (backTo pos (starEach [.Tuple [.Name Tx q, .Name Ux q2] kk q3] X.env)).any (·.1) = false := by rfl) :
    PD X A W (.Call (.Name "isinstance" p) [e, .Tuple [.Name Tx q, .Name Ux q2] kk q3] [] pos) (e1 (dIsis [T, U]) o) :=
  PE.imp (pe_callB call_isiT hg hm rfl (pa_cons he (pa_cons (pe_tup (pa_cons (pe_bltn (v := .ty T) hg2 hm2 hT rfl hn hd) (pa_cons (pe_bltn (v := .ty U) hg3 hm3 hU rfl hn2 hd2) pa_nil hs4) hs3)) pa_nil hs2) hs1) (by decide) (by decide) hs1 hpl) fun σ H Q h => by
    obtain ⟨S, ρ, rfl, s, h⟩ := h
    have h' : PostE X.K X.mg A W Q S σ ((o.go ρ).bind fun x ρ1 => (Out.lift ρ1 (o.rd ρ1 x)).bind fun x ρ1 => Out.lift ρ1 (dIsis [T, U] x)) := h
    refine opd_bind (P := PostE X.K X.mg A W Q S σ) s h' (fun _ _ _ z => z) (fun z => z) fun x ρ1 S1 v hp1 ev1 s1 r1 => ?_
    cases ex : o.rd ρ1 x with
    | none =>
      rw [ex] at hp1
      exact (show False from hp1).elim
    | some y =>
      rw [ex] at hp1
      have hp2 : PostE X.K X.mg A W Q S σ (Out.lift ρ1 ((tyName y).bind fun t => (kitBs t [T, U]).map .bl)) := hp1
      cases et : tyName y with
      | none =>
        rw [et] at hp2
        exact (show False from hp2).elim
      | some t =>
        rw [et] at hp2
        have hp3 : PostE X.K X.mg A W Q S σ (Out.lift ρ1 ((kitBs t [T, U]).map .bl)) := hp2
        cases ek : kitBs t [T, U] with
        | none =>
          rw [ek] at hp3
          exact (show False from hp3).elim
        | some b =>
          rw [ek] at hp3
          refine ⟨by show 2 ≤ sizeLine; decide, fun tp np => ?_⟩
          have g : Gr S1 (S1.raw tp (.tup [.ty T, .ty U])) := .raw s1.sub np
          have s2 := s1.gr g
          refine ⟨v, tp, [.ty T, .ty U], .type t, [.type T, .type U], b, rfl, upd_same, .cons (.ty T) (.cons (.ty U) .nil), ?_, kitBs_any ek, hp3 (S1.raw tp (.tup [.ty T, .ty U])) _ (ev1.trans g.ev) s2 rfl⟩
          exact rb_tyx (S := S1.raw tp (.tup [.ty T, .ty U])) s2.sub ((r1.ev g.ev).rb s2 ex) et
/-! ### for x in a list or a tuple -/
def iS (f : EM D) : EM (List D) := fun ρ => (f ρ).bind fun d ρ1 => Out.lift ρ1 (dItems d)
theorem pid_seq {tg e : Expr} {f : EM D} (he : PD X A W e f) : PID X A W tg e (iS f) := by
  have h1 : PI X tg e (fun σ H R => iList X.K (tD X.K X.mg A W f) σ H R ∨ iTup X.K (tD X.K X.mg A W f) σ H R) := ⟨fun pins s σ H R I q => by
    rcases q with q | q
    · exact (pi_list he).run pins s σ H R I q
    · exact (pi_tup he).run pins s σ H R I q⟩
  refine PI.imp h1 fun σ H R h => ?_
  obtain ⟨S, ρ, rfl, s, h⟩ := h
  have h' : PostI X A W R S σ ((f ρ).bind fun d ρ1 => Out.lift ρ1 (dItems d)) := h
  have key : (∃ xs ρ1, f ρ = .ok (.tup xs) ρ1) ∨ ¬ ∃ xs ρ1, f ρ = .ok (.tup xs) ρ1 := Classical.em _
  rcases key with ⟨xs, ρ1, e⟩ | ne
  · right
    rw [e] at h'
    refine ⟨S, ρ, rfl, s, ?_⟩
    rw [e]
    intro S1 v ev s1 r
    obtain ⟨a, vs, h1, h2, h3⟩ := r
    exact ⟨a, h1, ⟨vs, sqT_of s1.sub h2⟩, h' S1 _ ev s1 (walkD_tup h2 h3)⟩
  · left
    refine tD_bind (P := PostI X A W R S σ) s (g := fun d ρ1 => match d with
      | .tup _ => Out.stuck
      | d => Out.lift ρ1 (dItems d)) ?_ (fun _ _ _ z => z) (fun z => z) fun x ρ1 S1 v hp ev s1 r => ?_
    · cases e : f ρ with
      | ok d ρ1 =>
        rw [e] at h'
        cases d with
        | tup xs => exact (ne ⟨xs, ρ1, e⟩).elim
        | _ => exact h'
      | err c d ρ' =>
        rw [e] at h'
        exact h'
      | stuck =>
        rw [e] at h'
        exact h'
    · cases x with
      | lst xs =>
        obtain ⟨a, vs, h1, h2, h3⟩ := r
        exact ⟨a, h1, ⟨vs, SqL.of (s1.sub _ _ h2)⟩, hp S1 _ ev s1 (walkD_list h2 h3)⟩
      | _ => exact (show False from hp).elim
end
end DL
end

section
set_option Elab.async false
set_option linter.all false
set_option maxRecDepth 100000
/-! Sorting, repr, items stored, unpacking. -/
namespace DL
open PySem PySem.Spec PyProof.Rows L2
section
variable {X : Cx} {A : List V} {W : WX} {S S' : Cfg} {σ : L2.St} {ρ : Env'}
/-! ### sorted(data) -/
def rSortDat (K : PySem.W.Frag) : List V → Hp → VK → Prop := fun xs H Q => ∃ (a : Addr) (vs : List V) (ds : List PyData), xs = [.ref a] ∧ SqL K H a vs ∧ DpAll K H vs ds ∧ PySem.W.AllAlike ds ∧ PySem.W.Sortable ds ∧ (∀ d ∈ ds, d.depth ≤ 20) ∧
  ∀ p, H p = none → Q (.ref p) (upd H p (.lst (((vs.zip ds).mergeSort (PySem.W.dataLe false Prod.snd)).map Prod.fst)))
theorem DpAll.len {K : PySem.W.Frag} {H : Hp} : ∀ {vs : List V} {ds : List PyData}, DpAll K H vs ds → vs.length = ds.length
  | [], [], _ => rfl
  | _ :: _, _ :: _, .cons _ h => by simp [DpAll.len h]
theorem each_rel : ∀ {vs : List V} {us : List Value} {ds : List PyData}, Vals vs us → vs.length = ds.length → PySem.W.EachIs (fun (v : Value) (b : V × PyData) => RelV b.1 v) us (vs.zip ds)
  | [], _, [], .nil, _ => .nil
  | [], _, _ :: _, _, h => by simp at h
  | _ :: _, _, [], _, h => by simp at h
  | v :: vs, _, d :: ds, .cons r t, h => .cons r (each_rel t (by simpa using h))
theorem each_reads {h : Heap} : ∀ {us : List Value} {ds : List PyData} {vs : List V} {as : List Addr}, ReadsAll h us ds as → vs.length = ds.length → PySem.W.EachIs (fun (v : Value) (b : V × PyData) => ∃ as, Reads h v b.2 as) us (vs.zip ds)
  | _, [], [], _, .nil, _ => .nil
  | _, [], _ :: _, _, _, h => by simp at h
  | _, _ :: _, [], _, _, h => by simp at h
  | _, d :: ds, v :: vs, _, .cons r t, h => .cons ⟨_, r⟩ (each_reads t (by simpa using h))
theorem vals_each : ∀ {us : List Value} {bs : List (V × PyData)}, PySem.W.EachIs (fun (v : Value) (b : V × PyData) => RelV b.1 v) us bs → Vals (bs.map Prod.fst) us
  | _, _, .nil => .nil
  | _, _, .cons r t => .cons r (vals_each t)
theorem cr_sortDat (hu : X.A.units + 40 < cLine) : CallR X (.builtin "sorted") (rSortDat X.K) := by
  intro pins s σ H xs us Q I r h
  obtain ⟨a, vs, ds, rfl, hs, hd, hal, hso, hdep, q⟩ := h
  obtain ⟨its, rv, hl, hz⟩ := I.list hs
  rw [Vals.ref1 r]
  have hlen := DpAll.len hd
  obtain ⟨as, hr⟩ := Dp.readsAll I ds vs its hd rv
  have e2 : (vs.zip ds).map Prod.snd = ds := List.map_snd_zip (Nat.le_of_eq hlen.symm)
  have hzl : (vs.zip ds).length = vs.length := by rw [List.length_zip, hlen, Nat.min_self]
  refine PySem.W.sorted_data (enc := Prod.snd) hl.isList (each_rel rv hlen) (each_reads hr hlen) (by rw [e2]; exact hal) (by rw [e2]; exact hso) (by rw [hzl]; exact hz) (fun b hb => ?_) fun out h1 h2 => ?_
  · have hm : b.2 ∈ ds := by
      rw [← e2]
      exact List.mem_map_of_mem hb
    have := hdep _ hm
    omega
  · obtain ⟨ep, he'⟩ := PyProof.Rows.sortedAll_at s.heap its out.toArray
    have hv := vals_each h2
    have hlen2 : (((vs.zip ds).mergeSort (PySem.W.dataLe false Prod.snd)).map Prod.fst).length ≤ sizeLine := by
      rw [List.length_map, List.length_mergeSort, hzl]
      exact hz
    refine ⟨.ref _, upd H (s.heap.objs.size + 1) (.lst (((vs.zip ds).mergeSort (PySem.W.dataLe false Prod.snd)).map Prod.fst)), I.laid (t' := s.toks) (fun _ _ => PyProof.Rows.sortedAll_old) (Nat.le_succ _) ⟨hlen2, out, ep, hv, he'⟩, rfl, q _ (I.hok.fresh (Nat.le_succ _))⟩
/-- alike, and sortable -/
def okSort (ds : List PyData) : Bool := (ds.all fun d => ds.all fun d' => PySem.W.alike d d') && ((ds.all fun d => match d with
  | .tuple (_ :: _) => true
  | _ => false) || ds.all fun d => match d with
  | .int _ => true
  | .str _ => true
  | _ => false) && ds.all fun d => decide (d.depth ≤ 20)
theorem okSort_of {ds : List PyData} (h : okSort ds = true) : PySem.W.AllAlike ds ∧ PySem.W.Sortable ds ∧ ∀ d ∈ ds, d.depth ≤ 20 := by
  unfold okSort at h
  simp only [Bool.and_eq_true, Bool.or_eq_true, List.all_eq_true, decide_eq_true_eq] at h
  obtain ⟨⟨h1, h2⟩, h3⟩ := h
  refine ⟨fun d hd d' hd' => h1 d hd d' hd', ?_, h3⟩
  rcases h2 with h2 | h2
  · refine .inl fun d hd => ?_
    have := h2 d hd
    split at this
    · exact ⟨_, _, rfl⟩
    · cases this
  · refine .inr fun d hd => ?_
    have := h2 d hd
    split at this
    · exact ⟨(fun z => nomatch z), fun _ z => nomatch z⟩
    · exact ⟨(fun z => nomatch z), fun _ z => nomatch z⟩
    · cases this
def sortD (xs : List D) (ds : List PyData) : List D := ((xs.zip ds).mergeSort (PySem.W.dataLe false Prod.snd)).map Prod.fst
def dSortDat : D → Option D
  | .lst xs => match toPys xs with
    | some ds => if okSort ds = true then some (.lst (sortD xs ds)) else none
    | none => none
  | _ => none
theorem zip_sort {α β γ : Type} (f : α → β) (key : γ → γ → Bool) (l : List (α × γ)) : ((l.map fun p => (f p.1, p.2)).mergeSort fun (a b : β × γ) => key a.2 b.2) = (l.mergeSort fun (a b : α × γ) => key a.2 b.2).map fun p => (f p.1, p.2) :=
  (List.map_mergeSort (r := fun (a b : α × γ) => key a.2 b.2) (s := fun (a b : β × γ) => key a.2 b.2) fun a _ b _ => rfl).symm
theorem RDs.sort {K : PySem.W.Frag} {mg : Str → Option Value} {F : Hp} {xs : List D} {vs : List V} {ds : List PyData} (h : RDs K mg F xs vs) (hl : xs.length = ds.length) : RDs K mg F (sortD xs ds) (((vs.zip ds).mergeSort (PySem.W.dataLe false Prod.snd)).map Prod.fst) := by
  have key : ∀ (L : List ((D × V) × PyData)), (∀ p ∈ L, RD K mg F p.1.1 p.1.2) → RDs K mg F (L.map fun p => p.1.1) (L.map fun p => p.1.2) := fun L hL => by
    induction L with
    | nil => rfl
    | cons p L ih => exact ⟨_, _, rfl, hL p List.mem_cons_self, ih fun q hq => hL q (List.mem_cons_of_mem _ hq)⟩
  have hv := h.length
  have e1 : ∀ (xs : List D) (vs : List V) (ds : List PyData), xs.length = vs.length → xs.zip ds = ((xs.zip vs).zip ds).map (fun p => (p.1.1, p.2)) ∧ vs.zip ds = ((xs.zip vs).zip ds).map (fun p => (p.1.2, p.2)) := fun xs => by
    induction xs with
    | nil =>
      intro vs ds h
      cases vs with
      | nil => simp
      | cons v vs => simp at h
    | cons x xs ih =>
      intro vs ds h
      cases vs with
      | nil => simp at h
      | cons v vs =>
        cases ds with
        | nil => simp
        | cons d ds =>
          obtain ⟨a, b⟩ := ih vs ds (by simpa using h)
          simp [a.symm, b.symm]
  obtain ⟨a, b⟩ := e1 xs vs ds hv
  unfold sortD
  rw [a, b]
  have s1 := zip_sort (α := D × V) (β := D) (γ := PyData) (fun p => p.1) (fun x y => PySem.W.dataLe false id x y) ((xs.zip vs).zip ds)
  have s2 := zip_sort (α := D × V) (β := V) (γ := PyData) (fun p => p.2) (fun x y => PySem.W.dataLe false id x y) ((xs.zip vs).zip ds)
  have t1 : (((xs.zip vs).zip ds).map fun p => (p.1.1, p.2)).mergeSort (PySem.W.dataLe false Prod.snd) = (((xs.zip vs).zip ds).mergeSort fun a b => PySem.W.dataLe false id a.2 b.2).map fun p => (p.1.1, p.2) := s1
  have t2 : (((xs.zip vs).zip ds).map fun p => (p.1.2, p.2)).mergeSort (PySem.W.dataLe false Prod.snd) = (((xs.zip vs).zip ds).mergeSort fun a b => PySem.W.dataLe false id a.2 b.2).map fun p => (p.1.2, p.2) := s2
  rw [t1, t2, List.map_map, List.map_map]
  refine key _ fun p hp => ?_
  have hp' := (List.mergeSort_perm ((xs.zip vs).zip ds) _).mem_iff.mp hp
  obtain ⟨i, hi, e⟩ := List.getElem_of_mem hp'
  have e2 : (xs.zip vs)[i]? = some p.1 := by
    have hz : ((xs.zip vs).zip ds)[i]? = some p := by rw [← e]; exact List.getElem?_eq_getElem hi
    exact (List.getElem?_zip_eq_some.mp hz).1
  obtain ⟨e3, e4⟩ := List.getElem?_zip_eq_some.mp e2
  obtain ⟨w, q1, q2⟩ := h.get e3
  rw [e4] at q1
  cases q1
  exact q2
theorem toPys_len : ∀ {xs : List D} {ds : List PyData}, toPys xs = some ds → xs.length = ds.length
  | [], ds, e => by
    cases e
    rfl
  | x :: xs, ds, e => by
    unfold toPys at e
    split at e
    · rename_i e2
      cases e
      simp [toPys_len e2]
    · cases e
theorem vop_sortDat : VOpL X (on1 dSortDat) (rSortDat X.K) := vopl1 fun S x d v Q hS e rx k => by
  cases x with
  | lst xs =>
    have e' : (match toPys xs with
      | some ds => if okSort ds = true then some (D.lst (sortD xs ds)) else none
      | none => none) = some d := e
    cases q : toPys xs with
    | none =>
      rw [q] at e'
      cases e'
    | some ds =>
      simp only [q] at e'
      split at e'
      · rename_i hok
        cases e'
        obtain ⟨a, vs, rfl, h2, h3⟩ := rx
        obtain ⟨k1, k2, k3⟩ := okSort_of hok
        exact ⟨a, vs, ds, rfl, SqL.of h2, (h3.mono hS).dp q, k1, k2, k3, fun p hp => give_lst hS (h3.sort (toPys_len q)) k p hp⟩
      · cases e'
  | _ => cases e
/-! ### repr of a number, a truth value, None -/
def dRepr : D → Option D
  | .non => some (.str "None")
  | .bl b => some (.str (if b then "True" else "False"))
  | .int i => if i.natAbs.log2 < 1920 then some (.str (toString i)) else none
  | _ => none
abbrev rReprD : List V → Hp → VK → Prop := fun xs H Q => (∃ i, xs = [.int i] ∧ i.natAbs.log2 < 1920 ∧ Q (.str (toString i)) H) ∨ (∃ b, xs = [.bl b] ∧ Q (.str (if b then "True" else "False")) H) ∨ (xs = [.non] ∧ Q (.str "None") H)
theorem call_reprD : CallR X (.builtin "repr") rReprD := CallR.or SkE.call_repr_int (CallR.or (fun pins s σ H xs us Q I r h => by
    obtain ⟨b, rfl, q⟩ := h
    obtain ⟨u, rfl, r1⟩ := vals1 r
    cases (show u = Value.bool b from r1)
    refine PySem.P.repr_of_bool ⟨.str (if b then "True" else "False"), H, I.tok _, ⟨s.toks, ?_⟩, q⟩
    cases b <;> rfl) (fun pins s σ H xs us Q I r h => by
    obtain ⟨rfl, q⟩ := h
    obtain ⟨u, rfl, r1⟩ := vals1 r
    cases (show u = Value.none from r1)
    exact PySem.P.repr_of_none ⟨.str "None", H, I.tok _, ⟨_, rfl⟩, q⟩))
theorem vop_repr : VOpL X (on1 dRepr) rReprD := vopl1 fun S x d v Q hS e rx k => by
  unfold dRepr at e
  split at e
  · cases e
    cases (show v = _ from rx)
    exact .inr (.inr ⟨rfl, k S _ (.refl hS) rfl⟩)
  · rename_i b
    cases e
    cases (show v = _ from rx)
    exact .inr (.inl ⟨b, rfl, k S _ (.refl hS) rfl⟩)
  · split at e
    · rename_i h
      cases e
      cases (show v = _ from rx)
      exact .inl ⟨_, rfl, h, k S _ (.refl hS) rfl⟩
    · cases e
  · cases e
/-! ### is True, is not True -/
def dIsB : D → D → Option D
  | .bl a, .bl b => some (.bl (decide (a = b)))
  | _, _ => none
def dNotB : D → D → Option D
  | .bl a, .bl b => some (.bl (!decide (a = b)))
  | _, _ => none
theorem vop_isB : VOp2 X dIsB (fun x y H Q => ∃ a b, x = .bl a ∧ y = .bl b ∧ Q (.bl (decide (a = b))) H) := fun S x y z v u Q hS e rx ry k => by
  unfold dIsB at e
  split at e
  · cases e
    exact ⟨_, _, rx, ry, k S _ (.refl hS) rfl⟩
  · cases e
theorem vop_notB : VOp2 X dNotB (fun x y H Q => ∃ a b, x = .bl a ∧ y = .bl b ∧ Q (.bl (!decide (a = b))) H) := fun S x y z v u Q hS e rx ry k => by
  unfold dNotB at e
  split at e
  · cases e
    exact ⟨_, _, rx, ry, k S _ (.refl hS) rfl⟩
  · cases e
/-! ### x[k] = e -/
theorem psd_setIt (i : Nat) {x : Str} {ke e : Expr} {fk fv : EM D} {p1 p2 pos : Pos} (he : PD X A W e fv) (hk : PD X A W ke fk) (hN : X.N[i]? = some x := by rfl) (hv : Vis X.env.scope x := by first | exact Or.inl rfl | exact Or.inr (Or.inl rfl) | exact Or.inr (Or.inr rfl))
    (hd : (x == ("__debug__" : Str)) = false := by decide) (hcd : (x == ("__classdict__" : Str)) = false := by decide)
    (ha : ∀ v, assign (.Subscript (.Name x p1) ke p2) X.env v = (do
      let ov ← holding [v] (eval (.Name x p1) X.env)
      let iv ← holding [v, ov] (eval ke X.env)
      standAt p2
      holding [v, ov, iv] (setItem ov iv v)
      release [v, ov, iv] []) := by intro _; rfl)
    (hs : swapsWithSole [.Subscript (.Name x p1) ke p2] e pos.line X.env = pure false := by rfl) (hw : swappedStores [.Subscript (.Name x p1) ke p2] e X.env = pure none := by rfl) (h1 : (assignEach [.Subscript (.Name x p1) ke p2] X.env).map (·.2) = [assign (.Subscript (.Name x p1) ke p2) X.env] := by rfl) :
    PSD X A W (.Assign [.Subscript (.Name x p1) ke p2] e pos) (sSetIt i fk fv) := PS.imp (ps_asg he (pg_sub (pe_var hN hv hd hcd) hk set_list ha) hs hw h1) fun D' σ H h => by
  obtain ⟨S, ρ, rfl, s, h⟩ := h
  refine tD_fl s h fun d ρ1 S1 v hp ev s1 r => ?_
  have hp' : PostS X.K X.mg A W D' S (if (ownL ρ1 i).isSome = true then (fk ρ1).fl fun k ρ2 => match k, ownL ρ2 i with
    | .int j, some (b, xs) => if 0 ≤ j ∧ j < (xs.length : Int) ∧ xs.length < 1000000 then .nx (ρ2.set i (.ow b (.lst (xs.set j.toNat d)))) else .stuck
    | _, _ => .stuck else .stuck) := hp
  cases e0 : ownL ρ1 i with
  | none =>
    rw [e0] at hp'
    exact (show False from hp').elim
  | some bx =>
    obtain ⟨b0, xs0⟩ := bx
    rw [e0] at hp'
    obtain ⟨p0, vs0, q1, q2, _, _⟩ := s1.mutL (ownL_eq e0)
    refine ⟨.ref p0, q1, ?_⟩
    have hp2 : PostS X.K X.mg A W D' S1 ((fk ρ1).fl fun k ρ2 => match k, ownL ρ2 i with
      | .int j, some (b, xs) => if 0 ≤ j ∧ j < (xs.length : Int) ∧ xs.length < 1000000 then .nx (ρ2.set i (.ow b (.lst (xs.set j.toNat d)))) else .stuck
      | _, _ => .stuck) := PostS.ev (show PostS X.K X.mg A W D' S _ from hp') ev
    refine tD_fl s1 hp2 fun k ρ2 S2 u hp3 ev2 s2 rk => ?_
    cases k with
    | int j =>
      cases e1 : ownL ρ2 i with
      | none =>
        simp only [e1] at hp3
        exact (show False from hp3).elim
      | some bx =>
        obtain ⟨b, xs⟩ := bx
        simp only [e1] at hp3
        obtain ⟨p, vs, z1, z2, z3, z4⟩ := s2.mutL (ownL_eq e1)
        rw [q1] at z1
        cases z1
        by_cases hj : 0 ≤ j ∧ j < (xs.length : Int) ∧ xs.length < 1000000
        · rw [if_pos hj] at hp3
          obtain ⟨y1, y2⟩ := z4 (xs.set j.toNat d) (vs.set j.toNat v) (z3.setAt (r.mono ev2.frz) j.toNat)
          refine ⟨p0, vs, j, j.toNat, rfl, rk, z2, ?_, hp3 _ σ (ev2.trans y1) y2⟩
          rw [← z3.length]
          have e1 : ((j.toNat : Nat) : Int) = j := by omega
          rw [← e1]
          exact Evl.ixN_nat (by omega)
        · rw [if_neg hj] at hp3
          exact (show False from hp3).elim
    | _ => exact (show False from hp3).elim
/-! ### a, b = a list or a tuple -/
theorem PG.or {e : Expr} {t t' : TG} (h : PG X e t) (h' : PG X e t') : PG X e (fun v σ H Q => t v σ H Q ∨ t' v σ H Q) := ⟨fun pins s σ H v u Q I r q => by
  rcases q with q | q
  · exact h.run pins s σ H v u Q I r q
  · exact h'.run pins s σ H v u Q I r q⟩
def gS (n : Nat) (gs : List D → Env' → Option Env') : Tgt := fun d ρ => match dItems d with
  | some ds => if ds.length = n then gs ds ρ else none
  | none => none
theorem pgd_seq {es : List Expr} {k : Nat} {pos : Pos} {ws : List Nat} {gs : List D → Env' → Option Env'} {n : Nat} (hc : X.calm = true) (h : PGsD X A es ws gs) (hn : (assignEach es X.env).length = n := by rfl) (hst : (assignEach es X.env).findIdx? (·.1) = none := by rfl) :
    PGD X A (.Tuple es k pos) ws (gS n gs) := PG.imp (PG.or (pg_tup hc h hn hst) (pg_lst hc h hn hst)) fun v σ H Q h => by
  obtain ⟨S, ρ, d, rfl, s, r, h⟩ := h
  have h0 : (match (match dItems d with
    | some ds => if ds.length = n then gs ds ρ else none
    | none => none) with
    | some ρ' => ∀ σ', L2.wipe σ' ws = L2.wipe σ ws → Sat X.K X.mg A S σ' ρ' → Q σ' S.H
    | none => False) := h
  cases d with
  | tup ds =>
    obtain ⟨a, vs, h1, h2, h3⟩ := r
    have h' : (match (if ds.length = n then gs ds ρ else none) with
      | some ρ' => ∀ σ', L2.wipe σ' ws = L2.wipe σ ws → Sat X.K X.mg A S σ' ρ' → Q σ' S.H
      | none => False) := h0
    by_cases hl : ds.length = n
    · rw [if_pos hl] at h'
      exact .inl ⟨a, vs, h1, sqT_of s.sub h2, by rw [← h3.length]; exact hl, S, ρ, ds, rfl, s, h3, h'⟩
    · rw [if_neg hl] at h'
      exact h'.elim
  | lst ds =>
    obtain ⟨a, vs, h1, h2, h3⟩ := r
    have h' : (match (if ds.length = n then gs ds ρ else none) with
      | some ρ' => ∀ σ', L2.wipe σ' ws = L2.wipe σ ws → Sat X.K X.mg A S σ' ρ' → Q σ' S.H
      | none => False) := h0
    by_cases hl : ds.length = n
    · rw [if_pos hl] at h'
      exact .inr ⟨a, vs, h1, SqL.of (s.sub _ _ h2), by rw [← h3.length]; exact hl, S, ρ, ds, rfl, s, h3, h'⟩
    · rw [if_neg hl] at h'
      exact h'.elim
  | _ => exact h0.elim
end
end DL
end

section
set_option Elab.async false
set_option linter.all false
set_option maxRecDepth 100000
/-! The source of draws; calls with keywords; a def that calls itself; powers. -/
namespace DL
open PySem PySem.Spec PyProof.Rows L2
section
variable {X : Cx} {A : List V} {W : WX} {S S' : Cfg} {σ : L2.St} {ρ : Env'}
/-! ### the source of draws -/
theorem Sat.mutD {K : PySem.W.Frag} {mg : Str → Option Value} (s : Sat K mg A S σ ρ) {i : Nat} {b : Bool} {L : List Int} {c : Int} (hi : ρ[i]? = some (Sl.ow b (.deal L c))) :
    ∃ p q, σ[i]? = some (some (.ref p)) ∧ S.H p = some (.lst [.ref q, .int c]) ∧ S.H q = some (.lst (L.map V.int)) ∧ p ≠ q ∧ ∀ (H' : Hp) L' c', (∀ a, a ≠ p → a ≠ q → H' a = S.H a) → H' p = some (.lst [.ref q, .int c']) → H' q = some (.lst (L'.map V.int)) →
      Ev S ⟨S.F, H', S.O⟩ ∧ Sat K mg A ⟨S.F, H', S.O⟩ σ (ρ.set i (.ow b (.deal L' c'))) := by
  obtain ⟨fp, s1, s2, s3⟩ := s.sl
  obtain ⟨v, e1, u, e2, p, q, hv, hp, hq, hne, hfp, hfq⟩ := s1 i _ hi
  subst e2
  subst hv
  have hO := s2 i p hfp
  have hO2 := s2 i q hfq
  refine ⟨p, q, e1, hp, hq, hne, fun H' L' c' k kp kq => ⟨⟨fun a o e n => ?_, fun _ _ z => z, fun _ _ _ _ => rfl, fun _ h => .inl h, fun a o e => ?_⟩, ⟨fun a o e => ?_, s.ownF, fun r h => ?_, by simp [s.len], ⟨fp, fun j sl e => ?_, s2, s3⟩, fun j o e => ?_⟩⟩⟩
  · show H' a = some o
    rw [k a (fun z : a = p => n (by rw [z]; exact hO)) (fun z : a = q => n (by rw [z]; exact hO2))]
    exact e
  · by_cases z : a = p
    · exact ⟨_, by rw [z]; exact kp⟩
    · by_cases z2 : a = q
      · exact ⟨_, by rw [z2]; exact kq⟩
      · exact ⟨o, by show H' a = some o; rw [k a z z2]; exact e⟩
  · have na : a ≠ p := fun z => by
      rw [z, s.ownF p hO] at e
      cases e
    have nb : a ≠ q := fun z => by
      rw [z, s.ownF q hO2] at e
      cases e
    show H' a = some o
    rw [k a na nb]
    exact s.sub a o e
  · by_cases z : r = p
    · exact ⟨_, by rw [z]; exact kp⟩
    · by_cases z2 : r = q
      · exact ⟨_, by rw [z2]; exact kq⟩
      · obtain ⟨o, e⟩ := s.ownH r h
        exact ⟨o, by show H' r = some o; rw [k r z z2]; exact e⟩
  · by_cases hj : j = i
    · subst hj
      rw [List.getElem?_set_self (List.getElem?_eq_some_iff.mp hi).1] at e
      cases e
      exact ⟨_, e1, .ref p, rfl, p, q, rfl, kp, kq, hne, hfp, hfq⟩
    · rw [List.getElem?_set_ne (Ne.symm hj)] at e
      obtain ⟨w, q1, q2⟩ := s1 j sl e
      refine ⟨w, q1, q2.grow (fun _ _ z => z) fun r o hr hh => ?_⟩
      show H' r = some o
      rw [k r (fun z => hj (s3 j i p (z ▸ hr) hfp)) (fun z => hj (s3 j i q (z ▸ hr) hfq))]
      exact hh
  · by_cases hj : j = i
    · subst hj
      rw [List.getElem?_set_self (List.getElem?_eq_some_iff.mp hi).1] at e
      cases e
      exact s.io j _ hi
    · rw [List.getElem?_set_ne (Ne.symm hj)] at e
      exact s.io j o e
def dealAt (ρ : Env') (i : Nat) : Option (Bool × List Int × Int) := match ρ[i]? with
  | some (.ow b (.deal L c)) => some (b, L, c)
  | _ => none
theorem dealAt_eq {i : Nat} {b : Bool} {L : List Int} {c : Int} (h : dealAt ρ i = some (b, L, c)) : ρ[i]? = some (Sl.ow b (.deal L c)) := by
  unfold dealAt at h
  split at h
  · rename_i e
    cases h
    exact e
  · cases h
theorem dpAll_ints {K : PySem.W.Frag} {H : Hp} : ∀ L : List Int, DpAll K H (L.map V.int) (L.map PyData.int)
  | [] => .nil
  | i :: L => .cons (.int i) (dpAll_ints L)
theorem lay_ints : ∀ L : List Int, PyData.canLayAll0 (L.map PyData.int) = true
  | [] => rfl
  | i :: L => by
    show (PyData.canLay0 (.int i) && PyData.canLayAll0 (L.map PyData.int)) = true
    rw [lay_ints L]
    rfl
theorem depthAll_ints : ∀ L : List Int, PyData.depthAll (L.map PyData.int) = 0
  | [] => rfl
  | i :: L => by
    show max (PyData.depth (.int i)) (PyData.depthAll (L.map PyData.int)) = 0
    rw [depthAll_ints L]
    rfl
theorem shaped_ints (L : List Int) : SeqAt.shaped (.list (L.map .int)) = true := by
  show (PyData.canLayAll0 (L.map PyData.int) && decide (PyData.depthAll (L.map PyData.int) + 1 ≤ 64)) = true
  rw [lay_ints, depthAll_ints]
  rfl
/-- x[0] != [] -/
def bLeft (i : Nat) : EM Bool := fun ρ => match dealAt ρ i with
  | some (_, L, _) => .ok (!L.isEmpty) ρ
  | none => .stuck
theorem ptd_left (hu : X.A.units + 64 < cLine) (i : Nat) {x : Str} {k : Nat} {p1 p2 p3 p4 pos : Pos} (hN : X.N[i]? = some x := by rfl) (hv : Vis X.env.scope x := by first | exact Or.inl rfl | exact Or.inr (Or.inl rfl) | exact Or.inr (Or.inr rfl))
    (hd : (x == ("__debug__" : Str)) = false := by decide) (hcd : (x == ("__classdict__" : Str)) = false := by decide) (hix : PlainIx (.Constant (.int 0) k p2) := by first | exact fun _ _ => rfl | decide) (hm : behindInMarks .NotEq (.List [] p4) = false := by rfl) :
    PTD X A W (.Compare (.Subscript (.Name x p1) (.Constant (.int 0) k p2) p3) [.NotEq] [.List [] p4] pos) (bLeft i) :=
  PT.imp (pt_cmpR (op_neD hu) (pe_ix ix_seq (pe_var hN hv hd hcd) pe_int hix) (pe_lst pa_nil) hm) fun σ H Q h => by
    obtain ⟨S, ρ, rfl, s, h⟩ := h
    unfold bLeft at h
    cases e : dealAt ρ i with
    | none =>
      rw [e] at h
      exact h.elim
    | some t =>
      obtain ⟨b, L, c⟩ := t
      rw [e] at h
      obtain ⟨p, q, e1, hp, hq, hne, _⟩ := s.mutD (dealAt_eq e)
      refine ⟨.ref p, e1, .inl ⟨p, [.ref q, .int c], 0, .ref q, rfl, rfl, SqL.of hp, rfl, ?_⟩⟩
      refine ⟨by show 0 ≤ sizeLine; exact Nat.zero_le _, fun n hn => ?_⟩
      have g : Gr S (S.raw n (.lst [])) := .raw s.sub hn
      have nq : q ≠ n := fun z => by
        rw [z, hn] at hq
        cases hq
      refine ⟨.list (L.map .int), .list [], .lst (SqL.of (by rw [upd_ne nq]; exact hq)) (dpAll_ints L), .lst (SqL.of upd_same) .nil, shaped_ints L, shaped_ints [], ?_⟩
      refine ⟨_, rfl, ?_⟩
      have e2 : (!PyData.eqv (.list (L.map .int)) (.list [])) = !L.isEmpty := by
        cases L <;> rfl
      rw [e2]
      exact h (S.raw n (.lst [])) g.ev (s.gr g)
/-- x[0][-1] -/
def eLast (i : Nat) : EM D := fun ρ => match dealAt ρ i with
  | some (_, L, _) => match L.getLast? with
    | some c => .ok (.int c) ρ
    | none => .stuck
  | none => .stuck
theorem last_map {L : List Int} {c : Int} (h : L.getLast? = some c) : (L.map V.int)[(L.map V.int).length - 1]? = some (.int c) := by
  rw [List.getLast?_eq_getElem?] at h
  rw [List.length_map, List.getElem?_map, h]
  rfl
theorem pd_last (i : Nat) {x : Str} {k k2 : Nat} {p1 p2 p3 p4 p5 pos : Pos} (hN : X.N[i]? = some x := by rfl) (hv : Vis X.env.scope x := by first | exact Or.inl rfl | exact Or.inr (Or.inl rfl) | exact Or.inr (Or.inr rfl))
    (hd : (x == ("__debug__" : Str)) = false := by decide) (hcd : (x == ("__classdict__" : Str)) = false := by decide) (hix : PlainIx (.Constant (.int 0) k p2) := by first | exact fun _ _ => rfl | decide) (hix2 : PlainIx (.UnaryOp .USub (.Constant (.int 1) k2 p4) p5) := by first | exact fun _ _ => rfl | decide) :
    PD X A W (.Subscript (.Subscript (.Name x p1) (.Constant (.int 0) k p2) p3) (.UnaryOp .USub (.Constant (.int 1) k2 p4) p5) pos) (eLast i) :=
  PE.imp (pe_ix ix_seq (pe_ix ix_seq (pe_var hN hv hd hcd) pe_int hix) (pe_un un_neg pe_int) hix2) fun σ H Q h => by
    obtain ⟨S, ρ, rfl, s, h⟩ := h
    unfold eLast at h
    cases e : dealAt ρ i with
    | none =>
      rw [e] at h
      exact h.elim
    | some t =>
      obtain ⟨b, L, c⟩ := t
      rw [e] at h
      obtain ⟨p, q, e1, hp, hq, hne, _⟩ := s.mutD (dealAt_eq e)
      have h' : PostE X.K X.mg A W Q S σ (match L.getLast? with
        | some c => .ok (.int c) ρ
        | none => .stuck) := h
      cases el : L.getLast? with
      | none =>
        rw [el] at h'
        exact h'.elim
      | some d =>
        rw [el] at h'
        refine ⟨.ref p, e1, .inl ⟨p, [.ref q, .int c], 0, .ref q, rfl, rfl, SqL.of hp, rfl, ?_⟩⟩
        refine ⟨1, rfl, .inl ⟨q, L.map V.int, -1, .int d, rfl, rfl, SqL.of hq, ?_, h' S _ (.refl S) s rfl⟩⟩
        have hl : 0 < L.length := by
          cases L with
          | nil => cases el
          | cons a b => simp
        have hm := last_map el
        have ei : ixN (L.map V.int).length (-1) = some (L.length - 1) := by
          unfold ixN
          rw [if_neg (by omega), if_pos (by rw [List.length_map]; omega), List.length_map]
          congr 1
          omega
        unfold atI
        rw [ei]
        rw [List.length_map] at hm
        exact hm
/-- x[1] -/
def eBlend (i : Nat) : EM D := fun ρ => match dealAt ρ i with
  | some (_, _, c) => .ok (.int c) ρ
  | none => .stuck
theorem pd_blend (i : Nat) {x : Str} {k : Nat} {p1 p2 pos : Pos} (hN : X.N[i]? = some x := by rfl) (hv : Vis X.env.scope x := by first | exact Or.inl rfl | exact Or.inr (Or.inl rfl) | exact Or.inr (Or.inr rfl))
    (hd : (x == ("__debug__" : Str)) = false := by decide) (hcd : (x == ("__classdict__" : Str)) = false := by decide) (hix : PlainIx (.Constant (.int 1) k p2) := by first | exact fun _ _ => rfl | decide) :
    PD X A W (.Subscript (.Name x p1) (.Constant (.int 1) k p2) pos) (eBlend i) :=
  PE.imp (pe_ix ix_seq (pe_var hN hv hd hcd) pe_int hix) fun σ H Q h => by
    obtain ⟨S, ρ, rfl, s, h⟩ := h
    unfold eBlend at h
    cases e : dealAt ρ i with
    | none =>
      rw [e] at h
      exact h.elim
    | some t =>
      obtain ⟨b, L, c⟩ := t
      rw [e] at h
      obtain ⟨p, q, e1, hp, hq, hne, _⟩ := s.mutD (dealAt_eq e)
      exact ⟨.ref p, e1, .inl ⟨p, [.ref q, .int c], 1, .int c, rfl, rfl, SqL.of hp, rfl, h S _ (.refl S) s rfl⟩⟩
/-- x[0].pop() -/
def eDPop (i : Nat) : EM D := fun ρ => match dealAt ρ i with
  | some (b, L, c) => match L.getLast? with
    | some d => .ok (.int d) (ρ.set i (.ow b (.deal L.dropLast c)))
    | none => .stuck
  | none => .stuck
theorem pd_dpop (i : Nat) {x : Str} {k : Nat} {p1 p2 p3 apos pos : Pos} (hN : X.N[i]? = some x := by rfl) (hv : Vis X.env.scope x := by first | exact Or.inl rfl | exact Or.inr (Or.inl rfl) | exact Or.inr (Or.inr rfl))
    (hd : (x == ("__debug__" : Str)) = false := by decide) (hcd : (x == ("__classdict__" : Str)) = false := by decide) (hix : PlainIx (.Constant (.int 0) k p2) := by first | exact fun _ _ => rfl | decide)
    (hbase : attributeBase (.Subscript (.Name x p1) (.Constant (.int 0) k p2) p3) "pop" X.env (eval (.Subscript (.Name x p1) (.Constant (.int 0) k p2) p3) X.env) = eval (.Subscript (.Name x p1) (.Constant (.int 0) k p2) p3) X.env := by rfl) (hline : (apos.endLine == pos.line) = true := by rfl) :
    PD X A W (.Call (.Attribute (.Subscript (.Name x p1) (.Constant (.int 0) k p2) p3) "pop" apos) [] [] pos) (eDPop i) :=
  PE.imp (pe_bm0 PySem.F.plainAttrs_list PySem.F.slot_list_pop PySem.F.type_list_pop mt_pop (pe_ix ix_seq (pe_var hN hv hd hcd) pe_int hix) hbase hline) fun σ H Q h => by
    obtain ⟨S, ρ, rfl, s, h⟩ := h
    unfold eDPop at h
    cases e : dealAt ρ i with
    | none =>
      rw [e] at h
      exact h.elim
    | some t =>
      obtain ⟨b, L, c⟩ := t
      rw [e] at h
      obtain ⟨p, q, e1, hp, hq, hne, k⟩ := s.mutD (dealAt_eq e)
      have h' : PostE X.K X.mg A W Q S σ (match L.getLast? with
        | some d => .ok (.int d) (ρ.set i (.ow b (.deal L.dropLast c)))
        | none => .stuck) := h
      cases el : L.getLast? with
      | none =>
        rw [el] at h'
        exact h'.elim
      | some d =>
        rw [el] at h'
        refine ⟨.ref p, e1, .inl ⟨p, [.ref q, .int c], 0, .ref q, rfl, rfl, SqL.of hp, rfl, ?_⟩⟩
        refine ⟨.inl ⟨rfl, _, SqL.of hq⟩, q, L.map V.int, .int d, rfl, rfl, hq, last_map el, ?_⟩
        obtain ⟨k1, k2⟩ := k (upd S.H q (.lst (L.map V.int).dropLast)) L.dropLast c (fun a _ n => upd_ne n) (by rw [upd_ne hne]; exact hp) (by rw [upd_same, List.map_dropLast])
        exact h' _ _ k1 k2 rfl
/-- x[0].append(y // z) -/
def sDApp (i a b : Nat) : SM := fun ρ => match dealAt ρ i, ρ[a]?, ρ[b]? with
  | some (o, L, c), some (.va (.int n)), some (.va (.int m)) => if L.length < 1000000 ∧ 0 < m ∧ m.natAbs.log2 < 9000 then .nx (ρ.set i (.ow o (.deal (L ++ [n / m]) c))) else .stuck
  | _, _, _ => .stuck
theorem psd_dapp (i a b : Nat) {x y z : Str} {k : Nat} {p1 p2 p3 py pz po apos pos p4 : Pos} (hN : X.N[i]? = some x := by rfl) (hv : Vis X.env.scope x := by first | exact Or.inl rfl | exact Or.inr (Or.inl rfl) | exact Or.inr (Or.inr rfl))
    (hNa : X.N[a]? = some y := by rfl) (hva : Vis X.env.scope y := by first | exact Or.inl rfl | exact Or.inr (Or.inl rfl) | exact Or.inr (Or.inr rfl)) (hNb : X.N[b]? = some z := by rfl) (hvb : Vis X.env.scope z := by first | exact Or.inl rfl | exact Or.inr (Or.inl rfl) | exact Or.inr (Or.inr rfl))
    (hd : (x == ("__debug__" : Str)) = false := by decide) (hcd : (x == ("__classdict__" : Str)) = false := by decide) (hda : (y == ("__debug__" : Str)) = false := by decide) (hcda : (y == ("__classdict__" : Str)) = false := by decide) (hdb : (z == ("__debug__" : Str)) = false := by decide) (hcdb : (z == ("__classdict__" : Str)) = false := by decide)
    (hix : PlainIx (.Constant (.int 0) k p2) := by first | exact fun _ _ => rfl | decide)
    (hbase : attributeBase (.Subscript (.Name x p1) (.Constant (.int 0) k p2) p3) "append" X.env (eval (.Subscript (.Name x p1) (.Constant (.int 0) k p2) p3) X.env) = eval (.Subscript (.Name x p1) (.Constant (.int 0) k p2) p3) X.env := by rfl)
    (hfew : ((backTo pos (starEach [.BinOp (.Name y py) .FloorDiv (.Name z pz) po] X.env)).all (fun x => !x.1) && (backToKw pos (keywordEach [] X.env)).all (fun x => x.1.isSome)
      && decide ([(.BinOp (.Name y py) .FloorDiv (.Name z pz) po : Expr)].length + ([] : List Keyword).length + (if ([] : List Keyword).isEmpty then 0 else 1) < 30)) = true := by rfl)
    (hline : (apos.endLine == pos.line) = true := by rfl) (hs1 : starEach [.BinOp (.Name y py) .FloorDiv (.Name z pz) po] X.env = (false, eval (.BinOp (.Name y py) .FloorDiv (.Name z pz) po) X.env) :: starEach [] X.env := by rfl) (hplain : (backTo pos (starEach [] X.env)).any (·.1) = false := by rfl)
    (hs : swapsWith (.Call (.Attribute (.Subscript (.Name x p1) (.Constant (.int 0) k p2) p3) "append" apos) [.BinOp (.Name y py) .FloorDiv (.Name z pz) po] [] pos) none p4.line X.env = pure false := by rfl) :
    PSD X A W (.Expr (.Call (.Attribute (.Subscript (.Name x p1) (.Constant (.int 0) k p2) p3) "append" apos) [.BinOp (.Name y py) .FloorDiv (.Name z pz) po] [] pos) p4) (sDApp i a b) :=
  PS.imp (ps_expr (pe_bm PySem.F.plainAttrs_list PySem.F.slot_list_append PySem.F.type_list_append mt_append (pe_ix ix_seq (pe_var hN hv hd hcd) pe_int hix) (pa_cons (pe_op op_fdivW (pe_var hNa hva hda hcda) (pe_var hNb hvb hdb hcdb)) pa_nil hs1) hbase hfew hline hs1 hplain) hs) fun D' σ H h => by
    obtain ⟨S, ρ, rfl, s, h⟩ := h
    unfold sDApp at h
    split at h
    · rename_i o L c n m e0 ea eb
      split at h
      · rename_i hl
        obtain ⟨p, q, e1, hp, hq, hne, k⟩ := s.mutD (dealAt_eq e0)
        obtain ⟨va, ea1, ea2⟩ := s.va ea
        obtain ⟨vb, eb1, eb2⟩ := s.va eb
        have ra : va = .int n := ea2
        have rb : vb = .int m := eb2
        subst ra rb
        refine ⟨.ref p, e1, .inl ⟨p, [.ref q, .int c], 0, .ref q, rfl, rfl, SqL.of hp, rfl, ?_⟩⟩
        refine ⟨.inl ⟨rfl, _, SqL.of hq⟩, ?_⟩
        refine ⟨_, ea1, _, eb1, n, m, rfl, rfl, hl.2, ?_⟩
        obtain ⟨k1, k2⟩ := k (upd S.H q (.lst (L.map V.int ++ [.int (n / m)]))) (L ++ [n / m]) c (fun a _ n => upd_ne n) (by rw [upd_ne hne]; exact hp) (by rw [upd_same, List.map_append]; rfl)
        exact ⟨q, L.map V.int, .int (n / m), rfl, rfl, hq, Nat.lt_of_lt_of_le (by rw [List.length_map]; exact hl.1) (by decide), h _ σ k1 k2⟩
      · exact (show False from h).elim
    · exact (show False from h).elim
/-- x[1] = e -/
def sBlend (i : Nat) (f : EM D) : SM := fun ρ => (f ρ).fl fun d ρ1 => match d, dealAt ρ1 i with
  | .int n, some (b, L, c) => .nx (ρ1.set i (.ow b (.deal L n)))
  | _, _ => .stuck
theorem psd_blend (i : Nat) {x : Str} {k : Nat} {e : Expr} {f : EM D} {p1 p2 p3 pos : Pos} (he : PD X A W e f) (hN : X.N[i]? = some x := by rfl) (hv : Vis X.env.scope x := by first | exact Or.inl rfl | exact Or.inr (Or.inl rfl) | exact Or.inr (Or.inr rfl))
    (hd : (x == ("__debug__" : Str)) = false := by decide) (hcd : (x == ("__classdict__" : Str)) = false := by decide)
    (ha : ∀ v, assign (.Subscript (.Name x p1) (.Constant (.int 1) k p2) p3) X.env v = (do
      let ov ← holding [v] (eval (.Name x p1) X.env)
      let iv ← holding [v, ov] (eval (.Constant (.int 1) k p2) X.env)
      standAt p3
      holding [v, ov, iv] (setItem ov iv v)
      release [v, ov, iv] []) := by intro _; rfl)
    (hs : swapsWithSole [.Subscript (.Name x p1) (.Constant (.int 1) k p2) p3] e pos.line X.env = pure false := by rfl) (hw : swappedStores [.Subscript (.Name x p1) (.Constant (.int 1) k p2) p3] e X.env = pure none := by rfl) (h1 : (assignEach [.Subscript (.Name x p1) (.Constant (.int 1) k p2) p3] X.env).map (·.2) = [assign (.Subscript (.Name x p1) (.Constant (.int 1) k p2) p3) X.env] := by rfl) :
    PSD X A W (.Assign [.Subscript (.Name x p1) (.Constant (.int 1) k p2) p3] e pos) (sBlend i f) := PS.imp (ps_asg he (pg_sub (pe_var hN hv hd hcd) pe_int set_list ha) hs hw h1) fun D' σ H h => by
  obtain ⟨S, ρ, rfl, s, h⟩ := h
  refine tD_fl s h fun d ρ1 S1 v hp1 ev s1 r => ?_
  cases d with
  | int n =>
    cases e0 : dealAt ρ1 i with
    | none =>
      simp only [e0] at hp1
      exact (show False from hp1).elim
    | some t =>
      obtain ⟨b, L, c⟩ := t
      simp only [e0] at hp1
      obtain ⟨p, q, e1, hp, hq, hne, k⟩ := s1.mutD (dealAt_eq e0)
      have rv : v = .int n := r
      subst rv
      obtain ⟨k1, k2⟩ := k (upd S1.H p (.lst [.ref q, .int n])) L n (fun a z _ => upd_ne z) upd_same (by rw [upd_ne (Ne.symm hne)]; exact hq)
      exact ⟨.ref p, e1, p, [.ref q, .int c], 1, 1, rfl, rfl, hp, rfl, hp1 _ σ (ev.trans k1) k2⟩
  | _ => exact (show False from hp1).elim
/-! ### powers -/
def dPow : D → D → Option D
  | .int i, .int j => if 0 ≤ j ∧ j ≤ 1000 ∧ i.natAbs < 2 ^ 64 then some (.int (i ^ j.toNat)) else none
  | _, _ => none
theorem vop_pow : VOp2 X dPow (rI CPow fun i j => .int (i ^ j.toNat)) := fun S x y z v u Q hS e rx ry k => by
  unfold dPow at e
  split at e
  · split at e
    · rename_i h
      cases e
      exact ⟨_, _, rx, ry, ⟨h.1, by omega, h.2.2⟩, k S _ (.refl hS) rfl⟩
    · cases e
  · cases e
def dNeg : D → Option D
  | .int i => some (.int (-i))
  | _ => none
theorem vop_neg : VOp1 X dNeg (rU fun i => .int (-i)) := fun S x z v Q hS e rx k => by
  unfold dNeg at e
  split at e
  · cases e
    exact ⟨_, rx, k S _ (.refl hS) rfl⟩
  · cases e
/-! ### {} -/
theorem pd_dict0 {pos : Pos} : PD X A W (.Dict [] [] pos) (eC (.dK [] [])) := by
  refine PE.imp pe_dnewK fun σ H Q h => ?_
  obtain ⟨S, ρ, rfl, s, h⟩ := h
  intro p hp
  have g : Gr S (S.fz p (.dK [])) := .fz s.sub hp
  exact h (S.fz p (.dK [])) (.ref p) g.ev (s.gr g) ⟨p, [], rfl, upd_same, rfl, rfl⟩
end
/-! ### a def that calls itself: nothing is promised of a call too deep -/
theorem fnG_stuck {P : Program} {w : World} {K : PySem.W.Frag} {mg : Str → Option Value} {base : Heap} {f : Addr} {fd : FuncData} {ps : List Str} {n : Nat} (hn : ps.length = n) : FnG P w K mg base 0 f fd ps (spD K mg n fun _ => .stuck) :=
  ⟨fun vs H Q E h => by rw [h.1, hn], fun B fr t H gs us vs Q E hr hgd he hb hv hs => by
    obtain ⟨_, S, qs, _, _, h⟩ := hs
    exact (show False from h).elim⟩
/-! ### keywords -/
def permL {α : Type} (perm : List Nat) (l : List α) : List α := perm.filterMap (l[·]?)
structure KwB (fd : FuncData) (ps : List Str) (n : Nat) (ks : List Str) (perm : List Nat) : Prop where
  to : ∀ (s : Shared) (us ws : List Value), us.length = n → ws.length = ks.length → BindsTo s fd ⟨us, ks.zip ws⟩ (ps.zip (permL perm (us ++ ws)))
theorem FunD.kwB {K : PySem.W.Frag} {x qual : Str} {params : Arguments} {body : List Stmt} {scope : Scope} {kws : List (Str × V)} {f : Addr} {fd : FuncData} {ps : List Str} (F : FunD K x qual params body scope [] kws f fd) (n : Nat) (ks : List Str) (perm : List Nat)
    (h : ∀ (kV doc pm : Value) (an : Option Addr) (cdv ct : Value) (us ws : List Value), us.length = n → ws.length = ks.length → bindArgs (PySem.W.fnOf x qual params body scope .none kV doc pm an cdv ct) ⟨us, ks.zip ws⟩ = pure (ps.zip (permL perm (us ++ ws)))) : KwB fd ps n ks perm := by
  obtain ⟨oc, od, dV, kV, doc, pm, an, cdv, ct, osl, rfl, lk, hcd, hD, hK⟩ := F.ex
  rcases hD with ⟨_, rfl⟩ | ⟨e, _⟩
  · exact ⟨fun s us ws h1 h2 => .of_eq (h kV doc pm an cdv ct us ws h1 h2)⟩
  · exact absurd rfl e
theorem vals_app : ∀ {vs : List V} {us : List Value} {zs : List V} {ws : List Value}, Vals vs us → Vals zs ws → Vals (vs ++ zs) (us ++ ws)
  | _, _, _, _, .nil, h => h
  | _, _, _, _, .cons r t, h => .cons r (vals_app t h)
theorem vals_perm {vs : List V} {us : List Value} (h : Vals vs us) : ∀ perm : List Nat, Vals (permL perm vs) (permL perm us)
  | [] => .nil
  | i :: perm => by
    unfold permL
    have hl := h.length
    cases e : vs[i]? with
    | none =>
      have e2 : us[i]? = none := by
        rw [List.getElem?_eq_none_iff] at e ⊢
        omega
      rw [List.filterMap_cons_none e, List.filterMap_cons_none e2]
      exact vals_perm h perm
    | some v =>
      obtain ⟨u, e2, r⟩ := h.get e
      rw [List.filterMap_cons_some e, List.filterMap_cons_some e2]
      exact .cons r (vals_perm h perm)
def tCallKG (sp : Sp) (perm : List Nat) (n m : Nat) (E : L2.St → XK) (t tk : TA) : TE := fun σ H Q => t σ H fun vs H1 => tk σ H1 fun zs H2 => vs.length = n ∧ zs.length = m ∧ sp (permL perm (vs ++ zs)) H2 Q (E σ)
section
variable {X : Cx} {k n : Nat} {f : Addr} {fd : FuncData} {ps ks : List Str} {sp : Sp} {E : L2.St → XK} {x : Str} {p pos : Pos} {e : Expr} {es : List Expr} {kws : List Keyword} {t tk : TA} {perm : List Nat}
theorem run_fnGK {pins : List (Addr × Obj)} {σ : L2.St} {H : Hp} {s : Shared} {Q : VK} {us ws : List Value} {vs zs : List V} (F : FnG X.prog X.w X.K X.mg X.base k f fd ps sp) (hr : Room k X.A) (hgd : X.A.guards = some []) (hb : KwB fd ps n ks perm) (hx : PassesAt (L2.CX X.prog X.w) X σ (E σ))
    (I : Inv X pins σ H s) (r : Vals vs us) (rz : Vals zs ws) (l1 : vs.length = n) (l2 : zs.length = ks.length) (h : sp (permL perm (vs ++ zs)) H Q (E σ)) : wpAny (model X.prog X.w) X.A (call (.ref f) us (ks.zip ws)) (EP X pins σ Q) X.xe s := by
  have r2 := vals_perm (vals_app r rz) perm
  refine wpAny_call (codeAny_mono (run_fnG F hr hgd (fun _ _ z => z) hx I r2 (hb.to s us ws (by rw [← r.length]; exact l1) (by rw [← rz.length]; exact l2)) h) fun r s' z => ?_)
  rcases r with e | fl
  · exact z
  · cases fl <;> exact z
theorem pe_callKG (F : FnG X.prog X.w X.K X.mg X.base k f fd ps sp) (hr : Room k X.A) (hgd : X.A.guards = some []) (hg : Gl X x) (hm : X.mg x = some (.ref f)) (hk : PySem.W.keepIn X.K (.ref f) = true) (hb : KwB fd ps n ks perm) (hx : ∀ σ, PassesAt (L2.CX X.prog X.w) X σ (E σ))
    (ha : PA X (e :: es) t) (hkw : PK X kws tk) (hall : (backToKw pos (keywordEach kws X.env)).all (·.1.isSome) = true := by rfl) (hks : (backToKw pos (keywordEach kws X.env)).filterMap (·.1) = ks := by rfl)
    (hdb : (x == ("__debug__" : Str)) = false := by decide) (he : starEach (e :: es) X.env = (false, eval e X.env) :: starEach es X.env := by rfl)
    (hpl : ((backTo pos (starEach (e :: es) X.env)).any (·.1) || (backToKw pos (keywordEach kws X.env)).any (·.1.isNone)) = false := by rfl) :
    PE X (.Call (.Name x p) (e :: es) kws pos) (tCallKG sp perm n ks.length E t tk) := by
  refine ⟨fun pins s σ H Q I h => ?_⟩
  refine wpAny_Call_Name_kw (ld_glob I hg hm ?_ hdb)
  refine PySem.W.callWith_KW (h₀ := X.base) I.ok.mod.kin hk hall (thn (ha.run pos pins s σ H _ I h) fun us s1 ⟨vs, H1, I1, r, q⟩ => ?_) hpl he
  refine thn (hkw.run pos pins s1 σ H1 _ I1 q) fun ws s2 ⟨zs, H2, I2, rz, l1, l2, q2⟩ => ⟨I2.kIn, ?_⟩
  rw [hks]
  exact run_fnGK F hr hgd hb (hx σ) I2 r rz l1 l2 q2
theorem pe_callKG0 (F : FnG X.prog X.w X.K X.mg X.base k f fd ps sp) (hr : Room k X.A) (hgd : X.A.guards = some []) (hg : Gl X x) (hm : X.mg x = some (.ref f)) (hk : PySem.W.keepIn X.K (.ref f) = true) (hb : KwB fd ps 0 ks perm) (hx : ∀ σ, PassesAt (L2.CX X.prog X.w) X σ (E σ))
    (hkw : PK X kws tk) (hall : (backToKw pos (keywordEach kws X.env)).all (·.1.isSome) = true := by rfl) (hks : (backToKw pos (keywordEach kws X.env)).filterMap (·.1) = ks := by rfl)
    (hdb : (x == ("__debug__" : Str)) = false := by decide) (hpl : ((backTo pos (starEach [] X.env)).any (·.1) || (backToKw pos (keywordEach kws X.env)).any (·.1.isNone)) = false := by rfl) :
    PE X (.Call (.Name x p) [] kws pos) (tCallKG sp perm 0 ks.length E tNil tk) := by
  refine ⟨fun pins s σ H Q I h => ?_⟩
  refine wpAny_Call_Name_kw (ld_glob I hg hm ?_ hdb)
  refine PySem.W.callWith_KW0 (h₀ := X.base) I.ok.mod.kin hk hall ?_ hpl
  refine thn (hkw.run pos pins s σ H _ I h) fun ws s2 ⟨zs, H2, I2, rz, l1, l2, q2⟩ => ⟨I2.kIn, ?_⟩
  rw [hks]
  exact run_fnGK (us := []) (vs := []) F hr hgd hb (hx σ) I2 .nil rz l1 l2 q2
end
abbrev PKr (X : Cx) (A : List V) (W : WX) (kws : List Keyword) (os : List Opd) : Prop := PK X kws (tArgs X.K X.mg A W os)
def eCallKw (sem : Sem') (perm : List Nat) (os kos : List Opd) : EM D := fun ρ => (argGo os ρ).bind fun ds ρ1 => (argGo kos ρ1).bind fun es ρ2 => eCallK sem (permL perm (os ++ kos)) (permL perm (ds ++ es)) ρ2
section
variable {X : Cx} {A : List V} {W : WX} {S S' : Cfg} {σ : L2.St} {ρ : Env'}
theorem pkr_nil : PKr X A W [] [] := pk_nil
theorem pkr_cons {nm : Option Str} {e : Expr} {kpos : Pos} {kws : List Keyword} {o : Opd} {os : List Opd} (ha : PO' X A W e o) (hr : PKr X A W kws os) : PKr X A W (⟨nm, e, kpos⟩ :: kws) (o :: os) := pk_cons ha hr
theorem ArgsOk.app : ∀ {vs zs : List V} {os kos : List Opd} {ds es : List D}, ArgsOk X A S σ vs os ds → ArgsOk X A S σ zs kos es → ArgsOk X A S σ (vs ++ zs) (os ++ kos) (ds ++ es)
  | [], _, [], _, [], _, _, h => h
  | _ :: _, _, _ :: _, _, _ :: _, _, h, k => ⟨h.1, ArgsOk.app h.2 k⟩
  | [], _, _ :: _, _, _, _, h, _ => h.elim
  | [], _, [], _, _ :: _, _, h, _ => h.elim
  | _ :: _, _, [], _, _, _, h, _ => h.elim
  | _ :: _, _, _ :: _, _, [], _, h, _ => h.elim
theorem ArgsOk.perm {vs : List V} {os : List Opd} {ds : List D} (h : ArgsOk X A S σ vs os ds) : ∀ perm : List Nat, ArgsOk X A S σ (permL perm vs) (permL perm os) (permL perm ds)
  | [] => trivial
  | i :: perm => by
    obtain ⟨l1, l2⟩ := h.lens
    unfold permL
    cases e : os[i]? with
    | none =>
      have e0 := List.getElem?_eq_none_iff.mp e
      have e2 : vs[i]? = none := List.getElem?_eq_none_iff.mpr (by omega)
      have e3 : ds[i]? = none := List.getElem?_eq_none_iff.mpr (by omega)
      rw [List.filterMap_cons_none e, List.filterMap_cons_none e2, List.filterMap_cons_none e3]
      exact ArgsOk.perm h perm
    | some o =>
      have hi := (List.getElem?_eq_some_iff.mp e).1
      have e3 : ds[i]? = some (ds[i]'(by omega)) := List.getElem?_eq_getElem _
      obtain ⟨v, e2, ok⟩ := h.get e e3
      rw [List.filterMap_cons_some e, List.filterMap_cons_some e2, List.filterMap_cons_some e3]
      exact ⟨ok, ArgsOk.perm h perm⟩
theorem kw_to {n m n' : Nat} {sem : Sem'} {perm : List Nat} {os kos : List Opd} (hn : os.length = n) (hm : kos.length = m) (hp : (permL perm (os ++ kos)).length = n') (σ : L2.St) (H : Hp) (Q : VK) (h : tD X.K X.mg A W (eCallKw sem perm os kos) σ H Q) :
    tCallKG (spD X.K X.mg n' sem) perm n m (WE W) (tArgs X.K X.mg A W os) (tArgs X.K X.mg A W kos) σ H Q := by
  obtain ⟨S, ρ, rfl, s, h⟩ := h
  refine args_bind (P := PostE X.K X.mg A W Q S σ) (fun z => z) (fun _ _ _ z => z) s h fun ds ρ1 S1 vs hp1 ev1 s1 ok1 => ?_
  refine args_bind (P := PostE X.K X.mg A W Q S σ) (fun z => z) (fun _ _ _ z => PostX.ev z ev1) s1 hp1 fun es ρ2 S2 zs hp2 ev2 s2 ok2 => ?_
  have ok := ((ok1.ev ev2).app ok2).perm perm
  exact ⟨by rw [ok1.lens.1, hn], by rw [ok2.lens.1, hm], call_sp hp s2 ok (PostE.ev hp2 (ev1.trans ev2))⟩
theorem pd_callKw {k n n' : Nat} {f : Addr} {fd : FuncData} {ps ks : List Str} {sem : Sem'} {perm : List Nat} {x : Str} {p pos : Pos} {e : Expr} {es : List Expr} {kws : List Keyword} {os kos : List Opd} (F : FnG X.prog X.w X.K X.mg X.base k f fd ps (spD X.K X.mg n' sem)) (hr : Room k X.A) (hgd : X.A.guards = some []) (hg : Gl X x) (hm : X.mg x = some (.ref f))
    (hk : PySem.W.keepIn X.K (.ref f) = true) (hb : KwB fd ps n ks perm) (tk : Takes X W) (hn : os.length = n) (hl : kos.length = ks.length) (hp : (permL perm (os ++ kos)).length = n') (ha : PAr X A W (e :: es) os) (hkw : PKr X A W kws kos)
    (hall : (backToKw pos (keywordEach kws X.env)).all (·.1.isSome) = true := by rfl) (hks : (backToKw pos (keywordEach kws X.env)).filterMap (·.1) = ks := by rfl)
    (hdb : (x == ("__debug__" : Str)) = false := by decide) (he : starEach (e :: es) X.env = (false, eval e X.env) :: starEach es X.env := by rfl)
    (hpl : ((backTo pos (starEach (e :: es) X.env)).any (·.1) || (backToKw pos (keywordEach kws X.env)).any (·.1.isNone)) = false := by rfl) : PD X A W (.Call (.Name x p) (e :: es) kws pos) (eCallKw sem perm os kos) :=
  PE.imp (pe_callKG F hr hgd hg hm hk hb (fun σ => passAt tk σ) ha hkw hall hks hdb he hpl) (kw_to hn hl hp)
theorem pd_callKw0 {k n' : Nat} {f : Addr} {fd : FuncData} {ps ks : List Str} {sem : Sem'} {perm : List Nat} {x : Str} {p pos : Pos} {kws : List Keyword} {kos : List Opd} (F : FnG X.prog X.w X.K X.mg X.base k f fd ps (spD X.K X.mg n' sem)) (hr : Room k X.A) (hgd : X.A.guards = some []) (hg : Gl X x) (hm : X.mg x = some (.ref f))
    (hk : PySem.W.keepIn X.K (.ref f) = true) (hb : KwB fd ps 0 ks perm) (tk : Takes X W) (hl : kos.length = ks.length) (hp : (permL perm ([] ++ kos)).length = n') (hkw : PKr X A W kws kos)
    (hall : (backToKw pos (keywordEach kws X.env)).all (·.1.isSome) = true := by rfl) (hks : (backToKw pos (keywordEach kws X.env)).filterMap (·.1) = ks := by rfl)
    (hdb : (x == ("__debug__" : Str)) = false := by decide) (hpl : ((backTo pos (starEach [] X.env)).any (·.1) || (backToKw pos (keywordEach kws X.env)).any (·.1.isNone)) = false := by rfl) : PD X A W (.Call (.Name x p) [] kws pos) (eCallKw sem perm [] kos) :=
  PE.imp (pe_callKG0 F hr hgd hg hm hk hb (fun σ => passAt tk σ) hkw hall hks hdb hpl) (kw_to (os := []) rfl hl hp)
end
end DL
end

section
set_option Elab.async false
set_option linter.all false
set_option maxRecDepth 100000
/-! A def that makes a source of draws. -/
namespace DL
open PySem PySem.Spec PyProof.Rows L2
abbrev Dl := List Int × Int
section
variable (K : PySem.W.Frag) (mg : Str → Option Value) (A : List V) (W : WX)
/-- a new source at v -/
def NewDl (S0 S : Cfg) (v : V) (L : List Int) (c : Int) : Prop := ∃ p q, v = .ref p ∧ S.H p = some (.lst [.ref q, .int c]) ∧ S.H q = some (.lst (L.map V.int)) ∧ p ≠ q ∧ S.F p = none ∧ S.F q = none ∧ ¬ S.O p ∧ ¬ S.O q ∧ S0.H p = none ∧ S0.H q = none
def PostDl (Q : VK) (S : Cfg) (σ : L2.St) : Out Dl → Prop
  | .ok r ρ' => ∀ S' v, Ev S S' → Sat K mg A S' σ ρ' → NewDl S S' v r.1 r.2 → Q v S'.H
  | .err c d ρ' => PostX K mg A W S c d ρ'
  | .stuck => False
def tDl (f : EM Dl) : TE := fun σ H Q => ∃ S ρ, S.H = H ∧ Sat K mg A S σ ρ ∧ PostDl K mg A W Q S σ (f ρ)
inductive FlD where
  | nx (ρ : Env') | dl (r : Dl) (ρ : Env') | er (c : Str) (d : D) (ρ : Env') | stuck
def PostSD (D' : Ends) (S : Cfg) : FlD → Prop
  | .nx ρ' => ∀ S' σ', Ev S S' → Sat K mg A S' σ' ρ' → D'.nx σ' S'.H
  | .dl r ρ' => ∀ S' σ' v, Ev S S' → Sat K mg A S' σ' ρ' → NewDl S S' v r.1 r.2 → D'.rt v S'.H
  | .er c d ρ' => PostX K mg A W S c d ρ'
  | .stuck => False
def tSD (f : Env' → FlD) : TS := fun D' σ H => ∃ S ρ, S.H = H ∧ Sat K mg A S σ ρ ∧ PostSD K mg A W D' S (f ρ)
end
theorem NewDl.ev {S0 S1 S : Cfg} {v : V} {L : List Int} {c : Int} (h : NewDl S1 S v L c) (e : Ev S0 S1) : NewDl S0 S v L c := by
  obtain ⟨p, q, h1, h2, h3, h4, h5, h6, h7, h8, h9, h10⟩ := h
  exact ⟨p, q, h1, h2, h3, h4, h5, h6, h7, h8, e.nil h9, e.nil h10⟩
abbrev PDl (X : Cx) (A : List V) (W : WX) (e : Expr) (f : EM Dl) : Prop := PE X e (tDl X.K X.mg A W f)
abbrev PSsDl (X : Cx) (A : List V) (W : WX) (b : List Stmt) (f : Env' → FlD) : Prop := PSs X b (tSD X.K X.mg A W f)
section
variable {X : Cx} {A : List V} {W : WX} {S S' : Cfg} {σ : L2.St} {ρ : Env'}
def sqD (f : SM) (g : Env' → FlD) : Env' → FlD := fun ρ => match f ρ with
  | .nx ρ1 => g ρ1
  | .er c d ρ1 => .er c d ρ1
  | _ => .stuck
theorem PostSD.ev {K : PySem.W.Frag} {mg : Str → Option Value} {D' : Ends} {r : FlD} (h : PostSD K mg A W D' S r) (e : Ev S S') : PostSD K mg A W D' S' r := by
  cases r with
  | nx ρ' => exact fun S2 σ2 e2 => h S2 σ2 (e.trans e2)
  | dl r ρ' => exact fun S2 σ2 v e2 s n => h S2 σ2 v (e.trans e2) s (n.ev e)
  | er c d ρ' => exact PostX.ev h e
  | stuck => exact h
theorem psdl_cons {st : Stmt} {rest : List Stmt} {f : SM} {g : Env' → FlD} (h1 : PSD X A W st f) (h2 : PSsDl X A W rest g) : PSsDl X A W (st :: rest) (sqD f g) := PSs.imp (pss_cons h1 h2) fun D σ H h => by
  obtain ⟨S, ρ, rfl, s, h⟩ := h
  refine ⟨S, ρ, rfl, s, ?_⟩
  have h' : PostSD X.K X.mg A W D S (match f ρ with
    | .nx ρ1 => g ρ1
    | .er c d ρ1 => .er c d ρ1
    | _ => .stuck) := h
  cases e : f ρ with
  | nx ρ1 =>
    rw [e] at h'
    exact fun S' σ' ev s' => ⟨S', ρ1, rfl, s', PostSD.ev h' ev⟩
  | rt d ρ1 => rw [e] at h'; exact (show False from h').elim
  | bk ρ1 => rw [e] at h'; exact (show False from h').elim
  | ct ρ1 => rw [e] at h'; exact (show False from h').elim
  | er c d ρ1 => rw [e] at h'; exact h'
  | stuck => rw [e] at h'; exact h'
def sRetDl (f : EM Dl) : Env' → FlD := fun ρ => match f ρ with
  | .ok r ρ1 => .dl r ρ1
  | .err c d ρ1 => .er c d ρ1
  | .stuck => .stuck
theorem psdl_ret {e : Expr} {f : EM Dl} {pos : Pos} (he : PDl X A W e f) : PSsDl X A W [.Return (some e) pos] (sRetDl f) := PSs.imp (pss_one (ps_ret he)) fun D σ H h => by
  obtain ⟨S, ρ, rfl, s, h⟩ := h
  refine ⟨S, ρ, rfl, s, ?_⟩
  have h' : PostSD X.K X.mg A W D S (match f ρ with
    | .ok r ρ1 => .dl r ρ1
    | .err c d ρ1 => .er c d ρ1
    | .stuck => .stuck) := h
  cases e : f ρ with
  | ok r ρ1 =>
    rw [e] at h'
    exact fun S' v ev s' n => h' S' σ v ev s' n
  | err c d ρ1 =>
    rw [e] at h'
    exact h'
  | stuck =>
    rw [e] at h'
    exact h'
/-- [xs[::-1], y], xs a new list, y a variable -/
def eDl (f : EM (List D)) (j : Nat) : EM Dl := fun ρ => (f ρ).bind fun xs ρ1 => match asIs xs, ρ1[j]? with
  | some is, some (.va (.int c)) => .ok (is.reverse, c) ρ1
  | _, _ => .stuck
theorem pdl_disp {e : Expr} {f : EM (List D)} (j : Nat) {x : Str} {k : Nat} {p1 p2 p3 p4 p5 pos : Pos} (he : PL X A W e f) (hN : X.N[j]? = some x := by rfl) (hv : Vis X.env.scope x := by first | exact Or.inl rfl | exact Or.inr (Or.inl rfl) | exact Or.inr (Or.inr rfl))
    (hd : (x == ("__debug__" : Str)) = false := by decide) (hcd : (x == ("__classdict__" : Str)) = false := by decide)
    (hs1 : starEach [.Subscript e (.Slice none none (some (.UnaryOp .USub (.Constant (.int 1) k p1) p2)) p3) p4, .Name x p5] X.env = (false, eval (.Subscript e (.Slice none none (some (.UnaryOp .USub (.Constant (.int 1) k p1) p2)) p3) p4) X.env) :: starEach [.Name x p5] X.env := by rfl) (hs2 : starEach [.Name x p5] X.env = (false, eval (.Name x p5) X.env) :: starEach [] X.env := by rfl) :
    PDl X A W (.List [.Subscript e (.Slice none none (some (.UnaryOp .USub (.Constant (.int 1) k p1) p2)) p3) p4, .Name x p5] pos) (eDl f j) := PE.imp (pe_lst (pa_cons (pe_revL he) (pa_cons (pe_var hN hv hd hcd) pa_nil hs2) hs1)) fun σ H Q h => by
  obtain ⟨S, ρ, rfl, s, h⟩ := h
  refine ⟨S, ρ, rfl, s, ?_⟩
  have h' : PostDl X.K X.mg A W Q S σ ((f ρ).bind fun xs ρ1 => match asIs xs, ρ1[j]? with
    | some is, some (.va (.int c)) => .ok (is.reverse, c) ρ1
    | _, _ => .stuck) := h
  cases e : f ρ with
  | err c d ρ1 =>
    rw [e] at h'
    exact h'
  | stuck =>
    rw [e] at h'
    exact h'
  | ok xs ρ1 =>
    rw [e] at h'
    intro S1 a vs ev s1 r ha hF hO h0
    refine ⟨a, vs, rfl, SqL.of ha, fun q hq => ?_⟩
    have h2 : PostDl X.K X.mg A W Q S σ (match asIs xs, ρ1[j]? with
      | some is, some (.va (.int c)) => .ok (is.reverse, c) ρ1
      | _, _ => .stuck) := h'
    cases e1 : asIs xs with
    | none =>
      simp only [e1] at h2
      exact (show False from h2).elim
    | some is =>
      cases e2 : ρ1[j]? with
      | none =>
        simp only [e1, e2] at h2
        exact (show False from h2).elim
      | some sl =>
        cases sl with
        | va d =>
          cases d with
          | int c =>
            simp only [e1, e2] at h2
            obtain ⟨v, z1, z2⟩ := s1.va e2
            have rv : v = .int c := z2
            subst rv
            refine ⟨_, z1, ?_⟩
            refine ⟨by show 2 ≤ sizeLine; decide, fun p hp => ?_⟩
            have hvs : vs = is.map V.int := by
              rw [asIs_eq e1] at r
              exact r.of_ints
            have g1 : Gr S1 (S1.raw q (.lst vs.reverse)) := .raw s1.sub hq
            have s2 := s1.gr g1
            have hp' : (S1.raw q (.lst vs.reverse)).H p = none := hp
            have g2 : Gr (S1.raw q (.lst vs.reverse)) ((S1.raw q (.lst vs.reverse)).raw p (.lst [.ref q, .int c])) := .raw s2.sub hp'
            have s3 := s2.gr g2
            have nO : ∀ a, S1.H a = none → ¬ S1.O a := fun a ha' hO' => by
              obtain ⟨o, e⟩ := s1.ownH a hO'
              rw [ha'] at e
              cases e
            have hne : p ≠ q := fun z => by
              rw [z] at hp'
              have : upd S1.H q (.lst vs.reverse) q = none := hp'
              rw [upd_same] at this
              cases this
            have hp1 : S1.H p = none := by
              have z : upd S1.H q (.lst vs.reverse) p = none := hp'
              rw [upd_ne hne] at z
              exact z
            refine h2 _ (.ref p) ((ev.trans g1.ev).trans g2.ev) s3 ⟨p, q, rfl, upd_same, ?_, hne, none_sub s1.sub hp1, none_sub s1.sub hq, nO p hp1, nO q hq, ev.nil hp1, ev.nil hq⟩
            show upd (upd S1.H q (.lst vs.reverse)) p (.lst [.ref q, .int c]) q = _
            rw [upd_ne (Ne.symm hne), upd_same, hvs, List.map_reverse]
          | _ =>
            simp only [e1, e2] at h2
            exact (show False from h2).elim
        | _ =>
          simp only [e1, e2] at h2
          exact (show False from h2).elim
end
/-! ### the contract -/
abbrev SemDl := List Sl → Out Dl
def runDl (n N : Nat) (body : Env' → FlD) : SemDl := fun ps => match body (ps ++ List.replicate (N - n) Sl.no) with
  | .dl r ρ => .ok r (outIo n ρ)
  | .er c d ρ => .err c d (outIo n ρ)
  | _ => .stuck
def PostFD (K : PySem.W.Frag) (mg : Str → Option Value) (Q : VK) (E : XK) (S : Cfg) (vs : List V) : Out Dl → Prop
  | .ok r ps' => ∀ S' v, Ev S S' → Sat K mg vs S' (vs.map some) ps' → NewDl S S' v r.1 r.2 → Q v S'.H
  | .err c d ps' => ∀ S' C cd v, mg c = some (.ref C) → Ev S S' → Sat K mg vs S' (vs.map some) ps' → S'.H cd = some (.xd [(("at" : Str), v)]) → RD K mg S'.F d v → E (.ref C) (some cd) S'.H
  | .stuck => False
def spDl (K : PySem.W.Frag) (mg : Str → Option Value) (n : Nat) (sem : SemDl) : Sp := fun vs H Q E => vs.length = n ∧ ∃ S ps, S.H = H ∧ Sat K mg vs S (vs.map some) ps ∧ PostFD K mg Q E S vs (sem ps)
theorem fnDl {P : Program} {w : World} {K : PySem.W.Frag} {mg : Str → Option Value} {base : Heap} {x qual : Str} {params : Arguments} {body : List Stmt} {scope : Scope} {dvs : List V} {kws : List (Str × V)} {f : Addr} {fd : FuncData} {N ps : List Str} {k : Nat} {sm : Env' → FlD}
    (F : FunD K x qual params body scope dvs kws f fd) (S : FnScope N ps scope) (hn : ps.length ≤ N.length)
    (hb : ∀ (cdv : Value) (A : Around) (outer : List Env) (s : Shared) (H : Hp) (vs : List V) (E : XK), Room k (A.deeper (envOfC qual scope s.heap.objs.size f cdv)) → (A.deeper (envOfC qual scope s.heap.objs.size f cdv)).guards = some [] →
      PSsDl (cxOf (L2.CX P w) P w K mg base N qual scope f cdv A outer s H E) vs (fun cls d _ H => E cls d H) body sm) : FnG P w K mg base (k + 1) f fd ps (spDl K mg ps.length (runDl ps.length N.length sm)) := by
  refine FunD.okG F S (fun vs H Q E h => h.1) (fun cdv A outer s H vs Q E hr hgd h => ⟨_, hb cdv A outer s H vs E hr hgd, ?_⟩)
  obtain ⟨hl, S, qs, rfl, sa, hq⟩ := h
  refine ⟨S, qs ++ List.replicate (N.length - ps.length) Sl.no, rfl, by rw [← hl]; exact sa.start (by rw [hl]; exact hn), ?_⟩
  unfold runDl at hq
  cases e : sm (qs ++ List.replicate (N.length - ps.length) Sl.no) with
  | dl r ρ =>
    rw [e] at hq
    exact fun S' σ' v ev s' n => hq S' v ev (by rw [← hl]; exact s'.out) n
  | nx ρ =>
    rw [e] at hq
    exact (show False from hq).elim
  | er c d ρ =>
    rw [e] at hq
    exact fun S' σ' C cd v hc ev s' hcd r => hq S' C cd v hc ev (by rw [← hl]; exact s'.out) hcd r
  | stuck =>
    rw [e] at hq
    exact (show False from hq).elim
section
variable {X : Cx} {A : List V} {W : WX} {S S' : Cfg} {σ : L2.St} {ρ : Env'}
/-- the callee's configuration where nothing is handed in to be changed -/
theorem call_ev {vs : List V} {ds : List D} (s : Sat X.K X.mg A S σ ρ) (r : RDs X.K X.mg S.F ds vs) : Sat X.K X.mg vs ⟨S.F, S.H, fun _ => False⟩ (vs.map some) (ds.map Sl.va) := by
  refine ⟨s.sub, fun _ h => h.elim, fun _ h => h.elim, by simp [r.length], ⟨fun _ _ => False, fun i sl e => ?_, fun _ _ h => h, fun _ _ _ h => h.elim⟩, fun i o e => ?_⟩
  · rw [List.getElem?_map] at e
    cases q : ds[i]? with
    | none =>
      rw [q] at e
      cases e
    | some d =>
      rw [q] at e
      cases e
      obtain ⟨v, e1, e2⟩ := r.get q
      exact ⟨some v, by rw [List.getElem?_map, e1]; rfl, v, rfl, e2⟩
  · rw [List.getElem?_map] at e
    cases q : ds[i]? with
    | none =>
      rw [q] at e
      cases e
    | some d =>
      rw [q] at e
      cases e
/-- x = f(e, ..), f makes a source of draws -/
def sMkDl (i : Nat) (sem : SemDl) (fs : List (EM D)) : SM := fun ρ => (argGo (fs.map Opd.ev) ρ).fl fun ds ρ1 => match sem (ds.map Sl.va) with
  | .ok r _ => putSl ρ1 i (.ow false (.deal r.1 r.2))
  | _ => .stuck
theorem psd_mkDl (i : Nat) {y : Str} {k n : Nat} {f : Addr} {fd : FuncData} {ps : List Str} {sem : SemDl} {x : Str} {p py pos spos : Pos} {e : Expr} {es : List Expr} {fs : List (EM D)} (F : FnG X.prog X.w X.K X.mg X.base k f fd ps (spDl X.K X.mg n sem)) (hr : Room k X.A) (hgd : X.A.guards = some []) (hg : Gl X x) (hm : X.mg x = some (.ref f))
    (hk : PySem.W.keepIn X.K (.ref f) = true) (hb : Binds X.K fd ps []) (tk : Takes X W) (hn : fs.length = n) (ha : PAr X A W (e :: es) (fs.map Opd.ev)) (hN : X.N.Nodup) (hi : X.N[i]? = some y := by rfl) (hy : Loc X.env.scope y := by first | exact Or.inl rfl | exact Or.inr rfl) (hdb : (x == ("__debug__" : Str)) = false := by decide)
    (he : starEach (e :: es) X.env = (false, eval e X.env) :: starEach es X.env := by rfl) (hpl : (backTo pos (starEach es X.env)).any (·.1) = false := by rfl)
    (hs : swapsWith (.Call (.Name x p) (e :: es) [] pos) (some (.Name y py)) spos.line X.env = pure false := by rfl) (hf : X.fn y = true ∨ X.env.scope.names.lookup y = some .local := by first | exact .inl rfl | exact .inr rfl | assumption) :
    PSD X A W (.Assign [.Name y py] (.Call (.Name x p) (e :: es) [] pos) spos) (sMkDl i sem fs) := PS.imp (ps_set hN hi hy (pe_callG F hr hgd hg hm hk hb (fun σ => passAt tk σ) ha hdb he hpl) hs hf) fun D' σ H h => by
  obtain ⟨S, ρ, rfl, s, h⟩ := h
  have h0 : PostS X.K X.mg A W D' S ((argGo (fs.map Opd.ev) ρ).fl fun ds ρ1 => match sem (ds.map Sl.va) with
    | .ok r _ => putSl ρ1 i (.ow false (.deal r.1 r.2))
    | _ => .stuck) := h
  refine args_bind (P := fun r : Out (List D) => PostS X.K X.mg A W D' S (r.fl fun ds ρ1 => match sem (ds.map Sl.va) with
    | .ok r _ => putSl ρ1 i (.ow false (.deal r.1 r.2))
    | _ => .stuck)) (g := fun ds ρ1 => .ok ds ρ1) (fun z => z) (fun _ _ _ z => z) s ?_ fun ds ρ1 S1 vs hp ev s1 ok => ?_
  · cases e : argGo (fs.map Opd.ev) ρ with
    | ok ds ρ1 =>
      rw [e] at h0
      exact h0
    | err c d ρ1 =>
      rw [e] at h0
      exact h0
    | stuck =>
      rw [e] at h0
      exact h0
  · have r := ok.rdsEv
    have hp1 : PostS X.K X.mg A W D' S (match sem (ds.map Sl.va) with
      | .ok r _ => putSl ρ1 i (.ow false (.deal r.1 r.2))
      | _ => .stuck) := hp
    refine ⟨by rw [(ok.lens).1, List.length_map, hn], ⟨S1.F, S1.H, fun _ => False⟩, ds.map Sl.va, rfl, call_ev s1 r, ?_⟩
    cases e2 : sem (ds.map Sl.va) with
    | stuck =>
      rw [e2] at hp1
      exact (show False from hp1).elim
    | err c d ps' =>
      rw [e2] at hp1
      exact (show False from hp1).elim
    | ok rr ps' =>
      rw [e2] at hp1
      obtain ⟨k1, k2⟩ := putSl_ok hp1
      intro S' v ev2 s2 nd
      obtain ⟨pp, q, rfl, h2, h3, h4, h5, h6, h7, h8, h9, h10⟩ := nd
      have evb : Ev S1 ⟨S'.F, S'.H, fun a => S1.O a ∨ S'.O a⟩ := ⟨fun a o e n => ev2.same a o e fun z => z, ev2.frz, fun a o e n => ev2.newF a o e fun z => z, fun a ha => by
        rcases ha with ha | ha
        · exact .inl ha
        · exact .inr (by
            rcases ev2.own a ha with z | z
            · exact z.elim
            · exact z), ev2.there⟩
      have sb : Sat X.K X.mg A ⟨S'.F, S'.H, fun a => S1.O a ∨ S'.O a⟩ σ ρ1 := by
        obtain ⟨fp, t1, t2, t3⟩ := s1.sl
        refine ⟨s2.sub, fun a ha => ?_, fun a ha => ?_, s1.len, ⟨fp, fun j sl e => ?_, fun j a ha => .inl (t2 j a ha), t3⟩, s1.io⟩
        · rcases ha with ha | ha
          · obtain ⟨o, e⟩ := s1.ownH a ha
            show S'.F a = none
            rw [ev2.newF a o e fun z => z]
            exact s1.ownF a ha
          · exact s2.ownF a ha
        · rcases ha with ha | ha
          · obtain ⟨o, e⟩ := s1.ownH a ha
            exact ⟨o, ev2.same a o e fun z => z⟩
          · exact s2.ownH a ha
        · obtain ⟨u, q1, q2⟩ := t1 j sl e
          exact ⟨u, q1, q2.grow ev2.frz fun a o _ e => ev2.same a o e fun z => z⟩
      have np : ¬ (S1.O pp ∨ S'.O pp) := fun z => by
        rcases z with z | z
        · obtain ⟨o, e⟩ := s1.ownH pp z
          have h9' : S1.H pp = none := h9
          rw [h9'] at e
          cases e
        · exact h7 z
      have nq : ¬ (S1.O q ∨ S'.O q) := fun z => by
        rcases z with z | z
        · obtain ⟨o, e⟩ := s1.ownH q z
          have h10' : S1.H q = none := h10
          rw [h10'] at e
          cases e
        · exact h8 z
      let S3 : Cfg := ⟨S'.F, S'.H, fun a => (S1.O a ∨ S'.O a) ∨ a = pp ∨ a = q⟩
      have ev3 : Ev S S3 := by
        have e0 := ev.trans evb
        refine ⟨e0.same, e0.frz, e0.newF, fun a ha => ?_, e0.there⟩
        rcases ha with ha | ha | ha
        · exact e0.own a ha
        · rw [ha]
          exact .inr (ev.nil h9)
        · rw [ha]
          exact .inr (ev.nil h10)
      have s3 : Sat X.K X.mg A S3 (σ.set i (some (.ref pp))) (ρ1.set i (.ow false (.deal rr.1 rr.2))) := by
        have sc : Sat X.K X.mg A S3 σ ρ1 := by
          obtain ⟨fp, t1, t2, t3⟩ := sb.sl
          refine ⟨sb.sub, fun a ha => ?_, fun a ha => ?_, sb.len, ⟨fp, fun j sl e => ?_, fun j a ha => .inl (t2 j a ha), t3⟩, sb.io⟩
          · rcases ha with ha | ha | ha
            · exact sb.ownF a ha
            · rw [ha]; exact h5
            · rw [ha]; exact h6
          · rcases ha with ha | ha | ha
            · exact sb.ownH a ha
            · rw [ha]; exact ⟨_, h2⟩
            · rw [ha]; exact ⟨_, h3⟩
          · obtain ⟨u, q1, q2⟩ := t1 j sl e
            exact ⟨u, q1, q2.grow (fun _ _ z => z) fun _ _ _ z => z⟩
        obtain ⟨fp, t1, t2, t3⟩ := sb.sl
        refine ⟨sc.sub, sc.ownF, sc.ownH, by simp [sc.len], ⟨fun j a => if j = i then (a = pp ∨ a = q) else fp j a, fun j sl e => ?_, fun j a ha => ?_, fun j l a h1 h2' => ?_⟩, fun j o e => ?_⟩
        · by_cases hj : j = i
          · subst hj
            have hlt : j < ρ1.length := by
              have := (List.getElem?_eq_some_iff.mp e).1
              simpa using this
            rw [List.getElem?_set_self hlt] at e
            cases e
            refine ⟨some (.ref pp), List.getElem?_set_self (by rw [sb.len]; exact hlt), .ref pp, rfl, pp, q, rfl, h2, h3, h4, ?_, ?_⟩
            · show if j = j then (pp = pp ∨ pp = q) else fp j pp
              rw [if_pos rfl]
              exact .inl rfl
            · show if j = j then (q = pp ∨ q = q) else fp j q
              rw [if_pos rfl]
              exact .inr rfl
          · rw [List.getElem?_set_ne (Ne.symm hj)] at e
            obtain ⟨u, q1, q2⟩ := t1 j sl e
            refine ⟨u, by rw [List.getElem?_set_ne (Ne.symm hj)]; exact q1, (q2.grow (S' := S3) (fun _ _ z => z) fun _ _ _ z => z).wide fun a ha => ?_⟩
            show if j = i then (a = pp ∨ a = q) else fp j a
            rw [if_neg hj]
            exact ha
        · have ha' : if j = i then (a = pp ∨ a = q) else fp j a := ha
          by_cases hj : j = i
          · rw [if_pos hj] at ha'
            exact .inr ha'
          · rw [if_neg hj] at ha'
            exact .inl (t2 j a ha')
        · have h1' : if j = i then (a = pp ∨ a = q) else fp j a := h1
          have h2'' : if l = i then (a = pp ∨ a = q) else fp l a := h2'
          have bad : ∀ {m}, (a = pp ∨ a = q) → fp m a → False := fun {m} z1 z2 => by
            have z3 := t2 m a z2
            rcases z1 with z1 | z1
            · rw [z1] at z3
              exact np z3
            · rw [z1] at z3
              exact nq z3
          by_cases hj : j = i
          · by_cases hl : l = i
            · rw [hj, hl]
            · rw [if_pos hj] at h1'
              rw [if_neg hl] at h2''
              exact (bad h1' h2'').elim
          · rw [if_neg hj] at h1'
            by_cases hl : l = i
            · rw [if_pos hl] at h2''
              exact (bad h2'' h1').elim
            · rw [if_neg hl] at h2''
              exact t3 j l a h1' h2''
        · by_cases hj : j = i
          · subst hj
            have hlt : j < ρ1.length := by
              have := (List.getElem?_eq_some_iff.mp e).1
              simpa using this
            rw [List.getElem?_set_self hlt] at e
            cases e
          · rw [List.getElem?_set_ne (Ne.symm hj)] at e ⊢
            exact sc.io j o e
      exact k2 S3 _ ev3 s3
end
end DL
end

section
set_option Elab.async false
set_option linter.all false
set_option maxRecDepth 100000
namespace DL
open PySem PySem.Spec PyProof.Rows L2
theorem takesW0 {X : Cx} : Takes X W0 := fun _ _ ⟨_, _, _, _, _, _, _, _, _, _, _, _, _, _, _, _, w⟩ => w.elim
theorem hu64 {k : Nat} {A : Around} (h : Room k A) : A.units + 64 < cLine := by
  have := h.un
  omega
theorem hu65 {k : Nat} {A : Around} (h : Room k A) : A.units + 65 < cLine := by
  have := h.un
  omega
theorem hu40 {k : Nat} {A : Around} (h : Room k A) : A.units + 40 < cLine := by
  have := h.un
  omega
/-- BlkOk as a check -/
def blkB (N : List Str) (sc scope : Scope) (own : List (Str × Nat)) : Bool := decide (scope.kind = .function) && ((scope.names.all fun y => decide (scope.names.lookup y.1 = some y.2)) && ((own.all fun p => decide (N[p.2]? = some p.1)) &&
  ((scope.names.all fun y => !decide (y.2 = .free) || (decide (sc.names.lookup y.1 = some .cell) || decide (sc.names.lookup y.1 = some .free))) &&
  (scope.names.all fun y => !(decide (y.2 = .local) || decide (y.2 = .cell)) || (decide (y.1 ∈ own.map (·.1)) || !decide (y.1 ∈ N))))))
theorem blk_of {N : List Str} {sc scope : Scope} {own : List (Str × Nat)} (h : blkB N sc scope own = true) : BlkOk N sc scope own := by
  unfold blkB at h
  simp only [Bool.and_eq_true, List.all_eq_true, decide_eq_true_eq, Bool.or_eq_true, Bool.not_eq_true', decide_eq_false_iff_not] at h
  obtain ⟨h1, h2, h3, h4, h5⟩ := h
  refine ⟨h1, h2, h3, fun y hy e => ?_, fun y hy e => ?_⟩
  · rcases h4 y hy with z | z
    · exact absurd e z
    · exact z
  · rcases h5 y hy with z | z
    · simp only [Bool.or_eq_false_iff, decide_eq_false_iff_not] at z
      rcases e with e | e
      · exact absurd e z.1
      · exact absurd e z.2
    · exact z
end DL
end

section
set_option Elab.async false
set_option linter.all false
set_option maxRecDepth 100000
set_option maxHeartbeats 4000000
/-! An own error under another own one under ValueError; its __init__ says super().__init__(words), then keeps its argument as at. Made by a call. -/
namespace AtX
open PySem PySem.W PySem.Calls PyProof.Rows
open PySem.HandSPX (refsVE refsVE_contains exc_osa call_own)
def iA (p1 p2 : Pos) : Arguments := { posonlyargs := [], args := [{ arg := "self", annotation := none, pos := p1 }, { arg := "at", annotation := none, pos := p2 }], vararg := none, kwonlyargs := [], kw_defaults := [], kwarg := none, defaults := [] }
def iB (z : Str) (k : Nat) (q1 q2 q3 q4 q5 q6 r1 r2 r3 r4 : Pos) : List Stmt := [.Expr (.Call (.Attribute (.Call (.Name "super" q1) [] [] q2) "__init__" q3) [.Constant (.str z) k q4] [] q5) q6, .Assign [.Attribute (.Name "self" r1) "at" r2] (.Name "at" r3) r4]
def iS : Scope := { kind := .function, names := [(PySem.Str.ofString "self", .local), (PySem.Str.ofString "at", .local), (PySem.Str.ofString "__class__", .free), (PySem.Str.ofString "super", .globalImplicit)], isGenerator := false, isCoroutine := false, more := [] }
/-- the error's class, as the written part has it -/
structure AtC (P : Program) (K : Frag) (C fI cc cda : Addr) : Prop where
  cls : ∃ nm q N bs bm sn sub ab col dd k0 k1 k2 k3 k5, K.lookup C = some (excClassObj nm q C N bs bm true sn sub ab col dd k0 k1 k2 k3 k5 "ValueError.__new__") ∧ refsVE bm = true
  sa : findIn K (.ref C) "__setattr__" = some (some (.builtin "object.__setattr__"))
  noN : findIn K (.ref C) "at" = some none
  iC : findIn K (.ref C) "__init__" = some (some (.ref fI))
  tC : typeIn K (.ref fI) = some (.type "function")
  kC : keepIn K (.ref C) = true
  exC : subIn K (.ref C) (.type "BaseException") = some true
  veC : subIn K (.ref C) (.type "ValueError") = some true
  meC : mroIn K C (.ref C) = some true
  tyC : typeIn K (.ref C) = some (.type "type")
  up : ks_superIn K C C "__init__" = some (some (.builtin "ValueError.__init__"))
  opq : nsIn K cStatics "thirdparty.any" = some none
  sup : nsIn K mainGlobals "super" = some none
  cell : ∃ cl cld csl, K.lookup cc = some ⟨cl, cld, .cell (some (.ref C)), csl⟩
  code : ∃ ccl cdd vs ccs file tf, K.lookup cda = some ⟨ccl, cdd, .fields vs, ccs⟩ ∧ vs[2]? = some (.str file tf) ∧ ((P.main.file : Str) == file) = true
  noTop : (P.main.scope.names.lookup ("super" : Str)).isSome = false
  fn : ∃ (qn : Str) (oc : Value) (od : Option Addr) (doc pm : Value) (an : Option Addr) (ct : Value) (osl : Array (Option Value)) (z : Str) (k : Nat) (p1 p2 q1 q2 q3 q4 q5 q6 r1 r2 r3 r4 : Pos),
    K.lookup fI = some ⟨oc, od, .func (ksFn "__init__" qn (iA p1 p2) (iB z k q1 q2 q3 q4 q5 q6 r1 r2 r3 r4) iS .none .none doc pm an (.ref cda) ct cc), osl⟩ ∧ codeIn K (.ref cda) qn = true ∧
      ∀ L : Addr, ∃ pl : Sem Bool, eval (.Call (.Attribute (.Call (.Name "super" q1) [] [] q2) "__init__" q3) [.Constant (.str z) k q4] [] q5) (ksEnv qn iS L fI (.ref cda) cc) = (do
        let ov ← attributeBase (.Call (.Name "super" q1) [] [] q2) "__init__" (ksEnv qn iS L fI (.ref cda) cc) (eval (.Call (.Name "super" q1) [] [] q2) (ksEnv qn iS L fI (.ref cda) cc))
        standAt q3.atName
        let (f, first) ← holding [ov] (getMethod ov "__init__" pl)
        callWith q5 f first (backTo q5 (starEach [.Constant (.str z) k q4] (ksEnv qn iS L fI (.ref cda) cc))) [])
theorem one_size (v : Value) : [v].length ≤ sizeLine := by
  rw [sizeLine_eq]
  exact (by decide : 1 ≤ 16777216)
abbrev exc2 (C t : Addr) (d : Option Addr) : Obj := { cls := .ref C, dict := d, data := .fields #[.ref t, .none, .none, .none, .bool false, .none] }
/-- what __init__ leaves of a fresh error at x -/
structure InitEnd (h h' : Heap) (x C dx t1 : Addr) (v : Value) : Prop where
  keep : ∀ b o, b ≠ x → h.get? b = some o → h'.get? b = some o
  obj : h'.get? x = some (exc2 C t1 (some dx))
  dbig : h.objs.size ≤ dx
  dne : dx ≠ x
  ns : h'.Ns1 dx (fun y => if y = "at" then some v else none)
/-- a made error -/
structure OwnMade (h h' : Heap) (e C d : Addr) (v : Value) : Prop where
  keep : ∀ b o, h.get? b = some o → h'.get? b = some o
  new : h.objs.size ≤ e
  obj : ∃ t1, h'.get? e = some (exc2 C t1 (some d))
  dbig : h.objs.size ≤ d
  dne : d ≠ e
  ns : h'.Ns1 d (fun y => if y = "at" then some v else none)
section
variable {prog : Program} {w : World} {A : Around} {E : Value → Shared → Prop} {h : Heap} {g : Array GenState} {d : Drawn} {t : Nat} {os : OsState}
/-- ValueError.__init__ bound to the error, called -/
theorem call_mw {nm q : Str} {C N : Addr} {bs bm : List Value} {hdct : Bool} {sn : List Str} {sub : List Value} {ab : Bool} {col : Option Bool} {dd : Option Addr} {k0 k1 k2 k3 k5 : Option Value} {u e t0 : Addr} {rest : List Value} {Q : Value → Shared → Prop}
    (hC : h.get? C = some (excClassObj nm q C N bs bm hdct sn sub ab col dd k0 k1 k2 k3 k5 "ValueError.__new__")) (he : h.get? e = some (exc2 C t0 none)) (hu : h.get? u = some (kxs_mw "ValueError.__init__" e)) (hrest : rest.length ≤ sizeLine)
    (hq : ∀ h' t1, (∀ b o, b ≠ e → h.get? b = some o → h'.get? b = some o) → h'.get? e = some (exc2 C t1 none) → Q .none ⟨h', g, d, t, os⟩) :
    wpAny (model prog w) A (call (.ref u) rest) Q E ⟨h, g, d, t, os⟩ := by
  refine wpAny_call (codeAny_of_tree ?_)
  show wpAny _ A.in1 (callAny (.ref u) ⟨rest, []⟩) _ _ _
  simp only [callAny]
  refine wpAny_bind (wpAny_load hu ?_)
  simp only [kxs_mw, show (Value.type "method-wrapper" == Value.type "method" || Value.type "method-wrapper" == Value.type "builtin_function_or_method" || Value.type "method-wrapper" == Value.type "method-wrapper") = true by decide, if_true]
  refine KFB.if_so (by decide) ?_
  refine wpAny_bind (check_bound_init F.excBase_ValueError.toExcCallFacts hC he rfl ?_)
  refine wpAny_bind (wpAny_pure (wpAny_pure ?_))
  refine ⟨plainId_quiet F.excBase_ValueError.init.plain _, codeAny_builtin F.excBase_ValueError.initEntry ?_⟩
  exact exc_init_tree (cls := .ref C) (t0 := t0) (dv := none) (c2 := .none) (c3 := .none) (b4 := .bool false) he hrest fun h' k e' _ => hq h' _ k e'
end
section
variable {prog : Program} {w : World} {A : Around} {R : Result → Shared → Prop} {s : Shared} {K : Frag} {mg mb : Str → Option Value} {C fI cc cda : Addr}
theorem at_init (T : AtC prog K C fI cc cda) {x t0 : Addr} {v : Value} (X : K.In s.heap) (hlim : s.heap.NoLimit) (hg : s.heap.Ns mainGlobals mg) (hb : s.heap.Ns builtinsNs mb) (hmb : mb "super" = some (.type "super")) (hx : s.heap.get? x = some (exc2 C t0 none)) (hnx : K.lookup x = none) (hroom : A.depth < recursionLimit)
    (hq : ∀ h' tk dx t1, InitEnd s.heap h' x C dx t1 v → R (.ok (.ret .none)) { s with heap := h', toks := tk }) :
    codeAny (model prog w) A (.call (.ref fI) ⟨[.ref x, v], []⟩) R s := by
  obtain ⟨qn, oc, od, doc, pm, an, ct, osl, z, k, p1, p2, q1, q2, q3, q4, q5, q6, r1, r2, r3, r4, ho, hcd, hmc⟩ := T.fn
  obtain ⟨pl, hpl⟩ := hmc s.heap.objs.size
  obtain ⟨nm, q, N, bs, bm, sn, sub, ab, col, dd, k0, k1, k2, k3, k5, hC, hbm⟩ := T.cls
  obtain ⟨cl, cld, csl, hcell⟩ := T.cell
  obtain ⟨ccl, cdd, vs, ccs, file, tf, hcode, hvs, hfile⟩ := T.code
  have hcl : clsIn K C = some { name := nm, bases := bs, mro := .ref C :: bm, ns := N, qualname := q, hasDict := true, slotNames := sn, subclasses := sub, abstract := ab, collection := col, hasDel := false } := by unfold clsIn; rw [hC] <;> rfl
  refine ks_codeAny_call_defAt (fd := ksFn "__init__" qn (iA p1 p2) (iB z k q1 q2 q3 q4 q5 q6 r1 r2 r3 r4) iS .none .none doc pm an (.ref cda) ct cc) (body := iB z k q1 q2 q3 q4 q5 q6 r1 r2 r3 r4) (binds := [("self", .ref x), ("at", v)]) hroom (X _ _ ho) rfl hlim (codeRec_of X hcd) rfl (BindsTo.of_eq (by first | rfl | with_unfolding_all rfl)) (show ∀ y ∈ iS.names, y.2 ≠ .cell by decide) (locs rfl) (fun h₁ hn kk => ?_) rfl rfl rfl
  show _root_.PySem.wpAt (model prog w) _ _ (execs _ (ksEnv qn iS s.heap.objs.size fI (.ref cda) cc)) _ _ _
  obtain ⟨hp, g, dr, tk, os⟩ := s
  have X1 : K.In h₁ := X.keeps kk
  have hx1 := kk _ _ hx
  have hC1 := X1 _ _ hC
  have I1 : InstAt h₁ x (exc2 C t0 none) C none := ⟨hx1, rfl, rfl, trivial⟩
  refine ks_wpAt_execs_cons ?_
  refine ks_wpAt_Expr_any ?_
  refine ks_wpAt_MethodCall (pl := pl) ?_ hpl
  refine ks_wpAt_super_base (env := ksEnv qn iS hp.objs.size fI (.ref cda) cc) (by rfl) (by rfl) (by decide) rfl (X1 _ _ ho) rfl rfl rfl (X1 _ _ hcode) rfl hvs hfile T.noTop ?_
  refine ks_loadName_global rfl (by rfl) (loadGlobal_builtin (env := ksEnv qn iS hp.objs.size fI (.ref cda) cc) (hg.keeps kk) (mg_none_of X hg T.sup) (hb.keeps kk) hmb ⟨rfl, ?_⟩)
  refine wpAny_loadName_free rfl (by rfl) rfl ⟨_, X1 _ _ hcell, rfl⟩ ?_
  refine wpAny_loadName_local rfl (by rfl) hn (by first | rfl | with_unfolding_all rfl | kernel_rfl) ?_
  refine ks_wpAny_isType_cls hC1 rfl ⟨rfl, ?_⟩
  refine ks_wpAny_call_super hC1 rfl hx1 rfl (fun c e => by cases e) (looks_mroIn X1 T.meC) (fun h2 hso k2 => ?_)
  have X2 : K.In h2 := X1.keeps k2
  have hx2 := k2 _ _ hx1
  have I2 : InstAt h2 x (exc2 C t0 none) C none := ⟨hx2, rfl, rfl, trivial⟩
  have up := T.up
  unfold ks_superIn at up
  rw [hcl] at up
  refine kxs_getMethod kxs_ValueError hso (looks_opaque X2 T.opq) (l₀ := .ref C :: bm) ?_ rfl X2 up (I2.type.andThen (looks_subIn X2 T.veC)) (ks_ne X2 I2 hcl) (by decide) ?_
  · exact fun A Q E s k q => wpAny_bind ((looks_clsIn X2 hcl) A _ E s k (wpAny_pure q))
  have k3' : ∀ b o, h2.get? b = some o → (h2.push (kxs_mw "ValueError.__init__" x)).get? b = some o := fun b o e => Heap.get?_push_of_some _ e
  have hu : (h2.push (kxs_mw "ValueError.__init__" x)).get? h2.objs.size = some (kxs_mw "ValueError.__init__" x) := Heap.get?_push_at rfl rfl
  show wpAny _ _ (callWith _ (Value.ref h2.objs.size) [] (backTo _ (starEach [Expr.Constant (.str z) k q4] _)) []) _ _ _
  refine kxs_callWith (i := "ValueError.__init__") (x := x) rfl (evalArgs_plain (spliced_more (wpAny_Constant_str (spliced_none ?_)) rfl))
  refine ⟨hu, ?_⟩
  refine call_mw (k3' _ _ (X2 _ _ hC)) (k3' _ _ hx2) hu (one_size _) fun h4 t1 k4 hx4 => ?_
  -- self.at = at
  have kAll : ∀ b o, b ≠ x → h₁.get? b = some o → h4.get? b = some o := fun b o hb e => k4 b o hb (k3' b o (k2 b o e))
  have X4 : K.In h4 := fun a o e => kAll a o (fun y => by rw [y, hnx] at e; cases e) (X1 a o e)
  have hxL : hp.objs.size ≠ x := Nat.ne_of_gt (Heap.lt_size hx)
  have hn4 : h4.Ns hp.objs.size (fun y => [(("at" : Str), v), (("self" : Str), Value.ref x)].lookup y) := by
    obtain ⟨oL, es, ep, e1, e2⟩ := hn
    exact ⟨oL, es, ep, kAll _ _ hxL e1, e2⟩
  refine wpAt_of_wpAny ?_
  show wpAny _ _ (execs _ _) _ _ _
  refine wpAny_execs_cons (plainObj_wpAny_Assign_Attribute ?_ rfl)
  refine wpAny_Name (wpAny_loadName_local rfl (by rfl) hn4 (v := v) (by first | rfl | with_unfolding_all rfl | kernel_rfl) ?_) (by decide)
  refine wpAny_Name (wpAny_loadName_local rfl (by rfl) hn4 (v := .ref x) (by first | rfl | with_unfolding_all rfl | kernel_rfl) ?_) (by decide)
  refine set_plain X4 (ox := exc2 C t1 none) (od := none) ⟨hx4, rfl, rfl, trivial⟩ T.sa ?_
  refine exc_osa X4 hx4 hcl (show refsVE (.ref C :: bm) = true from hbm) rfl T.noN (fun h5 tk5 dx k5' dn dne hx5 hn5 => ?_)
  show wpAny _ _ (execs _ _) _ _ _
  exact wpAny_execs_nil (hq h5 tk5 dx t1 ⟨fun b o hb e => k5' b o hb (kAll b o hb (kk b o e)), hx5, Nat.le_of_lt (Nat.lt_of_lt_of_le hn4.lt dn), dne, hn5⟩)
end
end AtX
namespace AtX
open PySem PySem.W PySem.Calls PyProof.Rows
open PySem.HandSPX (refsVE refsVE_contains exc_osa call_own)
section
variable {prog : Program} {w : World} {A : Around} {R : Result → Shared → Prop} {s : Shared} {K : Frag} {mg mb : Str → Option Value} {C fI cc cda : Addr}
theorem at_made (T : AtC prog K C fI cc cda) {v : Value} (X : K.In s.heap) (hlim : s.heap.NoLimit) (hg : s.heap.Ns mainGlobals mg) (hb : s.heap.Ns builtinsNs mb) (hmb : mb "super" = some (.type "super")) (hroom : A.depth + 1 < recursionLimit)
    (hq : ∀ h' tk e d, OwnMade s.heap h' e C d v → R (.ok (.ret (.ref e))) { s with heap := h', toks := tk }) :
    codeAny (model prog w) A (.call (.ref C) ⟨[v], []⟩) R s := by
  obtain ⟨nm, q, N, bs, bm, sn, sub, ab, col, dd, k0, k1, k2, k3, k5, hC, hbm⟩ := T.cls
  obtain ⟨hp, g, dr, tk, os⟩ := s
  have k : ∀ b o, hp.get? b = some o → ((hp.push (kdv_tup [v])).push (exc2 C hp.objs.size none)).get? b = some o := fun b o e => Heap.get?_push_of_some _ (Heap.get?_push_of_some _ e)
  have hget : ((hp.push (kdv_tup [v])).push (exc2 C hp.objs.size none)).get? (hp.objs.size + 1) = some (exc2 C hp.objs.size none) := by heap_get
  have hnx : K.lookup (hp.objs.size + 1) = none := by
    cases e : K.lookup (hp.objs.size + 1) with
    | none => rfl
    | some o =>
      have z : hp.get? (hp.objs.size + 1) = some o := X _ _ e
      exact absurd (Nat.lt_of_succ_lt (Heap.lt_size z)) (Nat.lt_irrefl _)
  refine call_own F.excBase_ValueError (fun X => refsVE_contains X bm hbm) (X _ _ hC) (looks_findIn X T.iC) (fun self => bind_fn X self T.tC) (one_size v) ?_
  refine at_init (s := ⟨(hp.push (kdv_tup [v])).push (exc2 C hp.objs.size none), g, dr, tk, os⟩) T (X.keeps k) (hlim.keeps k) (hg.keeps k) (hb.keeps k) hmb hget hnx ?_ fun h' tk' dx t1 ⟨k', hx, dn, dne, hns⟩ => ?_
  · show A.depth + 1 < recursionLimit
    exact hroom
  · have old : ∀ b o, hp.get? b = some o → h'.get? b = some o := fun b o e => k' b o (Nat.ne_of_lt (Nat.lt_succ_of_lt (Heap.lt_size e))) (k b o e)
    have z : hp.objs.size + 1 + 1 ≤ dx := by
      first
        | (simpa only [Heap.size_push] using dn)
        | exact dn
        | (have q := dn; rw [Heap.size_push, Heap.size_push] at q; exact q)
    exact ⟨rfl, hq h' tk' (hp.objs.size + 1) dx ⟨old, Nat.le_succ _, ⟨t1, hx⟩, Nat.le_trans (Nat.le_trans (Nat.le_succ _) (Nat.le_succ _)) z, dne, hns⟩⟩
end
end AtX
namespace L2
open PySem PySem.Spec PyProof.Rows
theorem relO_at {v : V} {v' : Value} (r : RelV v v') (f : Str) : RelO (List.lookup f [(("at" : Str), v)]) (if f = "at" then some v' else none) := by
  by_cases hw : f = "at"
  · subst hw
    rw [if_pos rfl]
    have q : List.lookup ("at" : Str) [(("at" : Str), v)] = some v := by simp [List.lookup]
    rw [q]
    exact r
  · rw [if_neg hw]
    have qw : (f == ("at" : Str)) = false := by simpa using hw
    have q2 : List.lookup f [(("at" : Str), v)] = none := by simp [List.lookup, qw]
    rw [q2]
    trivial
section
variable {X : Cx} {C fI cc cda : Addr} {x : Str}
/-- x(e), x such an error -/
def tMkAt (C : Addr) (ta : TA) : St → Hp → XK → Prop := fun σ H Q => ta σ H fun vs H1 => ∃ v, vs = [v] ∧ ∀ d, H1 d = none → Q (.ref C) (some d) (upd H1 d (.xd [(("at" : Str), v)]))
theorem mk_at {pins : List (Addr × Obj)} {σ : St} {H1 : Hp} {Q : XK} {s1 : Shared} {v : V} {v' : Value} {k : Nat} (T : AtX.AtC X.prog X.K C fI cc cda) (hr : Room k X.A) (I1 : Inv X pins σ H1 s1) (rv : RelV v v')
    (q1 : ∀ d, H1 d = none → Q (.ref C) (some d) (upd H1 d (.xd [(("at" : Str), v)]))) : wpAny (model X.prog X.w) X.A (call (.ref C) [v']) (MkP X pins σ Q) X.xe s1 := by
  have hlim := I1.nolimit
  obtain ⟨mb, hb1, hb2⟩ := I1.mod.blt
  have hmb : mb "super" = some (.type "super") := (hb2 _ (by decide)).trans (by decide +kernel)
  have hgl := I1.mod.glob.keeps I1.bk
  have hbl := hb1.keeps I1.bk
  obtain ⟨hp, g, dr, tk, os⟩ := s1
  refine wpAny_call (AtX.at_made T I1.kIn hlim hgl hbl hmb (by have := hr.dp; omega) fun h' tk' e d M => ?_)
  show MkP X pins σ Q (.ref e) ⟨h', g, dr, tk', os⟩
  obtain ⟨t1, hoe⟩ := M.obj
  have hns := M.ns
  obtain ⟨G', g1, g2⟩ := restrict h' fun b => decide (b ≠ e)
  have gk : ∀ b, b ≠ e → G'.get? b = h'.get? b := fun b hb => g1 b (decide_eq_true hb)
  have ge : G'.get? e = none := g2 e (by simp)
  have old : ∀ b o, hp.get? b = some o → G'.get? b = some o := fun b o q => (gk b (Nat.ne_of_lt (Nat.lt_of_lt_of_le (Heap.lt_size q) M.new))).trans (M.keep b o q)
  have ob : ObjOk X.prog X.w (upd H1 d (.xd [(("at" : Str), v)])) G' d (.xd [(("at" : Str), v)]) :=
    ⟨_, hns.at (fun o q => (gk d M.dne).trans q), fun f => relO_at rv f⟩
  have J : Inv X pins σ (upd H1 d (.xd [(("at" : Str), v)])) ⟨G', g, dr, tk', os⟩ := I1.laid (t' := tk') old M.dbig ob
  refine ⟨e, _, _, ⟨G', g, dr, tk', os⟩, _, .ref C, some d, rfl, J, fun b o q => ?_, ge, hoe, ⟨rfl, rfl⟩, rfl, rfl, ?_, rfl, I1.bare, raises_own T.exC T.tyC, q1 d (I1.hok.fresh M.dbig)⟩
  · by_cases hb : b = e
    · have q' : G'.get? b = some o := q
      rw [hb, ge] at q'; cases q'
    · exact (gk b hb).symm.trans q
  · rw [upd_ne (Ne.symm M.dne)]
    exact I1.hok.fresh M.new
theorem pmk_at {a : Expr} {ta : TA} {p pos : Pos} {k : Nat} (T : AtX.AtC X.prog X.K C fI cc cda) (gC : X.mg x = some (.ref C)) (hr : Room k X.A) (ha : PA X [a] ta) (hg : Gl X x) (hdb : (x == ("__debug__" : Str)) = false := by decide)
    (he : starEach (a :: []) X.env = (false, eval a X.env) :: starEach [] X.env := by rfl) (hpl : (backTo pos (starEach [] X.env)).any (·.1) = false := by rfl) :
    PMk X (.Call (.Name x p) [a] [] pos) (tMkAt C ta) := by
  intro pins s σ H Q I h
  refine wpAny_Call_Name_kw (ld_glob I hg gC ?_ hdb)
  refine PySem.W.callWith_K (h₀ := X.base) I.ok.mod.kin T.kC (thn (ha.run pos pins s σ H _ I h) fun us s1 hh => ?_) he hpl
  obtain ⟨vs, H1, I1, r1, v, ev, q1⟩ := hh
  subst ev
  refine ⟨I1.kIn, ?_⟩
  cases r1 with
  | cons rv rn =>
    cases rn
    exact mk_at T hr I1 rv q1
end
end L2
end

section
set_option Elab.async false
set_option linter.all false
set_option maxRecDepth 100000
/-! Errors in the D layer: raise C(e); try: .. except C as n: return n.at -/
namespace DL
open PySem PySem.Spec PyProof.Rows L2
section
variable {X : Cx} {A : List V} {W : WX} {S S' : Cfg} {σ : L2.St} {ρ : Env'}
def sRaise (c : Str) (f : EM D) : SM := fun ρ => (f ρ).fl fun d ρ1 => .er c d ρ1
theorem psd_raise {x : Str} {C fI cc cda : Addr} {k : Nat} {a : Expr} {f : EM D} {p pos pos2 : Pos} (T : AtX.AtC X.prog X.K C fI cc cda) (gC : X.mg x = some (.ref C)) (hr : Room k X.A) (hc : X.calm = true) (tk : Takes X W) (hg : Gl X x) (ha : PD X A W a f)
    (hdb : (x == ("__debug__" : Str)) = false := by decide) (he : starEach (a :: []) X.env = (false, eval a X.env) :: starEach [] X.env := by rfl) (hpl : (backTo pos (starEach [] X.env)).any (·.1) = false := by rfl) :
    PSD X A W (.Raise (some (.Call (.Name x p) [a] [] pos)) none pos2) (sRaise x f) := PS.imp (ps_raise hc tk (pmk_at T gC hr (pa_cons ha pa_nil he) hg hdb he hpl)) fun D' σ H h => by
  obtain ⟨S, ρ, rfl, s, h⟩ := h
  refine tD_fl s h fun d ρ1 S1 v hp ev s1 r => ?_
  refine ⟨v, rfl, fun cd hd => ?_⟩
  have g : Gr S1 (S1.raw cd (.xd [(("at" : Str), v)])) := .raw s1.sub hd
  exact hp (S1.raw cd (.xd [(("at" : Str), v)])) σ C cd v gC (ev.trans g.ev) (s1.gr g) upd_same r
/-- which of these errors an except clause of c0 hears: c0 alone -/
def Hears (K : PySem.W.Frag) (mg : Str → Option Value) (cs : List Str) (c0 : Str) (C0 : Addr) : Prop := ∀ c ∈ cs, ∀ C, mg c = some (.ref C) → PySem.W.exmOne K (.ref C) (.ref C0) = some (decide (c = c0))
def sTryAt (cs : List Str) (c0 : Str) (i : Nat) (b : SM) : SM := fun ρ => match b ρ with
  | .er c d ρ1 => if c ∈ cs ∧ i < ρ1.length ∧ isIo ρ1[i]? = false then (if c = c0 then .rt d (ρ1.set i .no) else .er c d ρ1) else .stuck
  | r => r
theorem psd_tryAt {x n : Str} {C0 : Addr} {cs : List Str} {b : SM} {body : List Stmt} {np p1 p2 p3 pos pos' : Pos} (i : Nat) (hs : X.stack = X.env :: X.outer) (hf : X.env.frame = some X.env.locals) (hN : X.N.Nodup) (hi : X.N[i]? = some n) (hln : X.env.kindOf n = some .local)
    (hg : Gl X x) (hdb : (x == ("__debug__" : Str)) = false) (gC : X.mg x = some (.ref C0)) (tx : XfC X.K C0) (hno : PySem.W.findIn X.K (.ref C0) "at" = some none) (hx : Hears X.K X.mg cs x C0) (tk : Takes X W)
    (hv : Vis X.env.scope n := by first | exact Or.inl rfl | exact Or.inr (Or.inl rfl) | exact Or.inr (Or.inr rfl)) (hab : ∀ Y : Cx, Y.env = X.env → attributeBase (.Name n p1) "at" Y.env (eval (.Name n p1) Y.env) = eval (.Name n p1) Y.env := by intro Y h; rw [h]; rfl)
    (hnd : (n == ("__debug__" : Str)) = false := by decide) (hnc : (n == ("__classdict__" : Str)) = false := by decide)
    (hb : ∀ (W' : WX) (pn : List (Addr × Obj)) (xe : Value → Shared → Prop), Takes (X.tr pn xe) W' → PassesOwn (model X.prog X.w) X.A X.env xe → PSsD (X.tr pn xe) A W' body b) :
    PSD X A W (.Try body [.ExceptHandler (some (.Name x np)) (some n) [.Return (some (.Attribute (.Name n p1) "at" p2)) p3] pos'] [] [] pos) (sTryAt cs x i b) := by
  refine PS.imp (ps_try_as (i := i) (tb := fun W' => tS X.K X.mg A W' b) (ts := fun a cls d => tRet (tXf a cls d C0 "at" (tVar i))) hs hf hN hi hln ⟨hg, hdb, .inl gC⟩ tk (fun W' pn xe tk' ps => hb W' pn xe tk' ps) fun a oe cls d pn hz hd => ?_) ?_
  · exact pss_one (ps_ret (pe_xf tx hno hz hd (pe_var hi hv hnd hnc) (hab (X.suite a ((a, oe) :: pn)) rfl)))
  · intro D' σ H h
    obtain ⟨S, ρ, rfl, s, h⟩ := h
    refine ⟨S, ρ, rfl, s, ?_⟩
    unfold sTryAt at h
    cases e : b ρ with
    | nx ρ' =>
      rw [e] at h
      exact h
    | rt d ρ' =>
      rw [e] at h
      exact h
    | bk ρ' =>
      rw [e] at h
      exact h
    | ct ρ' =>
      rw [e] at h
      exact h
    | stuck =>
      rw [e] at h
      exact h
    | er c d ρ1 =>
      rw [e] at h
      simp only at h
      split at h
      · rename_i hc
        obtain ⟨hc1, hc2, hc3⟩ := hc
        intro S' σ' C cd v gc ev s' hcd r
        have hm := hx c hc1 C gc
        refine ⟨decide (c = x), hm, fun hy a ha => ?_, fun hy => ?_⟩
        · have ec : c = x := of_decide_eq_true hy
          rw [if_pos ec] at h
          have eC : Value.ref C = Value.ref C0 := by
            rw [ec, gC] at gc
            exact (Option.some.inj gc).symm
          have hl : i < σ'.length := by rw [s'.len]; exact hc2
          refine ⟨.ref a, List.getElem?_set_self hl, rfl, eC, cd, _, v, rfl, hcd, rfl, ?_⟩
          exact h S' (σ'.set i (some (.ref a))) v ev (s'.put (fpi := fun _ => False) hc3 rfl trivial (fun _ z => z.elim) fun _ _ _ _ _ _ z => z.elim) r
        · have ec : ¬ c = x := of_decide_eq_false hy
          rw [if_neg ec] at h
          exact h S' σ' C cd v gc ev s' hcd r
      · exact h.elim
end
end DL
end

section
set_option Elab.async false
set_option linter.all false
set_option maxRecDepth 100000
/-! Instances of own classes: made, their fields set and read. -/
namespace DL
open PySem PySem.Spec PyProof.Rows L2
/-! ### hand layer: made by a call, the promise knows that no repr is under way -/
def tMakeS (C : Addr) (sp : Sp) (E : L2.St → XK) (t : TA) : TE := fun σ H Q => t σ H fun vs H1 => ∀ x dx, H1 x = none → H1 dx = none → dx ≠ x → sp (.ref x :: vs) (upd (upd H1 dx (.own x)) x (.ins C dx [])) (fun v H2 => v = .non ∧ Q (.ref x) H2) (E σ)
section
variable {X : Cx} {k : Nat} {f C : Addr} {fd : FuncData} {ps : List Str} {sp : Sp} {E : L2.St → XK} {x : Str} {p pos : Pos} {e : Expr} {es : List Expr} {t : TA}
theorem make_guards {A : Around} {C : Addr} {us : List Value} {kw : List (Str × Value)} : (A.under (.builtin "type.__call__" ⟨.ref C :: us, kw⟩)).guards = A.guards := by
  first
    | rfl
    | (simp [Around.under])
theorem pe_makeG (M : Mk X.K C f) (F : FnG X.prog X.w X.K X.mg X.base k f fd ps sp) (hr : Room (k + 1) X.A) (hgd : X.A.guards = some []) (hg : Gl X x) (hm : X.mg x = some (.ref C)) (hb : Binds X.K fd ps []) (hx : ∀ σ, PassesAt (L2.CX X.prog X.w) X σ (E σ))
    (ha : PA X (e :: es) t) (hdb : (x == ("__debug__" : Str)) = false := by decide) (he : starEach (e :: es) X.env = (false, eval e X.env) :: starEach es X.env := by rfl) (hpl : (backTo pos (starEach es X.env)).any (·.1) = false := by rfl) :
    PE X (.Call (.Name x p) (e :: es) [] pos) (tMakeS C sp E t) := by
  refine ⟨fun pins s σ H Q I h => ?_⟩
  refine wpAny_Call_Name_kw (ld_glob I hg hm ?_ hdb)
  refine PySem.W.callWith_K (h₀ := X.base) I.ok.mod.kin M.kp (thn (ha.run pos pins s σ H _ I h) fun us s1 ⟨vs, H1, I1, r, q⟩ => ⟨I1.kIn, ?_⟩) he hpl
  have hq := q (s1.heap.objs.size + 1) s1.heap.objs.size (I1.hok.fresh (Nat.le_succ _)) (I1.hok.fresh (Nat.le_refl _)) (Nat.ne_of_lt (Nat.lt_succ_self _))
  have I2 := Inv.made (C := C) I1
  have r2 : Vals (V.ref (s1.heap.objs.size + 1) :: vs) (Value.ref (s1.heap.objs.size + 1) :: us) := .cons rfl r
  have hl : (Value.ref (s1.heap.objs.size + 1) :: us).length = ps.length := by
    have e := r2.length
    rw [F.len _ _ _ _ hq] at e
    exact e.symm
  have b := hb { s1 with heap := (s1.heap.push PySem.W.emptyDict).push (PySem.W.instObj C s1.heap.objs.size) } (Value.ref (s1.heap.objs.size + 1) :: us) I2.kIn (by simpa using hl)
  rw [List.append_nil] at b
  refine wpAny_call (make_map (f := f) I1.kIn M.makes M.init (beq_iff_eq.mp M.fn) (codeAny_mono (F.run _ X.stack _ _ ⟨Value.ref (s1.heap.objs.size + 1) :: us, []⟩ (Value.ref (s1.heap.objs.size + 1) :: us) _ _ (E σ) (hr.make C us []) (make_guards.trans hgd)
    (I2.env0.make C us []) b r2 hq) fun r s' hq' => ?_))
  cases r with
  | error e => exact hx σ pins _ _ e s' I2 hq'
  | ok fl =>
    cases fl with
    | ret u =>
      obtain ⟨v, H', I3, rv, ev, q3⟩ := I2.after hq'
      subst ev
      exact ⟨rv, ⟨V.ref (s1.heap.objs.size + 1), H', I3, rfl, q3⟩⟩
    | next => exact False.elim hq'
    | brk => exact False.elim hq'
    | cont => exact False.elim hq'
end
/-! ### the D layer -/
section
variable {X : Cx} {A : List V} {W : WX} {S S' : Cfg} {σ : L2.St} {ρ : Env'}
/-- what the made one is, behind __init__ -/
def madeOf (c : Str) : List Sl → Option (List Str × List D)
  | .ow true (.obj c' ns xs) :: _ => if c' = c then some (ns, xs) else none
  | _ => none
def eMakeK (c : Str) (sem : Sem') (ds : List D) : EM D := fun ρ => match sem (.ow true (.obj c [] []) :: ds.map Sl.va) with
  | .ok .non ps' => match madeOf c ps' with
    | some (ns, xs) => .ok (.ins c ns xs) ρ
    | none => .stuck
  | .err e d _ => .err e d ρ
  | _ => .stuck
def eMake (c : Str) (sem : Sem') (fs : List (EM D)) : EM D := fun ρ => (argGo (fs.map Opd.ev) ρ).bind fun ds ρ1 => eMakeK c sem ds ρ1
theorem RDs.map_va {K : PySem.W.Frag} {mg : Str → Option Value} {F : Hp} : ∀ {ds : List D} {vs : List V} {i : Nat} {sl : Sl}, RDs K mg F ds vs → (ds.map Sl.va)[i]? = some sl → ∃ d v, sl = .va d ∧ vs[i]? = some v ∧ RD K mg F d v := fun {ds vs i sl} r e => by
  rw [List.getElem?_map] at e
  cases q : ds[i]? with
  | none =>
    rw [q] at e
    cases e
  | some d =>
    rw [q] at e
    cases e
    obtain ⟨v, h1, h2⟩ := r.get q
    exact ⟨d, v, rfl, h1, h2⟩
theorem make_sp {n : Nat} {sem : Sem'} {Q : VK} {ds : List D} {vs : List V} {c : Str} {C x dx : Addr} (gC : X.mg c = some (.ref C)) (hn : vs.length + 1 = n) (s : Sat X.K X.mg A S σ ρ) (ha : RDs X.K X.mg S.F ds vs) (hx : S.H x = none) (hdx : S.H dx = none) (hne : dx ≠ x)
    (h : PostE X.K X.mg A W Q S σ (eMakeK c sem ds ρ)) : spD X.K X.mg n sem (.ref x :: vs) (upd (upd S.H dx (.own x)) x (.ins C dx [])) (fun v H2 => v = .non ∧ Q (.ref x) H2) (WE W σ) := by
  have oldne : ∀ {a o}, S.H a = some o → a ≠ x ∧ a ≠ dx := fun {a o} e => ⟨ne_of_none e hx, ne_of_none e hdx⟩
  let Sc : Cfg := ⟨S.F, upd (upd S.H dx (.own x)) x (.ins C dx []), fun a => a = x⟩
  have cH : ∀ {a o}, S.H a = some o → Sc.H a = some o := fun {a o} e => by
    show upd (upd S.H dx (.own x)) x (.ins C dx []) a = some o
    rw [upd_ne (oldne e).1, upd_ne (oldne e).2]
    exact e
  have Fx : S.F x = none := none_sub s.sub hx
  have satc : Sat X.K X.mg (.ref x :: vs) Sc ((V.ref x :: vs).map some) (.ow true (.obj c [] []) :: ds.map Sl.va) := by
    refine ⟨fun a o e => cH (s.sub a o e), fun p hp => ?_, fun p hp => ?_, by simp [ha.length], ⟨fun i a => i = 0 ∧ a = x, fun i sl e => ?_, fun i a z => z.2, fun i j a z1 z2 => z1.1.trans z2.1.symm⟩, fun i o e => ?_⟩
    · have hp' : p = x := hp
      rw [hp']
      exact Fx
    · have hp' : p = x := hp
      exact ⟨_, by rw [hp']; exact upd_same⟩
    · cases i with
      | zero =>
        cases e
        refine ⟨some (.ref x), rfl, .ref x, rfl, x, C, dx, [], rfl, gC, upd_same, rfl, rfl, rfl, rfl⟩
      | succ i =>
        obtain ⟨d, v, rfl, e1, e2⟩ := ha.map_va (i := i) (sl := sl) (by simpa using e)
        exact ⟨some v, by simp [e1], v, rfl, e2⟩
    · cases i with
      | zero =>
        cases e
        exact ⟨.ref x, rfl, rfl⟩
      | succ i =>
        obtain ⟨d, v, z, _, _⟩ := ha.map_va (i := i) (sl := .ow true o) (by simpa using e)
        cases z
  have back : ∀ {S' : Cfg} {vs' : List V} {σ' : L2.St} {ρ' : Env'}, Ev Sc S' → Sat X.K X.mg vs' S' σ' ρ' → (∀ ho, S'.H x = some ho → S'.F x = none → True) → Ev S ⟨S'.F, S'.H, S.O⟩ ∧ Sat X.K X.mg A ⟨S'.F, S'.H, S.O⟩ σ ρ := fun {S' vs' σ' ρ'} ev s' _ => by
    have same' : ∀ a o, S.H a = some o → S'.H a = some o := fun a o e => ev.same a o (cH e) (oldne e).1
    have newF' : ∀ a o, S.H a = some o → S'.F a = S.F a := fun a o e => ev.newF a o (cH e) (oldne e).1
    obtain ⟨fp, t1, t2, t3⟩ := s.sl
    refine ⟨⟨fun a o e _ => same' a o e, ev.frz, fun a o e _ => newF' a o e, fun p hp => .inl hp, fun a o e => ⟨o, same' a o e⟩⟩, s'.sub, fun p hp => ?_, fun p hp => ?_, s.len, ⟨fp, fun i sl e => ?_, t2, t3⟩, s.io⟩
    · obtain ⟨o, e⟩ := s.ownH p hp
      show S'.F p = none
      rw [newF' p o e]
      exact s.ownF p hp
    · obtain ⟨o, e⟩ := s.ownH p hp
      exact ⟨o, same' p o e⟩
    · obtain ⟨u, q1, q2⟩ := t1 i sl e
      exact ⟨u, q1, q2.grow ev.frz fun a o _ e => same' a o e⟩
  refine ⟨by simpa using hn, Sc, _, rfl, satc, ?_⟩
  unfold eMakeK at h
  cases hs : sem (.ow true (.obj c [] []) :: ds.map Sl.va) with
  | stuck =>
    rw [hs] at h
    exact (show False from h).elim
  | err e d ps' =>
    rw [hs] at h
    intro S' C' cd v hc ev s' hcd r
    obtain ⟨ev2, s2⟩ := back ev s' fun _ _ _ => trivial
    exact h ⟨S'.F, S'.H, S.O⟩ σ C' cd v hc ev2 s2 hcd r
  | ok d ps' =>
    rw [hs] at h
    cases d with
    | non =>
      have h1 : PostE X.K X.mg A W Q S σ (match madeOf c ps' with
        | some (ns, xs) => .ok (.ins c ns xs) ρ
        | none => .stuck) := h
      cases hm : madeOf c ps' with
      | none =>
        rw [hm] at h1
        exact (show False from h1).elim
      | some nx =>
        obtain ⟨ns, xs⟩ := nx
        rw [hm] at h1
        intro S' v ev s' r
        refine ⟨r, ?_⟩
        have hps : ∃ rest, ps' = .ow true (.obj c ns xs) :: rest := by
          unfold madeOf at hm
          split at hm
          · split at hm
            · rename_i q
              cases hm
              rw [q]
              exact ⟨_, rfl⟩
            · cases hm
          · cases hm
        obtain ⟨rest, hps⟩ := hps
        obtain ⟨fp, t1, t2, t3⟩ := s'.sl
        obtain ⟨w, e1, u, e2, p, C', dx', us, hv, hc, hp, hlen, hr, hfp⟩ := t1 0 (.ow true (.obj c ns xs)) (by rw [hps]; rfl)
        have e1' : some (some (V.ref x)) = some w := e1
        have ew : w = some (V.ref x) := (Option.some.inj e1').symm
        rw [ew] at e2
        have eu : V.ref x = u := Option.some.inj e2
        rw [← eu] at hv
        have ep : x = p := V.ref.inj hv
        subst ep
        have hO := t2 0 x hfp
        have hF := s'.ownF x hO
        obtain ⟨ev2, s2⟩ := back ev s' fun _ _ _ => trivial
        have nO : ¬ S.O x := fun z => by
          obtain ⟨o, e⟩ := s.ownH x z
          rw [hx] at e
          cases e
        have ev3 : Ev S ⟨upd S'.F x (.ins C' dx' (ns.zip us)), S'.H, S.O⟩ := Ev.fzRaw ev2 hF hx
        have s3 := s2.fzRaw hp hF nO
        exact h1 ⟨upd S'.F x (.ins C' dx' (ns.zip us)), S'.H, S.O⟩ (.ref x) ev3 s3 ⟨x, C', dx', us, rfl, hc, upd_same, hlen, hr.mono (same_upd hF)⟩
    | _ => exact (show False from h).elim
/-- c(e, ..), a new instance -/
theorem pd_make {k n : Nat} {f C : Addr} {fd : FuncData} {ps : List Str} {sem : Sem'} {x : Str} {p pos : Pos} {e : Expr} {es : List Expr} {fs : List (EM D)} (M : Mk X.K C f) (F : FnG X.prog X.w X.K X.mg X.base k f fd ps (spD X.K X.mg n sem)) (hr : Room (k + 1) X.A) (hgd : X.A.guards = some [])
    (hg : Gl X x) (hm : X.mg x = some (.ref C)) (hb : Binds X.K fd ps []) (tk : Takes X W) (hn : fs.length + 1 = n) (ha : PAr X A W (e :: es) (fs.map Opd.ev)) (hdb : (x == ("__debug__" : Str)) = false := by decide)
    (he : starEach (e :: es) X.env = (false, eval e X.env) :: starEach es X.env := by rfl) (hpl : (backTo pos (starEach es X.env)).any (·.1) = false := by rfl) : PD X A W (.Call (.Name x p) (e :: es) [] pos) (eMake x sem fs) := by
  refine PE.imp (pe_makeG M F hr hgd hg hm hb (fun σ => passAt tk σ) ha hdb he hpl) fun σ H Q h => ?_
  obtain ⟨S, ρ, rfl, s, h⟩ := h
  refine args_bind (P := PostE X.K X.mg A W Q S σ) (fun z => z) (fun _ _ _ z => z) s h fun ds ρ1 S1 vs hp ev s1 ok => ?_
  intro x' dx h1 h2 h3
  exact make_sp hm (by rw [(ok.lens).1, List.length_map]; exact hn) s1 ok.rdsEv h1 h2 h3 (PostE.ev hp ev)
/-! ### fields -/
theorem putF_zip {f : Str} {v : V} : ∀ {ns : List Str} {vs : List V}, f ∉ ns → ns.length = vs.length → putF f v (ns.zip vs) = (ns ++ [f]).zip (vs ++ [v])
  | [], [], _, _ => rfl
  | [], _ :: _, _, h => by simp at h
  | _ :: _, [], _, h => by simp at h
  | n :: ns, w :: vs, hf, hl => by
    have h1 : n ≠ f := fun z => hf (by rw [z]; exact List.mem_cons_self)
    have ih := putF_zip (f := f) (v := v) (ns := ns) (vs := vs) (fun z => hf (List.mem_cons_of_mem _ z)) (by simpa using hl)
    show putF f v ((n, w) :: ns.zip vs) = (n, w) :: (ns ++ [f]).zip (vs ++ [v])
    rw [show putF f v ((n, w) :: ns.zip vs) = (if n = f then (n, v) :: ns.zip vs else (n, w) :: putF f v (ns.zip vs)) from rfl, if_neg h1, ih]
/-- the object in slot i, owned, gets a field more -/
theorem Sat.mutO {K : PySem.W.Frag} {mg : Str → Option Value} (s : Sat K mg A S σ ρ) {i : Nat} {b : Bool} {c : Str} {ns : List Str} {xs : List D} (hi : ρ[i]? = some (Sl.ow b (.obj c ns xs))) :
    ∃ p C dx vs, σ[i]? = some (some (.ref p)) ∧ mg c = some (.ref C) ∧ S.H p = some (.ins C dx (ns.zip vs)) ∧ ns.length = vs.length ∧ RDs K mg S.F xs vs ∧ ∀ ms ys us, ms.length = us.length → RDs K mg S.F ys us → Ev S ⟨S.F, upd S.H p (.ins C dx (ms.zip us)), S.O⟩ ∧ Sat K mg A ⟨S.F, upd S.H p (.ins C dx (ms.zip us)), S.O⟩ σ (ρ.set i (.ow b (.obj c ms ys))) := by
  obtain ⟨fp, s1, s2, s3⟩ := s.sl
  obtain ⟨v, e1, u, e2, p, C, dx, vs, hv, hc, hp, hlen, hr, hfp⟩ := s1 i _ hi
  subst e2
  subst hv
  have hO := s2 i p hfp
  refine ⟨p, C, dx, vs, e1, hc, hp, hlen, hr, fun ms ys us hl r => ⟨⟨fun a o e n => ?_, fun _ _ z => z, fun _ _ _ _ => rfl, fun q h => .inl h, fun a o e => ?_⟩, ⟨fun a o e => ?_, s.ownF, fun q h => ?_, by simp [s.len], ⟨fp, fun j sl e => ?_, s2, s3⟩, fun j o e => ?_⟩⟩⟩
  · show upd S.H p (.ins C dx (ms.zip us)) a = some o
    rw [upd_ne (fun z : a = p => n (by rw [z]; exact hO))]
    exact e
  · by_cases q : a = p
    · exact ⟨_, by rw [q]; exact upd_same⟩
    · exact ⟨o, by show upd S.H p (.ins C dx (ms.zip us)) a = some o; rw [upd_ne q]; exact e⟩
  · show upd S.H p (.ins C dx (ms.zip us)) a = some o
    have na : a ≠ p := fun z => by
      rw [z, s.ownF p hO] at e
      cases e
    rw [upd_ne na]
    exact s.sub a o e
  · by_cases z : q = p
    · exact ⟨_, by rw [z]; exact upd_same⟩
    · obtain ⟨o, e⟩ := s.ownH q h
      exact ⟨o, by show upd S.H p (.ins C dx (ms.zip us)) q = some o; rw [upd_ne z]; exact e⟩
  · by_cases hj : j = i
    · subst hj
      rw [List.getElem?_set_self (List.getElem?_eq_some_iff.mp hi).1] at e
      cases e
      exact ⟨_, e1, .ref p, rfl, p, C, dx, us, rfl, hc, upd_same, hl, r, hfp⟩
    · rw [List.getElem?_set_ne (Ne.symm hj)] at e
      obtain ⟨w, q1, q2⟩ := s1 j sl e
      refine ⟨w, q1, q2.grow (fun _ _ z => z) fun q o hq hh => ?_⟩
      show upd S.H p (.ins C dx (ms.zip us)) q = some o
      have : q ≠ p := fun z => hj (s3 j i p (z ▸ hq) hfp)
      rw [upd_ne this]
      exact hh
  · by_cases hj : j = i
    · subst hj
      rw [List.getElem?_set_self (List.getElem?_eq_some_iff.mp hi).1] at e
      cases e
      exact s.io j _ hi
    · rw [List.getElem?_set_ne (Ne.symm hj)] at e
      exact s.io j o e
def ownO (c : Str) (ρ : Env') (i : Nat) : Option (Bool × List Str × List D) := match ρ[i]? with
  | some (.ow b (.obj c' ns xs)) => if c' = c then some (b, ns, xs) else none
  | _ => none
theorem ownO_eq {c : Str} {i : Nat} {b : Bool} {ns : List Str} {xs : List D} (h : ownO c ρ i = some (b, ns, xs)) : ρ[i]? = some (Sl.ow b (.obj c ns xs)) := by
  unfold ownO at h
  split at h
  · rename_i e
    split at h
    · rename_i q
      cases h
      rw [e, q]
    · cases h
  · cases h
/-- self.f = e, self an object in the making -/
def sFldD (c : Str) (i : Nat) (f : Str) (e : EM D) : SM := fun ρ => (e ρ).fl fun d ρ1 => match ownO c ρ1 i with
  | some (b, ns, xs) => if f ∉ ns ∧ ns.length < 900 then .nx (ρ1.set i (.ow b (.obj c (ns ++ [f]) (xs ++ [d])))) else .stuck
  | none => .stuck
theorem psd_fld (c : Str) {C : Addr} (i : Nat) {x f : Str} {e : Expr} {g : EM D} {p1 p2 pos : Pos} (gC : X.mg c = some (.ref C)) (hcl : Cls X.K C) (hna : NoAttr X.K C f) (he : PD X A W e g) (hN : X.N[i]? = some x := by rfl)
    (hv : Vis X.env.scope x := by first | exact Or.inl rfl | exact Or.inr (Or.inl rfl) | exact Or.inr (Or.inr rfl)) (hd : (x == ("__debug__" : Str)) = false := by decide) (hcd : (x == ("__classdict__" : Str)) = false := by decide)
    (hs : swapsWith e (some (.Attribute (.Name x p1) f p2)) pos.line X.env = pure false := by rfl) :
    PSD X A W (.Assign [.Attribute (.Name x p1) f p2] e pos) (sFldD c i f g) := PS.imp (ps_fld (pe_var hN hv hd hcd) he hs) fun D' σ H h => by
  obtain ⟨S, ρ, rfl, s, h⟩ := h
  refine tD_fl s h fun d ρ1 S1 v hp ev s1 r => ?_
  have hp' : PostS X.K X.mg A W D' S (match ownO c ρ1 i with
    | some (b, ns, xs) => if f ∉ ns ∧ ns.length < 900 then .nx (ρ1.set i (.ow b (.obj c (ns ++ [f]) (xs ++ [d])))) else .stuck
    | none => .stuck) := hp
  cases e1 : ownO c ρ1 i with
  | none =>
    rw [e1] at hp'
    exact (show False from hp').elim
  | some bx =>
    obtain ⟨b, ns, xs⟩ := bx
    rw [e1] at hp'
    obtain ⟨p, C', dx, vs, z1, z2, z3, z4, z5, z6⟩ := s1.mutO (ownO_eq e1)
    rw [gC] at z2
    have eC : C = C' := Value.ref.inj (Option.some.inj z2)
    subst eC
    have hp2 : PostS X.K X.mg A W D' S (if f ∉ ns ∧ ns.length < 900 then .nx (ρ1.set i (.ow b (.obj c (ns ++ [f]) (xs ++ [d])))) else .stuck) := hp'
    by_cases hl : f ∉ ns ∧ ns.length < 900
    · rw [if_pos hl] at hp2
      obtain ⟨y1, y2⟩ := z6 (ns ++ [f]) (xs ++ [d]) (vs ++ [v]) (by simp [z4]) (z5.app (RDs.one r))
      refine ⟨.ref p, z1, p, C, dx, ns.zip vs, rfl, z3, hcl, hna, ?_, ?_⟩
      · rw [List.length_zip]
        have := hl.2
        omega
      · rw [putF_zip hl.1 z4]
        exact hp2 _ σ (ev.trans y1) y2
    · rw [if_neg hl] at hp2
      exact (show False from hp2).elim
/-- the value of a field -/
def fldAt (f : Str) : List Str → List D → Option D
  | n :: ns, d :: ds => if n = f then some d else fldAt f ns ds
  | _, _ => none
def dFld (c f : Str) : D → Option D
  | .ins c' ns ds => if c' = c then fldAt f ns ds else none
  | _ => none
theorem fldAt_get {K : PySem.W.Frag} {mg : Str → Option Value} {F : Hp} {f : Str} {d : D} : ∀ {ns : List Str} {ds : List D} {vs : List V}, RDs K mg F ds vs → fldAt f ns ds = some d → ∃ v, (ns.zip vs).lookup f = some v ∧ RD K mg F d v
  | [], _, _, _, e => by cases e
  | _ :: _, [], _, _, e => by cases e
  | n :: ns, x :: ds, _, ⟨v, r, h1, h2, h3⟩, e => by
    subst h1
    by_cases q : n = f
    · have e' : (if n = f then some x else fldAt f ns ds) = some d := e
      rw [if_pos q] at e'
      cases e'
      refine ⟨v, ?_, h2⟩
      subst q
      simp [List.zip_cons_cons, List.lookup]
    · have e' : (if n = f then some x else fldAt f ns ds) = some d := e
      rw [if_neg q] at e'
      obtain ⟨w, k1, k2⟩ := fldAt_get h3 e'
      refine ⟨w, ?_, k2⟩
      have hq : (f == n) = false := by
        simp
        exact fun z => q z.symm
      rw [List.zip_cons_cons, List.lookup, hq]
      exact k1
/-- e.f -/
theorem pd_fld (c : Str) {C : Addr} {f : Str} {e : Expr} {o : Opd} {pos : Pos} (gC : X.mg c = some (.ref C)) (hcl : Cls X.K C) (hna : NoAttr X.K C f) (he : PO' X A W e o) (hb : attributeBase e f X.env (eval e X.env) = eval e X.env := by rfl) :
    PD X A W (.Attribute e f pos) (e1 (dFld c f) o) :=
  PE.imp (pe_fld he hb) (op1_to (a := e) (r := fun x H1 Q => ∃ a C dx fs v, x = .ref a ∧ H1 a = some (.ins C dx fs) ∧ Cls X.K C ∧ NoAttr X.K C f ∧ fs.lookup f = some v ∧ Q v H1) fun S x z v Q hS e rx k => by
    cases x with
    | ins c' ns ds =>
      have e' : (if c' = c then fldAt f ns ds else none) = some z := e
      by_cases q : c' = c
      · rw [if_pos q] at e'
        obtain ⟨a, C', dx, vs, h1, h2, h3, h4, h5⟩ := rx
        rw [q, gC] at h2
        have eC : C = C' := Value.ref.inj (Option.some.inj h2)
        subst eC
        obtain ⟨w, k1, k2⟩ := fldAt_get h5 e'
        exact ⟨a, C, dx, _, w, h1, h3, hcl, hna, k1, k S w (.refl hS) k2⟩
      · rw [if_neg q] at e'
        cases e'
    | _ => cases e)
end
end DL
end

section
set_option Elab.async false
set_option linter.all false
set_option maxRecDepth 100000
/-! Instances compared by their own __eq__; isinstance of an own class. -/
namespace DL
open PySem PySem.Spec PyProof.Rows L2
/-- a plain class with its own __eq__ at f -/
structure EqC (K : PySem.W.Frag) (C f : Addr) : Prop where
  cls : ∃ nm q N bs hdct sn sub ab col dd k0 k1 k2 k3 k5 newId, K.lookup C = some (excClassObj nm q C N bs [.type "object"] hdct sn sub ab col dd k0 k1 k2 k3 k5 newId) ∧ PySem.W.nsOkIn K N = true ∧ PySem.W.nsIn K N "__ne__" = some none ∧ PySem.W.nsIn K N "__eq__" = some (some (.ref f))
  fo : ∃ of, K.lookup f = some of ∧ of.cls = .type "function"
  eq : PySem.W.findIn K (.ref C) "__eq__" = some (some (.ref f))
  fn : PySem.W.isFn K (.ref f) = true
theorem ns_some_of {K : PySem.W.Frag} {h : Heap} {N : Addr} {mg : Str → Option Value} {n : Str} {v : Value} (X : K.In h) (G : h.Ns N mg) (e : PySem.W.nsIn K N n = some (some v)) : mg n = some v := by
  obtain ⟨o, es, ep, ho, hd, _, hf⟩ := G
  unfold PySem.W.nsIn at e
  split at e
  · rename_i c d es' n' sl q
    have := X _ _ q
    rw [ho] at this
    cases this
    cases hd
    split at e
    · rename_i he
      cases e
      rw [← hf]
      unfold nsFind findBy
      rw [← Array.find?_toList, he]
      rfl
    · split at e
      · cases e
      · cases e
  · cases e
theorem EqC.ne {K : PySem.W.Frag} {C f x : Addr} {h : Heap} {o : Obj} (c : EqC K C f) (X : K.In h) (hx : h.get? x = some o) (hc : o.cls = .ref C) : h.OwnEqNoNe x C f "object" [.type "object"] := by
  obtain ⟨nm, q, N, bs, hdct, sn, sub, ab, col, dd, k0, k1, k2, k3, k5, newId, h1, h2, h3, h4⟩ := c.cls
  obtain ⟨of, f1, f2⟩ := c.fo
  have hN : h.Ns N (h.nsMap N) := .of_isNs (PySem.W.isNs_of_in X h2)
  exact ⟨o, of, nm, q, N, bs, hdct, sn, sub, ab, col, dd, k0, k1, k2, k3, k5, newId, h.nsMap N, _, hx, hc, X _ _ h1, hN, ns_some_of X hN h4, X _ _ f1, f2, F.cmp_object.mro, F.cmp_object.eq.lookup, PySem.W.ns_none_of X hN h3⟩
/-! ### hand layer -/
abbrev E0 : XK := fun _ _ _ => False
def rOwn (C : Addr) (neg : Bool) (sp : Sp) : R2 := fun x y H Q => ∃ a b dx dy fs gs, x = .ref a ∧ y = .ref b ∧ H a = some (.ins C dx fs) ∧ H b = some (.ins C dy gs) ∧ sp [.ref a, .ref b] H (fun v H' => ∃ c, v = .bl c ∧ Q (.bl (c != neg)) H') E0
section
variable {X : Cx} {k : Nat} {f C : Addr} {fd : FuncData} {ps : List Str} {sp : Sp}
theorem run_own {B : Around} {pins : List (Addr × Obj)} {σ : L2.St} {H : Hp} {s : Shared} {a b : Addr} {Q : VK} (F : FnG X.prog X.w X.K X.mg X.base k f fd ps sp) (hr : Room k B) (hgd : B.guards = some []) (hfr : B.frames = X.A.frames) (hb : Binds X.K fd ps []) (I : Inv X pins σ H s)
    (hsp : sp [.ref a, .ref b] H Q E0) : wpAny (model X.prog X.w) B (call (.ref f) [.ref a, .ref b]) (EP X pins σ Q) X.xe s := by
  have e0 : Env0 X.prog X.w X.K X.mg X.base B X.stack s H := by
    have e := I.env0
    exact ⟨by rw [hfr]; exact e.frames, e.mod, e.bs, e.bsz, e.funs, e.frf, e.hok, e.bare⟩
  have hl := F.len _ _ _ _ hsp
  have r2 : Vals [V.ref a, V.ref b] [Value.ref a, Value.ref b] := .cons rfl (.cons rfl .nil)
  refine wpAny_call (codeAny_mono (F.run B X.stack s H ⟨[.ref a, .ref b], []⟩ [.ref a, .ref b] [.ref a, .ref b] _ E0 hr hgd e0 (by
    have := hb s [.ref a, .ref b] I.kIn (by simpa using hl)
    simpa using this) r2 hsp) fun r s' hq => ?_)
  cases r with
  | error e => exact passAt takesW0 σ pins H s e s' I hq
  | ok fl =>
    cases fl with
    | ret w => exact I.after hq
    | next => exact False.elim hq
    | brk => exact False.elim hq
    | cont => exact False.elim hq
theorem op_ownEq (c : EqC X.K C f) (F : FnG X.prog X.w X.K X.mg X.base k f fd ps sp) (hr : Room (k + 1) X.A) (hgd : X.A.guards = some []) (hb : Binds X.K fd ps []) : OpR X (compareOp .Eq) (rOwn C false sp) := by
  intro pins s σ H x y v u Q I rx ry h
  obtain ⟨a, b, dx, dy, fs, gs, rfl, rfl, ha, hb', hsp⟩ := h
  cases rx
  cases ry
  obtain ⟨mA, J, _⟩ := ins_get I.hok ha
  obtain ⟨mB, J', _⟩ := ins_get I.hok hb'
  obtain ⟨od, J, _⟩ := J.look
  obtain ⟨od', J', _⟩ := J'.look
  obtain ⟨m, hF⟩ := I.fr
  show wpAny (model X.prog X.w) X.A (richCompare .Eq (.ref a) (.ref b)) (EP X pins σ Q) X.xe s
  refine PySem.W.cmp_K (op := .Eq) (tb := .ref C) hr.units0 hF I.ok.mod.kin J J'.type (by simp [PySem.W.notFirst]) c.eq c.fn ?_
  refine wpAny_mono (run_own F (hr.mono (Nat.le_succ k)) hgd rfl hb I hsp) (fun w s' z => ?_) fun _ _ z => z
  obtain ⟨z, H', I', rz, c', ez, q⟩ := z
  subst ez
  cases rz
  have e1 : (c' != false) = c' := by cases c' <;> rfl
  rw [e1] at q
  exact ⟨.bl c', H', I', rfl, q⟩
theorem op_ownNe (c : EqC X.K C f) (F : FnG X.prog X.w X.K X.mg X.base k f fd ps sp) (hr : Room (k + 1) X.A) (hgd : X.A.guards = some []) (hb : Binds X.K fd ps []) : OpR X (compareOp .NotEq) (rOwn C true sp) := by
  intro pins s σ H x y v u Q I rx ry h
  obtain ⟨a, b, dx, dy, fs, gs, rfl, rfl, ha, hb', hsp⟩ := h
  cases rx
  cases ry
  obtain ⟨mA, J, _⟩ := ins_get I.hok ha
  obtain ⟨mB, J', _⟩ := ins_get I.hok hb'
  obtain ⟨hp, g, d, t, os⟩ := s
  refine compareOp_ne_ownEq PySem.F.cmp_object (c.ne I.kIn J.obj rfl) J'.obj rfl (by have := hr.un; omega) ?_
  refine wpAny_mono (run_own F hr.in1 hgd rfl hb I hsp) (fun w s' z => ?_) fun _ _ z => z
  obtain ⟨z, H', I', rz, c', ez, q⟩ := z
  subst ez
  cases rz
  have e1 : (c' != true) = !c' := by cases c' <;> rfl
  rw [e1] at q
  exact ⟨c', rfl, .bl (!c'), H', I', rfl, q⟩
/-! ### the D layer -/
def dOwn (c : Str) (neg : Bool) (sem : Sem') : D → D → Option D
  | .ins c1 ns xs, .ins c2 ms ys => if c1 = c ∧ c2 = c then (match sem [.va (.ins c1 ns xs), .va (.ins c2 ms ys)] with
    | .ok (.bl b) _ => some (.bl (b != neg))
    | _ => none) else none
  | _, _ => none
theorem vop_own {c : Str} {neg : Bool} {sem : Sem'} (gC : X.mg c = some (.ref C)) : VOp2 X (dOwn c neg sem) (rOwn C neg (spD X.K X.mg 2 sem)) := fun S x y z v u Q hS e rx ry k => by
  unfold dOwn at e
  split at e
  · rename_i c1 ns xs c2 ms ys
    split at e
    · rename_i hc
      obtain ⟨h1, h2⟩ := hc
      subst h1
      subst h2
      obtain ⟨a, C1, dx, vs, rfl, g1, i1, l1, r1⟩ := rx
      obtain ⟨b, C2, dy, us, rfl, g2, i2, l2, r2⟩ := ry
      rw [gC] at g1 g2
      have e1 : C = C1 := Value.ref.inj (Option.some.inj g1)
      have e2 : C = C2 := Value.ref.inj (Option.some.inj g2)
      subst e1 e2
      refine ⟨a, b, dx, dy, _, _, rfl, rfl, i1, i2, rfl, ⟨S.H, S.H, fun _ => False⟩, [.va (.ins c2 ns xs), .va (.ins c2 ms ys)], rfl, ?_, ?_⟩
      · refine ⟨fun _ _ z => z, fun p z => z.elim, fun p z => z.elim, rfl, ⟨fun _ _ => False, fun i sl es => ?_, fun i p z => z.elim, fun i j p z => z.elim⟩, fun i o es => ?_⟩
        · match i with
          | 0 =>
            cases es
            exact ⟨_, rfl, _, rfl, a, C, dx, vs, rfl, gC, i1, l1, r1.mono hS⟩
          | 1 =>
            cases es
            exact ⟨_, rfl, _, rfl, b, C, dy, us, rfl, gC, i2, l2, r2.mono hS⟩
          | i + 2 => simp at es
        · match i with
          | 0 => cases es
          | 1 => cases es
          | i + 2 => simp at es
      · cases es : sem [.va (.ins c2 ns xs), .va (.ins c2 ms ys)] with
        | ok d ps' =>
          rw [es] at e
          cases d with
          | bl t =>
            cases e
            intro S' w ev s' r
            refine ⟨t, r, ?_⟩
            refine k ⟨S.F, S'.H, S.O⟩ (.bl (t != neg)) ⟨rfl, fun p o h => ev.same p o h fun z => z, fun _ _ h => h, fun _ _ _ => rfl, fun p o h => ev.same p o (hS p o h) fun z => z⟩ rfl
          | _ => cases e
        | err _ _ _ =>
          rw [es] at e
          cases e
        | stuck =>
          rw [es] at e
          cases e
    · cases e
  · cases e
/-! ### isinstance(e, C) -/
structure InC (K : PySem.W.Frag) (C : Addr) : Prop where
  cl : Cls K C
  ha : PySem.W.findIn K (.ref C) "__class__" = some (some (.builtin "object.__class__"))
  hn : PySem.W.specialIn K (.builtin "object.__class__") "__get__" = some (some (.builtin "getset_descriptor.__get__"))
  ht : PySem.W.takesIn K (.builtin "object.__class__") = some true
  hm : PySem.W.mroIn K C (.type "object") = some true
  is : PySem.W.kitOne K (.ref C) (.ref C) = some true
def dIsC (c : Str) : D → Option D
  | .ins c' _ _ => if c' = c then some (.bl true) else none
  | _ => none
section
variable {A : List V} {W : WX}
theorem pd_isC {c : Str} {e : Expr} {o : Opd} {p q pos : Pos} (gC : X.mg c = some (.ref C)) (ic : InC X.K C) (hg : Gl X "isinstance") (hm : X.mg "isinstance" = none) (hg2 : Gl X c) (he : PO' X A W e o) (hd : (c == ("__debug__" : Str)) = false := by decide)
    (hs1 : starEach [e, .Name c q] X.env = (false, eval e X.env) :: starEach [.Name c q] X.env := by rfl) (hs2 : starEach [.Name c q] X.env = (false, eval (.Name c q) X.env) :: starEach [] X.env := by rfl) (hpl : (backTo pos (starEach [.Name c q] X.env)).any (·.1) = false := by rfl) :
    PD X A W (.Call (.Name "isinstance" p) [e, .Name c q] [] pos) (e1 (dIsC c) o) :=
  PE.imp (pe_callB call_isi hg hm rfl (pa_cons he (pa_cons (pe_glob (v := .ref C) hg2 gC rfl hd) pa_nil hs2) hs1) (by decide) (by decide) hs1 hpl) fun σ H Q h => by
    obtain ⟨S, ρ, rfl, s, h⟩ := h
    have h' : PostE X.K X.mg A W Q S σ ((o.go ρ).bind fun x ρ1 => (Out.lift ρ1 (o.rd ρ1 x)).bind fun x ρ1 => Out.lift ρ1 (dIsC c x)) := h
    refine opd_bind (P := PostE X.K X.mg A W Q S σ) s h' (fun _ _ _ z => z) (fun z => z) fun x ρ1 S1 v hp1 ev1 s1 r1 => ?_
    cases ex : o.rd ρ1 x with
    | none =>
      rw [ex] at hp1
      exact (show False from hp1).elim
    | some y =>
      rw [ex] at hp1
      have hp2 : PostE X.K X.mg A W Q S σ (Out.lift ρ1 (dIsC c y)) := hp1
      cases y with
      | ins c' ns ds =>
        have hp3 : PostE X.K X.mg A W Q S σ (Out.lift ρ1 (if c' = c then some (.bl true) else none)) := hp2
        by_cases q : c' = c
        · rw [if_pos q] at hp3
          obtain ⟨a, C1, dx, vs, rfl, g1, i1, l1, _⟩ := r1.rb s1 ex
          rw [q, gC] at g1
          have e1 : C = C1 := Value.ref.inj (Option.some.inj g1)
          subst e1
          exact ⟨.ref a, .ref C, .ref C, .ref C, true, rfl, .own C, .base (.ins i1 ic.cl ic.ha ic.hn ic.ht ic.hm), ic.is, hp3 S1 _ ev1 s1 rfl⟩
        · rw [if_neg q] at hp3
          exact (show False from hp3).elim
      | _ => exact (show False from hp2).elim
end
end
end DL
end

section
set_option Elab.async false
set_option linter.all false
set_option maxRecDepth 100000
/-! Texts, comparisons of tuples. -/
namespace DL
open PySem PySem.Spec PyProof.Rows L2
section
variable {X : Cx} {A : List V} {W : WX} {S S' : Cfg} {σ : L2.St} {ρ : Env'}
/-! ### str(int), int(text) -/
def dStr : D → Option D
  | .int i => if i.natAbs.log2 < 1920 then some (.str (toString i : String)) else none
  | .str x => some (.str x)
  | _ => none
abbrev rStr : List V → Hp → VK → Prop := fun xs H Q => (∃ i, xs = [.int i] ∧ i.natAbs.log2 < 1920 ∧ Q (.str (toString i : String)) H) ∨ ∃ a, xs = [.str a] ∧ Q (.str a) H
theorem call_strD : CallR X (.type "str") rStr := CallR.or call_str_int SkE.call_str_str
theorem vop_str : VOpL X (on1 dStr) rStr := vopl1 fun S x d v Q hS e rx k => by
  unfold dStr at e
  split at e
  · split at e
    · rename_i h
      cases e
      cases (show v = _ from rx)
      exact .inl ⟨_, rfl, h, k S _ (.refl hS) rfl⟩
    · cases e
  · cases e
    cases (show v = _ from rx)
    exact .inr ⟨_, rfl, k S _ (.refl hS) rfl⟩
  · cases e
def dIntT : D → Option D
  | .int i => some (.int i)
  | .bl b => some (.int (if b then 1 else 0))
  | .str a => if a.length ≤ 640 then (PySem.intText? a).map .int else none
  | _ => none
abbrev rIntT : List V → Hp → VK → Prop := fun xs H Q => ((∃ i, xs = [.int i] ∧ Q (.int i) H) ∨ ∃ k, xs = [.bl k] ∧ Q (.int (if k then 1 else 0)) H) ∨ ∃ a n, xs = [.str a] ∧ PySem.intText? a = some n ∧ a.length ≤ 640 ∧ Q (.int n) H
theorem call_intT : CallR X (.type "int") rIntT := CallR.or call_int1 call_int_str
theorem vop_intT : VOpL X (on1 dIntT) rIntT := vopl1 fun S x d v Q hS e rx k => by
  unfold dIntT at e
  split at e
  · cases e
    cases (show v = _ from rx)
    exact .inl (.inl ⟨_, rfl, k S _ (.refl hS) rfl⟩)
  · cases e
    cases (show v = _ from rx)
    exact .inl (.inr ⟨_, rfl, k S _ (.refl hS) rfl⟩)
  · split at e
    · rename_i a h
      cases q : PySem.intText? a with
      | none =>
        rw [q] at e
        cases e
      | some n =>
        rw [q] at e
        cases e
        cases (show v = _ from rx)
        exact .inr ⟨_, n, rfl, q, h, k S _ (.refl hS) rfl⟩
    · cases e
  · cases e
/-! ### a method of a text with one argument -/
def VOpS (X : Cx) (opf : Str → D → Option D) (r : V → List V → Hp → VK → Prop) : Prop := ∀ (S : Cfg) (a : Str) (y z : D) (u : V) (Q : VK), Same S.F S.H → opf a y = some z → RB X.K X.mg S y u → (∀ S' w, Gr S S' → RD X.K X.mg S'.F z w → Q w S'.H) → r (.str a) [u] S.H Q
def eM1 (opf : Str → D → Option D) (f : EM D) (o : Opd) : EM D := fun ρ => (f ρ).bind fun x ρ1 => match x with
  | .str a => (o.go ρ1).bind fun y ρ2 => (Out.lift ρ2 (o.rd ρ2 y)).bind fun y ρ3 => Out.lift ρ3 (opf a y)
  | _ => .stuck
theorem m1_to {opf : Str → D → Option D} {r : V → List V → Hp → VK → Prop} {f : EM D} {o : Opd} (hv : VOpS X opf r) (σ : L2.St) (H : Hp) (Q : VK) (h : tD X.K X.mg A W (eM1 opf f o) σ H Q) : tM1 r (tD X.K X.mg A W f) (tOpd X.K X.mg A W o) σ H Q := by
  obtain ⟨S, ρ, rfl, s, h⟩ := h
  have h' : PostE X.K X.mg A W Q S σ ((f ρ).bind fun x ρ1 => match x with
    | .str a => (o.go ρ1).bind fun y ρ2 => (Out.lift ρ2 (o.rd ρ2 y)).bind fun y ρ3 => Out.lift ρ3 (opf a y)
    | _ => .stuck) := h
  refine tD_bind (P := PostE X.K X.mg A W Q S σ) s h' (fun _ _ _ z => z) (fun z => z) fun x ρ1 S1 v hp1 ev1 s1 r1 => ?_
  cases x with
  | str a =>
    cases (show v = _ from r1)
    refine ⟨⟨a, rfl⟩, ?_⟩
    refine opd_bind (P := PostE X.K X.mg A W Q S σ) s1 hp1 (fun _ _ _ z => PostX.ev z ev1) (fun z => z) fun y ρ2 S2 u hp2 ev2 s2 r2 => ?_
    cases ey : o.rd ρ2 y with
    | none =>
      rw [ey] at hp2
      exact (show False from hp2).elim
    | some y' =>
      rw [ey] at hp2
      have hp3 : PostE X.K X.mg A W Q S σ (Out.lift ρ2 (opf a y')) := hp2
      cases ez : opf a y' with
      | none =>
        rw [ez] at hp3
        exact (show False from hp3).elim
      | some z =>
        rw [ez] at hp3
        exact hv S2 a y' z u Q s2.sub ez (r2.rb s2 ey) fun S3 w g r3 => hp3 S3 w ((ev1.trans ev2).trans g.ev) (s2.gr g) r3
  | _ => exact (show False from hp1).elim
def asStrs : List D → Option (List Str)
  | [] => some []
  | .str x :: r => (asStrs r).map (x :: ·)
  | _ :: _ => none
theorem asStrs_rds {K : PySem.W.Frag} {mg : Str → Option Value} {F : Hp} : ∀ {ds : List D} {vs : List V} {zs : List Str}, asStrs ds = some zs → RDs K mg F ds vs → vs = zs.map V.str
  | [], _, _, e, h => by
    cases e
    cases h
    rfl
  | d :: ds, _, zs, e, ⟨v, r, h1, h2, h3⟩ => by
    subst h1
    cases d with
    | str x =>
      have e' : (asStrs ds).map (x :: ·) = some zs := e
      cases q : asStrs ds with
      | none =>
        rw [q] at e'
        cases e'
      | some ys =>
        rw [q] at e'
        cases e'
        rw [show v = V.str x from h2, asStrs_rds q h3]
        rfl
    | _ => cases e
theorem rds_strs {K : PySem.W.Frag} {mg : Str → Option Value} {F : Hp} : ∀ ys : List Str, RDs K mg F (ys.map D.str) (ys.map V.str)
  | [] => rfl
  | y :: ys => ⟨_, _, rfl, rfl, rds_strs ys⟩
def dJoin (a : Str) (y : D) : Option D := match dItems y with
  | some xs => match asStrs xs with
    | some zs => if (zs.map (·.length)).sum + zs.length * a.length ≤ 16777216 then some (.str (Txt.join a zs)) else none
    | none => none
  | none => none
theorem vop_join : VOpS X dJoin (fun x xs H Q => ∃ a p, ∃ ys : List Str, x = .str a ∧ xs = [.ref p] ∧ (SqL X.K H p (ys.map V.str) ∨ SqT X.K H p (ys.map V.str)) ∧ (ys.map (·.length)).sum + ys.length * a.length ≤ 16777216 ∧ Q (.str (Txt.join a ys)) H) := fun S a y z u Q hS e ry k => by
  unfold dJoin at e
  split at e
  · rename_i xs q1
    split at e
    · rename_i zs q2
      split at e
      · rename_i hl
        cases e
        obtain ⟨p, vs, rfl, h2, h3⟩ := rb_items hS ry q1
        rw [asStrs_rds q2 h3] at h2
        exact ⟨a, p, zs, rfl, rfl, h2, hl, k S _ (.refl hS) rfl⟩
      · cases e
    · cases e
  · cases e
def dSplit (a : Str) : D → Option D
  | .str b => if (b.length == 0) = false ∧ a.length ≤ BIG then some (.lst ((Txt.split a b).map .str)) else none
  | _ => none
theorem vop_split : VOpS X dSplit (fun x xs H Q => ∃ a b, x = .str a ∧ xs = [.str b] ∧ (b.length == 0) = false ∧ a.length + 2 ≤ sizeLine ∧ rNewStrs (Txt.split a b) H Q) := fun S a y z u Q hS e ry k => by
  cases y with
  | str b =>
    have e' : (if (b.length == 0) = false ∧ a.length ≤ BIG then some (D.lst ((Txt.split a b).map .str)) else none) = some z := e
    split at e'
    · rename_i hl
      cases e'
      cases (show u = _ from ry)
      exact ⟨a, b, rfl, rfl, hl.1, Nat.le_trans (Nat.add_le_add_right hl.2 2) (by decide), fun p hp => give_lst hS (rds_strs _) k p hp⟩
    · cases e'
  | _ => cases e
theorem pd_join {o e : Expr} {f : EM D} {oy : Opd} {apos pos : Pos} (ho : PD X A W o f) (he : PO' X A W e oy) (hs : starEach [e] X.env = [(false, eval e X.env)] := by rfl) (hbase : attributeBase o "join" X.env (eval o X.env) = eval o X.env := by rfl) (hline : (apos.endLine == pos.line) = true := by rfl) :
    PD X A W (.Call (.Attribute o "join" apos) [e] [] pos) (eM1 dJoin f oy) := PE.imp (pe_join ho he hs hbase hline) (m1_to vop_join)
theorem pd_split {o e : Expr} {f : EM D} {oy : Opd} {apos pos : Pos} (ho : PD X A W o f) (he : PO' X A W e oy) (hs : starEach [e] X.env = [(false, eval e X.env)] := by rfl) (hbase : attributeBase o "split" X.env (eval o X.env) = eval o X.env := by rfl) (hline : (apos.endLine == pos.line) = true := by rfl) :
    PD X A W (.Call (.Attribute o "split" apos) [e] [] pos) (eM1 dSplit f oy) := PE.imp (pe_split ho he hs hbase hline) (m1_to vop_split)
/-! ### the i-th sign of a text, too -/
def dIxS (x y : D) : Option D := match x, y with
  | .str z, .int i => if z.length ≤ BIG then (atI z.cps.toList i).map fun c => .str ⟨#[c]⟩ else none
  | x, y => dIx x y
theorem vop_ixS : VOp2 X dIxS (rIx X.K) := fun S x y z v u Q hS e rx ry k => by
  unfold dIxS at e
  split at e
  · rename_i z' i
    split at e
    · rename_i hl
      cases q : atI z'.cps.toList i with
      | none =>
        rw [q] at e
        cases e
      | some c =>
        rw [q] at e
        cases e
        cases (show v = _ from rx)
        cases (show u = _ from ry)
        exact .inr (.inr ⟨z', i, c, rfl, rfl, big_size hl, q, k S _ (.refl hS) rfl⟩)
    · cases e
  · exact vop_ix S _ _ _ _ _ _ hS e rx ry k
/-! ### a sign in a text -/
def dInS : D → D → Option D
  | .str x, .str z => match x.cps.toList with
    | [c] => some (.bl (decide (c ∈ z.cps.toList)))
    | _ => none
  | _, _ => none
theorem vop_inS : VOp2 X dInS (fun x y H Q => ∃ (c : Nat) (z : Str), x = .str ⟨#[c]⟩ ∧ y = .str z ∧ Q (.bl (decide (c ∈ z.cps.toList))) H) := fun S x y z v u Q hS e rx ry k => by
  cases x with
  | str x' =>
    cases y with
    | str z' =>
      have e' : (match x'.cps.toList with
        | [c] => some (D.bl (decide (c ∈ z'.cps.toList)))
        | _ => none) = some z := e
      split at e'
      · rename_i c q
        cases e'
        cases (show v = _ from rx)
        cases (show u = _ from ry)
        refine ⟨c, z', ?_, rfl, k S _ (.refl hS) rfl⟩
        obtain ⟨cs⟩ := x'
        obtain ⟨l⟩ := cs
        have : l = [c] := q
        rw [this]
      · cases e'
    | _ => cases e
  | _ => cases e
/-! ### for c in a text -/
def signs (x : Str) : List D := x.cps.toList.map fun c => .str ⟨#[c]⟩
def iStrD (f : EM D) : EM (List D) := fun ρ => (f ρ).bind fun d ρ1 => match d with
  | .str x => .ok (signs x) ρ1
  | _ => .stuck
theorem pid_str {tg e : Expr} {f : EM D} (he : PD X A W e f) : PID X A W tg e (iStrD f) := PI.imp (pi_str he) fun σ H R h => by
  obtain ⟨S, ρ, rfl, s, h⟩ := h
  refine tD_bind (P := PostI X A W R S σ) s h (fun _ _ _ z => z) (fun z => z) fun d ρ1 S1 v hp ev s1 r => ?_
  cases d with
  | str x =>
    cases (show v = _ from r)
    refine ⟨x, rfl, ?_⟩
    have hp' : PostI X A W R S σ (.ok (signs x) ρ1) := hp
    refine hp' S1 (Its x) ev s1 ⟨_, _, by rw [show (signs x).length = x.cps.size from by simp [signs]]; exact walk_str, fun _ _ _ => trivial, fun i S' y H' hi e sb w => ?_⟩
    obtain ⟨w1, c, w2, w3⟩ := w
    subst w3
    refine ⟨S', .str ⟨#[c]⟩, w1.symm, .refl sb, ?_, rfl⟩
    unfold signs
    rw [List.getElem?_map, Array.getElem?_toList, w2]
    rfl
  | _ => exact (show False from hp).elim
/-! ### tuples of numbers compared -/
theorem lexAt_lex : ∀ (ns ms : List Int), Ob.lexAt (fun j => decide (ns.getD j 0 = ms.getD j 0)) (fun j => decide (ns.getD j 0 ≤ ms.getD j 0)) (decide (ns.length ≤ ms.length)) 0 (min ns.length ms.length) = lexLeI ns ms := by
  have shift : ∀ (e r : Nat → Bool) (b : Bool) (k i : Nat), Ob.lexAt e r b (i + 1) k = Ob.lexAt (fun j => e (j + 1)) (fun j => r (j + 1)) b i k := by
    intro e r b k
    induction k with
    | zero =>
      intro i
      rfl
    | succ k ih =>
      intro i
      unfold Ob.lexAt
      rw [ih (i + 1)]
  intro ns
  induction ns with
  | nil =>
    intro ms
    cases ms with
    | nil => rfl
    | cons m ms =>
      show Ob.lexAt _ _ _ 0 (min 0 _) = true
      rw [Nat.zero_min]
      simp [Ob.lexAt]
  | cons n ns ih =>
    intro ms
    cases ms with
    | nil =>
      show Ob.lexAt _ _ _ 0 (min _ 0) = false
      rw [Nat.min_zero]
      simp [Ob.lexAt]
    | cons m ms =>
      have e1 : min (n :: ns).length (m :: ms).length = min ns.length ms.length + 1 := by
        simp only [List.length_cons]
        omega
      rw [e1]
      have e2 : decide ((n :: ns).length ≤ (m :: ms).length) = decide (ns.length ≤ ms.length) := by simp
      rw [e2]
      show _ = (if n = m then lexLeI ns ms else decide (n ≤ m))
      unfold Ob.lexAt
      rw [shift]
      have ih' := ih ms
      simp only [List.getD_cons_succ, List.getD_cons_zero] at *
      rw [ih']
      by_cases h : n = m
      · simp [h]
      · simp [h]
def asIsT : D → Option (List Int)
  | .tup xs => asIs xs
  | _ => none
def dLeT (x y : D) : Option D := match asIsT x, asIsT y with
  | some ns, some ms => some (.bl (lexLeI ns ms))
  | _, _ => none
end
end DL
end

section
set_option Elab.async false
set_option linter.all false
set_option maxRecDepth 100000
/-! Tuples compared, min, sorted(set(..)), list(range(..)), list(..) owned. -/
namespace DL
open PySem PySem.Spec PyProof.Rows L2
section
variable {X : Cx} {A : List V} {W : WX} {S S' : Cfg} {σ : L2.St} {ρ : Env'}
theorem tup_ints {K : PySem.W.Frag} {mg : Str → Option Value} {F : Hp} {x : D} {v : V} {ns : List Int} (r : RD K mg F x v) (e : asIsT x = some ns) : ∃ a, v = .ref a ∧ F a = some (.tup (ns.map V.int)) := by
  cases x with
  | tup xs =>
    have e' : asIs xs = some ns := e
    obtain ⟨a, vs, h1, h2, h3⟩ := r
    rw [asIs_eq e'] at h3
    rw [h3.of_ints] at h2
    exact ⟨a, h1, h2⟩
  | _ => cases e
theorem vop_leT : VOp2 X dLeT (rLeT X.K) := fun S x y z v u Q hS e rx ry k => by
  unfold dLeT at e
  split at e
  · rename_i ns ms e1 e2
    cases e
    cases x with
    | tup xs =>
      cases y with
      | tup ys =>
        obtain ⟨a, rfl, ha⟩ := tup_ints rx e1
        obtain ⟨b, rfl, hb⟩ := tup_ints ry e2
        refine ⟨a, b, ns, ms, rfl, rfl, sqT_of hS ha, sqT_of hS hb, ?_⟩
        rw [lexAt_lex]
        exact k S _ (.refl hS) rfl
      | _ => cases e2
    | _ => cases e1
  · cases e
/-! ### min of a sequence of ints -/
theorem iter_intTup {prog : Program} {w : World} {A : Around} {E : Value → Shared → Prop} {s : Shared} {l : Addr} {xs : Array (Int × Tok)} {Q : Value → Shared → Prop} (hl : s.heap.IsTuple l (intItems xs))
    (h : ∀ s₂ : Shared, s₂ = { s with heap := s.heap.push { cls := .type "tuple_iterator", data := .fields #[.ref l, .int 0 0] } } →
      (s₂.heap.IsTupleIter s.heap.objs.size l 0 ∧ s₂.heap.IsTuple l (intItems xs)) → (∀ b ∈ [s.heap.objs.size, l], b < s₂.heap.objs.size) → l ≠ s.heap.objs.size → Q (.ref s.heap.objs.size) s₂) :
    wpAny (model prog w) A (pyIter (.ref l)) Q E s := by
  have hlt : l < s.heap.objs.size := by obtain ⟨_, e, _⟩ := hl; exact Heap.lt_size e
  refine wpAny_pyIter_tuple hl (h _ rfl ⟨⟨_, Heap.get?_push_size _ rfl, rfl, rfl⟩, hl.push _⟩ (fun b hb => ?_) (Nat.ne_of_lt hlt))
  show b < (s.heap.push _).objs.size
  rw [Heap.size_push]
  rcases List.mem_cons.mp hb with rfl | hb
  · exact Nat.lt_succ_self _
  · rcases List.mem_cons.mp hb with rfl | hb
    · exact Nat.lt_succ_of_lt hlt
    · cases hb
theorem old_keptT {s : Shared} {l : Addr} {h' : Heap} (hk : ∀ b o, b ∉ [s.heap.objs.size] → (s.heap.push { cls := .type "tuple_iterator", data := .fields #[.ref l, .int 0 0] }).get? b = some o → h'.get? b = some o) :
    ∀ b o, s.heap.get? b = some o → h'.get? b = some o := fun b o e => by
  refine hk b o (fun hm => ?_) (Heap.get?_push_of_some _ e)
  rcases List.mem_cons.mp hm with e1 | hm
  · exact absurd (e1 ▸ Heap.lt_size e) (Nat.lt_irrefl _)
  · cases hm
theorem min_intTup {prog : Program} {w : World} {A : Around} {E : Value → Shared → Prop} {s : Shared} {l : Addr} {xs : Array (Int × Tok)} {Q : Value → Shared → Prop} (hh : A.handled = none) (hl : s.heap.IsTuple l (intItems xs)) (hne : 0 < xs.size)
    (h : ∀ v h' tk, (intItems xs)[argBest (fun i j => decide (numAt xs i < numAt xs j)) (xs.size - 1)]? = some v → (∀ b o, s.heap.get? b = some o → h'.get? b = some o) → Q v { s with heap := h', toks := tk }) :
    wpAny (model prog w) A (call (.builtin "min") [.ref l]) Q E s := by
  refine call_min_walk (iter_intTup hl fun s₂ e st hfp hlI => ?_)
  subst e
  refine ⟨_, _, _, _, _, _, _, rfl, Walks.tuple (A := A.in1) hh _ l hlI (intItems xs), st, hfp, by simpa [intItems] using hne, CmpOf.ints_lt (numAt xs) (fun _ _ => intItems_at), fun v h' tk hP hk => ?_⟩
  exact h v h' tk (by simpa [intItems] using hP) (old_keptT hk)
theorem min_rawT {prog : Program} {w : World} {A : Around} {E : Value → Shared → Prop} {s : Shared} {l : Addr} {its : List Value} {ns : List Int} {Q : Value → Shared → Prop} (hh : A.handled = none) (hl : s.heap.IsTuple l its.toArray) (hi : IntsAre its ns) (hne : 0 < ns.length)
    (h : ∀ h' tk M t', (∀ b o, s.heap.get? b = some o → h'.get? b = some o) → M ∈ ns → (∀ a, a ∈ ns → M ≤ a) → Q (.int M t') { s with heap := h', toks := tk }) : wpAny (model prog w) A (call (.builtin "min") [.ref l]) Q E s := by
  obtain ⟨xs, e⟩ := hi.allInts.items
  have hn : numsOf (intItems xs).toList = ns := by rw [← e]; exact hi.numsOf
  rw [nums_intItems] at hn
  subst hn
  rw [e] at hl
  have hsz : 0 < xs.size := by simpa using hne
  refine min_intTup hh hl hsz fun v h' tk hv hk => ?_
  obtain ⟨t, rfl⟩ := intItems_at hv
  obtain ⟨h1, h2⟩ := argBest_lt (numAt xs) (xs.size - 1)
  refine h h' tk _ t hk ?_ fun a ha => ?_
  · rw [numAt_eq]; exact PySem.getD_mem (by rw [List.length_map, Array.length_toList]; omega)
  · obtain ⟨j, hj, rfl⟩ := mem_getD ha
    rw [List.length_map, Array.length_toList] at hj
    rw [← numAt_eq]; exact h2 j (by omega)
def rMinT (K : PySem.W.Frag) : List V → Hp → VK → Prop := fun vs H Q => ∃ (a : Addr) (ns : List Int), vs = [V.ref a] ∧ SqT K H a (ns.map V.int) ∧ 0 < ns.length ∧ ∀ m, m ∈ ns → (∀ y, y ∈ ns → m ≤ y) → Q (.int m) H
theorem cr_minT (hc : X.calm = true) : CallR X (.builtin "min") (rMinT X.K) := by
  intro pins s σ H vs us Q I r h
  obtain ⟨a, ns, rfl, hs, hne, q⟩ := h
  obtain ⟨its, rv, hl, _⟩ := I.tuple hs
  rw [Vals.ref1 r]
  exact min_rawT (I.ok.hd hc) hl rv.ints hne fun h' tk m t' hk h1 h2 => ⟨.int _, H, I.kept hk, ⟨_, rfl⟩, q m h1 h2⟩
def minI : List Int → Int
  | [] => 0
  | [x] => x
  | x :: y :: r => if x ≤ minI (y :: r) then x else minI (y :: r)
theorem minI_mem : ∀ {ns : List Int}, 0 < ns.length → minI ns ∈ ns
  | [x], _ => by simp [minI]
  | x :: y :: r, _ => by
    have ih := minI_mem (ns := y :: r) (by simp)
    unfold minI
    split
    · exact List.mem_cons_self
    · exact List.mem_cons_of_mem _ ih
theorem minI_le : ∀ {ns : List Int} {z : Int}, z ∈ ns → minI ns ≤ z
  | [x], z, h => by
    simp at h
    subst h
    simp [minI]
  | x :: y :: r, z, h => by
    unfold minI
    rcases List.mem_cons.mp h with h | h
    · subst h
      split
      · exact Int.le_refl _
      · omega
    · have ih := minI_le h
      split
      · omega
      · exact ih
def dMin1 (x : D) : Option D := match dItems x with
  | some xs => match asIs xs with
    | some ns => if 0 < ns.length then some (.int (minI ns)) else none
    | none => none
  | none => none
abbrev rMin1 (K : PySem.W.Frag) : List V → Hp → VK → Prop := fun vs H Q => rMin K vs H Q ∨ rMinT K vs H Q
theorem cr_min1 (hc : X.calm = true) : CallR X (.builtin "min") (rMin1 X.K) := CallR.or (cr_min hc) (cr_minT hc)
theorem vop_min1 : VOpL X (on1 dMin1) (rMin1 X.K) := vopl1 fun S x d v Q hS e rx k => by
  unfold dMin1 at e
  split at e
  · rename_i xs q1
    split at e
    · rename_i ns q2
      split at e
      · rename_i hl
        cases e
        obtain ⟨a, vs, rfl, h2, h3⟩ := rb_items hS rx q1
        rw [asIs_eq q2] at h3
        rw [h3.of_ints] at h2
        have fin : ∀ m, m ∈ ns → (∀ y, y ∈ ns → m ≤ y) → Q (.int m) S.H := fun m h1 h2 => by
          have e1 : m = minI ns := by
            have a1 := minI_le h1
            have a2 := h2 _ (minI_mem hl)
            omega
          rw [e1]
          exact k S _ (.refl hS) rfl
        rcases h2 with h2 | h2
        · exact .inl ⟨a, ns, rfl, h2, hl, fin⟩
        · exact .inr ⟨a, ns, rfl, h2, hl, fin⟩
      · cases e
    · cases e
  · cases e
/-! ### sorted(set(..)) of tuples of ints -/
abbrev cd (t : List Int) : Int := TS.code 1000 t
def insT (x : List Int) : List (List Int) → List (List Int)
  | [] => [x]
  | y :: ys => if cd x < cd y then x :: y :: ys else if cd x = cd y then y :: ys else y :: insT x ys
def sortSet : List (List Int) → List (List Int)
  | [] => []
  | x :: xs => insT x (sortSet xs)
abbrev tupD (t : List Int) : D := .tup (t.map .int)
def asTups : List D → Option (List (List Int))
  | [] => some []
  | x :: xs => match asIsT x, asTups xs with
    | some t, some ts => some (t :: ts)
    | _, _ => none
def okT (d : Nat) (t : List Int) : Bool := t.length == d && t.all fun i => decide (0 ≤ i) && decide (i < 1000)
def okTs : List (List Int) → Bool
  | [] => false
  | t :: ts => decide (1 ≤ t.length) && ((t :: ts).all (okT t.length) && decide ((t :: ts).length < 64))
theorem okT_bd {d : Nat} {t : List Int} (h : okT d t = true) : t.length = d ∧ TS.Bd 1000 t := by
  unfold okT at h
  simp only [Bool.and_eq_true, beq_iff_eq, List.all_eq_true, decide_eq_true_eq] at h
  exact ⟨h.1, fun m hm => h.2 m hm⟩
theorem cd_inj : ∀ {x y : List Int}, x.length = y.length → TS.Bd 1000 x → TS.Bd 1000 y → cd x = cd y → x = y
  | [], [], _, _, _, _ => rfl
  | [], _ :: _, h, _, _, _ => by simp at h
  | _ :: _, [], h, _, _, _ => by simp at h
  | a :: x, b :: y, h, hx, hy, e => by
    have hl : x.length = y.length := by simpa using h
    rcases Int.lt_trichotomy a b with q | q | q
    · have := TS.code_lt hl hx.tail hy.tail q
      have e' : TS.code 1000 (a :: x) = TS.code 1000 (b :: y) := e
      omega
    · subst q
      have e' : a * 1000 ^ x.length + TS.code 1000 x = a * 1000 ^ y.length + TS.code 1000 y := e
      rw [hl] at e'
      rw [cd_inj hl hx.tail hy.tail (by show TS.code 1000 x = TS.code 1000 y; omega)]
    · have := TS.code_lt hl.symm hy.tail hx.tail q
      have e' : TS.code 1000 (a :: x) = TS.code 1000 (b :: y) := e
      omega
/-- lexicographic order is the order of the codes -/
theorem lexLe_cd : ∀ {x y : List Int}, x.length = y.length → TS.Bd 1000 x → TS.Bd 1000 y → lexLeI x y = decide (cd x ≤ cd y)
  | [], [], _, _, _ => by simp [lexLeI]
  | [], _ :: _, h, _, _ => by simp at h
  | _ :: _, [], h, _, _ => by simp at h
  | a :: x, b :: y, h, hx, hy => by
    have hl : x.length = y.length := by simpa using h
    show (if a = b then lexLeI x y else decide (a ≤ b)) = decide (TS.code 1000 (a :: x) ≤ TS.code 1000 (b :: y))
    by_cases q : a = b
    · subst q
      rw [if_pos rfl, lexLe_cd hl hx.tail hy.tail]
      show decide (TS.code 1000 x ≤ TS.code 1000 y) = decide (a * 1000 ^ x.length + TS.code 1000 x ≤ a * 1000 ^ y.length + TS.code 1000 y)
      rw [hl]
      refine decide_eq_decide.mpr ?_
      omega
    · rw [if_neg q]
      refine decide_eq_decide.mpr ⟨fun z => ?_, fun z => ?_⟩
      · have := TS.code_lt hl hx.tail hy.tail (show a < b by omega)
        omega
      · refine Classical.byContradiction fun w => ?_
        have := TS.code_lt hl.symm hy.tail hx.tail (show b < a by omega)
        omega
abbrev Asc (l : List (List Int)) : Prop := l.Pairwise fun a b => cd a < cd b
theorem insT_mem {x z : List Int} : ∀ {ys : List (List Int)}, (∀ y ∈ ys, cd x = cd y → x = y) → (z ∈ insT x ys ↔ z = x ∨ z ∈ ys)
  | [], _ => by simp [insT]
  | y :: ys, h => by
    have ih := insT_mem (x := x) (z := z) (ys := ys) fun w hw => h w (List.mem_cons_of_mem _ hw)
    unfold insT
    split
    · simp
    · split
      · rename_i e
        have e1 := h y List.mem_cons_self e
        constructor
        · exact fun w => .inr w
        · rintro (w | w)
          · rw [w, e1]
            exact List.mem_cons_self
          · exact w
      · rw [List.mem_cons, ih, List.mem_cons]
        constructor
        · rintro (w | w | w)
          · exact .inr (.inl w)
          · exact .inl w
          · exact .inr (.inr w)
        · rintro (w | w | w)
          · exact .inr (.inl w)
          · exact .inl w
          · exact .inr (.inr w)
theorem insT_asc {x : List Int} : ∀ {ys : List (List Int)}, (∀ y ∈ ys, cd x = cd y → x = y) → Asc ys → Asc (insT x ys)
  | [], _, _ => by simp [insT, Asc]
  | y :: ys, h, p => by
    have p' := List.pairwise_cons.mp p
    have ih := insT_asc (x := x) (ys := ys) (fun w hw => h w (List.mem_cons_of_mem _ hw)) p'.2
    unfold insT
    split
    · rename_i lt
      refine List.pairwise_cons.mpr ⟨fun w hw => ?_, p⟩
      rcases List.mem_cons.mp hw with e | e
      · rw [e]; exact lt
      · exact Int.lt_trans lt (p'.1 w e)
    · split
      · exact p
      · rename_i n1 n2
        refine List.pairwise_cons.mpr ⟨fun w hw => ?_, ih⟩
        rcases (insT_mem fun w hw => h w (List.mem_cons_of_mem _ hw)).mp hw with e | e
        · rw [e]; omega
        · exact p'.1 w e
/-- any two rows of a list with one code are one -/
def Inj (l : List (List Int)) : Prop := ∀ x ∈ l, ∀ y ∈ l, cd x = cd y → x = y
theorem sortSet_spec : ∀ {ks : List (List Int)}, Inj ks → Asc (sortSet ks) ∧ ∀ z, z ∈ sortSet ks ↔ z ∈ ks
  | [], _ => ⟨List.Pairwise.nil, fun z => by simp [sortSet]⟩
  | x :: xs, h => by
    obtain ⟨h1, h2⟩ := sortSet_spec (ks := xs) fun a ha b hb => h a (List.mem_cons_of_mem _ ha) b (List.mem_cons_of_mem _ hb)
    have hy : ∀ y ∈ sortSet xs, cd x = cd y → x = y := fun y hy => h x List.mem_cons_self y (List.mem_cons_of_mem _ ((h2 y).mp hy))
    refine ⟨insT_asc hy h1, fun z => ?_⟩
    show z ∈ insT x (sortSet xs) ↔ _
    rw [insT_mem hy, h2, List.mem_cons]
theorem asc_uniq : ∀ {l l' : List (List Int)}, Asc l → Asc l' → (∀ z, z ∈ l ↔ z ∈ l') → l = l'
  | [], [], _, _, _ => rfl
  | [], y :: ys, _, _, h => by
    have := (h y).mpr List.mem_cons_self
    cases this
  | x :: xs, [], _, _, h => by
    have := (h x).mp List.mem_cons_self
    cases this
  | x :: xs, y :: ys, p, q, h => by
    have p' := List.pairwise_cons.mp p
    have q' := List.pairwise_cons.mp q
    have e : x = y := by
      rcases List.mem_cons.mp ((h x).mp List.mem_cons_self) with a | a
      · exact a
      · rcases List.mem_cons.mp ((h y).mpr List.mem_cons_self) with b | b
        · exact b.symm
        · have a1 := q'.1 x a
          have a2 := p'.1 y b
          omega
    subst e
    rw [asc_uniq p'.2 q'.2 fun z => ?_]
    have nx : x ∉ xs := fun w => by
      have := p'.1 x w
      omega
    have ny : x ∉ ys := fun w => by
      have := q'.1 x w
      omega
    constructor
    · intro hz
      rcases List.mem_cons.mp ((h z).mp (List.mem_cons_of_mem _ hz)) with a | a
      · rw [a] at hz
        exact absurd hz nx
      · exact a
    · intro hz
      rcases List.mem_cons.mp ((h z).mpr (List.mem_cons_of_mem _ hz)) with a | a
      · rw [a] at hz
        exact absurd hz ny
      · exact a
theorem inj_ok {d : Nat} {ks : List (List Int)} (h : ∀ t ∈ ks, t.length = d ∧ TS.Bd 1000 t) : Inj ks := fun x hx y hy e => cd_inj ((h x hx).1.trans (h y hy).1.symm) (h x hx).2 (h y hy).2 e
theorem asTups_rds {K : PySem.W.Frag} {mg : Str → Option Value} {F : Hp} : ∀ {xs : List D} {vs : List V} {ts : List (List Int)}, asTups xs = some ts → RDs K mg F xs vs → ∃ ks : List (Addr × List Int), vs = ks.map (fun p => V.ref p.1) ∧ ks.map (·.2) = ts ∧ ∀ p ∈ ks, F p.1 = some (.tup (p.2.map V.int))
  | [], _, _, e, h => by
    cases e
    cases h
    exact ⟨[], rfl, rfl, fun p hp => by cases hp⟩
  | x :: xs, _, ts, e, ⟨v, r, h1, h2, h3⟩ => by
    subst h1
    unfold asTups at e
    split at e
    · rename_i t ts' e1 e2
      cases e
      obtain ⟨a, rfl, ha⟩ := tup_ints h2 e1
      obtain ⟨ks, q1, q2, q3⟩ := asTups_rds e2 h3
      refine ⟨(a, t) :: ks, by rw [q1]; rfl, by rw [← q2]; rfl, fun p hp => ?_⟩
      rcases List.mem_cons.mp hp with z | z
      · rw [z]; exact ha
      · exact q3 p z
    · cases e
def dSortSet : D → Option D
  | .lst xs => match asTups xs with
    | some ts => if okTs ts = true then some (.lst ((sortSet ts).map tupD)) else none
    | none => none
  | _ => none
def eSortSet (f : EM D) : EM D := fun ρ => (f ρ).bind fun d ρ1 => Out.lift ρ1 (dSortSet d)
theorem tup_rds {K : PySem.W.Frag} {mg : Str → Option Value} {F : Hp} : ∀ {L : List (Addr × List Int)}, (∀ p ∈ L, F p.1 = some (.tup (p.2.map V.int))) → RDs K mg F ((L.map (·.2)).map tupD) (L.map fun p => V.ref p.1)
  | [], _ => rfl
  | p :: L, h => ⟨_, _, rfl, ⟨p.1, _, rfl, h p List.mem_cons_self, RDs.ints _⟩, tup_rds fun q hq => h q (List.mem_cons_of_mem _ hq)⟩
theorem pd_sortSet {e : Expr} {f : EM D} {p p2 pos pos2 : Pos} (hc : X.calm = true) (hu : X.A.units + 64 < cLine) (hg : Gl X "sorted") (hm : X.mg "sorted" = none) (hg2 : Gl X "set") (hm2 : X.mg "set" = none) (he : PD X A W e f)
    (hs1 : starEach [.Call (.Name "set" p2) [e] [] pos2] X.env = (false, eval (.Call (.Name "set" p2) [e] [] pos2) X.env) :: starEach [] X.env := by rfl) (hs2 : starEach [e] X.env = (false, eval e X.env) :: starEach [] X.env := by rfl) :
    PD X A W (.Call (.Name "sorted" p) [.Call (.Name "set" p2) [e] [] pos2] [] pos) (eSortSet f) :=
  PE.imp (pe_callB (cr_sortedT hc) hg hm rfl (pa_cons (pe_callTy (cr_setOfT hc hu) hg2 hm2 rfl (pa_cons he pa_nil hs2) (by decide) (by decide) hs2 rfl) pa_nil hs1) (by decide) (by decide) hs1 rfl) fun σ H Q h => by
    obtain ⟨S, ρ, rfl, s, h⟩ := h
    have h' : PostE X.K X.mg A W Q S σ ((f ρ).bind fun d ρ1 => Out.lift ρ1 (dSortSet d)) := h
    refine tD_bind (P := PostE X.K X.mg A W Q S σ) s h' (fun _ _ _ z => z) (fun z => z) fun x ρ1 S1 v hp ev s1 r => ?_
    cases x with
    | lst xs =>
      have hp' : PostE X.K X.mg A W Q S σ (Out.lift ρ1 (match asTups xs with
        | some ts => if okTs ts = true then some (.lst ((sortSet ts).map tupD)) else none
        | none => none)) := hp
      cases et : asTups xs with
      | none =>
        rw [et] at hp'
        exact (show False from hp').elim
      | some ts =>
        rw [et] at hp'
        have hp2 : PostE X.K X.mg A W Q S σ (Out.lift ρ1 (if okTs ts = true then some (.lst ((sortSet ts).map tupD)) else none)) := hp'
        by_cases ho : okTs ts = true
        · rw [if_pos ho] at hp2
          have hp3 : PostE X.K X.mg A W Q S σ (.ok (.lst ((sortSet ts).map tupD)) ρ1) := hp2
          obtain ⟨a, vs, rfl, h2, h3⟩ := r
          obtain ⟨ks, q1, q2, q3⟩ := asTups_rds et h3
          subst q1
          obtain ⟨d, hd, hB, hn⟩ : ∃ d, 1 ≤ d ∧ (∀ t ∈ ts, t.length = d ∧ TS.Bd 1000 t) ∧ ts.length < 64 := by
            cases ts with
            | nil => cases ho
            | cons t ts' =>
              unfold okTs at ho
              simp only [Bool.and_eq_true, decide_eq_true_eq, List.all_eq_true] at ho
              exact ⟨t.length, ho.1, fun u hu => okT_bd (ho.2.1 u hu), ho.2.2⟩
          refine ⟨a, ks, rfl, SqL.of (s1.sub _ _ h2), fun p hp => sqT_of s1.sub (q3 p hp), by rw [← List.length_map (f := (·.2)), q2]; exact hn, fun b L hb sub cov => ?_⟩
          have hLk : ∀ p ∈ L, S1.F p.1 = some (.tup (p.2.map V.int)) := fun p hp => q3 p (sub p hp)
          have gr1 : Gr S1 (S1.raw b (SetTO X.prog X.w b L)) := .raw s1.sub hb
          have sa := s1.gr gr1
          refine ⟨b, L, d, 1000, rfl, upd_same, fun p hp => sqT_of (F' := (S1.raw b (SetTO X.prog X.w b L)).H) sa.sub (hLk p hp), hd, fun p hp => hB _ (by rw [← q2]; exact List.mem_map_of_mem (sub p hp)), fun L' p pm nd _ pw hpn => ?_⟩
          have hpn' : (S1.raw b (SetTO X.prog X.w b L)).H p = none := hpn
          have eL : L'.map (·.2) = sortSet ts := by
            have hin : Inj ts := inj_ok hB
            obtain ⟨a1, a2⟩ := sortSet_spec hin
            have mem : ∀ z, z ∈ L'.map (·.2) ↔ z ∈ ts := fun z => by
              constructor
              · intro hz
                obtain ⟨y, hy, e⟩ := List.mem_map.mp hz
                rw [← q2, ← e]
                exact List.mem_map_of_mem (sub y (pm.mem_iff.mp hy))
              · intro hz
                rw [← q2] at hz
                obtain ⟨y, hy, e⟩ := List.mem_map.mp hz
                have := cov y hy
                obtain ⟨w, hw, e2⟩ := List.mem_map.mp this
                rw [← e, ← e2]
                exact List.mem_map_of_mem (pm.mem_iff.mpr hw)
            refine asc_uniq ?_ a1 fun z => (mem z).trans (a2 z).symm
            have pw' : (L'.map (·.2)).Pairwise fun a b => cd a ≤ cd b := List.pairwise_map.mpr pw
            have both := pw'.and nd
            refine List.Pairwise.imp_of_mem (fun {x y} hx hy h => ?_) both
            have ne := h.2
            have : cd x ≠ cd y := fun z => ne (hin x ((mem x).mp hx) y ((mem y).mp hy) z)
            omega
          have gr2 : Gr (S1.raw b (SetTO X.prog X.w b L)) ((S1.raw b (SetTO X.prog X.w b L)).fz p (.lst (L'.map fun q => V.ref q.1))) := .fz sa.sub hpn'
          refine hp3 ((S1.raw b (SetTO X.prog X.w b L)).fz p (.lst (L'.map fun q => V.ref q.1))) (.ref p) ((ev.trans gr1.ev).trans gr2.ev) (sa.gr gr2) ⟨p, _, rfl, upd_same, ?_⟩
          rw [← eL]
          exact tup_rds fun q hq => gr2.F _ _ (hLk q (pm.mem_iff.mp hq))
        · rw [if_neg ho] at hp2
          exact (show False from hp2).elim
    | _ => exact (show False from hp).elim
/-! ### list(range(n)) -/
def eLstRg (f : EM D) : EM D := fun ρ => (f ρ).bind fun d ρ1 => match d with
  | .int n => if 0 ≤ n ∧ n ≤ 1000000 then .ok (.lst (rngD 0 n.toNat)) ρ1 else .stuck
  | _ => .stuck
theorem pd_lstRg {e : Expr} {f : EM D} {p p2 pos pos2 : Pos} (hc : X.calm = true) (hg : Gl X "list") (hm : X.mg "list" = none) (hg2 : Gl X "range") (hm2 : X.mg "range" = none) (he : PD X A W e f)
    (hs1 : starEach [.Call (.Name "range" p2) [e] [] pos2] X.env = (false, eval (.Call (.Name "range" p2) [e] [] pos2) X.env) :: starEach [] X.env := by rfl) (hs2 : starEach [e] X.env = (false, eval e X.env) :: starEach [] X.env := by rfl) :
    PD X A W (.Call (.Name "list" p) [.Call (.Name "range" p2) [e] [] pos2] [] pos) (eLstRg f) :=
  PE.imp (pe_listRg hc hg hm (prg_1 hg2 hm2 he hs2) hs1) fun σ H Q h => by
    obtain ⟨S, ρ, rfl, s, h⟩ := h
    have h' : PostE X.K X.mg A W Q S σ ((f ρ).bind fun d ρ1 => match d with
      | .int n => if 0 ≤ n ∧ n ≤ 1000000 then .ok (.lst (rngD 0 n.toNat)) ρ1 else .stuck
      | _ => .stuck) := h
    refine tD_bind (P := PostE X.K X.mg A W Q S σ) s h' (fun _ _ _ z => z) (fun z => z) fun x ρ1 S1 v hp ev s1 r => ?_
    cases x with
    | int n =>
      have hp' : PostE X.K X.mg A W Q S σ (if 0 ≤ n ∧ n ≤ 1000000 then .ok (.lst (rngD 0 n.toNat)) ρ1 else .stuck) := hp
      by_cases hn : 0 ≤ n ∧ n ≤ 1000000
      · rw [if_pos hn] at hp'
        have hp2 : PostE X.K X.mg A W Q S σ (.ok (.lst (rngD 0 n.toNat)) ρ1) := hp'
        cases (show v = _ from r)
        refine ⟨n, rfl, RgOk.of_le (by omega) (by omega) (by omega) hn.1, fun q hq => ?_⟩
        have rr : RDs X.K X.mg S1.F (rngD 0 n.toNat) (rgV 0 n) := by
          have e1 : rngD 0 n.toNat = ((List.range n.toNat).map fun i => ((i : Nat) : Int)).map D.int := by
            unfold rngD
            rw [List.map_map]
            exact List.map_congr_left fun i _ => by simp
          have e2 : rgV 0 n = ((List.range n.toNat).map fun i => ((i : Nat) : Int)).map V.int := by
            unfold rgV
            rw [List.map_map, Int.sub_zero]
            exact List.map_congr_left fun i _ => by simp
          rw [e1, e2]
          exact RDs.ints _
        exact give_lst s1.sub rr (fun S' w g r => hp2 S' w (ev.trans g.ev) (s1.gr g) r) q hq
      · rw [if_neg hn] at hp'
        exact (show False from hp').elim
    | _ => exact (show False from hp).elim
/-! ### list(e), a new list that the body owns -/
def lList (o : Opd) : EM (List D) := fun ρ => (o.go ρ).bind fun x ρ1 => (Out.lift ρ1 (o.rd ρ1 x)).bind fun x ρ2 => Out.lift ρ2 (dItems x)
theorem pl_list {e : Expr} {o : Opd} {p pos : Pos} (hg : Gl X "list") (hm : X.mg "list" = none) (he : PO' X A W e o) (hs : starEach [e] X.env = (false, eval e X.env) :: starEach [] X.env := by rfl) :
    PL X A W (.Call (.Name "list" p) [e] [] pos) (lList o) :=
  PE.imp (pe_callTy call_list_of hg hm rfl (pa_cons he pa_nil hs) (by decide) (by decide) hs rfl) fun σ H Q h => by
    obtain ⟨S, ρ, rfl, s, h⟩ := h
    have h' : PostL X.K X.mg A W Q S σ ((o.go ρ).bind fun x ρ1 => (Out.lift ρ1 (o.rd ρ1 x)).bind fun x ρ2 => Out.lift ρ2 (dItems x)) := h
    refine opd_bind (P := PostL X.K X.mg A W Q S σ) s h' (fun _ _ _ z => z) (fun z => z) fun x ρ1 S1 v hp ev s1 r => ?_
    cases ex : o.rd ρ1 x with
    | none =>
      rw [ex] at hp
      exact (show False from hp).elim
    | some y =>
      rw [ex] at hp
      have hp' : PostL X.K X.mg A W Q S σ (Out.lift ρ1 (dItems y)) := hp
      cases q : dItems y with
      | none =>
        rw [q] at hp'
        exact (show False from hp').elim
      | some xs =>
        rw [q] at hp'
        obtain ⟨a, vs, rfl, h2, h3⟩ := rb_items s1.sub (r.rb s1 ex) q
        refine ⟨a, vs, rfl, h2, fun l hl => ?_⟩
        exact laid ev s1 h3 hp' l hl
end
end DL
end

section
set_option Elab.async false
set_option linter.all false
set_option maxRecDepth 100000
set_option maxHeartbeats 4000000
/-! A dict comprehension with tuples as keys. -/
namespace L2
open PySem PySem.Spec PyProof.Rows
theorem d_dictSetT {X : Cx} {pins : List (Addr × Obj)} {σ : St} {H : Hp} {s : Shared} {E : Value → Shared → Prop} {a b : Addr} {kvs : List (List Key × V)} {k : List Key} {v : V} {r : Value} {Q : Unit → Shared → Prop} {A : Around} (hu : A.units < cLine) (I : Inv X pins σ H s)
    (e : H a = some (.dT kvs)) (l : kvs.length < sizeLine) (eb : H b = some (.tup (k.map kV))) (rv : RelV v r) (h : ∀ s', Inv X pins σ (upd H a (.dT (putK kvs k v))) s' → Q () s') : wpAny (model X.prog X.w) A (dictSet a (.ref b) r) Q E s := by
  obtain ⟨z, hd, xs, rel, dd⟩ := dt_of I.hok e
  have hz : xs.length ≤ sizeLine := by rw [← Paired.length rel]; exact z
  have hl : (putK kvs k v).length ≤ sizeLine := by have := length_putK kvs k v; omega
  refine wpAny_dictSet_heap (hsz := hz) hu (key_of I.hok eb) dd fun h' dd' hs => h _ ?_
  obtain ⟨q, es, ep, hq, h2, h3, h4, _, h5⟩ := dd'
  refine d_write I (by rw [e]; exact True.intro) hs ⟨q, hq⟩ ⟨hl, hd, _, (rel.put k eb rv).keeps fun c ys ec => ?_, q, es, ep, hq, h2, h3, h4, h5⟩
  rw [upd_ne (ne_of ec e (fun z => nomatch z))]
  exact ec
def tDcT (wi : TI) (g : TG) (tk tv : TE) (vs : List Nat) : TE := fun σ H Q => wi σ H fun J H1 => ∀ D, H1 D = none → ∃ W : Nat → Nat → Hp → Prop, (∃ m, W 0 m (upd H1 D (.dT []))) ∧ ∀ i m H, W i m H →
  (J.stop i H ∧ Q (.ref D) H) ∨ (J.go i H ∧ ∃ Nx : Hp → Prop, (∀ H', Nx H' → ∃ m', m' < m ∧ W (i + 1) m' H') ∧ ∀ x H', J.yld i H x H' → g x (wipe σ vs) H' fun σ2 H2 => wipe σ2 vs = wipe σ vs ∧
    tk σ2 H2 fun y H4 => tv σ2 H4 fun z H5 => ∃ b kvs k, y = .ref b ∧ H5 b = some (.tup (k.map kV)) ∧ H5 D = some (.dT kvs) ∧ kvs.length < sizeLine ∧ Nx (upd H5 D (.dT (putK kvs k z))))
theorem pe_dcT {X : Cx} {kx vx tg iter : Expr} {scope : Scope} {own : List (Str × Nat)} {pos : Pos} {wi : TI} {g : TG} {tk tv : TE} (hu : X.A.units < cLine) (hc : X.calm = true) (hN : X.N.Nodup) (hi : PI X tg iter wi) (ok : BlkOk X.N X.env.scope scope own)
    (hg : ∀ (s : Shared) (H : Hp) (C : Addr) (cl : List (Str × Addr)) (fp : List Addr), PG (X.blk s H scope (compEnvC scope cl C X.env) fp) tg g)
    (hk : ∀ (s : Shared) (H : Hp) (C : Addr) (cl : List (Str × Addr)) (fp : List Addr), PE (X.blk s H scope (compEnvC scope cl C X.env) fp) kx tk)
    (he : ∀ (s : Shared) (H : Hp) (C : Addr) (cl : List (Str × Addr)) (fp : List Addr), PE (X.blk s H scope (compEnvC scope cl C X.env) fp) vx tv) (hs : ∀ x, foldedSetIterable iter X.env x = pure x := by intro _; rfl) :
    PE X (.DictComp kx vx [⟨tg, iter, [], 0⟩] scope pos) (tDcT wi g tk tv (own.map (·.2))) := by
  refine ⟨fun pins s σ H Q I h => ?_⟩
  rw [arm_eval_DictComp]
  have hfree : ∀ y ∈ scope.names, y.2 = .free → ∃ c, X.env.cells.lookup y.1 = some c := fun y hy e => (ok.free y hy e).elim (fun k => I.ok.has _ (.inl k)) fun k => I.ok.has _ (.inr k)
  refine wpAny_comprehension_free (use := none) rfl hs (closure_ok hfree) ok.kind (fun y hy e => by rw [ok.uniq y hy, e]) (thn (hi.run pins s σ H _ I h) fun xv s1 hx => thn hx fun itv s2 h2 => ?_)
  obtain ⟨it, fp, tn, J, H2, rfl, I2, T, st2, f2, q⟩ := h2
  refine wpAny_newObj_type (newEnv_comp ?_)
  generalize hD : s2.heap.objs.size = D
  obtain ⟨W, ⟨m0, w0⟩, turn⟩ := q D (I2.hok.fresh (Nat.le_of_eq hD))
  -- the new dict
  generalize hs3 : ({ s2 with heap := s2.heap.push { cls := .type "dict", data := .dict #[] } } : Shared) = s3
  have I3 : Inv X pins σ (upd H2 D (.dT [])) s3 := by
    subst hs3 hD
    exact I2.laid (t' := s2.toks) (fun b o e => Heap.get?_push_of_some _ e) (Nat.le_refl _) (dt_empty s2.heap I2.big)
  have h3 : s3.heap = s2.heap.push { cls := .type "dict", data := .dict #[] } := by rw [← hs3]
  have f3 : ∀ b ∈ fp, FpOk X pins (upd H2 D (.dT [])) b ∧ b < s3.heap.objs.size := fun b hb => by
    obtain ⟨o, e, _⟩ := T.obj _ _ st2 b hb
    have lt := Heap.lt_size e
    refine ⟨⟨?_, (f2 b hb).2⟩, by rw [h3, Heap.size_push]; exact Nat.lt_succ_of_lt lt⟩
    rw [upd_ne (by rw [← hD]; exact Nat.ne_of_lt lt)]
    exact (f2 b hb).1
  have st3 : tn 0 s3.heap := T.keep _ _ _ st2 fun b _ o e => by rw [h3]; exact Heap.get?_push_of_some _ e
  have I4 := block_start I3 ok hN f3
  have pg := hg s3 (upd H2 D (.dT [])) s3.heap.objs.size (cellsFrom (s3.heap.objs.size + 1) scope.names (cloFrom X.env.cells scope.names [])) fp
  have pk := hk s3 (upd H2 D (.dT [])) s3.heap.objs.size (cellsFrom (s3.heap.objs.size + 1) scope.names (cloFrom X.env.cells scope.names [])) fp
  have pv := he s3 (upd H2 D (.dT [])) s3.heap.objs.size (cellsFrom (s3.heap.objs.size + 1) scope.names (cloFrom X.env.cells scope.names [])) fp
  show codeAny _ _ (.compStart (.DictComp kx vx [⟨tg, iter, [], 0⟩] scope pos) 0 (.ref it) (.ref D) (compEnvC scope (cellsFrom (s3.heap.objs.size + 1) scope.names (cloFrom X.env.cells scope.names [])) s3.heap.objs.size X.env)) (compPost (model X.prog X.w) X.A X.xe none (EP X pins σ Q) (.ref D) s3.heap.objs.size) { s3 with heap := pushCells (s3.heap.push { cls := .type "dict", data := .dict #[] }) scope.names }
  have nfp : ∀ b ∈ fp, (upd H2 D (.dT [])) b = none := fun b hb => (f3 b hb).1.1
  generalize hce : compEnvC scope (cellsFrom (s3.heap.objs.size + 1) scope.names (cloFrom X.env.cells scope.names [])) s3.heap.objs.size X.env = ce at I4 pg pk pv ⊢
  have cL : ce.locals = s3.heap.objs.size := by subst hce; rfl
  generalize hH3 : upd H2 D (.dT []) = H3 at I3 I4 pg pk pv w0 nfp f3
  generalize hs4 : ({ s3 with heap := pushCells (s3.heap.push { cls := .type "dict", data := .dict #[] }) scope.names } : Shared) = s4 at I4 ⊢
  have st4 : tn 0 s4.heap := T.keep _ _ _ st3 fun b _ o e => by rw [← hs4]; exact pushCells_keeps _ _ _ _ (Heap.get?_push_of_some _ e)
  have stat : ∀ {σ' : St} {H' : Hp} {s' : Shared}, Inv (X.blk s3 H3 scope ce fp) [] σ' H' s' → (∀ b ∈ fp, H' b = none) → ∀ b ∈ fp, FpOk (X.blk s3 H3 scope ce fp) [] H' b := fun I' hn b hb =>
    ⟨hn b hb, (I'.ok.exf b hb).1, I'.ok.exfs b hb, .inl hb, fun x c e => (I'.ok.exf b hb).2 x c e, fun p hp => absurd (show p ∈ ([] : List (Addr × Obj)) ++ [] from hp) (by simp)⟩
  have loop : codeAny (model X.prog X.w) X.A (.compLoop (.DictComp kx vx [⟨tg, iter, [], 0⟩] scope pos) 0 (.ref it) (.ref D) ce) (compPost (model X.prog X.w) X.A X.xe none (EP X pins σ Q) (.ref D) s3.heap.objs.size) s4 := by
    refine compLoop_anyD (fun n s' => ∃ i H', Inv (X.blk s3 H3 scope ce fp) [] (wipe σ (own.map (·.2))) H' s' ∧ tn i s'.heap ∧ (∀ b ∈ fp, H' b = none) ∧ W i n H') ?_ m0 ⟨0, H3, I4, st4, nfp, w0⟩
    rintro n s5 ⟨i, H5, I5, st5, n5, w5⟩
    rcases turn i n H5 w5 with ⟨stop, qq⟩ | ⟨go, Nx, hNx, step⟩
    · refine thnF (T.done (X.blk s3 H3 scope ce fp) rfl rfl rfl hc i [] s5 _ H5 (fun _ _ => False) I5 (stat I5 n5) st5 stop) fun r s6 ⟨hr, I6⟩ => ?_
      subst hr
      have I7 : Inv X pins σ H5 s6 := I3.call' (ch := fp) I6.os I6.base I6.hok I6.bare fun b hb => ⟨(f3 b hb).1.2.2.2.1, (f3 b hb).1.2.1, (f3 b hb).1.2.2.2.2.1, (f3 b hb).1.2.2.2.2.2⟩
      have nC : H5 s3.heap.objs.size = none := by
        have z : H5 ce.locals = none := I6.free
        rw [cL] at z
        exact z
      obtain ⟨m, hn, _⟩ := I6.loc
      have hn : s6.heap.Ns ce.locals m := hn
      rw [cL] at hn
      have fC := I3.fpOk (Nat.le_refl _) nC
      obtain ⟨g0, g1, g2, g3, g4, g5⟩ := fC
      exact ⟨m, hn, fun h'' sb => ⟨.ref D, H5, I7.turned (t' := s6.toks) (fun b o hb e => (sb.2 b hb).trans e) g0 g1 g3 g4 g5, rfl, qq⟩⟩
    · refine thnF (T.item (X.blk s3 H3 scope ce fp) rfl rfl rfl hc i [] s5 _ H5 (fun _ _ => False) I5 (stat I5 n5) st5 go) fun r s6 ⟨u, hr, h6⟩ => ?_
      subst hr
      refine thnF h6 fun _ s7 ⟨x, H7, I7, r7, y7, st7, n7⟩ => ?_
      have I7' := I7.pinned (stat I7 n7) (T.obj _ _ st7)
      refine thnF (pg.run _ s7 _ H7 x u _ I7' r7 (step x H7 y7)) fun _ s8 ⟨σ8, H8, I8, hw8, q8⟩ => ?_
      refine thnF ((pts_nil (X := X.blk s3 H3 scope ce fp)).run _ s8 σ8 H8 (fun b H' => b = true ∧ tk σ8 H' fun y H4 => tv σ8 H4 fun z H5 => ∃ b kvs k, y = .ref b ∧ H5 b = some (.tup (k.map kV)) ∧ H5 D = some (.dT kvs) ∧ kvs.length < sizeLine ∧ Nx (upd H5 D (.dT (putK kvs k z)))) I8 ⟨rfl, q8⟩) fun b s9 ⟨H9, I9, eb, q9⟩ => ?_
      subst eb
      simp only [if_true]
      refine thnF (pk.run _ s9 σ8 H9 _ I9 q9) fun z s10 ⟨yk, H10, I10, r10, q10⟩ => ?_
      refine thnF (pv.run _ s10 σ8 H10 _ I10 q10) fun z2 s11 ⟨yv, H11, I11, r11, kb, kvs, k, ek, hkb, hD11, hz11, nx⟩ => ?_
      subst ek
      cases (show z = Value.ref kb from r10)
      refine d_dictSetT (X := X.blk s3 H3 scope ce fp) hu I11 hD11 hz11 hkb r11 fun s12 I12 => ?_
      obtain ⟨m', hm, w'⟩ := hNx _ nx
      have pin' : ∀ b ∈ fp, ∀ o, s7.heap.get? b = some o → s12.heap.get? b = some o ∧ (upd H11 D (.dT (putK kvs k yv))) b = none := fun b hb o e =>
        let z := I12.pin (b, o) (List.mem_append_right _ (List.mem_append_right _ (mem_pinsAt hb e)))
        ⟨z.1, z.2.1⟩
      have hl : (wipe σ (own.map (·.2))).length = σ8.length := by rw [← hw8, wipe_length]
      refine ⟨m', hm, i + 1, _, (I12.unpinned (pins := [])).weak hl (fun j v e => ?_), T.keep _ _ _ st7 fun b hb o e => (pin' b hb o e).1, fun b hb => ?_, w'⟩
      · rw [← hw8] at e
        exact (wipe_some e).1
      · obtain ⟨o, e, _⟩ := T.obj _ _ st7 b hb
        exact (pin' b hb o e).2
  exact codeAny_compStart_dict loop (T.self X.A 0 _ _ _ st4 loop)
end L2
end

section
set_option Elab.async false
set_option linter.all false
set_option maxRecDepth 100000
/-! {k: v for target in it}, the keys tuples of ints, in the D layer. -/
namespace DL
open PySem PySem.Spec PyProof.Rows L2
def keyT : D → Option (List Key)
  | .tup xs => (asIs xs).map fun ns => ns.map Sum.inl
  | _ => none
def dcL (ws : List Nat) (g : Tgt) (fk fv : EM D) : List D → List (List Key) → List D → EM D
  | [], ks, ds => fun ρ => .ok (.dT ks ds) ρ
  | x :: xs, ks, ds => fun ρ => match g x (wipeR ρ ws) with
    | none => .stuck
    | some ρ1 => match fk ρ1 with
      | .ok y ρ2 => match fv ρ2 with
        | .ok z ρ3 => match keyT y with
          | some k => if (ks.any fun x => decide (x = k)) = true then .stuck else dcL ws g fk fv xs (ks ++ [k]) (ds ++ [z]) (restore ρ ρ3 ws)
          | none => .stuck
        | _ => .stuck
      | _ => .stuck
def eDcT (it : EM (List D)) (ws : List Nat) (g : Tgt) (fk fv : EM D) : EM D := fun ρ => (it ρ).bind fun items ρ1 => if (ws.all fun w => notOw ρ1[w]?) = true ∧ items.length < 1000000 then dcL ws g fk fv items [] [] ρ1 else .stuck
section
variable {X : Cx} {A : List V} {W : WX} {S S' : Cfg} {σ σ2 : L2.St} {ρ ρ2 : Env'}
theorem dct_it {J : It} {n : Nat} {G : Hp → Prop} {Y : Nat → Hp → V → Hp → Prop} (w : Walk J n G Y) {g : TG} {tk tv : TE} {vs : List Nat} {σ : L2.St} {H1 : Hp} {D : Addr} {Qd : Hp → Prop} (Pv : Nat → Hp → Prop) (h0 : Pv 0 (upd H1 D (.dT []))) (hG : ∀ i H, i ≤ n → Pv i H → G H)
    (hs : ∀ i x H H', i < n → Pv i H → Y i H x H' → g x (L2.wipe σ vs) H' fun σ2 H2 => L2.wipe σ2 vs = L2.wipe σ vs ∧
      tk σ2 H2 fun y H4 => tv σ2 H4 fun z H5 => ∃ b kvs k, y = .ref b ∧ H5 b = some (.tup (k.map kV)) ∧ H5 D = some (.dT kvs) ∧ kvs.length < sizeLine ∧ Pv (i + 1) (upd H5 D (.dT (putK kvs k z)))) (hd : ∀ H, Pv n H → Qd H) :
    ∃ W : Nat → Nat → Hp → Prop, (∃ m, W 0 m (upd H1 D (.dT []))) ∧ ∀ i m H, W i m H →
      (J.stop i H ∧ Qd H) ∨ (J.go i H ∧ ∃ Nx : Hp → Prop, (∀ H', Nx H' → ∃ m', m' < m ∧ W (i + 1) m' H') ∧ ∀ x H', J.yld i H x H' → g x (L2.wipe σ vs) H' fun σ2 H2 => L2.wipe σ2 vs = L2.wipe σ vs ∧
        tk σ2 H2 fun y H4 => tv σ2 H4 fun z H5 => ∃ b kvs k, y = .ref b ∧ H5 b = some (.tup (k.map kV)) ∧ H5 D = some (.dT kvs) ∧ kvs.length < sizeLine ∧ Nx (upd H5 D (.dT (putK kvs k z)))) := by
  refine ⟨fun i m H => m = n - i ∧ i ≤ n ∧ Pv i H, ⟨n, by simp, Nat.zero_le _, h0⟩, ?_⟩
  rintro i m H ⟨rfl, hi, p⟩
  have q := hG i H hi p
  by_cases hlt : i < n
  · exact .inr ⟨w.goes i H hlt q, Pv (i + 1), fun H' p' => ⟨n - (i + 1), by omega, rfl, hlt, p'⟩, fun x H' y => hs i x H H' hlt p (w.yields i H x H' hlt q y)⟩
  · have e : i = n := by omega
    subst e
    exact .inl ⟨w.stops H q, hd H p⟩
theorem putK_zip {ks : List (List Key)} {vs : List V} {k : List Key} {v : V} (hk : k ∉ ks) (hl : ks.length = vs.length) : putK (ks.zip vs) k v = (ks ++ [k]).zip (vs ++ [v]) := by
  unfold putK
  have e : ((ks.zip vs).any fun kv => decide (kv.1 = k)) = false := by
    refine List.any_eq_false.mpr fun x hx => ?_
    have := (List.of_mem_zip (a := x.1) (b := x.2) hx).1
    simp
    intro z
    exact hk (z ▸ this)
  rw [if_neg (by rw [e]; exact Bool.false_ne_true), List.zip_append hl]
  rfl
theorem keyT_rd {K : PySem.W.Frag} {mg : Str → Option Value} {F : Hp} {y : D} {v : V} {k : List Key} (r : RD K mg F y v) (e : keyT y = some k) : ∃ b, v = .ref b ∧ F b = some (.tup (k.map kV)) := by
  cases y with
  | tup xs =>
    have e' : (asIs xs).map (fun ns => ns.map Sum.inl) = some k := e
    cases q : asIs xs with
    | none =>
      rw [q] at e'
      cases e'
    | some ns =>
      rw [q] at e'
      cases e'
      obtain ⟨b, h1, h2⟩ := tup_ints r (show asIsT (.tup xs) = some ns from q)
      refine ⟨b, h1, ?_⟩
      rw [h2, List.map_map]
      rfl
  | _ => cases e
theorem dct_to {it : EM (List D)} {ws : List Nat} {g : Tgt} {fk fv : EM D} (σ : L2.St) (H : Hp) (Q : VK) (h : tD X.K X.mg A W (eDcT it ws g fk fv) σ H Q) :
    tDcT (tI X A W it) (tG X.K X.mg A ws g) (tD X.K X.mg A W0 fk) (tD X.K X.mg A W0 fv) ws σ H Q := by
  obtain ⟨S, ρ, rfl, s, h⟩ := h
  refine ⟨S, ρ, rfl, s, ?_⟩
  have h0 : PostE X.K X.mg A W Q S σ ((it ρ).bind fun items ρ1 => if (ws.all fun w => notOw ρ1[w]?) = true ∧ items.length < 1000000 then dcL ws g fk fv items [] [] ρ1 else .stuck) := h
  clear h
  cases hi : it ρ with
  | err c d ρ' =>
    rw [hi] at h0
    exact h0
  | stuck =>
    rw [hi] at h0
    exact h0
  | ok items ρ1 =>
    rw [hi] at h0
    have h1 : PostE X.K X.mg A W Q S σ (if (ws.all fun w => notOw ρ1[w]?) = true ∧ items.length < 1000000 then dcL ws g fk fv items [] [] ρ1 else .stuck) := h0
    by_cases hw : (ws.all fun w => notOw ρ1[w]?) = true ∧ items.length < 1000000
    · rw [if_pos hw] at h1
      intro S1 J ev1 s1 wk D hD
      obtain ⟨G, Y, wk1, wk2, wk3⟩ := wk
      let Pv : Nat → Hp → Prop := fun i H => ∃ (S2 : Cfg) (ρ2 : Env') (ks : List (List Key)) (acc : List V) (ad : List DL.D), S2.H = H ∧ Ev S1 (hideC S2 D) ∧ Sat X.K X.mg A S2 σ ρ2 ∧ S2.H D = some (.dT (ks.zip acc)) ∧ ks.length = acc.length ∧ RDs X.K X.mg S2.F ad acc ∧ S2.F D = none ∧ ¬ S2.O D ∧ acc.length ≤ i ∧ (ws.all fun w => notOw ρ2[w]?) = true ∧
        PostE X.K X.mg A W Q S σ (dcL ws g fk fv (items.drop i) ks ad ρ2)
      have hOD : ¬ S1.O D := fun q => by
        obtain ⟨o, e⟩ := s1.ownH D q
        rw [hD] at e
        cases e
      have back : ∀ {S2 : Cfg}, Ev S1 (hideC S2 D) → Ev S1 S2 := fun {S2} ev2 => ⟨fun a o h n => (hide_some (ev2.same a o h n)).2, ev2.frz, ev2.newF, fun p h => ev2.own p h, fun a o h => by
        obtain ⟨o', z⟩ := ev2.there a o h
        exact ⟨o', (hide_some z).2⟩⟩
      refine dct_it (w := wk1) Pv ?_ (fun i H _ p => ?_) (fun i x H H' hlt p y => ?_) (fun H p => ?_)
      · refine ⟨S1.raw D (.dT []), ρ1, [], [], [], rfl, ?_, s1.gr (.raw s1.sub hD), upd_same, rfl, rfl, none_sub s1.sub hD, hOD, Nat.le_refl _, hw.1, ?_⟩
        · refine ⟨fun a o h n => ?_, fun _ _ h => h, fun _ _ _ _ => rfl, fun p h => .inl h, fun a o h => ⟨o, ?_⟩⟩
          · rw [hide_ne (ne_of_none h hD)]
            exact same_upd hD a o h
          · rw [hide_ne (ne_of_none h hD)]
            exact same_upd hD a o h
        · rw [List.drop_zero]
          exact h1
      · obtain ⟨S2, ρ2, ks, acc, ad, rfl, ev2, s2, hd2, hl2, r2, f2, o2, l2, w2, hp2⟩ := p
        exact wk2 S2 (back ev2) s2.sub
      · obtain ⟨S2, ρ2, ks, acc, ad, rfl, ev2, s2, hd2, hl2, r2, f2, o2, l2, w2, hp2⟩ := p
        obtain ⟨S3, d, rfl, g3, di, rd⟩ := wk3 i S2 x H' hlt (back ev2) s2.sub y
        have hdrop : items.drop i = d :: items.drop (i + 1) := by
          rw [List.drop_eq_getElem_cons hlt]
          rw [List.getElem?_eq_getElem hlt] at di
          rw [Option.some.inj di]
        rw [hdrop] at hp2
        have s3 := s2.gr g3
        refine ⟨S3, wipeR ρ2 ws, d, rfl, s3.wipe ws, rd, ?_⟩
        have hp3 : PostE X.K X.mg A W Q S σ (match g d (wipeR ρ2 ws) with
          | none => Out.stuck
          | some ρ1 => match fk ρ1 with
            | .ok y ρ2' => match fv ρ2' with
              | .ok z ρ3 => match keyT y with
                | some k => if (ks.any fun x => decide (x = k)) = true then .stuck else dcL ws g fk fv (items.drop (i + 1)) (ks ++ [k]) (ad ++ [z]) (restore ρ2 ρ3 ws)
                | none => .stuck
              | _ => .stuck
            | _ => .stuck) := hp2
        cases eg : g d (wipeR ρ2 ws) with
        | none =>
          rw [eg] at hp3
          exact hp3.elim
        | some ρa =>
          rw [eg] at hp3
          intro σa wa sa
          have wa' : L2.wipe σa ws = L2.wipe σ ws := wa.trans wipe_wipe
          refine ⟨wa', S3, ρa, rfl, sa, ?_⟩
          have hD3 : S3.H D = some (.dT (ks.zip acc)) := g3.H _ _ hd2
          have fD3 : S3.F D = none := by rw [g3.new D _ hd2]; exact f2
          have oD3 : ¬ S3.O D := by rw [g3.O]; exact o2
          have ev23 : Ev (hideC S2 D) (hideC S3 D) := g3.ev.hide
          cases ek : fk ρa with
          | err _ _ _ =>
            simp only [ek] at hp3
            exact (show False from hp3).elim
          | stuck =>
            simp only [ek] at hp3
            exact (show False from hp3).elim
          | ok yk ρb =>
            simp only [ek] at hp3
            intro S4 vk ev4 s4 rk
            refine ⟨S4, ρb, rfl, s4, ?_⟩
            cases ef : fv ρb with
            | err _ _ _ =>
              simp only [ef] at hp3
              exact (show False from hp3).elim
            | stuck =>
              simp only [ef] at hp3
              exact (show False from hp3).elim
            | ok z ρc =>
              simp only [ef] at hp3
              intro S5 v ev5 s5 rv
              cases eq : keyT yk with
              | none =>
                simp only [eq] at hp3
                exact (show False from hp3).elim
              | some k =>
                simp only [eq] at hp3
                by_cases hk : (ks.any fun x => decide (x = k)) = true
                · rw [if_pos hk] at hp3
                  exact (show False from hp3).elim
                · rw [if_neg hk] at hp3
                  obtain ⟨kb, rfl, fkb⟩ := keyT_rd rk eq
                  have hD4 := ev4.same _ _ hD3 oD3
                  have oD4 : ¬ S4.O D := fun q => by
                    rcases ev4.own D q with z | z
                    · exact oD3 z
                    · rw [hD3] at z
                      cases z
                  have fD4 : S4.F D = none := by rw [ev4.newF D _ hD3 oD3]; exact fD3
                  have hD5 := ev5.same _ _ hD4 oD4
                  have oD5 : ¬ S5.O D := fun q => by
                    rcases ev5.own D q with z | z
                    · exact oD4 z
                    · rw [hD4] at z
                      cases z
                  have fD5 : S5.F D = none := by rw [ev5.newF D _ hD4 oD4]; exact fD4
                  have sr : Sat X.K X.mg A S5 σ (restore ρ2 ρc ws) := s2.restore s5 (fun a o e => ev5.frz a o (ev4.frz a o (g3.F a o e))) wa' w2
                  refine ⟨kb, ks.zip acc, k, rfl, s5.sub _ _ (ev5.frz _ _ fkb), hD5, ?_, ?_⟩
                  · have h1 : (ks.zip acc).length ≤ items.length := by rw [List.length_zip]; omega
                    have h2 := hw.2
                    exact Nat.lt_of_lt_of_le (Nat.lt_of_le_of_lt h1 h2) (by decide)
                  rw [putK_zip (k := k) (fun z => hk (List.any_eq_true.mpr ⟨k, z, decide_eq_true rfl⟩)) hl2]
                  refine ⟨⟨S5.F, upd S5.H D (.dT ((ks ++ [k]).zip (acc ++ [v]))), S5.O⟩, restore ρ2 ρc ws, ks ++ [k], acc ++ [v], ad ++ [z], rfl, ?_, ?_, upd_same, by simp [hl2], (((r2.mono g3.F).mono ev4.frz).mono ev5.frz).app (RDs.one rv), fD5, oD5, by simp; omega, ?_, hp3⟩
                  · have e5 : hideC (⟨S5.F, upd S5.H D (.dT ((ks ++ [k]).zip (acc ++ [v]))), S5.O⟩ : Cfg) D = hideC S5 D := by
                      have : (fun a => if a = D then none else upd S5.H D (.dT ((ks ++ [k]).zip (acc ++ [v]))) a) = fun a => if a = D then none else S5.H a := by
                        funext a
                        by_cases q : a = D
                        · rw [if_pos q, if_pos q]
                        · rw [if_neg q, if_neg q, upd_ne q]
                      show (⟨S5.F, fun a => if a = D then none else upd S5.H D (.dT ((ks ++ [k]).zip (acc ++ [v]))) a, S5.O⟩ : Cfg) = _
                      rw [this]
                      rfl
                    rw [e5]
                    exact ((ev2.trans ev23).trans ev4.hide).trans ev5.hide
                  · obtain ⟨fp, t1, t2, t3⟩ := sr.sl
                    refine ⟨fun a o e => ?_, sr.ownF, fun p hp => ?_, sr.len, ⟨fp, fun i sl e => ?_, t2, t3⟩, sr.io⟩
                    · have na : a ≠ D := fun z => by
                        have e' : S5.F a = some o := e
                        rw [z, fD5] at e'
                        cases e'
                      show upd S5.H D (.dT ((ks ++ [k]).zip (acc ++ [v]))) a = some o
                      rw [upd_ne na]
                      exact sr.sub a o e
                    · have np : p ≠ D := fun z => oD5 (by rw [← z]; exact hp)
                      obtain ⟨o, e⟩ := sr.ownH p hp
                      exact ⟨o, by show upd S5.H D (.dT ((ks ++ [k]).zip (acc ++ [v]))) p = some o; rw [upd_ne np]; exact e⟩
                    · obtain ⟨u, q1, q2⟩ := t1 i sl e
                      refine ⟨u, q1, q2.grow (fun _ _ z => z) fun p o hp hh => ?_⟩
                      have np : p ≠ D := fun z => oD5 (by rw [← z]; exact t2 i p hp)
                      show upd S5.H D (.dT ((ks ++ [k]).zip (acc ++ [v]))) p = some o
                      rw [upd_ne np]
                      exact hh
                  · refine List.all_eq_true.mpr fun w hw' => ?_
                    have hl : ρ2.length = ρc.length := by
                      have e1 := s2.len
                      have e2 := s5.len
                      have e3 := congrArg List.length wa'
                      rw [wipe_length, wipe_length] at e3
                      omega
                    rw [restore_get _ _ hl, if_pos hw']
                    exact List.all_eq_true.mp w2 w hw'
      · obtain ⟨S2, ρ2, ks, acc, ad, rfl, ev2, s2, hd2, hl2, r2, f2, o2, l2, w2, hp2⟩ := p
        rw [List.drop_length] at hp2
        have hp3 : PostE X.K X.mg A W Q S σ (.ok (.dT ks ad) ρ2) := hp2
        have evR := ev1.trans (back ev2)
        exact hp3 ⟨upd S2.F D (.dT (ks.zip acc)), S2.H, S2.O⟩ (.ref D) (evR.fzRaw f2 (ev1.nil hD)) (s2.fzRaw hd2 f2 o2) ⟨D, acc, rfl, upd_same, hl2, r2.mono (same_upd f2)⟩
    · rw [if_neg hw] at h1
      exact (show False from h1).elim
theorem pd_dcT {kx vx tg iter : Expr} {scope : Scope} (own : List (Str × Nat)) {pos : Pos} {it : EM (List D)} {g : Tgt} {fk fv : EM D} (hu : X.A.units < cLine) (hc : X.calm = true) (hN : X.N.Nodup) (hi : PID X A W tg iter it) (ok : BlkOk X.N X.env.scope scope own)
    (hg : ∀ (s : Shared) (H : Hp) (C : Addr) (cl : List (Str × Addr)) (fp : List Addr), PGD (X.blk s H scope (compEnvC scope cl C X.env) fp) A tg (own.map (·.2)) g)
    (hk : ∀ (s : Shared) (H : Hp) (C : Addr) (cl : List (Str × Addr)) (fp : List Addr), PD (X.blk s H scope (compEnvC scope cl C X.env) fp) A W0 kx fk)
    (he : ∀ (s : Shared) (H : Hp) (C : Addr) (cl : List (Str × Addr)) (fp : List Addr), PD (X.blk s H scope (compEnvC scope cl C X.env) fp) A W0 vx fv) (hs : ∀ x, foldedSetIterable iter X.env x = pure x := by intro _; rfl) :
    PD X A W (.DictComp kx vx [⟨tg, iter, [], 0⟩] scope pos) (eDcT it (own.map (·.2)) g fk fv) := PE.imp (pe_dcT hu hc hN hi ok hg hk he hs) fun σ H Q h => dct_to σ H Q h
end
end DL
end

section
set_option Elab.async false
set_option linter.all false
set_option maxRecDepth 100000
/-! The head's facts: own errors with a closure in __init__, a plain class, read by a Hook. -/
namespace Hy
open PySem PySem.Spec PyProof.Rows L2 He DL
/-- a method that closes over __class__ -/
abbrev FnC : Type := Option (Str × Str × Arguments × FuncBody × Scope × Addr × List Str × Addr)
def fnC (K : PySem.W.Frag) (p : Str × Option Str) : FnC := match K.lookup (fAd K p) with
  | some ⟨_, _, .func fd, _⟩ => some (fd.name, fd.qualname, fd.params, fd.body, fd.scope, fd.globals, fd.closure.map (·.1), fd.builtins)
  | _ => none
structure ErD where
  cls : Str
  qual : Str
  params : Arguments
  body : List Stmt
  scope : Scope
def ErD.val (d : ErD) : FnC := some ("__init__", d.qual, d.params, .stmts d.body, d.scope, mainGlobals, ["__class__"], builtinsNs)
def iOf (K : PySem.W.Frag) (c : Str) : Addr := ma K (ga K c) "__init__"
def cdOf (K : PySem.W.Frag) (c : Str) : Addr := match K.lookup (iOf K c) with
  | some ⟨_, _, .func fd, _⟩ => (match fd.code with
    | .ref a => a
    | _ => 0)
  | _ => 0
def ccOf (K : PySem.W.Frag) (c : Str) : Addr := match K.lookup (iOf K c) with
  | some ⟨_, _, .func fd, _⟩ => (match fd.closure with
    | [(_, a)] => a
    | _ => 0)
  | _ => 0
def fnPart (K : PySem.W.Frag) (c qn : Str) : Bool := match K.lookup (iOf K c) with
  | some ⟨_, _, .func fd, _⟩ => decide (fd.defaults = .none) && (decide (fd.kwdefaults = .none) && (decide (fd.code = .ref (cdOf K c)) && (decide (fd.closure = [(("__class__" : Str), ccOf K c)]) && PySem.W.codeIn K (.ref (cdOf K c)) qn)))
  | _ => false
def clsPart (K : PySem.W.Frag) (C : Addr) (new : String) (hd : Bool) (ok : List Value → Bool) : Bool := match K.lookup C with
  | some ⟨oc, _, .cls cd, sl⟩ => decide (oc = .type "type") && ((match cd.mro with
    | c :: bm => decide (c = .ref C) && ok bm
    | _ => false) && (decide (cd.hasDel = false) && ((!hd || cd.hasDict) && (match sl.toList with
    | [_, _, _, _, some (.builtin n), _] => decide (n = new)
    | _ => false))))
  | _ => false
theorem clsPart_ok {K : PySem.W.Frag} {C : Addr} {new : String} {hd : Bool} {ok : List Value → Bool} (h : clsPart K C new hd ok = true) :
    ∃ nm q N bs bm hdct sn sub ab col dd k0 k1 k2 k3 k5, K.lookup C = some (excClassObj nm q C N bs bm hdct sn sub ab col dd k0 k1 k2 k3 k5 new) ∧ ok bm = true ∧ (hd = true → hdct = true) := by
  unfold clsPart at h
  split at h
  · rename_i oc od cd sl q
    obtain ⟨h1, a1⟩ := ba h
    obtain ⟨h2, a2⟩ := ba a1
    obtain ⟨h3, a3⟩ := ba a2
    obtain ⟨h4, h5⟩ := ba a3
    clear h a1 a2 a3
    have e1 := of_decide_eq_true h1
    have e3 := of_decide_eq_true h3
    clear h1 h3
    obtain ⟨n1, n2, n3, n4, n5, n6, n7, n8, n9, n10, n11⟩ := cd
    obtain ⟨sl⟩ := sl
    dsimp only at h2 e3 h4 h5
    subst e1
    subst e3
    split at h2
    · rename_i c bm
      obtain ⟨h6, h7⟩ := ba h2
      have e6 := of_decide_eq_true h6
      subst e6
      split at h5
      · rename_i k0 k1 k2 k3 n k5
        have e5 := of_decide_eq_true h5
        subst e5
        exact ⟨_, _, _, _, bm, _, _, _, _, _, _, k0, k1, k2, k3, k5, q, h7, fun z => by
          rw [z] at h4
          simpa using h4⟩
      · cases h5
    · cases h2
  · cases h
/-! ### an error -/
def cellPart (K : PySem.W.Frag) (a C : Addr) : Bool := match K.lookup a with
  | some ⟨_, _, .cell (some v), _⟩ => decide (v = .ref C)
  | _ => false
def codePart (K : PySem.W.Frag) (a : Addr) (file : Str) : Bool := match K.lookup a with
  | some ⟨_, _, .fields vs, _⟩ => (match vs[2]? with
    | some (Value.str f _) => file == f
    | _ => false)
  | _ => false
def errB (file : Str) (K : PySem.W.Frag) (c qn : Str) : Bool :=
  clsPart K (ga K c) "ValueError.__new__" true PySem.HandSPX.refsVE && (eqO (PySem.W.findIn K (.ref (ga K c)) "__setattr__") (some (some (.builtin "object.__setattr__"))) && (eqO (PySem.W.findIn K (.ref (ga K c)) "at") (some none) &&
  (eqO (PySem.W.findIn K (.ref (ga K c)) "__init__") (some (some (.ref (iOf K c)))) && (decide (PySem.W.typeIn K (.ref (iOf K c)) = some (.type "function")) && (PySem.W.keepIn K (.ref (ga K c)) &&
  (decide (PySem.W.subIn K (.ref (ga K c)) (.type "BaseException") = some true) && (decide (PySem.W.subIn K (.ref (ga K c)) (.type "ValueError") = some true) && (decide (PySem.W.mroIn K (ga K c) (.ref (ga K c)) = some true) &&
  (decide (PySem.W.typeIn K (.ref (ga K c)) = some (.type "type")) && (eqO (PySem.W.ks_superIn K (ga K c) (ga K c) "__init__") (some (some (.builtin "ValueError.__init__"))) && (eqO (PySem.W.nsIn K cStatics "thirdparty.any") (some none) &&
  (eqO (PySem.W.nsIn K mainGlobals "super") (some none) && (cellPart K (ccOf K c) (ga K c) && (codePart K (cdOf K c) file && (fnPart K c qn && L2.xfB K (ga K c))))))))))))))))
theorem err_ok {P : Program} {K : PySem.W.Frag} {c qn : Str} {z : Str} {k : Nat} {p1 p2 q1 q2 q3 q4 q5 q6 r1 r2 r3 r4 : Pos} (h : errB P.main.file K c qn = true) (hf : fnC K (c, some "__init__") = ErD.val ⟨c, qn, AtX.iA p1 p2, AtX.iB z k q1 q2 q3 q4 q5 q6 r1 r2 r3 r4, AtX.iS⟩)
    (hnt : (P.main.scope.names.lookup ("super" : Str)).isSome = false)
    (hm : ∀ cda cc L : Addr, ∃ pl : Sem Bool, eval (.Call (.Attribute (.Call (.Name "super" q1) [] [] q2) "__init__" q3) [.Constant (.str z) k q4] [] q5) (PySem.W.ksEnv qn AtX.iS L (iOf K c) (.ref cda) cc) = (do
        let ov ← attributeBase (.Call (.Name "super" q1) [] [] q2) "__init__" (PySem.W.ksEnv qn AtX.iS L (iOf K c) (.ref cda) cc) (eval (.Call (.Name "super" q1) [] [] q2) (PySem.W.ksEnv qn AtX.iS L (iOf K c) (.ref cda) cc))
        standAt q3.atName
        let (f, first) ← holding [ov] (getMethod ov "__init__" pl)
        callWith q5 f first (backTo q5 (starEach [.Constant (.str z) k q4] (PySem.W.ksEnv qn AtX.iS L (iOf K c) (.ref cda) cc))) [])) : AtX.AtC P K (ga K c) (iOf K c) (ccOf K c) (cdOf K c) ∧ L2.XfC K (ga K c) ∧ PySem.W.findIn K (.ref (ga K c)) "at" = some none := by
  unfold errB at h
  obtain ⟨h1, a⟩ := ba h
  obtain ⟨h2, a⟩ := ba a
  obtain ⟨h3, a⟩ := ba a
  obtain ⟨h4, a⟩ := ba a
  obtain ⟨h5, a⟩ := ba a
  obtain ⟨h6, a⟩ := ba a
  obtain ⟨h7, a⟩ := ba a
  obtain ⟨h8, a⟩ := ba a
  obtain ⟨h9, a⟩ := ba a
  obtain ⟨h10, a⟩ := ba a
  obtain ⟨h11, a⟩ := ba a
  obtain ⟨h12, a⟩ := ba a
  obtain ⟨h13, a⟩ := ba a
  obtain ⟨h14, a⟩ := ba a
  obtain ⟨h15, a⟩ := ba a
  obtain ⟨h16, h17⟩ := ba a
  obtain ⟨nm, q, N, bs, bm, hdct, sn, sub, ab, col, dd, k0, k1, k2, k3, k5, hC, hbm, hdt⟩ := clsPart_ok h1
  have e0 := hdt rfl
  subst e0
  refine ⟨⟨⟨nm, q, N, bs, bm, sn, sub, ab, col, dd, k0, k1, k2, k3, k5, hC, hbm⟩, eqO_ok h2, eqO_ok h3, eqO_ok h4, of_decide_eq_true h5, h6, of_decide_eq_true h7, of_decide_eq_true h8, of_decide_eq_true h9, of_decide_eq_true h10, eqO_ok h11, eqO_ok h12, eqO_ok h13, ?_, ?_, hnt, ?_⟩, L2.xfB_ok h17, eqO_ok h3⟩
  · unfold cellPart at h14
    split at h14
    · rename_i x1 x2 v x3 e
      have := of_decide_eq_true h14
      subst this
      exact ⟨_, _, _, e⟩
    · cases h14
  · unfold codePart at h15
    split at h15
    · rename_i x1 x2 vs x3 e
      split at h15
      · rename_i f t e2
        exact ⟨_, _, vs, _, f, t, e, e2, h15⟩
      · cases h15
    · cases h15
  · unfold fnPart at h16
    unfold fnC at hf
    have hfa : fAd K (c, some "__init__") = iOf K c := rfl
    rw [hfa] at hf
    cases q : K.lookup (iOf K c) with
    | none =>
      rw [q] at h16
      cases h16
    | some o =>
      obtain ⟨oc, od, dt, osl⟩ := o
      rw [q] at h16 hf
      cases dt with
      | func fd =>
        obtain ⟨n1, n2, n3, n4, n5, n6, n7, n8, n9, n10, n11, n12, n13, n14, n15⟩ := fd
        have e2 : (some (n1, n2, n3, n4, n5, n6, n7.map (·.1), n15) : FnC) = some (("__init__" : Str), qn, AtX.iA p1 p2, FuncBody.stmts (AtX.iB z k q1 q2 q3 q4 q5 q6 r1 r2 r3 r4), AtX.iS, mainGlobals, [("__class__" : Str)], builtinsNs) := hf
        simp only [Option.some.injEq, Prod.mk.injEq] at e2
        obtain ⟨g1, g2, g3, g4, g5, g6, g7, g8⟩ := e2
        subst g1 g2 g3 g4 g5 g6 g8
        obtain ⟨b1, b⟩ := ba (show (decide (n8 = .none) && (decide (n9 = .none) && (decide (n13 = .ref (cdOf K c)) && (decide (n7 = [(("__class__" : Str), ccOf K c)]) && PySem.W.codeIn K (.ref (cdOf K c)) n2)))) = true from h16)
        obtain ⟨b2, b⟩ := ba b
        obtain ⟨b3, b⟩ := ba b
        obtain ⟨b4, b5⟩ := ba b
        have f1 := of_decide_eq_true b1
        have f2 := of_decide_eq_true b2
        have f3 := of_decide_eq_true b3
        have f4 := of_decide_eq_true b4
        subst f1 f2 f3 f4
        exact ⟨n2, oc, od, _, _, _, _, osl, z, k, p1, p2, q1, q2, q3, q4, q5, q6, r1, r2, r3, r4, rfl, b5, fun L => hm _ _ L⟩
      | _ => cases h16
/-! ### a plain class with its own __eq__ -/
def eqB (K : PySem.W.Frag) (c : Str) : Bool := clsPart K (ga K c) "object.__new__" false (fun bm => decide (bm = [.type "object"])) && ((match PySem.W.clsIn K (ga K c) with
  | some cd => PySem.W.nsOkIn K cd.ns && (eqO (PySem.W.nsIn K cd.ns "__ne__") (some none) && eqO (PySem.W.nsIn K cd.ns "__eq__") (some (some (.ref (ma K (ga K c) "__eq__")))))
  | none => false) && ((match K.lookup (ma K (ga K c) "__eq__") with
  | some o => decide (o.cls = .type "function")
  | none => false) && (eqO (PySem.W.findIn K (.ref (ga K c)) "__eq__") (some (some (.ref (ma K (ga K c) "__eq__")))) && PySem.W.isFn K (.ref (ma K (ga K c) "__eq__")))))
theorem eq_ok {K : PySem.W.Frag} {c : Str} (h : eqB K c = true) : EqC K (ga K c) (ma K (ga K c) "__eq__") := by
  unfold eqB at h
  obtain ⟨h1, a⟩ := ba h
  obtain ⟨h2, a⟩ := ba a
  obtain ⟨h3, a⟩ := ba a
  obtain ⟨h4, h5⟩ := ba a
  obtain ⟨nm, q, N, bs, bm, hdct, sn, sub, ab, col, dd, k0, k1, k2, k3, k5, hC, hbm, _⟩ := clsPart_ok h1
  have e0 := of_decide_eq_true hbm
  subst e0
  have hcl : PySem.W.clsIn K (ga K c) = some { name := nm, bases := bs, mro := .ref (ga K c) :: [.type "object"], ns := N, qualname := q, hasDict := hdct, slotNames := sn, subclasses := sub, abstract := ab, collection := col, hasDel := false } := by
    unfold PySem.W.clsIn
    rw [hC] <;> rfl
  rw [hcl] at h2
  obtain ⟨b1, b⟩ := ba (show (PySem.W.nsOkIn K N && (eqO (PySem.W.nsIn K N "__ne__") (some none) && eqO (PySem.W.nsIn K N "__eq__") (some (some (.ref (ma K (ga K c) "__eq__")))))) = true from h2)
  obtain ⟨b2, b3⟩ := ba b
  refine ⟨⟨nm, q, N, bs, hdct, sn, sub, ab, col, dd, k0, k1, k2, k3, k5, _, hC, b1, eqO_ok b2, eqO_ok b3⟩, ?_, eqO_ok h4, h5⟩
  cases e : K.lookup (ma K (ga K c) "__eq__") with
  | none =>
    rw [e] at h3
    cases h3
  | some o =>
    rw [e] at h3
    exact ⟨o, rfl, of_decide_eq_true h3⟩
def inB (K : PySem.W.Frag) (c : Str) : Bool := (Fa.cls c).ok K && (eqO (PySem.W.findIn K (.ref (ga K c)) "__class__") (some (some (.builtin "object.__class__"))) && (eqO (PySem.W.specialIn K (.builtin "object.__class__") "__get__") (some (some (.builtin "getset_descriptor.__get__"))) &&
  (decide (PySem.W.takesIn K (.builtin "object.__class__") = some true) && (decide (PySem.W.mroIn K (ga K c) (.type "object") = some true) && decide (PySem.W.kitOne K (.ref (ga K c)) (.ref (ga K c)) = some true)))))
theorem in_ok {K : PySem.W.Frag} {c : Str} (h : inB K c = true) : InC K (ga K c) := by
  unfold inB at h
  obtain ⟨h1, a⟩ := ba h
  obtain ⟨h2, a⟩ := ba a
  obtain ⟨h3, a⟩ := ba a
  obtain ⟨h4, a⟩ := ba a
  obtain ⟨h5, h6⟩ := ba a
  exact ⟨cls_ok h1, eqO_ok h2, eqO_ok h3, of_decide_eq_true h4, of_decide_eq_true h5, of_decide_eq_true h6⟩
/-! ### the Hook -/
abbrev AlY : Type := AlD × (List FnC × Bool)
def obsY (fa : List Fa) (fn : List DefD) (er : List ErD) (ex : PySem.W.Frag → Bool) (K : PySem.W.Frag) : AlY := (obsD fa fn K, er.map fun d => fnC K (d.cls, some "__init__"), ex K)
def valY (fn : List DefD) (er : List ErD) : AlY := (valD fn, er.map ErD.val, true)
def adY (g : Addr → Option Obj) (n : Nat) : List Addr := cStatics :: asD g n
def obsYG (n : Nat) (fa : List Fa) (fn : List DefD) (er : List ErD) (ex : PySem.W.Frag → Bool) (g : Addr → Option Obj) : AlY := obsY fa fn er ex (frG g (adY g n))
def SaysY (fa : List Fa) (fn : List DefD) (er : List ErD) (ex : PySem.W.Frag → Bool) (K : PySem.W.Frag) : Prop := obsY fa fn er ex K = valY fn er
def hookY (n : Nat) (fa : List Fa) (fn : List DefD) (er : List ErD) (ex : PySem.W.Frag → Bool) : PySem.W.Hook where
  α := AlY
  obs := fun s => obsYG n fa fn er ex s.heap.get?
  val := fun _ => valY fn er
  says := fun _ h => ∃ K : PySem.W.Frag, K.In h ∧ SaysY fa fn er ex K
  of := fun _ _ e => ⟨_, frG_in, e⟩
  keeps := fun _ _ _ ⟨K, hK, c⟩ k => ⟨K, PySem.W.Frag.In.keeps hK k, c⟩
theorem obsYG_eq {n : Nat} {fa : List Fa} {fn : List DefD} {er : List ErD} {ex : PySem.W.Frag → Bool} {g : Addr → Option Obj} {s : Shared} (h : ∀ a, g a = s.heap.get? a) : obsYG n fa fn er ex g = (hookY n fa fn er ex).obs s := by
  have e : g = s.heap.get? := funext h
  rw [e] <;> rfl
section
variable {fa : List Fa} {fn : List DefD} {er : List ErD} {ex : PySem.W.Frag → Bool} {K : PySem.W.Frag}
theorem SaysY.d (c : SaysY fa fn er ex K) : SaysD fa fn K := congrArg (fun z : AlY => z.1) c
theorem SaysY.more (c : SaysY fa fn er ex K) : ex K = true := congrArg (fun z : AlY => z.2.2) c
theorem SaysY.erd (c : SaysY fa fn er ex K) (i : Nat) {d : ErD} (h : er[i]? = some d := by rfl) : fnC K (d.cls, some "__init__") = d.val := by
  have e : er.map (fun d => fnC K (d.cls, some "__init__")) = er.map ErD.val := congrArg (fun z : AlY => z.2.1) c
  have e2 : (er.map fun d => fnC K (d.cls, some "__init__"))[i]? = (er.map ErD.val)[i]? := by rw [e]
  rw [List.getElem?_map, List.getElem?_map, h] at e2
  exact Option.some.inj e2
end
end Hy
end

section
set_option Elab.async false
set_option linter.all false
set_option maxRecDepth 100000
/-! sum of a tuple of ints. -/
namespace DL
open PySem PySem.Spec PyProof.Rows L2
section
variable {X : Cx} {A : List V} {W : WX}
def rSumT (K : PySem.W.Frag) : List V → Hp → VK → Prop := fun vs H Q => ∃ (a : Addr) (ns : List Int), vs = [V.ref a] ∧ SqT K H a (ns.map V.int) ∧ Q (.int ns.sum) H
theorem cr_sumT (hc : X.calm = true) : CallR X (.builtin "sum") (rSumT X.K) := by
  intro pins s σ H vs us Q I r h
  obtain ⟨a, ns, rfl, hs, q⟩ := h
  obtain ⟨its, rv, hl, _⟩ := I.tuple hs
  rw [Vals.ref1 r]
  have hi := rv.ints
  obtain ⟨xs, e⟩ := hi.allInts.items
  have hn : numsOf (intItems xs).toList = ns := by rw [← e]; exact hi.numsOf
  rw [nums_intItems] at hn
  rw [e] at hl
  refine PySem.W.ktm_sumG (I.ok.hd hc) hl fun h' tk t' hk => ?_
  rw [preSum_eq, List.take_of_length_le (by simp), hn]
  exact ⟨.int _, H, I.kept hk, ⟨_, rfl⟩, q⟩
def dSumX (x : D) : Option D := match dItems x with
  | some xs => (asIs xs).map fun is => .int is.sum
  | none => none
abbrev rSumX (K : PySem.W.Frag) : List V → Hp → VK → Prop := fun vs H Q => rSum K vs H Q ∨ rSumT K vs H Q
theorem cr_sumX (hc : X.calm = true) : CallR X (.builtin "sum") (rSumX X.K) := CallR.or (cr_sum hc) (cr_sumT hc)
theorem vop_sumX : VOpL X (on1 dSumX) (rSumX X.K) := vopl1 fun S x d v Q hS e rx k => by
  unfold dSumX at e
  split at e
  · rename_i xs q1
    cases q2 : asIs xs with
    | none =>
      rw [q2] at e
      cases e
    | some ns =>
      rw [q2] at e
      cases e
      obtain ⟨a, vs, rfl, h2, h3⟩ := rb_items hS rx q1
      rw [asIs_eq q2] at h3
      rw [h3.of_ints] at h2
      rcases h2 with h2 | h2
      · exact .inl ⟨a, ns, rfl, h2, k S _ (.refl hS) rfl⟩
      · exact .inr ⟨a, ns, rfl, h2, k S _ (.refl hS) rfl⟩
  · cases e
end
end DL
end

section
set_option Elab.async false
set_option linter.all false
set_option maxRecDepth 100000
set_option maxHeartbeats 0
namespace Wk
open PySem PySem.Spec PyProof.Rows L2 DL
abbrev pg : Program := PySem.Challenge.pw_bothplans_k04_texts_of_stores
abbrev top (i : Nat) : Stmt := PySem.Challenge.pw_bothplans_k04_texts_of_stores.main.body.getD i (.Pass ⟨0, 0, 0, 0⟩)
def clsBody : Stmt → List Stmt
  | .ClassDef _ _ _ b _ _ _ _ _ _ _ => b
  | _ => []
abbrev mtop (i j : Nat) : Stmt := (clsBody (top i)).getD j (.Pass ⟨0, 0, 0, 0⟩)
abbrev ers : List Str := ["InvalidStore", "InvalidText"]
structure Fx (P : Program) (K : PySem.W.Frag) (mg : Str → Option Value) where
  f_Store___eq__ : Addr
  fd_Store___eq__ : FuncData
  F_Store___eq__ : FunD K "__eq__" "Store.__eq__" (defArgs (mtop 12 1)) (defBody (mtop 12 1)) (defScope (mtop 12 1)) [] [] f_Store___eq__ fd_Store___eq__
  f_is_integer : Addr
  fd_is_integer : FuncData
  F_is_integer : FunD K "is_integer" "is_integer" (defArgs (top 6)) (defBody (top 6)) (defScope (top 6)) [] [] f_is_integer fd_is_integer
  g_is_integer : mg "is_integer" = some (.ref f_is_integer)
  f_is_number : Addr
  fd_is_number : FuncData
  F_is_number : FunD K "is_number" "is_number" (defArgs (top 7)) (defBody (top 7)) (defScope (top 7)) [] [] f_is_number fd_is_number
  g_is_number : mg "is_number" = some (.ref f_is_number)
  f_is_sequence : Addr
  fd_is_sequence : FuncData
  F_is_sequence : FunD K "is_sequence" "is_sequence" (defArgs (top 9)) (defBody (top 9)) (defScope (top 9)) [] [] f_is_sequence fd_is_sequence
  g_is_sequence : mg "is_sequence" = some (.ref f_is_sequence)
  f_is_index : Addr
  fd_is_index : FuncData
  F_is_index : FunD K "is_index" "is_index" (defArgs (top 8)) (defBody (top 8)) (defScope (top 8)) [] [] f_is_index fd_is_index
  g_is_index : mg "is_index" = some (.ref f_is_index)
  f_is_state_of : Addr
  fd_is_state_of : FuncData
  F_is_state_of : FunD K "is_state_of" "is_state_of" (defArgs (top 11)) (defBody (top 11)) (defScope (top 11)) [] [] f_is_state_of fd_is_state_of
  g_is_state_of : mg "is_state_of" = some (.ref f_is_state_of)
  f_Store___init__ : Addr
  fd_Store___init__ : FuncData
  F_Store___init__ : FunD K "__init__" "Store.__init__" (defArgs (mtop 12 0)) (defBody (mtop 12 0)) (defScope (mtop 12 0)) [] [] f_Store___init__ fd_Store___init__
  f__law_any : Addr
  fd__law_any : FuncData
  F__law_any : FunD K "_law_any" "_law_any" (defArgs (top 19)) (defBody (top 19)) (defScope (top 19)) [] [] f__law_any fd__law_any
  g__law_any : mg "_law_any" = some (.ref f__law_any)
  f__law_draw : Addr
  fd__law_draw : FuncData
  F__law_draw : FunD K "_law_draw" "_law_draw" (defArgs (top 18)) (defBody (top 18)) (defScope (top 18)) [] [] f__law_draw fd__law_draw
  g__law_draw : mg "_law_draw" = some (.ref f__law_draw)
  f__law_of : Addr
  fd__law_of : FuncData
  F__law_of : FunD K "_law_of" "_law_of" (defArgs (top 20)) (defBody (top 20)) (defScope (top 20)) [] [] f__law_of fd__law_of
  g__law_of : mg "_law_of" = some (.ref f__law_of)
  f__law_line : Addr
  fd__law_line : FuncData
  F__law_line : FunD K "_law_line" "_law_line" (defArgs (top 26)) (defBody (top 26)) (defScope (top 26)) [] [] f__law_line fd__law_line
  g__law_line : mg "_law_line" = some (.ref f__law_line)
  f__law_mixed : Addr
  fd__law_mixed : FuncData
  F__law_mixed : FunD K "_law_mixed" "_law_mixed" (defArgs (top 21)) (defBody (top 21)) (defScope (top 21)) [] [] f__law_mixed fd__law_mixed
  g__law_mixed : mg "_law_mixed" = some (.ref f__law_mixed)
  f_numbers_of : Addr
  fd_numbers_of : FuncData
  F_numbers_of : FunD K "numbers_of" "numbers_of" (defArgs (top 15)) (defBody (top 15)) (defScope (top 15)) [] [] f_numbers_of fd_numbers_of
  g_numbers_of : mg "numbers_of" = some (.ref f_numbers_of)
  f_read_store : Addr
  fd_read_store : FuncData
  F_read_store : FunD K "read_store" "read_store" (defArgs (top 16)) (defBody (top 16)) (defScope (top 16)) [] [] f_read_store fd_read_store
  g_read_store : mg "read_store" = some (.ref f_read_store)
  f__law_read : Addr
  fd__law_read : FuncData
  F__law_read : FunD K "_law_read" "_law_read" (defArgs (top 25)) (defBody (top 25)) (defScope (top 25)) [] [] f__law_read fd__law_read
  g__law_read : mg "_law_read" = some (.ref f__law_read)
  f__law_all : Addr
  fd__law_all : FuncData
  F__law_all : FunD K "_law_all" "_law_all" (defArgs (top 22)) (defBody (top 22)) (defScope (top 22)) [] [] f__law_all fd__law_all
  g__law_all : mg "_law_all" = some (.ref f__law_all)
  f__law_sizes : Addr
  fd__law_sizes : FuncData
  F__law_sizes : FunD K "_law_sizes" "_law_sizes" (defArgs (top 23)) (defBody (top 23)) (defScope (top 23)) [] [] f__law_sizes fd__law_sizes
  g__law_sizes : mg "_law_sizes" = some (.ref f__law_sizes)
  f__law_store : Addr
  fd__law_store : FuncData
  F__law_store : FunD K "_law_store" "_law_store" (defArgs (top 24)) (defBody (top 24)) (defScope (top 24)) [] [] f__law_store fd__law_store
  g__law_store : mg "_law_store" = some (.ref f__law_store)
  f_store_text : Addr
  fd_store_text : FuncData
  F_store_text : FunD K "store_text" "store_text" (defArgs (top 14)) (defBody (top 14)) (defScope (top 14)) [] [] f_store_text fd_store_text
  g_store_text : mg "store_text" = some (.ref f_store_text)
  f_law : Addr
  fd_law : FuncData
  F_law : FunD K "law" "law" (defArgs (top 27)) (defBody (top 27)) (defScope (top 27)) [] [] f_law fd_law
  g_law : mg "law" = some (.ref f_law)
  C_InvalidStore : Addr
  fI_InvalidStore : Addr
  cc_InvalidStore : Addr
  cda_InvalidStore : Addr
  gC_InvalidStore : mg "InvalidStore" = some (.ref C_InvalidStore)
  T_InvalidStore : AtX.AtC P K C_InvalidStore fI_InvalidStore cc_InvalidStore cda_InvalidStore
  xf_InvalidStore : XfC K C_InvalidStore
  na_InvalidStore : PySem.W.findIn K (.ref C_InvalidStore) "at" = some none
  C_InvalidText : Addr
  fI_InvalidText : Addr
  cc_InvalidText : Addr
  cda_InvalidText : Addr
  gC_InvalidText : mg "InvalidText" = some (.ref C_InvalidText)
  T_InvalidText : AtX.AtC P K C_InvalidText fI_InvalidText cc_InvalidText cda_InvalidText
  xf_InvalidText : XfC K C_InvalidText
  na_InvalidText : PySem.W.findIn K (.ref C_InvalidText) "at" = some none
  he_InvalidText : Hears K mg ers "InvalidText" C_InvalidText
  C_Store : Addr
  gC_Store : mg "Store" = some (.ref C_Store)
  cl_Store : Cls K C_Store
  no_Store_sizes : NoAttr K C_Store "sizes"
  no_Store_states : NoAttr K C_Store "states"
  no_Store_key_count : NoAttr K C_Store "key_count"
  no_Store__index : NoAttr K C_Store "_index"
  no_Store__found : NoAttr K C_Store "_found"
  mk_Store : Mk K C_Store f_Store___init__
  eqc_Store : EqC K C_Store f_Store___eq__
  inc_Store : InC K C_Store
  n_abs : mg "abs" = none
  n_all : mg "all" = none
  n_bool : mg "bool" = none
  n_enumerate : mg "enumerate" = none
  n_int : mg "int" = none
  n_isinstance : mg "isinstance" = none
  n_len : mg "len" = none
  n_list : mg "list" = none
  n_min : mg "min" = none
  n_range : mg "range" = none
  n_set : mg "set" = none
  n_sorted : mg "sorted" = none
  n_str : mg "str" = none
  n_sum : mg "sum" = none
  n_tuple : mg "tuple" = none
  n_zip : mg "zip" = none
abbrev n_Store___eq__ : List Str := ["self", "other"]
theorem sc_Store___eq__ : FnScope n_Store___eq__ ["self", "other"] (defScope (mtop 12 1)) := ⟨rfl, rfl, rfl, by decide +kernel, rfl, by decide +kernel, by decide +kernel⟩
theorem bd_Store___eq__ {P : Program} {K : PySem.W.Frag} {mg : Str → Option Value} (C : Fx P K mg) : Binds K C.fd_Store___eq__ ["self", "other"] [] := C.F_Store___eq__.bindsN fun _ _ _ _ _ _ us hl => match us, hl with | [_, _], _ => rfl
abbrev n_is_integer : List Str := ["value"]
theorem sc_is_integer : FnScope n_is_integer ["value"] (defScope (top 6)) := ⟨rfl, rfl, rfl, by decide +kernel, rfl, by decide +kernel, by decide +kernel⟩
theorem bd_is_integer {P : Program} {K : PySem.W.Frag} {mg : Str → Option Value} (C : Fx P K mg) : Binds K C.fd_is_integer ["value"] [] := C.F_is_integer.bindsN fun _ _ _ _ _ _ us hl => match us, hl with | [_], _ => rfl
abbrev n_is_number : List Str := ["value"]
theorem sc_is_number : FnScope n_is_number ["value"] (defScope (top 7)) := ⟨rfl, rfl, rfl, by decide +kernel, rfl, by decide +kernel, by decide +kernel⟩
theorem bd_is_number {P : Program} {K : PySem.W.Frag} {mg : Str → Option Value} (C : Fx P K mg) : Binds K C.fd_is_number ["value"] [] := C.F_is_number.bindsN fun _ _ _ _ _ _ us hl => match us, hl with | [_], _ => rfl
abbrev n_is_sequence : List Str := ["value"]
theorem sc_is_sequence : FnScope n_is_sequence ["value"] (defScope (top 9)) := ⟨rfl, rfl, rfl, by decide +kernel, rfl, by decide +kernel, by decide +kernel⟩
theorem bd_is_sequence {P : Program} {K : PySem.W.Frag} {mg : Str → Option Value} (C : Fx P K mg) : Binds K C.fd_is_sequence ["value"] [] := C.F_is_sequence.bindsN fun _ _ _ _ _ _ us hl => match us, hl with | [_], _ => rfl
abbrev n_is_index : List Str := ["value", "many"]
theorem sc_is_index : FnScope n_is_index ["value", "many"] (defScope (top 8)) := ⟨rfl, rfl, rfl, by decide +kernel, rfl, by decide +kernel, by decide +kernel⟩
theorem bd_is_index {P : Program} {K : PySem.W.Frag} {mg : Str → Option Value} (C : Fx P K mg) : Binds K C.fd_is_index ["value", "many"] [] := C.F_is_index.bindsN fun _ _ _ _ _ _ us hl => match us, hl with | [_, _], _ => rfl
abbrev n_is_state_of : List Str := ["sizes", "value", "one", "size"]
theorem sc_is_state_of : FnScope n_is_state_of ["sizes", "value"] (defScope (top 11)) := ⟨rfl, rfl, rfl, by decide +kernel, rfl, by decide +kernel, by decide +kernel⟩
theorem bd_is_state_of {P : Program} {K : PySem.W.Frag} {mg : Str → Option Value} (C : Fx P K mg) : Binds K C.fd_is_state_of ["sizes", "value"] [] := C.F_is_state_of.bindsN fun _ _ _ _ _ _ us hl => match us, hl with | [_, _], _ => rfl
abbrev n_Store___init__ : List Str := ["self", "sizes", "states", "at", "state", "size"]
theorem sc_Store___init__ : FnScope n_Store___init__ ["self", "sizes", "states"] (defScope (mtop 12 0)) := ⟨rfl, rfl, rfl, by decide +kernel, rfl, by decide +kernel, by decide +kernel⟩
theorem bd_Store___init__ {P : Program} {K : PySem.W.Frag} {mg : Str → Option Value} (C : Fx P K mg) : Binds K C.fd_Store___init__ ["self", "sizes", "states"] [] := C.F_Store___init__.bindsN fun _ _ _ _ _ _ us hl => match us, hl with | [_, _, _], _ => rfl
abbrev n__law_any : List Str := ["_law_deal", "_law_bound", "_law_rest"]
theorem sc__law_any : FnScope n__law_any ["_law_deal", "_law_bound"] (defScope (top 19)) := ⟨rfl, rfl, rfl, by decide +kernel, rfl, by decide +kernel, by decide +kernel⟩
theorem bd__law_any {P : Program} {K : PySem.W.Frag} {mg : Str → Option Value} (C : Fx P K mg) : Binds K C.fd__law_any ["_law_deal", "_law_bound"] [] := C.F__law_any.bindsN fun _ _ _ _ _ _ us hl => match us, hl with | [_, _], _ => rfl
abbrev n__law_draw : List Str := ["_law_script", "_law_salt", "_law_cell", "_law_cells", "_law_blend"]
theorem sc__law_draw : FnScope n__law_draw ["_law_script", "_law_salt"] (defScope (top 18)) := ⟨rfl, rfl, rfl, by decide +kernel, rfl, by decide +kernel, by decide +kernel⟩
theorem bd__law_draw {P : Program} {K : PySem.W.Frag} {mg : Str → Option Value} (C : Fx P K mg) : Binds K C.fd__law_draw ["_law_script", "_law_salt"] [] := C.F__law_draw.bindsN fun _ _ _ _ _ _ us hl => match us, hl with | [_, _], _ => rfl
abbrev n__law_of : List Str := ["_law_deal", "_law_some"]
theorem sc__law_of : FnScope n__law_of ["_law_deal", "_law_some"] (defScope (top 20)) := ⟨rfl, rfl, rfl, by decide +kernel, rfl, by decide +kernel, by decide +kernel⟩
theorem bd__law_of {P : Program} {K : PySem.W.Frag} {mg : Str → Option Value} (C : Fx P K mg) : Binds K C.fd__law_of ["_law_deal", "_law_some"] [] := C.F__law_of.bindsN fun _ _ _ _ _ _ us hl => match us, hl with | [_, _], _ => rfl
abbrev n__law_line : List Str := ["_law_deal", "_law_sizes_here", "_law_at", "_law_odd", "_law_row", "_law_place", "_law_word"]
theorem sc__law_line : FnScope n__law_line ["_law_deal", "_law_sizes_here", "_law_at"] (defScope (top 26)) := ⟨rfl, rfl, rfl, by decide +kernel, rfl, by decide +kernel, by decide +kernel⟩
theorem bd__law_line {P : Program} {K : PySem.W.Frag} {mg : Str → Option Value} (C : Fx P K mg) : Binds K C.fd__law_line ["_law_deal", "_law_sizes_here", "_law_at"] [] := C.F__law_line.bindsN fun _ _ _ _ _ _ us hl => match us, hl with | [_, _, _], _ => rfl
abbrev n__law_mixed : List Str := ["_law_deal", "_law_some", "_law_left", "_law_found"]
theorem sc__law_mixed : FnScope n__law_mixed ["_law_deal", "_law_some"] (defScope (top 21)) := ⟨rfl, rfl, rfl, by decide +kernel, rfl, by decide +kernel, by decide +kernel⟩
theorem bd__law_mixed {P : Program} {K : PySem.W.Frag} {mg : Str → Option Value} (C : Fx P K mg) : Binds K C.fd__law_mixed ["_law_deal", "_law_some"] [] := C.F__law_mixed.bindsN fun _ _ _ _ _ _ us hl => match us, hl with | [_, _], _ => rfl
abbrev n_numbers_of : List Str := ["words", "at", "word", "sign"]
theorem sc_numbers_of : FnScope n_numbers_of ["words", "at"] (defScope (top 15)) := ⟨rfl, rfl, rfl, by decide +kernel, rfl, by decide +kernel, by decide +kernel⟩
theorem bd_numbers_of {P : Program} {K : PySem.W.Frag} {mg : Str → Option Value} (C : Fx P K mg) : Binds K C.fd_numbers_of ["words", "at"] [] := C.F_numbers_of.bindsN fun _ _ _ _ _ _ us hl => match us, hl with | [_, _], _ => rfl
abbrev n_read_store : List Str := ["text", "lines", "words", "sizes", "states", "at", "state", "one", "size"]
theorem sc_read_store : FnScope n_read_store ["text"] (defScope (top 16)) := ⟨rfl, rfl, rfl, by decide +kernel, rfl, by decide +kernel, by decide +kernel⟩
theorem bd_read_store {P : Program} {K : PySem.W.Frag} {mg : Str → Option Value} (C : Fx P K mg) : Binds K C.fd_read_store ["text"] [] := C.F_read_store.bindsN fun _ _ _ _ _ _ us hl => match us, hl with | [_], _ => rfl
abbrev n__law_read : List Str := ["_law_text", "wrong"]
theorem sc__law_read : FnScope n__law_read ["_law_text"] (defScope (top 25)) := ⟨rfl, rfl, rfl, by decide +kernel, rfl, by decide +kernel, by decide +kernel⟩
theorem bd__law_read {P : Program} {K : PySem.W.Frag} {mg : Str → Option Value} (C : Fx P K mg) : Binds K C.fd__law_read ["_law_text"] [] := C.F__law_read.bindsN fun _ _ _ _ _ _ us hl => match us, hl with | [_], _ => rfl
abbrev n__law_all : List Str := ["_law_sizes_here", "_law_found", "_law_size", "_law_longer", "_law_row", "_law_value"]
theorem sc__law_all : FnScope n__law_all ["_law_sizes_here"] (defScope (top 22)) := ⟨rfl, rfl, rfl, by decide +kernel, rfl, by decide +kernel, by decide +kernel⟩
theorem bd__law_all {P : Program} {K : PySem.W.Frag} {mg : Str → Option Value} (C : Fx P K mg) : Binds K C.fd__law_all ["_law_sizes_here"] [] := C.F__law_all.bindsN fun _ _ _ _ _ _ us hl => match us, hl with | [_], _ => rfl
abbrev n__law_sizes : List Str := ["_law_deal", "_law_most", "_law_found", "_law_rows", "_law_turn", "_law_size"]
theorem sc__law_sizes : FnScope n__law_sizes ["_law_deal", "_law_most"] (defScope (top 23)) := ⟨rfl, rfl, rfl, by decide +kernel, rfl, by decide +kernel, by decide +kernel⟩
theorem bd__law_sizes {P : Program} {K : PySem.W.Frag} {mg : Str → Option Value} (C : Fx P K mg) : Binds K C.fd__law_sizes ["_law_deal", "_law_most"] [] := C.F__law_sizes.bindsN fun _ _ _ _ _ _ us hl => match us, hl with | [_, _], _ => rfl
abbrev n__law_store : List Str := ["_law_deal", "_law_most", "_law_sizes_here", "_law_rows", "_law_form", "_law_many", "_law_keys", "_law_total", "_law_states", "_law_low", "_law_high", "_law_one", "_law_other", "_law_p", "_law_q", "_law_prime", "_law_weights", "_law_part", "_law_kept", "_law_row", "_law_key", "_law_w", "_law_x", "_law_at"]
theorem sc__law_store : FnScope n__law_store ["_law_deal", "_law_most"] (defScope (top 24)) := ⟨rfl, rfl, rfl, by decide +kernel, rfl, by decide +kernel, by decide +kernel⟩
theorem bd__law_store {P : Program} {K : PySem.W.Frag} {mg : Str → Option Value} (C : Fx P K mg) : Binds K C.fd__law_store ["_law_deal", "_law_most"] [] := C.F__law_store.bindsN fun _ _ _ _ _ _ us hl => match us, hl with | [_, _], _ => rfl
abbrev n_store_text : List Str := ["store", "rows", "size", "state", "one"]
theorem sc_store_text : FnScope n_store_text ["store"] (defScope (top 14)) := ⟨rfl, rfl, rfl, by decide +kernel, rfl, by decide +kernel, by decide +kernel⟩
theorem bd_store_text {P : Program} {K : PySem.W.Frag} {mg : Str → Option Value} (C : Fx P K mg) : Binds K C.fd_store_text ["store"] [] := C.F_store_text.bindsN fun _ _ _ _ _ _ us hl => match us, hl with | [_], _ => rfl
abbrev n_law : List Str := ["_law_script", "_law_deal", "_law_sizes_here", "_law_states", "_law_store_here", "_law_lines", "_law_state", "_law_text", "_law_at", "_law_spoilt", "_law_i", "_law_size", "_law_value"]
theorem sc_law : FnScope n_law ["_law_script"] (defScope (top 27)) := ⟨rfl, rfl, rfl, by decide +kernel, rfl, by decide +kernel, by decide +kernel⟩
theorem bd_law {P : Program} {K : PySem.W.Frag} {mg : Str → Option Value} (C : Fx P K mg) : Binds K C.fd_law ["_law_script"] [] := C.F_law.bindsN fun _ _ _ _ _ _ us hl => match us, hl with | [_], _ => rfl
theorem kw_store_text_0_store {P : Program} {K : PySem.W.Frag} {mg : Str → Option Value} (C : Fx P K mg) : KwB C.fd_store_text ["store"] 0 ["store"] [0] := FunD.kwB C.F_store_text _ _ _ fun _ _ _ _ _ _ us ws h1 h2 => match us, h1, ws, h2 with | [], _, [_], _ => rfl
theorem kw_read_store_0_text {P : Program} {K : PySem.W.Frag} {mg : Str → Option Value} (C : Fx P K mg) : KwB C.fd_read_store ["text"] 0 ["text"] [0] := FunD.kwB C.F_read_store _ _ _ fun _ _ _ _ _ _ us ws h1 h2 => match us, h1, ws, h2 with | [], _, [_], _ => rfl
end Wk
end

section
set_option Elab.async false
set_option linter.all false
set_option maxRecDepth 100000
set_option maxHeartbeats 0
namespace Wk
open PySem PySem.Spec PyProof.Rows L2 DL
def b_Store___eq__ : SM :=
  (sSeq (sIf (tNotB (eT (e1 (dIsC "Store") (.ev (eVar 1))))) (sRet (eC (.bl false))) sNx)
  (sRet (eAnd (e2 dEq (.ev (e1 (dFld "Store" "sizes") (.ev (eVar 0)))) (.ev (e1 (dFld "Store" "sizes") (.ev (eVar 1))))) (e2 dEq (.ev (e1 (dFld "Store" "states") (.ev (eVar 0)))) (.ev (e1 (dFld "Store" "states") (.ev (eVar 1))))))))
def s_Store___eq__ : Sem' := runDef 2 2 b_Store___eq__
theorem ok_Store___eq__ {P : Program} {w : World} {K : PySem.W.Frag} {mg : Str → Option Value} {base : Heap} (C : Fx P K mg) : FnG P w K mg base 1 C.f_Store___eq__ C.fd_Store___eq__ ["self", "other"] (spD K mg 2 s_Store___eq__) :=
  fnD (k := 0) (N := n_Store___eq__) (sm := b_Store___eq__) C.F_Store___eq__ sc_Store___eq__ (by decide) fun cdv A outer s H vs E hr hgd =>
  (psd_cons (psd_if (ptd_not (ptd_val (pd_isC C.gC_Store C.inc_Store rfl C.n_isinstance rfl (po_ev (pd_var 1))))) (psd_one (psd_ret pd_bl)) psd_nil)
  (psd_one (psd_ret (pd_and (pd_cmp (op_eqD (hu64 hr)) vop_eq (po_ev (pd_fld "Store" C.gC_Store C.cl_Store C.no_Store_sizes (po_ev (pd_var 0)))) (po_ev (pd_fld "Store" C.gC_Store C.cl_Store C.no_Store_sizes (po_ev (pd_var 1)))) (by rfl)) (pd_one (pd_cmp (op_eqD (hu64 hr)) vop_eq (po_ev (pd_fld "Store" C.gC_Store C.cl_Store C.no_Store_states (po_ev (pd_var 0)))) (po_ev (pd_fld "Store" C.gC_Store C.cl_Store C.no_Store_states (po_ev (pd_var 1)))) (by rfl)))))))
def b_is_integer : SM :=
  (sRet (eAnd (e1 (dIsi "int") (.ev (eVar 0))) (eNot (e1 (dIsi "bool") (.ev (eVar 0))))))
def s_is_integer : Sem' := runDef 1 1 b_is_integer
theorem ok_is_integer {P : Program} {w : World} {K : PySem.W.Frag} {mg : Str → Option Value} {base : Heap} (C : Fx P K mg) : FnG P w K mg base 1 C.f_is_integer C.fd_is_integer ["value"] (spD K mg 1 s_is_integer) :=
  fnD (k := 0) (N := n_is_integer) (sm := b_is_integer) C.F_is_integer sc_is_integer (by decide) fun cdv A outer s H vs E hr hgd =>
  (psd_one (psd_ret (pd_and (pd_isi rfl C.n_isinstance rfl C.n_int (po_ev (pd_var 0))) (pd_one (pd_not (pd_isi rfl C.n_isinstance rfl C.n_bool (po_ev (pd_var 0))))))))
def b_is_number : SM :=
  (sRet (eAnd (eCall s_is_integer [(.ev (eVar 0))]) (e2 dGe (.ev (eVar 0)) (.ev (eC (.int 0))))))
def s_is_number : Sem' := runDef 1 1 b_is_number
theorem ok_is_number {P : Program} {w : World} {K : PySem.W.Frag} {mg : Str → Option Value} {base : Heap} (C : Fx P K mg) : FnG P w K mg base 2 C.f_is_number C.fd_is_number ["value"] (spD K mg 1 s_is_number) :=
  fnD (k := 1) (N := n_is_number) (sm := b_is_number) C.F_is_number sc_is_number (by decide) fun cdv A outer s H vs E hr hgd =>
  (psd_one (psd_ret (pd_and (pd_call ((ok_is_integer C).mono (by decide)) hr hgd rfl C.g_is_integer C.F_is_integer.kp (bd_is_integer C) (takes_of rfl rfl rfl rfl) rfl (par_cons (po_ev (pd_var 0)) par_nil)) (pd_one (pd_cmp op_ge (vop_cmp _) (po_ev (pd_var 0)) (po_ev pd_int) (by rfl))))))
def b_is_sequence : SM :=
  (sRet (e1 (dIsis ["list", "tuple"]) (.ev (eVar 0))))
def s_is_sequence : Sem' := runDef 1 1 b_is_sequence
theorem ok_is_sequence {P : Program} {w : World} {K : PySem.W.Frag} {mg : Str → Option Value} {base : Heap} (C : Fx P K mg) : FnG P w K mg base 1 C.f_is_sequence C.fd_is_sequence ["value"] (spD K mg 1 s_is_sequence) :=
  fnD (k := 0) (N := n_is_sequence) (sm := b_is_sequence) C.F_is_sequence sc_is_sequence (by decide) fun cdv A outer s H vs E hr hgd =>
  (psd_one (psd_ret (pd_isi2 rfl C.n_isinstance rfl C.n_list rfl C.n_tuple (po_ev (pd_var 0)))))
def b_is_index : SM :=
  (sRet (eAnd (eCall s_is_number [(.ev (eVar 0))]) (e2 dLt (.ev (eVar 0)) (.ev (eVar 1)))))
def s_is_index : Sem' := runDef 2 2 b_is_index
theorem ok_is_index {P : Program} {w : World} {K : PySem.W.Frag} {mg : Str → Option Value} {base : Heap} (C : Fx P K mg) : FnG P w K mg base 3 C.f_is_index C.fd_is_index ["value", "many"] (spD K mg 2 s_is_index) :=
  fnD (k := 2) (N := n_is_index) (sm := b_is_index) C.F_is_index sc_is_index (by decide) fun cdv A outer s H vs E hr hgd =>
  (psd_one (psd_ret (pd_and (pd_call ((ok_is_number C).mono (by decide)) hr hgd rfl C.g_is_number C.F_is_number.kp (bd_is_number C) (takes_of rfl rfl rfl rfl) rfl (par_cons (po_ev (pd_var 0)) par_nil)) (pd_one (pd_cmp op_lt (vop_cmp _) (po_ev (pd_var 0)) (po_ev (pd_var 1)) (by rfl))))))
def b_is_state_of : SM :=
  (sSeq (sIf (tOrB (tNotB (eT (eCall s_is_sequence [(.ev (eVar 1))]))) (eT (e2 dNe (.ev (eB (on1 dLen) [(.ev (eVar 1))])) (.ev (eB (on1 dLen) [(.ev (eVar 0))]))))) (sRet (eC (.bl false))) sNx)
  (sRet (eB (on1 dAll) [(.ev (eL (eComp (iZp (eVar 1) (eVar 0)) [2, 3] (gS 2 (gsCons (gN 2) (gsCons (gN 3) gsNil))) cYes (eCall s_is_index [(.ev (eVar 2)), (.ev (eVar 3))]))))])))
def s_is_state_of : Sem' := runDef 2 4 b_is_state_of
theorem ok_is_state_of {P : Program} {w : World} {K : PySem.W.Frag} {mg : Str → Option Value} {base : Heap} (C : Fx P K mg) : FnG P w K mg base 4 C.f_is_state_of C.fd_is_state_of ["sizes", "value"] (spD K mg 2 s_is_state_of) :=
  fnD (k := 3) (N := n_is_state_of) (sm := b_is_state_of) C.F_is_state_of sc_is_state_of (by decide) fun cdv A outer s H vs E hr hgd =>
  (psd_cons (psd_if (ptd_w (pwd_or (ptd_not (ptd_val (pd_call ((ok_is_sequence C).mono (by decide)) hr hgd rfl C.g_is_sequence C.F_is_sequence.kp (bd_is_sequence C) (takes_of rfl rfl rfl rfl) rfl (par_cons (po_ev (pd_var 1)) par_nil)))) (pwd_or1 (ptd_cmp (op_neD (hu64 hr)) vop_ne (po_ev (pd_b call_lenD' vop_len rfl C.n_len (par_cons (po_ev (pd_var 1)) par_nil))) (po_ev (pd_b call_lenD' vop_len rfl C.n_len (par_cons (po_ev (pd_var 0)) par_nil))) (by rfl))))) (psd_one (psd_ret pd_bl)) psd_nil)
  (psd_one (psd_ret (pd_b (cr_all rfl) (vop_onBs _) rfl C.n_all (par_cons (po_ev (pl_pd (pl_comp [("one", 2), ("size", 3)] rfl sc_is_state_of.nd (pid_zip rfl C.n_zip (pd_var 1) (pd_var 0)) (show BlkOk n_is_state_of (defScope (top 11)) _ _ from ⟨rfl, by decide +kernel, by decide +kernel, by decide +kernel, by decide +kernel⟩) (fun _ _ _ _ _ => (pgd_seq rfl (pgsd_cons (pgd_name 2 [2, 3] (by decide) sc_is_state_of.nd) (pgsd_cons (pgd_name 3 [2, 3] (by decide) sc_is_state_of.nd) pgsd_nil)))) (fun _ _ _ _ _ => ptsd_nil) (fun _ _ _ _ _ => (pd_call ((ok_is_index C).mono (by decide)) hr hgd rfl C.g_is_index C.F_is_index.kp (bd_is_index C) takesW0 rfl (par_cons (po_ev (pd_var 2)) (par_cons (po_ev (pd_var 3)) par_nil))))))) par_nil)))))
end Wk
end

section
set_option Elab.async false
set_option linter.all false
set_option maxRecDepth 100000
set_option maxHeartbeats 0
namespace Wk
open PySem PySem.Spec PyProof.Rows L2 DL
def b_Store___init__ : SM :=
  (sSeq (sIf (tOrB (tNotB (eT (eCall s_is_sequence [(.ev (eVar 1))]))) (tOrB (eT (e2 dEq (.ev (eB (on1 dLen) [(.ev (eVar 1))])) (.ev (eC (.int 0))))) (tNotB (eT (eB (on1 dAll) [(.ev (eL (eComp (iS (eVar 1)) [5] (gN 5) cYes (eAnd (eCall s_is_number [(.ev (eVar 5))]) (e2 dGt (.ev (eVar 5)) (.ev (eC (.int 0))))))))]))))) (sRaise "InvalidStore" (eC (.int 0))) sNx)
  (sSeq (sIf (tOrB (tNotB (eT (eCall s_is_sequence [(.ev (eVar 2))]))) (eT (e2 dEq (.ev (eB (on1 dLen) [(.ev (eVar 2))])) (.ev (eC (.int 0)))))) (sRaise "InvalidStore" (eC (.int 1))) sNx)
  (sSeq (sFor (iEn (eVar 2)) (gS 2 (gsCons (gN 3) (gsCons (gN 4) gsNil))) (sIf (tNotB (eT (eCall s_is_state_of [(.ev (eVar 1)), (.ev (eVar 4))]))) (sRaise "InvalidStore" (e2 dAdd (.ev (eC (.int 2))) (.ev (eVar 3)))) sNx))
  (sSeq (sFldD "Store" 0 "key_count" (eB (on1 dLen) [(.ev (eVar 1))]))
  (sSeq (sFldD "Store" 0 "sizes" (eB (on1 dTuple) [(.ev (eVar 1))]))
  (sSeq (sFldD "Store" 0 "states" (eB (on1 dTuple) [(.ev (eSortSet (eL (eComp (iS (eVar 2)) [4] (gN 4) cYes (eB (on1 dTuple) [(.ev (eVar 4))])))))]))
  (sSeq (sFldD "Store" 0 "_index" (eDcT (iEn (e1 (dFld "Store" "states") (.br 0))) [3, 4] (gS 2 (gsCons (gN 3) (gsCons (gN 4) gsNil))) (eVar 4) (eVar 3)))
  (sFldD "Store" 0 "_found" (eC (.dK [] []))))))))))
def s_Store___init__ : Sem' := runDef 3 6 b_Store___init__
theorem ok_Store___init__ {P : Program} {w : World} {K : PySem.W.Frag} {mg : Str → Option Value} {base : Heap} (C : Fx P K mg) : FnG P w K mg base 5 C.f_Store___init__ C.fd_Store___init__ ["self", "sizes", "states"] (spD K mg 3 s_Store___init__) :=
  fnD (k := 4) (N := n_Store___init__) (sm := b_Store___init__) C.F_Store___init__ sc_Store___init__ (by decide) fun cdv A outer s H vs E hr hgd =>
  (psd_cons (psd_if (ptd_w (pwd_or (ptd_not (ptd_val (pd_call ((ok_is_sequence C).mono (by decide)) hr hgd rfl C.g_is_sequence C.F_is_sequence.kp (bd_is_sequence C) (takes_of rfl rfl rfl rfl) rfl (par_cons (po_ev (pd_var 1)) par_nil)))) (pwd_or (ptd_cmp (op_eqD (hu64 hr)) vop_eq (po_ev (pd_b call_lenD' vop_len rfl C.n_len (par_cons (po_ev (pd_var 1)) par_nil))) (po_ev pd_int) (by rfl)) (pwd_or1 (ptd_not (ptd_val (pd_b (cr_all rfl) (vop_onBs _) rfl C.n_all (par_cons (po_ev (pl_pd (pl_comp [("size", 5)] rfl sc_Store___init__.nd (pid_seq (pd_var 1)) (show BlkOk n_Store___init__ (defScope (mtop 12 0)) _ _ from ⟨rfl, by decide +kernel, by decide +kernel, by decide +kernel, by decide +kernel⟩) (fun _ _ _ _ _ => (pgd_name 5 [5] (by decide) sc_Store___init__.nd)) (fun _ _ _ _ _ => ptsd_nil) (fun _ _ _ _ _ => (pd_and (pd_call ((ok_is_number C).mono (by decide)) hr hgd rfl C.g_is_number C.F_is_number.kp (bd_is_number C) takesW0 rfl (par_cons (po_ev (pd_var 5)) par_nil)) (pd_one (pd_cmp op_gt (vop_cmp _) (po_ev (pd_var 5)) (po_ev pd_int) (by rfl)))))))) par_nil)))))))) (psd_one (psd_raise C.T_InvalidStore C.gC_InvalidStore hr rfl (takes_of rfl rfl rfl rfl) rfl pd_int)) psd_nil)
  (psd_cons (psd_if (ptd_w (pwd_or (ptd_not (ptd_val (pd_call ((ok_is_sequence C).mono (by decide)) hr hgd rfl C.g_is_sequence C.F_is_sequence.kp (bd_is_sequence C) (takes_of rfl rfl rfl rfl) rfl (par_cons (po_ev (pd_var 2)) par_nil)))) (pwd_or1 (ptd_cmp (op_eqD (hu64 hr)) vop_eq (po_ev (pd_b call_lenD' vop_len rfl C.n_len (par_cons (po_ev (pd_var 2)) par_nil))) (po_ev pd_int) (by rfl))))) (psd_one (psd_raise C.T_InvalidStore C.gC_InvalidStore hr rfl (takes_of rfl rfl rfl rfl) rfl pd_int)) psd_nil)
  (psd_cons (psd_for (passes_of rfl) rfl (pid_enum rfl C.n_enumerate (pd_var 2)) (pgd_seq rfl (pgsd_cons (pgd_name 3 [3, 4] (by decide) sc_Store___init__.nd) (pgsd_cons (pgd_name 4 [3, 4] (by decide) sc_Store___init__.nd) pgsd_nil))) (psd_one (psd_if (ptd_not (ptd_val (pd_call ((ok_is_state_of C).mono (by decide)) hr hgd rfl C.g_is_state_of C.F_is_state_of.kp (bd_is_state_of C) (takes_of rfl rfl rfl rfl) rfl (par_cons (po_ev (pd_var 1)) (par_cons (po_ev (pd_var 4)) par_nil))))) (psd_one (psd_raise C.T_InvalidStore C.gC_InvalidStore hr rfl (takes_of rfl rfl rfl rfl) rfl (pd_bin op_addD vop_add (po_ev pd_int) (po_ev (pd_var 3))))) psd_nil)))
  (psd_cons (psd_fld "Store" 0 C.gC_Store C.cl_Store C.no_Store_key_count (pd_b call_lenD' vop_len rfl C.n_len (par_cons (po_ev (pd_var 1)) par_nil)))
  (psd_cons (psd_fld "Store" 0 C.gC_Store C.cl_Store C.no_Store_sizes (pd_ty call_tuple_of vop_tuple rfl C.n_tuple (par_cons (po_ev (pd_var 1)) par_nil)))
  (psd_cons (psd_fld "Store" 0 C.gC_Store C.cl_Store C.no_Store_states (pd_ty call_tuple_of vop_tuple rfl C.n_tuple (par_cons (po_ev (pd_sortSet rfl (hu64 hr) rfl C.n_sorted rfl C.n_set (pl_pd (pl_comp [("state", 4)] rfl sc_Store___init__.nd (pid_seq (pd_var 2)) (show BlkOk n_Store___init__ (defScope (mtop 12 0)) _ _ from ⟨rfl, by decide +kernel, by decide +kernel, by decide +kernel, by decide +kernel⟩) (fun _ _ _ _ _ => (pgd_name 4 [4] (by decide) sc_Store___init__.nd)) (fun _ _ _ _ _ => ptsd_nil) (fun _ _ _ _ _ => (pd_ty call_tuple_of vop_tuple rfl C.n_tuple (par_cons (po_ev (pd_var 4)) par_nil))))))) par_nil)))
  (psd_cons (psd_fld "Store" 0 C.gC_Store C.cl_Store C.no_Store__index (pd_dcT [("at", 3), ("state", 4)] hr.units0 rfl sc_Store___init__.nd (pid_enum rfl C.n_enumerate (pd_fld "Store" C.gC_Store C.cl_Store C.no_Store_states (po_br 0))) (show BlkOk n_Store___init__ (defScope (mtop 12 0)) _ _ from ⟨rfl, by decide +kernel, by decide +kernel, by decide +kernel, by decide +kernel⟩) (fun _ _ _ _ _ => (pgd_seq rfl (pgsd_cons (pgd_name 3 [3, 4] (by decide) sc_Store___init__.nd) (pgsd_cons (pgd_name 4 [3, 4] (by decide) sc_Store___init__.nd) pgsd_nil)))) (fun _ _ _ _ _ => (pd_var 4)) (fun _ _ _ _ _ => (pd_var 3))))
  (psd_one (psd_fld "Store" 0 C.gC_Store C.cl_Store C.no_Store__found pd_dict0)))))))))
def b__law_any : SM :=
  (sSeq (whileF (tAndB (bLeft 0) (eT (e2 dEq (.ev (eLast 0)) (.ev (eC (.int 0)))))) (sDrop (eDPop 0)) 60)
  (sSeq (sIf (bLeft 0) (sSeq (sSet 2 (eB (on1 dInt) [(.ev (eDPop 0))]))
  (sSeq (sDApp 0 2 1)
  (sRet (e2 dMod (.ev (eVar 2)) (.ev (eVar 1)))))) sNx)
  (sSeq (sBlend 0 (e2 dMod (.ev (eB (on1 dInt) [(.ev (e2 dAdd (.ev (e2 dMul (.ev (eBlend 0)) (.ev (eC (.int 40693))))) (.ev (eC (.int 71)))))])) (.ev (eC (.int 2147483647)))))
  (sRet (e2 dMod (.ev (eB (on1 dInt) [(.ev (e2 dDivW (.ev (eBlend 0)) (.ev (eC (.int 64)))))])) (.ev (eVar 1)))))))
def s__law_any : Sem' := runDef 2 3 b__law_any
theorem ok__law_any {P : Program} {w : World} {K : PySem.W.Frag} {mg : Str → Option Value} {base : Heap} (C : Fx P K mg) : FnG P w K mg base 1 C.f__law_any C.fd__law_any ["_law_deal", "_law_bound"] (spD K mg 2 s__law_any) :=
  fnD (k := 0) (N := n__law_any) (sm := b__law_any) C.F__law_any sc__law_any (by decide) fun cdv A outer s H vs E hr hgd =>
  (psd_cons (psd_while 60 (passes_of rfl) (ptd_w (pwd_and (ptd_left (hu64 hr) 0) (pwd_and1 (ptd_cmp (op_eqD (hu64 hr)) vop_eq (po_ev (pd_last 0)) (po_ev pd_int) (by rfl))))) (psd_one (psd_expr (pd_dpop 0))))
  (psd_cons (psd_if (ptd_left (hu64 hr) 0) (psd_cons (psd_set 2 sc__law_any.nd (pd_ty call_int1 vop_int rfl C.n_int (par_cons (po_ev (pd_dpop 0)) par_nil)))
  (psd_cons (psd_dapp 0 2 1)
  (psd_one (psd_ret (pd_bin op_mod vop_mod (po_ev (pd_var 2)) (po_ev (pd_var 1))))))) psd_nil)
  (psd_cons (psd_blend 0 (pd_bin op_mod vop_mod (po_ev (pd_ty call_int1 vop_int rfl C.n_int (par_cons (po_ev (pd_bin op_addD vop_add (po_ev (pd_bin op_mulD vop_mul (po_ev (pd_blend 0)) (po_ev pd_int))) (po_ev pd_int))) par_nil))) (po_ev pd_int)))
  (psd_one (psd_ret (pd_bin op_mod vop_mod (po_ev (pd_ty call_int1 vop_int rfl C.n_int (par_cons (po_ev (pd_bin op_fdivW vop_divW (po_ev (pd_blend 0)) (po_ev pd_int))) par_nil))) (po_ev (pd_var 1))))))))
def b__law_draw : Env' → FlD :=
  (sqD (sSet 3 (eL (eComp (iS (eSl (.ev (eVar 0)) none (some (eC (.int 48))))) [2] (gN 2) cYes (eB (on1 dAbs) [(.ev (eB (on1 dInt) [(.ev (eVar 2))]))]))))
  (sqD (sSet 4 (e2 dAdd (.ev (eC (.int 7919))) (.ev (e2 dMul (.ev (eC (.int 104729))) (.ev (eVar 1))))))
  (sqD (sFor (iS (eVar 3)) (gN 2) (sSet 4 (e2 dMod (.ev (eB (on1 dInt) [(.ev (e2 dAdd (.ev (e2 dAdd (.ev (e2 dMul (.ev (eVar 4)) (.ev (eC (.int 48271))))) (.ev (e2 dMod (.ev (eVar 2)) (.ev (eC (.int 2147483549))))))) (.ev (eC (.int 11)))))])) (.ev (eC (.int 2147483647))))))
  (sRetDl (eDl (eComp (iS (eVar 3)) [2] (gN 2) (eT (e2 dGe (.ev (eVar 2)) (.ev (e2 dPow (.ev (eC (.int 10))) (.ev (eC (.int 18))))))) (eVar 2)) 4)))))
def s__law_draw : SemDl := runDl 2 5 b__law_draw
theorem ok__law_draw {P : Program} {w : World} {K : PySem.W.Frag} {mg : Str → Option Value} {base : Heap} (C : Fx P K mg) : FnG P w K mg base 1 C.f__law_draw C.fd__law_draw ["_law_script", "_law_salt"] (spDl K mg 2 s__law_draw) :=
  fnDl (k := 0) (N := n__law_draw) (sm := b__law_draw) C.F__law_draw sc__law_draw (by decide) fun cdv A outer s H vs E hr hgd =>
  (psdl_cons (psd_setLc 3 [("_law_cell", 2)] rfl sc__law_draw.nd (pid_seq (pd_slice (ol := none) (oh := (some (eC (.int 48)))) (po_ev (pd_var 0)) trivial pd_int)) (show BlkOk n__law_draw (defScope (top 18)) _ _ from ⟨rfl, by decide +kernel, by decide +kernel, by decide +kernel, by decide +kernel⟩) (fun _ _ _ _ _ => (pgd_name 2 [2] (by decide) sc__law_draw.nd)) (fun _ _ _ _ _ => ptsd_nil) (fun _ _ _ _ _ => (pd_b call_abs vop_abs rfl C.n_abs (par_cons (po_ev (pd_ty call_int1 vop_int rfl C.n_int (par_cons (po_ev (pd_var 2)) par_nil))) par_nil))) rfl)
  (psdl_cons (psd_set 4 sc__law_draw.nd (pd_bin op_addD vop_add (po_ev pd_int) (po_ev (pd_bin op_mulD vop_mul (po_ev pd_int) (po_ev (pd_var 1))))))
  (psdl_cons (psd_for (passes_of rfl) rfl (pid_seq (pd_var 3)) (pgd_name 2 [2] (by decide) sc__law_draw.nd) (psd_one (psd_set 4 sc__law_draw.nd (pd_bin op_mod vop_mod (po_ev (pd_ty call_int1 vop_int rfl C.n_int (par_cons (po_ev (pd_bin op_addD vop_add (po_ev (pd_bin op_addD vop_add (po_ev (pd_bin op_mulD vop_mul (po_ev (pd_var 4)) (po_ev pd_int))) (po_ev (pd_bin op_mod vop_mod (po_ev (pd_var 2)) (po_ev pd_int))))) (po_ev pd_int))) par_nil))) (po_ev pd_int)))))
  (psdl_ret (pdl_disp 4 (pl_comp [("_law_cell", 2)] rfl sc__law_draw.nd (pid_seq (pd_var 3)) (show BlkOk n__law_draw (defScope (top 18)) _ _ from ⟨rfl, by decide +kernel, by decide +kernel, by decide +kernel, by decide +kernel⟩) (fun _ _ _ _ _ => (pgd_name 2 [2] (by decide) sc__law_draw.nd)) (fun _ _ _ _ _ => (ptsd_one (ptd_cmp op_ge (vop_cmp _) (po_ev (pd_var 2)) (po_ev (pd_bin op_pow vop_pow (po_ev pd_int) (po_ev pd_int))) (by rfl)))) (fun _ _ _ _ _ => (pd_var 2))))))))
def b__law_of : SM :=
  (sRet (e2 dIx (.ev (eVar 1)) (.ev (eCall s__law_any [(.io 0), (.ev (eB (on1 dLen) [(.ev (eVar 1))]))]))))
def s__law_of : Sem' := runDef 2 2 b__law_of
theorem ok__law_of {P : Program} {w : World} {K : PySem.W.Frag} {mg : Str → Option Value} {base : Heap} (C : Fx P K mg) : FnG P w K mg base 2 C.f__law_of C.fd__law_of ["_law_deal", "_law_some"] (spD K mg 2 s__law_of) :=
  fnD (k := 1) (N := n__law_of) (sm := b__law_of) C.F__law_of sc__law_of (by decide) fun cdv A outer s H vs E hr hgd =>
  (psd_one (psd_ret (pd_sub ix_seq vop_ix (po_ev (pd_var 1)) (po_ev (pd_call ((ok__law_any C).mono (by decide)) hr hgd rfl C.g__law_any C.F__law_any.kp (bd__law_any C) (takes_of rfl rfl rfl rfl) rfl (par_cons (po_io 0) (par_cons (po_ev (pd_b call_lenD' vop_len rfl C.n_len (par_cons (po_ev (pd_var 1)) par_nil))) par_nil)))) (by first | exact fun _ _ => rfl | decide))))
def b__law_line : SM :=
  (sSeq (sIf (eT (e2 dEq (.ev (eVar 2)) (.ev (eC (.int 0))))) (sSeq (sSet 3 (eL (argGo (([(eC (.str "")), (eC (.str "store")), (eC (.str "store 0")), (eC (.str "store 01")), (eC (.str "store x")), (eC (.str "Store 2")), (eC (.str "store  2")), (eC (.str "store 100")), (eC (.str "2 2")), (eC (.str "store 2 ")), (eC (.str "store -1")), (eC (.str "store 2 0"))] : List (EM D)).map Opd.ev))))
  (sRet (eCall s__law_of [(.io 0), (.ev (eVar 3))]))) sNx)
  (sSeq (sPar 4 5 (.fz (e2 dMul (.ev (eL (argGo (([(eC (.str "0"))] : List (EM D)).map Opd.ev)))) (.ev (eB (on1 dLen) [(.ev (eVar 1))])))) (.fz (eCall s__law_any [(.io 0), (.ev (eB (on1 dLen) [(.ev (eVar 1))]))])))
  (sSeq (sSet 6 (eCall s__law_of [(.io 0), (.ev (eL (argGo (([(eC (.str "00")), (eC (.str "01")), (eC (.str "-1")), (eC (.str "x")), (eC (.str "")), (eC (.str "100")), (eB (on1 dStr) [(.ev (e2 dIx (.ev (eVar 1)) (.ev (eVar 5))))]), (eC (.str " 0")), (eC (.str "+0"))] : List (EM D)).map Opd.ev))))]))
  (sSeq (sSet 3 (eL (argGo (([(e2 dAdd (.ev (eVar 4)) (.ev (eL (argGo (([(eC (.str "0"))] : List (EM D)).map Opd.ev))))), (eSl (.ev (eVar 4)) (some (eC (.int 1))) none), (e2 dAdd (.ev (eVar 4)) (.ev (eL (argGo (([(eC (.str ""))] : List (EM D)).map Opd.ev))))), (e2 dAdd (.ev (e2 dAdd (.ev (eSl (.ev (eVar 4)) none (some (eVar 5)))) (.ev (eL (argGo (([(eVar 6)] : List (EM D)).map Opd.ev)))))) (.ev (eSl (.ev (eVar 4)) (some (e2 dAdd (.ev (eVar 5)) (.ev (eC (.int 1))))) none)))] : List (EM D)).map Opd.ev))))
  (sRet (eM1 dJoin (eC (.str " ")) (.ev (eCall s__law_of [(.io 0), (.ev (e2 dAdd (.ev (eVar 3)) (.ev (e2 dMul (.ev (eL (argGo (([(e2 dIx (.ev (eVar 3)) (.ev (eC (.int 3))))] : List (EM D)).map Opd.ev)))) (.ev (eC (.int 3)))))))]))))))))
def s__law_line : Sem' := runDef 3 7 b__law_line
theorem ok__law_line {P : Program} {w : World} {K : PySem.W.Frag} {mg : Str → Option Value} {base : Heap} (C : Fx P K mg) : FnG P w K mg base 3 C.f__law_line C.fd__law_line ["_law_deal", "_law_sizes_here", "_law_at"] (spD K mg 3 s__law_line) :=
  fnD (k := 2) (N := n__law_line) (sm := b__law_line) C.F__law_line sc__law_line (by decide) fun cdv A outer s H vs E hr hgd =>
  (psd_cons (psd_if (ptd_cmp (op_eqD (hu64 hr)) vop_eq (po_ev (pd_var 2)) (po_ev pd_int) (by rfl)) (psd_cons (psd_set 3 sc__law_line.nd (pl_pd (pl_disp (fs := [(eC (.str "")), (eC (.str "store")), (eC (.str "store 0")), (eC (.str "store 01")), (eC (.str "store x")), (eC (.str "Store 2")), (eC (.str "store  2")), (eC (.str "store 100")), (eC (.str "2 2")), (eC (.str "store 2 ")), (eC (.str "store -1")), (eC (.str "store 2 0"))]) (par_cons (po_ev pd_str) (par_cons (po_ev pd_str) (par_cons (po_ev pd_str) (par_cons (po_ev pd_str) (par_cons (po_ev pd_str) (par_cons (po_ev pd_str) (par_cons (po_ev pd_str) (par_cons (po_ev pd_str) (par_cons (po_ev pd_str) (par_cons (po_ev pd_str) (par_cons (po_ev pd_str) (par_cons (po_ev pd_str) par_nil)))))))))))) (by decide))))
  (psd_one (psd_ret (pd_call ((ok__law_of C).mono (by decide)) hr hgd rfl C.g__law_of C.F__law_of.kp (bd__law_of C) (takes_of rfl rfl rfl rfl) rfl (par_cons (po_io 0) (par_cons (po_ev (pd_var 3)) par_nil)))))) psd_nil)
  (psd_cons (psd_par (i := 4) (j := 5) rfl sc__law_line.nd (pel_fz (pd_bin op_mulD vop_mul (po_ev (pl_pd (pl_disp (fs := [(eC (.str "0"))]) (par_cons (po_ev pd_str) par_nil) (by decide)))) (po_ev (pd_b call_lenD' vop_len rfl C.n_len (par_cons (po_ev (pd_var 1)) par_nil))))) (pel_fz (pd_call ((ok__law_any C).mono (by decide)) hr hgd rfl C.g__law_any C.F__law_any.kp (bd__law_any C) (takes_of rfl rfl rfl rfl) rfl (par_cons (po_io 0) (par_cons (po_ev (pd_b call_lenD' vop_len rfl C.n_len (par_cons (po_ev (pd_var 1)) par_nil))) par_nil)))))
  (psd_cons (psd_set 6 sc__law_line.nd (pd_call ((ok__law_of C).mono (by decide)) hr hgd rfl C.g__law_of C.F__law_of.kp (bd__law_of C) (takes_of rfl rfl rfl rfl) rfl (par_cons (po_io 0) (par_cons (po_ev (pl_pd (pl_disp (fs := [(eC (.str "00")), (eC (.str "01")), (eC (.str "-1")), (eC (.str "x")), (eC (.str "")), (eC (.str "100")), (eB (on1 dStr) [(.ev (e2 dIx (.ev (eVar 1)) (.ev (eVar 5))))]), (eC (.str " 0")), (eC (.str "+0"))]) (par_cons (po_ev pd_str) (par_cons (po_ev pd_str) (par_cons (po_ev pd_str) (par_cons (po_ev pd_str) (par_cons (po_ev pd_str) (par_cons (po_ev pd_str) (par_cons (po_ev (pd_ty call_strD vop_str rfl C.n_str (par_cons (po_ev (pd_sub ix_seq vop_ix (po_ev (pd_var 1)) (po_ev (pd_var 5)) (by first | exact fun _ _ => rfl | decide))) par_nil))) (par_cons (po_ev pd_str) (par_cons (po_ev pd_str) par_nil))))))))) (by decide)))) par_nil))))
  (psd_cons (psd_set 3 sc__law_line.nd (pl_pd (pl_disp (fs := [(e2 dAdd (.ev (eVar 4)) (.ev (eL (argGo (([(eC (.str "0"))] : List (EM D)).map Opd.ev))))), (eSl (.ev (eVar 4)) (some (eC (.int 1))) none), (e2 dAdd (.ev (eVar 4)) (.ev (eL (argGo (([(eC (.str ""))] : List (EM D)).map Opd.ev))))), (e2 dAdd (.ev (e2 dAdd (.ev (eSl (.ev (eVar 4)) none (some (eVar 5)))) (.ev (eL (argGo (([(eVar 6)] : List (EM D)).map Opd.ev)))))) (.ev (eSl (.ev (eVar 4)) (some (e2 dAdd (.ev (eVar 5)) (.ev (eC (.int 1))))) none)))]) (par_cons (po_ev (pd_bin op_addD vop_add (po_ev (pd_var 4)) (po_ev (pl_pd (pl_disp (fs := [(eC (.str "0"))]) (par_cons (po_ev pd_str) par_nil) (by decide)))))) (par_cons (po_ev (pd_slice (ol := (some (eC (.int 1)))) (oh := none) (po_ev (pd_var 4)) pd_int trivial)) (par_cons (po_ev (pd_bin op_addD vop_add (po_ev (pd_var 4)) (po_ev (pl_pd (pl_disp (fs := [(eC (.str ""))]) (par_cons (po_ev pd_str) par_nil) (by decide)))))) (par_cons (po_ev (pd_bin op_addD vop_add (po_ev (pd_bin op_addD vop_add (po_ev (pd_slice (ol := none) (oh := (some (eVar 5))) (po_ev (pd_var 4)) trivial (pd_var 5))) (po_ev (pl_pd (pl_disp (fs := [(eVar 6)]) (par_cons (po_ev (pd_var 6)) par_nil) (by decide)))))) (po_ev (pd_slice (ol := (some (e2 dAdd (.ev (eVar 5)) (.ev (eC (.int 1)))))) (oh := none) (po_ev (pd_var 4)) (pd_bin op_addD vop_add (po_ev (pd_var 5)) (po_ev pd_int)) trivial)))) par_nil)))) (by decide))))
  (psd_one (psd_ret (pd_join pd_str (po_ev (pd_call ((ok__law_of C).mono (by decide)) hr hgd rfl C.g__law_of C.F__law_of.kp (bd__law_of C) (takes_of rfl rfl rfl rfl) rfl (par_cons (po_io 0) (par_cons (po_ev (pd_bin op_addD vop_add (po_ev (pd_var 3)) (po_ev (pd_bin op_mulD vop_mul (po_ev (pl_pd (pl_disp (fs := [(e2 dIx (.ev (eVar 3)) (.ev (eC (.int 3))))]) (par_cons (po_ev (pd_sub ix_seq vop_ix (po_ev (pd_var 3)) (po_ev pd_int) (by first | exact fun _ _ => rfl | decide))) par_nil) (by decide)))) (po_ev pd_int))))) par_nil)))))))))))
def b__law_mixed : SM :=
  (sSeq (sPar 2 3 (.nw (lList (.ev (eVar 1)))) (.nw (argGo (([] : List (EM D)).map Opd.ev))))
  (sSeq (whileF (eT (e2 dNe (.br 2) (.ev (eL (argGo (([] : List (EM D)).map Opd.ev)))))) (sApp 3 (ePopAt 2 (eCall s__law_any [(.io 0), (.ev (eB (on1 dLen) [(.br 2)]))]))) 100)
  (sRet (eVar 3))))
def s__law_mixed : Sem' := runDef 2 4 b__law_mixed
theorem ok__law_mixed {P : Program} {w : World} {K : PySem.W.Frag} {mg : Str → Option Value} {base : Heap} (C : Fx P K mg) : FnG P w K mg base 2 C.f__law_mixed C.fd__law_mixed ["_law_deal", "_law_some"] (spD K mg 2 s__law_mixed) :=
  fnD (k := 1) (N := n__law_mixed) (sm := b__law_mixed) C.F__law_mixed sc__law_mixed (by decide) fun cdv A outer s H vs E hr hgd =>
  (psd_cons (psd_par (i := 2) (j := 3) rfl sc__law_mixed.nd (pel_nw (pl_list rfl C.n_list (po_ev (pd_var 1)))) (pel_nw (pl_disp (fs := []) par_nil (by decide))))
  (psd_cons (psd_while 100 (passes_of rfl) (ptd_cmp (op_neD (hu64 hr)) vop_ne (po_br 2) (po_ev (pl_pd (pl_disp (fs := []) par_nil (by decide)))) (by rfl)) (psd_one (psd_app 3 (pd_popAt 2 (pd_call ((ok__law_any C).mono (by decide)) hr hgd rfl C.g__law_any C.F__law_any.kp (bd__law_any C) (takes_of rfl rfl rfl rfl) rfl (par_cons (po_io 0) (par_cons (po_ev (pd_b call_lenD' vop_len rfl C.n_len (par_cons (po_br 2) par_nil))) par_nil))) fun he => pe_bm PySem.F.plainAttrs_list PySem.F.slot_list_pop PySem.F.type_list_pop mt_popAt (pe_var (i := 2) rfl (by first | exact Or.inl rfl | exact Or.inr (Or.inl rfl))) (pa_cons he pa_nil)) rfl (by first | exact Or.inl rfl | exact Or.inr (Or.inl rfl)) (by decide) (by decide) (fun he => pe_bm PySem.F.plainAttrs_list PySem.F.slot_list_append PySem.F.type_list_append mt_append (pe_var (i := 3) rfl (by first | exact Or.inl rfl | exact Or.inr (Or.inl rfl))) (pa_cons he pa_nil)))))
  (psd_one (psd_ret (pd_var 3)))))
end Wk
end

section
set_option Elab.async false
set_option linter.all false
set_option maxRecDepth 100000
set_option maxHeartbeats 0
namespace Wk
open PySem PySem.Spec PyProof.Rows L2 DL
def b_numbers_of : SM :=
  (sSeq (sFor (iS (eVar 0)) (gN 2) (sSeq (sIf (tOrB (tNotB (eT (eChain dLe dLe (eC (.int 1)) (eB (on1 dLen) [(.ev (eVar 2))]) (eC (.int 2))))) (tNotB (eT (eB (on1 dAll) [(.ev (eL (eComp (iStrD (eVar 2)) [3] (gN 3) cYes (e2 dInS (.ev (eVar 3)) (.ev (eC (.str "0123456789")))))))])))) (sRaise "InvalidText" (eVar 1)) sNx)
  (sIf (tAndB (eT (e2 dEq (.ev (eB (on1 dLen) [(.ev (eVar 2))])) (.ev (eC (.int 2))))) (eT (e2 dEq (.ev (e2 dIxS (.ev (eVar 2)) (.ev (eC (.int 0))))) (.ev (eC (.str "0")))))) (sRaise "InvalidText" (eVar 1)) sNx)))
  (sRet (eB (on1 dTuple) [(.ev (eL (eComp (iS (eVar 0)) [2] (gN 2) cYes (eB (on1 dIntT) [(.ev (eVar 2))]))))])))
def s_numbers_of : Sem' := runDef 2 4 b_numbers_of
theorem ok_numbers_of {P : Program} {w : World} {K : PySem.W.Frag} {mg : Str → Option Value} {base : Heap} (C : Fx P K mg) : FnG P w K mg base 1 C.f_numbers_of C.fd_numbers_of ["words", "at"] (spD K mg 2 s_numbers_of) :=
  fnD (k := 0) (N := n_numbers_of) (sm := b_numbers_of) C.F_numbers_of sc_numbers_of (by decide) fun cdv A outer s H vs E hr hgd =>
  (psd_cons (psd_for (passes_of rfl) rfl (pid_seq (pd_var 0)) (pgd_name 2 [2] (by decide) sc_numbers_of.nd) (psd_cons (psd_if (ptd_w (pwd_or (ptd_not (ptd_chain op_le op_le (vop_cmp _) (vop_cmp _) pd_int (pd_b call_lenD' vop_len rfl C.n_len (par_cons (po_ev (pd_var 2)) par_nil)) pd_int)) (pwd_or1 (ptd_not (ptd_val (pd_b (cr_all rfl) (vop_onBs _) rfl C.n_all (par_cons (po_ev (pl_pd (pl_comp [("sign", 3)] rfl sc_numbers_of.nd (pid_str (pd_var 2)) (show BlkOk n_numbers_of (defScope (top 15)) _ _ from ⟨rfl, by decide +kernel, by decide +kernel, by decide +kernel, by decide +kernel⟩) (fun _ _ _ _ _ => (pgd_name 3 [3] (by decide) sc_numbers_of.nd)) (fun _ _ _ _ _ => ptsd_nil) (fun _ _ _ _ _ => (pd_cmp op_in_sign vop_inS (po_ev (pd_var 3)) (po_ev pd_str) (by rfl)))))) par_nil))))))) (psd_one (psd_raise C.T_InvalidText C.gC_InvalidText hr rfl (takes_of rfl rfl rfl rfl) rfl (pd_var 1))) psd_nil)
  (psd_one (psd_if (ptd_w (pwd_and (ptd_cmp (op_eqD (hu64 hr)) vop_eq (po_ev (pd_b call_lenD' vop_len rfl C.n_len (par_cons (po_ev (pd_var 2)) par_nil))) (po_ev pd_int) (by rfl)) (pwd_and1 (ptd_cmp (op_eqD (hu64 hr)) vop_eq (po_ev (pd_sub ix_seq vop_ixS (po_ev (pd_var 2)) (po_ev pd_int) (by first | exact fun _ _ => rfl | decide))) (po_ev pd_str) (by rfl))))) (psd_one (psd_raise C.T_InvalidText C.gC_InvalidText hr rfl (takes_of rfl rfl rfl rfl) rfl (pd_var 1))) psd_nil))))
  (psd_one (psd_ret (pd_ty call_tuple_of vop_tuple rfl C.n_tuple (par_cons (po_ev (pl_pd (pl_comp [("word", 2)] rfl sc_numbers_of.nd (pid_seq (pd_var 0)) (show BlkOk n_numbers_of (defScope (top 15)) _ _ from ⟨rfl, by decide +kernel, by decide +kernel, by decide +kernel, by decide +kernel⟩) (fun _ _ _ _ _ => (pgd_name 2 [2] (by decide) sc_numbers_of.nd)) (fun _ _ _ _ _ => ptsd_nil) (fun _ _ _ _ _ => (pd_ty call_intT vop_intT rfl C.n_int (par_cons (po_ev (pd_var 2)) par_nil)))))) par_nil)))))
def b_read_store : SM :=
  (sSeq (sIf (tNotB (eT (e1 (dIsi "str") (.ev (eVar 0))))) (sRaise "InvalidText" (eC (.int 0))) sNx)
  (sSeq (sSet 1 (eM1 dSplit (eVar 0) (.ev (eC (.str "\n")))))
  (sSeq (sSet 2 (eM1 dSplit (e2 dIx (.ev (eVar 1)) (.ev (eC (.int 0)))) (.ev (eC (.str " ")))))
  (sSeq (sIf (tOrB (eT (e2 dLt (.ev (eB (on1 dLen) [(.ev (eVar 2))])) (.ev (eC (.int 2))))) (eT (e2 dNe (.ev (e2 dIx (.ev (eVar 2)) (.ev (eC (.int 0))))) (.ev (eC (.str "store")))))) (sRaise "InvalidText" (eC (.int 0))) sNx)
  (sSeq (sSet 3 (eCall s_numbers_of [(.ev (eSl (.ev (eVar 2)) (some (eC (.int 1))) none)), (.ev (eC (.int 0)))]))
  (sSeq (sIf (eT (e2 dEq (.ev (eB (on1 dMin1) [(.ev (eVar 3))])) (.ev (eC (.int 0))))) (sRaise "InvalidText" (eC (.int 0))) sNx)
  (sSeq (sOwn 4 (argGo (([] : List (EM D)).map Opd.ev)))
  (sSeq (sFor (iR2 (.ev (eC (.int 1))) (.ev (eB (on1 dLen) [(.ev (eVar 1))]))) (gN 5) (sSeq (sSet 6 (eCall s_numbers_of [(.ev (eM1 dSplit (e2 dIx (.ev (eVar 1)) (.ev (eVar 5))) (.ev (eC (.str " "))))), (.ev (eVar 5))]))
  (sSeq (sIf (tOrB (eT (e2 dNe (.ev (eB (on1 dLen) [(.ev (eVar 6))])) (.ev (eB (on1 dLen) [(.ev (eVar 3))])))) (tNotB (eT (eB (on1 dAll) [(.ev (eL (eComp (iZp (eVar 6) (eVar 3)) [7, 8] (gS 2 (gsCons (gN 7) (gsCons (gN 8) gsNil))) cYes (e2 dLt (.ev (eVar 7)) (.ev (eVar 8))))))])))) (sRaise "InvalidText" (eVar 5)) sNx)
  (sSeq (sIf (tAndB (eT (e2 dGt (.ev (eB (on1 dLen) [(.br 4)])) (.ev (eC (.int 0))))) (eT (e2 dLeT (.ev (eVar 6)) (.ev (e2 dIx (.br 4) (.ev (e1 dNeg (.ev (eC (.int 1)))))))))) (sRaise "InvalidText" (eVar 5)) sNx)
  (sApp 4 (eVar 6))))))
  (sSeq (sIf (eT (e2 dEq (.ev (eB (on1 dLen) [(.br 4)])) (.ev (eC (.int 0))))) (sRaise "InvalidText" (eB (on1 dLen) [(.ev (eVar 1))])) sNx)
  (sRet (eMake "Store" s_Store___init__ [(eVar 3), (eVar 4)])))))))))))
def s_read_store : Sem' := runDef 1 9 b_read_store
theorem ok_read_store {P : Program} {w : World} {K : PySem.W.Frag} {mg : Str → Option Value} {base : Heap} (C : Fx P K mg) : FnG P w K mg base 7 C.f_read_store C.fd_read_store ["text"] (spD K mg 1 s_read_store) :=
  fnD (k := 6) (N := n_read_store) (sm := b_read_store) C.F_read_store sc_read_store (by decide) fun cdv A outer s H vs E hr hgd =>
  (psd_cons (psd_if (ptd_not (ptd_val (pd_isi rfl C.n_isinstance rfl C.n_str (po_ev (pd_var 0))))) (psd_one (psd_raise C.T_InvalidText C.gC_InvalidText hr rfl (takes_of rfl rfl rfl rfl) rfl pd_int)) psd_nil)
  (psd_cons (psd_set 1 sc_read_store.nd (pd_split (pd_var 0) (po_ev pd_str)))
  (psd_cons (psd_set 2 sc_read_store.nd (pd_split (pd_sub ix_seq vop_ix (po_ev (pd_var 1)) (po_ev pd_int) (by first | exact fun _ _ => rfl | decide)) (po_ev pd_str)))
  (psd_cons (psd_if (ptd_w (pwd_or (ptd_cmp op_lt (vop_cmp _) (po_ev (pd_b call_lenD' vop_len rfl C.n_len (par_cons (po_ev (pd_var 2)) par_nil))) (po_ev pd_int) (by rfl)) (pwd_or1 (ptd_cmp (op_neD (hu64 hr)) vop_ne (po_ev (pd_sub ix_seq vop_ix (po_ev (pd_var 2)) (po_ev pd_int) (by first | exact fun _ _ => rfl | decide))) (po_ev pd_str) (by rfl))))) (psd_one (psd_raise C.T_InvalidText C.gC_InvalidText hr rfl (takes_of rfl rfl rfl rfl) rfl pd_int)) psd_nil)
  (psd_cons (psd_set 3 sc_read_store.nd (pd_call ((ok_numbers_of C).mono (by decide)) hr hgd rfl C.g_numbers_of C.F_numbers_of.kp (bd_numbers_of C) (takes_of rfl rfl rfl rfl) rfl (par_cons (po_ev (pd_slice (ol := (some (eC (.int 1)))) (oh := none) (po_ev (pd_var 2)) pd_int trivial)) (par_cons (po_ev pd_int) par_nil))))
  (psd_cons (psd_if (ptd_cmp (op_eqD (hu64 hr)) vop_eq (po_ev (pd_b (cr_min1 rfl) vop_min1 rfl C.n_min (par_cons (po_ev (pd_var 3)) par_nil))) (po_ev pd_int) (by rfl)) (psd_one (psd_raise C.T_InvalidText C.gC_InvalidText hr rfl (takes_of rfl rfl rfl rfl) rfl pd_int)) psd_nil)
  (psd_cons (psd_own 4 sc_read_store.nd (pl_disp (fs := []) par_nil (by decide)))
  (psd_cons (psd_for (passes_of rfl) rfl (pid_range2 rfl C.n_range (par_cons (po_ev pd_int) (par_cons (po_ev (pd_b call_lenD' vop_len rfl C.n_len (par_cons (po_ev (pd_var 1)) par_nil))) par_nil))) (pgd_name 5 [5] (by decide) sc_read_store.nd) (psd_cons (psd_set 6 sc_read_store.nd (pd_call ((ok_numbers_of C).mono (by decide)) hr hgd rfl C.g_numbers_of C.F_numbers_of.kp (bd_numbers_of C) (takes_of rfl rfl rfl rfl) rfl (par_cons (po_ev (pd_split (pd_sub ix_seq vop_ix (po_ev (pd_var 1)) (po_ev (pd_var 5)) (by first | exact fun _ _ => rfl | decide)) (po_ev pd_str))) (par_cons (po_ev (pd_var 5)) par_nil))))
  (psd_cons (psd_if (ptd_w (pwd_or (ptd_cmp (op_neD (hu64 hr)) vop_ne (po_ev (pd_b call_lenD' vop_len rfl C.n_len (par_cons (po_ev (pd_var 6)) par_nil))) (po_ev (pd_b call_lenD' vop_len rfl C.n_len (par_cons (po_ev (pd_var 3)) par_nil))) (by rfl)) (pwd_or1 (ptd_not (ptd_val (pd_b (cr_all rfl) (vop_onBs _) rfl C.n_all (par_cons (po_ev (pl_pd (pl_comp [("one", 7), ("size", 8)] rfl sc_read_store.nd (pid_zip rfl C.n_zip (pd_var 6) (pd_var 3)) (show BlkOk n_read_store (defScope (top 16)) _ _ from ⟨rfl, by decide +kernel, by decide +kernel, by decide +kernel, by decide +kernel⟩) (fun _ _ _ _ _ => (pgd_seq rfl (pgsd_cons (pgd_name 7 [7, 8] (by decide) sc_read_store.nd) (pgsd_cons (pgd_name 8 [7, 8] (by decide) sc_read_store.nd) pgsd_nil)))) (fun _ _ _ _ _ => ptsd_nil) (fun _ _ _ _ _ => (pd_cmp op_lt (vop_cmp _) (po_ev (pd_var 7)) (po_ev (pd_var 8)) (by rfl)))))) par_nil))))))) (psd_one (psd_raise C.T_InvalidText C.gC_InvalidText hr rfl (takes_of rfl rfl rfl rfl) rfl (pd_var 5))) psd_nil)
  (psd_cons (psd_if (ptd_w (pwd_and (ptd_cmp op_gt (vop_cmp _) (po_ev (pd_b call_lenD' vop_len rfl C.n_len (par_cons (po_br 4) par_nil))) (po_ev pd_int) (by rfl)) (pwd_and1 (ptd_cmp (op_leT hr.units0) vop_leT (po_ev (pd_var 6)) (po_ev (pd_sub ix_seq vop_ix (po_br 4) (po_ev (pd_un un_neg vop_neg (po_ev pd_int))) (by first | exact fun _ _ => rfl | decide))) (by rfl))))) (psd_one (psd_raise C.T_InvalidText C.gC_InvalidText hr rfl (takes_of rfl rfl rfl rfl) rfl (pd_var 5))) psd_nil)
  (psd_one (psd_app 4 (pd_var 6) rfl (by first | exact Or.inl rfl | exact Or.inr (Or.inl rfl)) (by decide) (by decide) (fun he => pe_bm PySem.F.plainAttrs_list PySem.F.slot_list_append PySem.F.type_list_append mt_append (pe_var (i := 4) rfl (by first | exact Or.inl rfl | exact Or.inr (Or.inl rfl))) (pa_cons he pa_nil))))))))
  (psd_cons (psd_if (ptd_cmp (op_eqD (hu64 hr)) vop_eq (po_ev (pd_b call_lenD' vop_len rfl C.n_len (par_cons (po_br 4) par_nil))) (po_ev pd_int) (by rfl)) (psd_one (psd_raise C.T_InvalidText C.gC_InvalidText hr rfl (takes_of rfl rfl rfl rfl) rfl (pd_b call_lenD' vop_len rfl C.n_len (par_cons (po_ev (pd_var 1)) par_nil)))) psd_nil)
  (psd_one (psd_ret (pd_make (fs := [(eVar 3), (eVar 4)]) C.mk_Store ((ok_Store___init__ C).mono (by decide)) hr hgd rfl C.gC_Store (bd_Store___init__ C) (takes_of rfl rfl rfl rfl) rfl (par_cons (po_ev (pd_var 3)) (par_cons (po_ev (pd_var 4)) par_nil))))))))))))))
def b__law_read : SM :=
  (sTryAt ers "InvalidText" 1 (sRet (eCallKw s_read_store [0] [] [(.ev (eVar 0))])))
def s__law_read : Sem' := runDef 1 2 b__law_read
theorem ok__law_read {P : Program} {w : World} {K : PySem.W.Frag} {mg : Str → Option Value} {base : Heap} (C : Fx P K mg) : FnG P w K mg base 8 C.f__law_read C.fd__law_read ["_law_text"] (spD K mg 1 s__law_read) :=
  fnD (k := 7) (N := n__law_read) (sm := b__law_read) C.F__law_read sc__law_read (by decide) fun cdv A outer s H vs E hr hgd =>
  (psd_one (psd_tryAt 1 rfl rfl sc__law_read.nd rfl rfl rfl (by decide) C.gC_InvalidText C.xf_InvalidText C.na_InvalidText C.he_InvalidText (takes_of rfl rfl rfl rfl) (hb := fun W' pn xe tk' ps => (psd_one (psd_ret (pd_callKw0 ((ok_read_store C).mono (by decide)) hr hgd rfl C.g_read_store C.F_read_store.kp (kw_read_store_0_text C) tk' rfl rfl (pkr_cons (po_ev (pd_var 0)) pkr_nil)))))))
def b__law_all : SM :=
  (sSeq (sSet 1 (eL (argGo (([(eTup [])] : List (EM D)).map Opd.ev))))
  (sSeq (sFor (iS (eVar 0)) (gN 2) (sSeq (sSet 3 (eL (argGo (([] : List (EM D)).map Opd.ev))))
  (sSeq (sFor (iS (eVar 1)) (gN 4) (sSet 3 (e2 dAdd (.ev (eVar 3)) (.ev (eL (eComp (iR1 (.ev (eVar 2))) [5] (gN 5) cYes (e2 dAdd (.ev (eVar 4)) (.ev (eTup [(eVar 5)])))))))))
  (sSet 1 (eVar 3)))))
  (sRet (eVar 1))))
def s__law_all : Sem' := runDef 1 6 b__law_all
theorem ok__law_all {P : Program} {w : World} {K : PySem.W.Frag} {mg : Str → Option Value} {base : Heap} (C : Fx P K mg) : FnG P w K mg base 1 C.f__law_all C.fd__law_all ["_law_sizes_here"] (spD K mg 1 s__law_all) :=
  fnD (k := 0) (N := n__law_all) (sm := b__law_all) C.F__law_all sc__law_all (by decide) fun cdv A outer s H vs E hr hgd =>
  (psd_cons (psd_set 1 sc__law_all.nd (pl_pd (pl_disp (fs := [(eTup [])]) (par_cons (po_ev (pd_tup (fs := []) par_nil (by decide))) par_nil) (by decide))))
  (psd_cons (psd_for (passes_of rfl) rfl (pid_seq (pd_var 0)) (pgd_name 2 [2] (by decide) sc__law_all.nd) (psd_cons (psd_set 3 sc__law_all.nd (pl_pd (pl_disp (fs := []) par_nil (by decide))))
  (psd_cons (psd_for (passes_of rfl) rfl (pid_seq (pd_var 1)) (pgd_name 4 [4] (by decide) sc__law_all.nd) (psd_one (psd_set 3 sc__law_all.nd (pd_bin op_addD vop_add (po_ev (pd_var 3)) (po_ev (pl_pd (pl_comp [("_law_value", 5)] rfl sc__law_all.nd (pid_range1 rfl C.n_range (par_cons (po_ev (pd_var 2)) par_nil)) (show BlkOk n__law_all (defScope (top 22)) _ _ from ⟨rfl, by decide +kernel, by decide +kernel, by decide +kernel, by decide +kernel⟩) (fun _ _ _ _ _ => (pgd_name 5 [5] (by decide) sc__law_all.nd)) (fun _ _ _ _ _ => ptsd_nil) (fun _ _ _ _ _ => (pd_bin op_addD vop_add (po_ev (pd_var 4)) (po_ev (pd_tup (fs := [(eVar 5)]) (par_cons (po_ev (pd_var 5)) par_nil) (by decide))))))))))))
  (psd_one (psd_set 1 sc__law_all.nd (pd_var 3))))))
  (psd_one (psd_ret (pd_var 1)))))
def b__law_sizes : SM :=
  (sSeq (sPar 2 3 (.nw (argGo (([] : List (EM D)).map Opd.ev))) (.fz (eC (.int 1))))
  (sSeq (sFor (iR1 (.ev (eCall s__law_of [(.io 0), (.ev (eL (argGo (([(eC (.int 1)), (eC (.int 2)), (eC (.int 2)), (eC (.int 3)), (eC (.int 3)), (eC (.int 3)), (eC (.int 4))] : List (EM D)).map Opd.ev))))]))) (gN 4) (sSeq (sSet 5 (eCall s__law_of [(.io 0), (.ev (eL (argGo (([(eC (.int 1)), (eC (.int 2)), (eC (.int 2)), (eC (.int 2)), (eC (.int 3)), (eC (.int 3)), (eC (.int 4))] : List (EM D)).map Opd.ev))))]))
  (sIf (eT (e2 dLe (.ev (e2 dMul (.ev (eVar 3)) (.ev (eVar 5)))) (.ev (eVar 1)))) (sSeq (sApp 2 (eVar 5))
  (sSet 3 (e2 dMul (.ev (eVar 3)) (.ev (eVar 5))))) sNx)))
  (sRet (eIf (eT (e2 dNe (.br 2) (.ev (eL (argGo (([] : List (EM D)).map Opd.ev)))))) (eVar 2) (eL (argGo (([(eC (.int 2))] : List (EM D)).map Opd.ev)))))))
def s__law_sizes : Sem' := runDef 2 6 b__law_sizes
theorem ok__law_sizes {P : Program} {w : World} {K : PySem.W.Frag} {mg : Str → Option Value} {base : Heap} (C : Fx P K mg) : FnG P w K mg base 3 C.f__law_sizes C.fd__law_sizes ["_law_deal", "_law_most"] (spD K mg 2 s__law_sizes) :=
  fnD (k := 2) (N := n__law_sizes) (sm := b__law_sizes) C.F__law_sizes sc__law_sizes (by decide) fun cdv A outer s H vs E hr hgd =>
  (psd_cons (psd_par (i := 2) (j := 3) rfl sc__law_sizes.nd (pel_nw (pl_disp (fs := []) par_nil (by decide))) (pel_fz pd_int))
  (psd_cons (psd_for (passes_of rfl) rfl (pid_range1 rfl C.n_range (par_cons (po_ev (pd_call ((ok__law_of C).mono (by decide)) hr hgd rfl C.g__law_of C.F__law_of.kp (bd__law_of C) (takes_of rfl rfl rfl rfl) rfl (par_cons (po_io 0) (par_cons (po_ev (pl_pd (pl_disp (fs := [(eC (.int 1)), (eC (.int 2)), (eC (.int 2)), (eC (.int 3)), (eC (.int 3)), (eC (.int 3)), (eC (.int 4))]) (par_cons (po_ev pd_int) (par_cons (po_ev pd_int) (par_cons (po_ev pd_int) (par_cons (po_ev pd_int) (par_cons (po_ev pd_int) (par_cons (po_ev pd_int) (par_cons (po_ev pd_int) par_nil))))))) (by decide)))) par_nil)))) par_nil)) (pgd_name 4 [4] (by decide) sc__law_sizes.nd) (psd_cons (psd_set 5 sc__law_sizes.nd (pd_call ((ok__law_of C).mono (by decide)) hr hgd rfl C.g__law_of C.F__law_of.kp (bd__law_of C) (takes_of rfl rfl rfl rfl) rfl (par_cons (po_io 0) (par_cons (po_ev (pl_pd (pl_disp (fs := [(eC (.int 1)), (eC (.int 2)), (eC (.int 2)), (eC (.int 2)), (eC (.int 3)), (eC (.int 3)), (eC (.int 4))]) (par_cons (po_ev pd_int) (par_cons (po_ev pd_int) (par_cons (po_ev pd_int) (par_cons (po_ev pd_int) (par_cons (po_ev pd_int) (par_cons (po_ev pd_int) (par_cons (po_ev pd_int) par_nil))))))) (by decide)))) par_nil))))
  (psd_one (psd_if (ptd_cmp op_le (vop_cmp _) (po_ev (pd_bin op_mulD vop_mul (po_ev (pd_var 3)) (po_ev (pd_var 5)))) (po_ev (pd_var 1)) (by rfl)) (psd_cons (psd_app 2 (pd_var 5) rfl (by first | exact Or.inl rfl | exact Or.inr (Or.inl rfl)) (by decide) (by decide) (fun he => pe_bm PySem.F.plainAttrs_list PySem.F.slot_list_append PySem.F.type_list_append mt_append (pe_var (i := 2) rfl (by first | exact Or.inl rfl | exact Or.inr (Or.inl rfl))) (pa_cons he pa_nil)))
  (psd_one (psd_set 3 sc__law_sizes.nd (pd_bin op_mulD vop_mul (po_ev (pd_var 3)) (po_ev (pd_var 5)))))) psd_nil))))
  (psd_one (psd_ret (pd_if (ptd_cmp (op_neD (hu64 hr)) vop_ne (po_br 2) (po_ev (pl_pd (pl_disp (fs := []) par_nil (by decide)))) (by rfl)) (pd_var 2) (pl_pd (pl_disp (fs := [(eC (.int 2))]) (par_cons (po_ev pd_int) par_nil) (by decide))))))))
def b__law_store : SM :=
  (sSeq (sSet 2 (eCall s__law_sizes [(.io 0), (.ev (eVar 1))]))
  (sSeq (sPar 3 4 (.fz (eCall s__law_all [(.ev (eVar 2))])) (.fz (eCall s__law_any [(.io 0), (.ev (eC (.int 10)))])))
  (sSeq (sAsg (eTup [(eB (on1 dLen) [(.ev (eVar 2))]), (eLstRg (eB (on1 dLen) [(.ev (eVar 2))]))]) (gS 2 (gsCons (gN 5) (gsCons (gN 6) gsNil))))
  (sSeq (sIf (eT (e2 dEq (.ev (eVar 4)) (.ev (eC (.int 0))))) (sRet (eTup [(eVar 2), (eVar 3)])) sNx)
  (sSeq (sIf (eT (e2 dEq (.ev (eVar 4)) (.ev (eC (.int 1))))) (sSeq (sSet 7 (eCall s__law_any [(.io 0), (.ev (e2 dAdd (.ev (e2 dSub (.ev (eB (on1 dSumX) [(.ev (eVar 2))])) (.ev (eVar 5)))) (.ev (eC (.int 1)))))]))
  (sSet 8 (eL (eComp (iS (eVar 3)) [19] (gN 19) (eT (e2 dEq (.ev (eB (on1 dSumX) [(.ev (eVar 19))])) (.ev (eVar 7)))) (eVar 19))))) (sIf (eT (e2 dEq (.ev (eVar 4)) (.ev (eC (.int 2))))) (sSeq (sSet 9 (eCall s__law_any [(.io 0), (.ev (e2 dAdd (.ev (e2 dSub (.ev (eB (on1 dSumX) [(.ev (eVar 2))])) (.ev (eVar 5)))) (.ev (eC (.int 1)))))]))
  (sSeq (sSet 10 (e2 dAdd (.ev (e2 dAdd (.ev (eVar 9)) (.ev (eC (.int 1))))) (.ev (eCall s__law_any [(.io 0), (.ev (eC (.int 2)))]))))
  (sSet 8 (eL (eComp (iS (eVar 3)) [19] (gN 19) (eT (eChain dLe dLe (eVar 9) (eB (on1 dSumX) [(.ev (eVar 19))]) (eVar 10))) (eVar 19)))))) (sIf (eT (e2 dEq (.ev (eVar 4)) (.ev (eC (.int 3))))) (sSeq (sAsg (eTup [(eCall s__law_of [(.io 0), (.ev (eVar 6))]), (eCall s__law_of [(.io 0), (.ev (eVar 6))]), (e2 dAdd (.ev (eC (.int 1))) (.ev (eCall s__law_any [(.io 0), (.ev (eC (.int 2)))]))), (e2 dAdd (.ev (eC (.int 1))) (.ev (eCall s__law_any [(.io 0), (.ev (eC (.int 2)))])))]) (gS 4 (gsCons (gN 11) (gsCons (gN 12) (gsCons (gN 13) (gsCons (gN 14) gsNil))))))
  (sSet 8 (eL (eComp (iS (eVar 3)) [19] (gN 19) (tOrB (eT (e2 dLt (.ev (e2 dIx (.ev (eVar 19)) (.ev (eVar 11)))) (.ev (eVar 13)))) (eT (e2 dGe (.ev (e2 dIx (.ev (eVar 19)) (.ev (eVar 12)))) (.ev (eB (on2 dMin2) [(.ev (eVar 14)), (.ev (e2 dSub (.ev (e2 dIx (.ev (eVar 2)) (.ev (eVar 12)))) (.ev (eC (.int 1)))))]))))) (eVar 19))))) (sIf (eT (e2 dEq (.ev (eVar 4)) (.ev (eC (.int 4))))) (sSeq (sAsg (eTup [(eCall s__law_of [(.io 0), (.ev (eL (argGo (([(eC (.int 2)), (eC (.int 2)), (eC (.int 3))] : List (EM D)).map Opd.ev))))]), (eL (eComp (iS (eVar 6)) [20] (gN 20) cYes (eCall s__law_any [(.io 0), (.ev (eC (.int 3)))])))]) (gS 2 (gsCons (gN 15) (gsCons (gN 16) gsNil))))
  (sSet 8 (eL (eComp (iS (eVar 3)) [19] (gN 19) (eT (e2 dEq (.ev (e2 dMod (.ev (eB (on1 dInt) [(.ev (eB (on1 dSumX) [(.ev (eL (eComp (iZp (eVar 16) (eVar 19)) [21, 22] (gS 2 (gsCons (gN 21) (gsCons (gN 22) gsNil))) cYes (e2 dMul (.ev (eVar 21)) (.ev (eVar 22))))))]))])) (.ev (eVar 15)))) (.ev (eC (.int 0))))) (eVar 19))))) (sIf (eT (e2 dEq (.ev (eVar 4)) (.ev (eC (.int 5))))) (sSeq (sAsg (eTup [(eCall s__law_of [(.io 0), (.ev (eVar 6))]), (eCall s__law_of [(.io 0), (.ev (eVar 6))])]) (gS 2 (gsCons (gN 11) (gsCons (gN 12) gsNil))))
  (sSet 8 (eL (eComp (iS (eVar 3)) [19] (gN 19) (eT (e2 dEq (.ev (e2 dMod (.ev (eB (on1 dInt) [(.ev (e2 dSub (.ev (e2 dIx (.ev (eVar 19)) (.ev (eVar 11)))) (.ev (e2 dIx (.ev (eVar 19)) (.ev (eVar 12))))))])) (.ev (eC (.int 2))))) (.ev (eC (.int 0))))) (eVar 19))))) (sIf (eT (e2 dEq (.ev (eVar 4)) (.ev (eC (.int 6))))) (sSet 8 (eL (eComp (iS (eVar 3)) [19] (gN 19) (eT (e2 dGt (.ev (eCall s__law_any [(.io 0), (.ev (eC (.int 4)))])) (.ev (eC (.int 0))))) (eVar 19)))) (sIf (eT (e2 dEq (.ev (eVar 4)) (.ev (eC (.int 7))))) (sSet 8 (eL (eComp (iS (eVar 3)) [19] (gN 19) (eT (e2 dEq (.ev (eCall s__law_any [(.io 0), (.ev (eC (.int 2)))])) (.ev (eC (.int 0))))) (eVar 19)))) (sIf (eT (e2 dEq (.ev (eVar 4)) (.ev (eC (.int 8))))) (sSet 8 (eL (eComp (iS (eVar 3)) [19] (gN 19) (eT (e2 dEq (.ev (eCall s__law_any [(.io 0), (.ev (eC (.int 5)))])) (.ev (eC (.int 0))))) (eVar 19)))) (sSeq (sSet 17 (eL (eComp (iS (eVar 3)) [19] (gN 19) cYes (eSl (.ev (eVar 19)) none (some (e2 dDivW (.ev (eVar 5)) (.ev (eC (.int 2)))))))))
  (sSeq (sSet 18 (eL (eComp (iEn (eVar 17)) [23, 11] (gS 2 (gsCons (gN 23) (gsCons (gN 11) gsNil))) (tAndB (eT (e2 dNotIn (.ev (eVar 11)) (.ev (eSl (.ev (eVar 17)) none (some (eVar 23)))))) (eT (e2 dGt (.ev (eCall s__law_any [(.io 0), (.ev (eC (.int 3)))])) (.ev (eC (.int 0)))))) (eVar 11))))
  (sSet 8 (eL (eComp (iS (eVar 3)) [19] (gN 19) (eT (e2 dIn (.ev (eSl (.ev (eVar 19)) none (some (e2 dDivW (.ev (eVar 5)) (.ev (eC (.int 2))))))) (.ev (eVar 18)))) (eVar 19))))))))))))))
  (sRet (eTup [(eVar 2), (eIf (eT (e2 dNe (.ev (eVar 8)) (.ev (eL (argGo (([] : List (EM D)).map Opd.ev)))))) (eVar 8) (eL (argGo (([(eCall s__law_of [(.io 0), (.ev (eVar 3))])] : List (EM D)).map Opd.ev))))])))))))
def s__law_store : Sem' := runDef 2 24 b__law_store
theorem ok__law_store {P : Program} {w : World} {K : PySem.W.Frag} {mg : Str → Option Value} {base : Heap} (C : Fx P K mg) : FnG P w K mg base 4 C.f__law_store C.fd__law_store ["_law_deal", "_law_most"] (spD K mg 2 s__law_store) :=
  fnD (k := 3) (N := n__law_store) (sm := b__law_store) C.F__law_store sc__law_store (by decide) fun cdv A outer s H vs E hr hgd =>
  (psd_cons (psd_set 2 sc__law_store.nd (pd_call ((ok__law_sizes C).mono (by decide)) hr hgd rfl C.g__law_sizes C.F__law_sizes.kp (bd__law_sizes C) (takes_of rfl rfl rfl rfl) rfl (par_cons (po_io 0) (par_cons (po_ev (pd_var 1)) par_nil))))
  (psd_cons (psd_par (i := 3) (j := 4) rfl sc__law_store.nd (pel_fz (pd_call ((ok__law_all C).mono (by decide)) hr hgd rfl C.g__law_all C.F__law_all.kp (bd__law_all C) (takes_of rfl rfl rfl rfl) rfl (par_cons (po_ev (pd_var 2)) par_nil))) (pel_fz (pd_call ((ok__law_any C).mono (by decide)) hr hgd rfl C.g__law_any C.F__law_any.kp (bd__law_any C) (takes_of rfl rfl rfl rfl) rfl (par_cons (po_io 0) (par_cons (po_ev pd_int) par_nil)))))
  (psd_cons (psd_asg (pd_tup (fs := [(eB (on1 dLen) [(.ev (eVar 2))]), (eLstRg (eB (on1 dLen) [(.ev (eVar 2))]))]) (par_cons (po_ev (pd_b call_lenD' vop_len rfl C.n_len (par_cons (po_ev (pd_var 2)) par_nil))) (par_cons (po_ev (pd_lstRg rfl rfl C.n_list rfl C.n_range (pd_b call_lenD' vop_len rfl C.n_len (par_cons (po_ev (pd_var 2)) par_nil)))) par_nil)) (by decide)) (pgd_seq rfl (pgsd_cons (pgd_name 5 [5, 6] (by decide) sc__law_store.nd) (pgsd_cons (pgd_name 6 [5, 6] (by decide) sc__law_store.nd) pgsd_nil))))
  (psd_cons (psd_if (ptd_cmp (op_eqD (hu64 hr)) vop_eq (po_ev (pd_var 4)) (po_ev pd_int) (by rfl)) (psd_one (psd_ret (pd_tup (fs := [(eVar 2), (eVar 3)]) (par_cons (po_ev (pd_var 2)) (par_cons (po_ev (pd_var 3)) par_nil)) (by decide)))) psd_nil)
  (psd_cons (psd_if (ptd_cmp (op_eqD (hu64 hr)) vop_eq (po_ev (pd_var 4)) (po_ev pd_int) (by rfl)) (psd_cons (psd_set 7 sc__law_store.nd (pd_call ((ok__law_any C).mono (by decide)) hr hgd rfl C.g__law_any C.F__law_any.kp (bd__law_any C) (takes_of rfl rfl rfl rfl) rfl (par_cons (po_io 0) (par_cons (po_ev (pd_bin op_addD vop_add (po_ev (pd_bin op_sub vop_sub (po_ev (pd_b (cr_sumX rfl) vop_sumX rfl C.n_sum (par_cons (po_ev (pd_var 2)) par_nil))) (po_ev (pd_var 5)))) (po_ev pd_int))) par_nil))))
  (psd_one (psd_setLc 8 [("_law_row", 19)] rfl sc__law_store.nd (pid_seq (pd_var 3)) (show BlkOk n__law_store (defScope (top 24)) _ _ from ⟨rfl, by decide +kernel, by decide +kernel, by decide +kernel, by decide +kernel⟩) (fun _ _ _ _ _ => (pgd_name 19 [19] (by decide) sc__law_store.nd)) (fun _ _ _ _ _ => (ptsd_one (ptd_cmp (op_eqD (hu64 hr)) vop_eq (po_ev (pd_b (cr_sumX rfl) vop_sumX rfl C.n_sum (par_cons (po_ev (pd_var 19)) par_nil))) (po_ev (pd_var 7)) (by rfl)))) (fun _ _ _ _ _ => (pd_var 19)) rfl))) (psd_one (psd_if (ptd_cmp (op_eqD (hu64 hr)) vop_eq (po_ev (pd_var 4)) (po_ev pd_int) (by rfl)) (psd_cons (psd_set 9 sc__law_store.nd (pd_call ((ok__law_any C).mono (by decide)) hr hgd rfl C.g__law_any C.F__law_any.kp (bd__law_any C) (takes_of rfl rfl rfl rfl) rfl (par_cons (po_io 0) (par_cons (po_ev (pd_bin op_addD vop_add (po_ev (pd_bin op_sub vop_sub (po_ev (pd_b (cr_sumX rfl) vop_sumX rfl C.n_sum (par_cons (po_ev (pd_var 2)) par_nil))) (po_ev (pd_var 5)))) (po_ev pd_int))) par_nil))))
  (psd_cons (psd_set 10 sc__law_store.nd (pd_bin op_addD vop_add (po_ev (pd_bin op_addD vop_add (po_ev (pd_var 9)) (po_ev pd_int))) (po_ev (pd_call ((ok__law_any C).mono (by decide)) hr hgd rfl C.g__law_any C.F__law_any.kp (bd__law_any C) (takes_of rfl rfl rfl rfl) rfl (par_cons (po_io 0) (par_cons (po_ev pd_int) par_nil))))))
  (psd_one (psd_setLc 8 [("_law_row", 19)] rfl sc__law_store.nd (pid_seq (pd_var 3)) (show BlkOk n__law_store (defScope (top 24)) _ _ from ⟨rfl, by decide +kernel, by decide +kernel, by decide +kernel, by decide +kernel⟩) (fun _ _ _ _ _ => (pgd_name 19 [19] (by decide) sc__law_store.nd)) (fun _ _ _ _ _ => (ptsd_one (ptd_chain op_le op_le (vop_cmp _) (vop_cmp _) (pd_var 9) (pd_b (cr_sumX rfl) vop_sumX rfl C.n_sum (par_cons (po_ev (pd_var 19)) par_nil)) (pd_var 10)))) (fun _ _ _ _ _ => (pd_var 19)) rfl)))) (psd_one (psd_if (ptd_cmp (op_eqD (hu64 hr)) vop_eq (po_ev (pd_var 4)) (po_ev pd_int) (by rfl)) (psd_cons (psd_asg (pd_tup (fs := [(eCall s__law_of [(.io 0), (.ev (eVar 6))]), (eCall s__law_of [(.io 0), (.ev (eVar 6))]), (e2 dAdd (.ev (eC (.int 1))) (.ev (eCall s__law_any [(.io 0), (.ev (eC (.int 2)))]))), (e2 dAdd (.ev (eC (.int 1))) (.ev (eCall s__law_any [(.io 0), (.ev (eC (.int 2)))])))]) (par_cons (po_ev (pd_call ((ok__law_of C).mono (by decide)) hr hgd rfl C.g__law_of C.F__law_of.kp (bd__law_of C) (takes_of rfl rfl rfl rfl) rfl (par_cons (po_io 0) (par_cons (po_ev (pd_var 6)) par_nil)))) (par_cons (po_ev (pd_call ((ok__law_of C).mono (by decide)) hr hgd rfl C.g__law_of C.F__law_of.kp (bd__law_of C) (takes_of rfl rfl rfl rfl) rfl (par_cons (po_io 0) (par_cons (po_ev (pd_var 6)) par_nil)))) (par_cons (po_ev (pd_bin op_addD vop_add (po_ev pd_int) (po_ev (pd_call ((ok__law_any C).mono (by decide)) hr hgd rfl C.g__law_any C.F__law_any.kp (bd__law_any C) (takes_of rfl rfl rfl rfl) rfl (par_cons (po_io 0) (par_cons (po_ev pd_int) par_nil)))))) (par_cons (po_ev (pd_bin op_addD vop_add (po_ev pd_int) (po_ev (pd_call ((ok__law_any C).mono (by decide)) hr hgd rfl C.g__law_any C.F__law_any.kp (bd__law_any C) (takes_of rfl rfl rfl rfl) rfl (par_cons (po_io 0) (par_cons (po_ev pd_int) par_nil)))))) par_nil)))) (by decide)) (pgd_seq rfl (pgsd_cons (pgd_name 11 [11, 12, 13, 14] (by decide) sc__law_store.nd) (pgsd_cons (pgd_name 12 [11, 12, 13, 14] (by decide) sc__law_store.nd) (pgsd_cons (pgd_name 13 [11, 12, 13, 14] (by decide) sc__law_store.nd) (pgsd_cons (pgd_name 14 [11, 12, 13, 14] (by decide) sc__law_store.nd) pgsd_nil))))))
  (psd_one (psd_setLc 8 [("_law_row", 19)] rfl sc__law_store.nd (pid_seq (pd_var 3)) (show BlkOk n__law_store (defScope (top 24)) _ _ from ⟨rfl, by decide +kernel, by decide +kernel, by decide +kernel, by decide +kernel⟩) (fun _ _ _ _ _ => (pgd_name 19 [19] (by decide) sc__law_store.nd)) (fun _ _ _ _ _ => (ptsd_one (ptd_w (pwd_or (ptd_cmp op_lt (vop_cmp _) (po_ev (pd_sub ix_seq vop_ix (po_ev (pd_var 19)) (po_ev (pd_var 11)) (by first | exact fun _ _ => rfl | decide))) (po_ev (pd_var 13)) (by rfl)) (pwd_or1 (ptd_cmp op_ge (vop_cmp _) (po_ev (pd_sub ix_seq vop_ix (po_ev (pd_var 19)) (po_ev (pd_var 12)) (by first | exact fun _ _ => rfl | decide))) (po_ev (pd_b (call_min2 rfl) vop_min2 rfl C.n_min (par_cons (po_ev (pd_var 14)) (par_cons (po_ev (pd_bin op_sub vop_sub (po_ev (pd_sub ix_seq vop_ix (po_ev (pd_var 2)) (po_ev (pd_var 12)) (by first | exact fun _ _ => rfl | decide))) (po_ev pd_int))) par_nil)))) (by rfl))))))) (fun _ _ _ _ _ => (pd_var 19)) rfl))) (psd_one (psd_if (ptd_cmp (op_eqD (hu64 hr)) vop_eq (po_ev (pd_var 4)) (po_ev pd_int) (by rfl)) (psd_cons (psd_asg (pd_tup (fs := [(eCall s__law_of [(.io 0), (.ev (eL (argGo (([(eC (.int 2)), (eC (.int 2)), (eC (.int 3))] : List (EM D)).map Opd.ev))))]), (eL (eComp (iS (eVar 6)) [20] (gN 20) cYes (eCall s__law_any [(.io 0), (.ev (eC (.int 3)))])))]) (par_cons (po_ev (pd_call ((ok__law_of C).mono (by decide)) hr hgd rfl C.g__law_of C.F__law_of.kp (bd__law_of C) (takes_of rfl rfl rfl rfl) rfl (par_cons (po_io 0) (par_cons (po_ev (pl_pd (pl_disp (fs := [(eC (.int 2)), (eC (.int 2)), (eC (.int 3))]) (par_cons (po_ev pd_int) (par_cons (po_ev pd_int) (par_cons (po_ev pd_int) par_nil))) (by decide)))) par_nil)))) (par_cons (po_ev (pl_pd (pl_comp [("_law_key", 20)] rfl sc__law_store.nd (pid_seq (pd_var 6)) (show BlkOk n__law_store (defScope (top 24)) _ _ from ⟨rfl, by decide +kernel, by decide +kernel, by decide +kernel, by decide +kernel⟩) (fun _ _ _ _ _ => (pgd_name 20 [20] (by decide) sc__law_store.nd)) (fun _ _ _ _ _ => ptsd_nil) (fun _ _ _ _ _ => (pd_call ((ok__law_any C).mono (by decide)) hr hgd rfl C.g__law_any C.F__law_any.kp (bd__law_any C) takesW0 rfl (par_cons (po_io 0) (par_cons (po_ev pd_int) par_nil))))))) par_nil)) (by decide)) (pgd_seq rfl (pgsd_cons (pgd_name 15 [15, 16] (by decide) sc__law_store.nd) (pgsd_cons (pgd_name 16 [15, 16] (by decide) sc__law_store.nd) pgsd_nil))))
  (psd_one (psd_setLc 8 [("_law_row", 19)] rfl sc__law_store.nd (pid_seq (pd_var 3)) (show BlkOk n__law_store (defScope (top 24)) _ _ from ⟨rfl, by decide +kernel, by decide +kernel, by decide +kernel, by decide +kernel⟩) (fun _ _ _ _ _ => (pgd_name 19 [19] (by decide) sc__law_store.nd)) (fun _ _ _ _ _ => (ptsd_one (ptd_cmp (op_eqD (hu64 hr)) vop_eq (po_ev (pd_bin op_mod vop_mod (po_ev (pd_ty call_int1 vop_int rfl C.n_int (par_cons (po_ev (pd_b (cr_sumX rfl) vop_sumX rfl C.n_sum (par_cons (po_ev (pl_pd (pl_comp [("_law_w", 21), ("_law_x", 22)] rfl sc__law_store.nd (pid_zip rfl C.n_zip (pd_var 16) (pd_var 19)) (blk_of (by kernel_rfl)) (fun _ _ _ _ _ => (pgd_seq rfl (pgsd_cons (pgd_name 21 [21, 22] (by decide) sc__law_store.nd) (pgsd_cons (pgd_name 22 [21, 22] (by decide) sc__law_store.nd) pgsd_nil)))) (fun _ _ _ _ _ => ptsd_nil) (fun _ _ _ _ _ => (pd_bin op_mulD vop_mul (po_ev (pd_var 21)) (po_ev (pd_var 22))))))) par_nil))) par_nil))) (po_ev (pd_var 15)))) (po_ev pd_int) (by rfl)))) (fun _ _ _ _ _ => (pd_var 19)) rfl))) (psd_one (psd_if (ptd_cmp (op_eqD (hu64 hr)) vop_eq (po_ev (pd_var 4)) (po_ev pd_int) (by rfl)) (psd_cons (psd_asg (pd_tup (fs := [(eCall s__law_of [(.io 0), (.ev (eVar 6))]), (eCall s__law_of [(.io 0), (.ev (eVar 6))])]) (par_cons (po_ev (pd_call ((ok__law_of C).mono (by decide)) hr hgd rfl C.g__law_of C.F__law_of.kp (bd__law_of C) (takes_of rfl rfl rfl rfl) rfl (par_cons (po_io 0) (par_cons (po_ev (pd_var 6)) par_nil)))) (par_cons (po_ev (pd_call ((ok__law_of C).mono (by decide)) hr hgd rfl C.g__law_of C.F__law_of.kp (bd__law_of C) (takes_of rfl rfl rfl rfl) rfl (par_cons (po_io 0) (par_cons (po_ev (pd_var 6)) par_nil)))) par_nil)) (by decide)) (pgd_seq rfl (pgsd_cons (pgd_name 11 [11, 12] (by decide) sc__law_store.nd) (pgsd_cons (pgd_name 12 [11, 12] (by decide) sc__law_store.nd) pgsd_nil))))
  (psd_one (psd_setLc 8 [("_law_row", 19)] rfl sc__law_store.nd (pid_seq (pd_var 3)) (show BlkOk n__law_store (defScope (top 24)) _ _ from ⟨rfl, by decide +kernel, by decide +kernel, by decide +kernel, by decide +kernel⟩) (fun _ _ _ _ _ => (pgd_name 19 [19] (by decide) sc__law_store.nd)) (fun _ _ _ _ _ => (ptsd_one (ptd_cmp (op_eqD (hu64 hr)) vop_eq (po_ev (pd_bin op_mod vop_mod (po_ev (pd_ty call_int1 vop_int rfl C.n_int (par_cons (po_ev (pd_bin op_sub vop_sub (po_ev (pd_sub ix_seq vop_ix (po_ev (pd_var 19)) (po_ev (pd_var 11)) (by first | exact fun _ _ => rfl | decide))) (po_ev (pd_sub ix_seq vop_ix (po_ev (pd_var 19)) (po_ev (pd_var 12)) (by first | exact fun _ _ => rfl | decide))))) par_nil))) (po_ev pd_int))) (po_ev pd_int) (by rfl)))) (fun _ _ _ _ _ => (pd_var 19)) rfl))) (psd_one (psd_if (ptd_cmp (op_eqD (hu64 hr)) vop_eq (po_ev (pd_var 4)) (po_ev pd_int) (by rfl)) (psd_one (psd_setLc 8 [("_law_row", 19)] rfl sc__law_store.nd (pid_seq (pd_var 3)) (show BlkOk n__law_store (defScope (top 24)) _ _ from ⟨rfl, by decide +kernel, by decide +kernel, by decide +kernel, by decide +kernel⟩) (fun _ _ _ _ _ => (pgd_name 19 [19] (by decide) sc__law_store.nd)) (fun _ _ _ _ _ => (ptsd_one (ptd_cmp op_gt (vop_cmp _) (po_ev (pd_call ((ok__law_any C).mono (by decide)) hr hgd rfl C.g__law_any C.F__law_any.kp (bd__law_any C) takesW0 rfl (par_cons (po_io 0) (par_cons (po_ev pd_int) par_nil)))) (po_ev pd_int) (by rfl)))) (fun _ _ _ _ _ => (pd_var 19)) rfl)) (psd_one (psd_if (ptd_cmp (op_eqD (hu64 hr)) vop_eq (po_ev (pd_var 4)) (po_ev pd_int) (by rfl)) (psd_one (psd_setLc 8 [("_law_row", 19)] rfl sc__law_store.nd (pid_seq (pd_var 3)) (show BlkOk n__law_store (defScope (top 24)) _ _ from ⟨rfl, by decide +kernel, by decide +kernel, by decide +kernel, by decide +kernel⟩) (fun _ _ _ _ _ => (pgd_name 19 [19] (by decide) sc__law_store.nd)) (fun _ _ _ _ _ => (ptsd_one (ptd_cmp (op_eqD (hu64 hr)) vop_eq (po_ev (pd_call ((ok__law_any C).mono (by decide)) hr hgd rfl C.g__law_any C.F__law_any.kp (bd__law_any C) takesW0 rfl (par_cons (po_io 0) (par_cons (po_ev pd_int) par_nil)))) (po_ev pd_int) (by rfl)))) (fun _ _ _ _ _ => (pd_var 19)) rfl)) (psd_one (psd_if (ptd_cmp (op_eqD (hu64 hr)) vop_eq (po_ev (pd_var 4)) (po_ev pd_int) (by rfl)) (psd_one (psd_setLc 8 [("_law_row", 19)] rfl sc__law_store.nd (pid_seq (pd_var 3)) (show BlkOk n__law_store (defScope (top 24)) _ _ from ⟨rfl, by decide +kernel, by decide +kernel, by decide +kernel, by decide +kernel⟩) (fun _ _ _ _ _ => (pgd_name 19 [19] (by decide) sc__law_store.nd)) (fun _ _ _ _ _ => (ptsd_one (ptd_cmp (op_eqD (hu64 hr)) vop_eq (po_ev (pd_call ((ok__law_any C).mono (by decide)) hr hgd rfl C.g__law_any C.F__law_any.kp (bd__law_any C) takesW0 rfl (par_cons (po_io 0) (par_cons (po_ev pd_int) par_nil)))) (po_ev pd_int) (by rfl)))) (fun _ _ _ _ _ => (pd_var 19)) rfl)) (psd_cons (psd_set 17 sc__law_store.nd (pl_pd (pl_comp [("_law_row", 19)] rfl sc__law_store.nd (pid_seq (pd_var 3)) (show BlkOk n__law_store (defScope (top 24)) _ _ from ⟨rfl, by decide +kernel, by decide +kernel, by decide +kernel, by decide +kernel⟩) (fun _ _ _ _ _ => (pgd_name 19 [19] (by decide) sc__law_store.nd)) (fun _ _ _ _ _ => ptsd_nil) (fun _ _ _ _ _ => (pd_slice (ol := none) (oh := (some (e2 dDivW (.ev (eVar 5)) (.ev (eC (.int 2)))))) (po_ev (pd_var 19)) trivial (pd_bin op_fdivW vop_divW (po_ev (pd_var 5)) (po_ev pd_int)))))))
  (psd_cons (psd_set 18 sc__law_store.nd (pl_pd (pl_comp [("_law_at", 23), ("_law_one", 11)] rfl sc__law_store.nd (pid_enum rfl C.n_enumerate (pd_var 17)) (show BlkOk n__law_store (defScope (top 24)) _ _ from ⟨rfl, by decide +kernel, by decide +kernel, by decide +kernel, by decide +kernel⟩) (fun _ _ _ _ _ => (pgd_seq rfl (pgsd_cons (pgd_name 23 [23, 11] (by decide) sc__law_store.nd) (pgsd_cons (pgd_name 11 [23, 11] (by decide) sc__law_store.nd) pgsd_nil)))) (fun _ _ _ _ _ => (ptsd_one (ptd_w (pwd_and (ptd_cmp (op_notInD (hu65 hr)) vop_notIn (po_ev (pd_var 11)) (po_ev (pd_slice (ol := none) (oh := (some (eVar 23))) (po_ev (pd_var 17)) trivial (pd_var 23))) (by rfl)) (pwd_and1 (ptd_cmp op_gt (vop_cmp _) (po_ev (pd_call ((ok__law_any C).mono (by decide)) hr hgd rfl C.g__law_any C.F__law_any.kp (bd__law_any C) takesW0 rfl (par_cons (po_io 0) (par_cons (po_ev pd_int) par_nil)))) (po_ev pd_int) (by rfl))))))) (fun _ _ _ _ _ => (pd_var 11)))))
  (psd_one (psd_setLc 8 [("_law_row", 19)] rfl sc__law_store.nd (pid_seq (pd_var 3)) (show BlkOk n__law_store (defScope (top 24)) _ _ from ⟨rfl, by decide +kernel, by decide +kernel, by decide +kernel, by decide +kernel⟩) (fun _ _ _ _ _ => (pgd_name 19 [19] (by decide) sc__law_store.nd)) (fun _ _ _ _ _ => (ptsd_one (ptd_cmp (op_inD (hu65 hr)) vop_in (po_ev (pd_slice (ol := none) (oh := (some (e2 dDivW (.ev (eVar 5)) (.ev (eC (.int 2)))))) (po_ev (pd_var 19)) trivial (pd_bin op_fdivW vop_divW (po_ev (pd_var 5)) (po_ev pd_int)))) (po_ev (pd_var 18)) (by rfl)))) (fun _ _ _ _ _ => (pd_var 19)) rfl)))))))))))))))))))
  (psd_one (psd_ret (pd_tup (fs := [(eVar 2), (eIf (eT (e2 dNe (.ev (eVar 8)) (.ev (eL (argGo (([] : List (EM D)).map Opd.ev)))))) (eVar 8) (eL (argGo (([(eCall s__law_of [(.io 0), (.ev (eVar 3))])] : List (EM D)).map Opd.ev))))]) (par_cons (po_ev (pd_var 2)) (par_cons (po_ev (pd_if (ptd_cmp (op_neD (hu64 hr)) vop_ne (po_ev (pd_var 8)) (po_ev (pl_pd (pl_disp (fs := []) par_nil (by decide)))) (by rfl)) (pd_var 8) (pl_pd (pl_disp (fs := [(eCall s__law_of [(.io 0), (.ev (eVar 3))])]) (par_cons (po_ev (pd_call ((ok__law_of C).mono (by decide)) hr hgd rfl C.g__law_of C.F__law_of.kp (bd__law_of C) (takes_of rfl rfl rfl rfl) rfl (par_cons (po_io 0) (par_cons (po_ev (pd_var 3)) par_nil)))) par_nil) (by decide))))) par_nil)) (by decide)))))))))
end Wk
end

section
set_option Elab.async false
set_option linter.all false
set_option maxRecDepth 100000
set_option maxHeartbeats 0
namespace Wk
open PySem PySem.Spec PyProof.Rows L2 DL
def b_store_text : SM :=
  (sSeq (sSet 1 (eL (argGo (([(eM1 dJoin (eC (.str " ")) (.ev (e2 dAdd (.ev (eL (argGo (([(eC (.str "store"))] : List (EM D)).map Opd.ev)))) (.ev (eL (eComp (iS (e1 (dFld "Store" "sizes") (.ev (eVar 0)))) [2] (gN 2) cYes (eB (on1 dStr) [(.ev (eVar 2))])))))))] : List (EM D)).map Opd.ev))))
  (sRet (eM1 dJoin (eC (.str "\n")) (.ev (e2 dAdd (.ev (eVar 1)) (.ev (eL (eComp (iS (e1 (dFld "Store" "states") (.ev (eVar 0)))) [3] (gN 3) cYes (eM1 dJoin (eC (.str " ")) (.ev (eL (eComp (iS (eVar 3)) [4] (gN 4) cYes (eB (on1 dStr) [(.ev (eVar 4))])))))))))))))
def s_store_text : Sem' := runDef 1 5 b_store_text
theorem ok_store_text {P : Program} {w : World} {K : PySem.W.Frag} {mg : Str → Option Value} {base : Heap} (C : Fx P K mg) : FnG P w K mg base 1 C.f_store_text C.fd_store_text ["store"] (spD K mg 1 s_store_text) :=
  fnD (k := 0) (N := n_store_text) (sm := b_store_text) C.F_store_text sc_store_text (by decide) fun cdv A outer s H vs E hr hgd =>
  (psd_cons (psd_set 1 sc_store_text.nd (pl_pd (pl_disp (fs := [(eM1 dJoin (eC (.str " ")) (.ev (e2 dAdd (.ev (eL (argGo (([(eC (.str "store"))] : List (EM D)).map Opd.ev)))) (.ev (eL (eComp (iS (e1 (dFld "Store" "sizes") (.ev (eVar 0)))) [2] (gN 2) cYes (eB (on1 dStr) [(.ev (eVar 2))])))))))]) (par_cons (po_ev (pd_join pd_str (po_ev (pd_bin op_addD vop_add (po_ev (pl_pd (pl_disp (fs := [(eC (.str "store"))]) (par_cons (po_ev pd_str) par_nil) (by decide)))) (po_ev (pl_pd (pl_comp [("size", 2)] rfl sc_store_text.nd (pid_seq (pd_fld "Store" C.gC_Store C.cl_Store C.no_Store_sizes (po_ev (pd_var 0)))) (show BlkOk n_store_text (defScope (top 14)) _ _ from ⟨rfl, by decide +kernel, by decide +kernel, by decide +kernel, by decide +kernel⟩) (fun _ _ _ _ _ => (pgd_name 2 [2] (by decide) sc_store_text.nd)) (fun _ _ _ _ _ => ptsd_nil) (fun _ _ _ _ _ => (pd_ty call_strD vop_str rfl C.n_str (par_cons (po_ev (pd_var 2)) par_nil)))))))))) par_nil) (by decide))))
  (psd_one (psd_ret (pd_join pd_str (po_ev (pd_bin op_addD vop_add (po_ev (pd_var 1)) (po_ev (pl_pd (pl_comp [("state", 3)] rfl sc_store_text.nd (pid_seq (pd_fld "Store" C.gC_Store C.cl_Store C.no_Store_states (po_ev (pd_var 0)))) (show BlkOk n_store_text (defScope (top 14)) _ _ from ⟨rfl, by decide +kernel, by decide +kernel, by decide +kernel, by decide +kernel⟩) (fun _ _ _ _ _ => (pgd_name 3 [3] (by decide) sc_store_text.nd)) (fun _ _ _ _ _ => ptsd_nil) (fun _ _ _ _ _ => (pd_join pd_str (po_ev (pl_pd (pl_comp [("one", 4)] rfl sc_store_text.nd (pid_seq (pd_var 3)) (blk_of (by kernel_rfl)) (fun _ _ _ _ _ => (pgd_name 4 [4] (by decide) sc_store_text.nd)) (fun _ _ _ _ _ => ptsd_nil) (fun _ _ _ _ _ => (pd_ty call_strD vop_str rfl C.n_str (par_cons (po_ev (pd_var 4)) par_nil)))))))))))))))))
def b_law : SM :=
  (sSeq (sMkDl 1 s__law_draw [(eVar 0), (eC (.int 4))])
  (sSeq (sAsg (eCall s__law_store [(.io 1), (.ev (eC (.int 36)))]) (gS 2 (gsCons (gN 2) (gsCons (gN 3) gsNil))))
  (sSeq (sSet 4 (eMake "Store" s_Store___init__ [(eVar 2), (eCall s__law_mixed [(.io 1), (.ev (eVar 3))])]))
  (sSeq (sOwn 5 (argGo (([(eM1 dJoin (eC (.str " ")) (.ev (e2 dAdd (.ev (eL (argGo (([(eC (.str "store"))] : List (EM D)).map Opd.ev)))) (.ev (eL (eComp (iS (eVar 2)) [11] (gN 11) cYes (eB (on1 dStr) [(.ev (eVar 11))])))))))] : List (EM D)).map Opd.ev)))
  (sSeq (sFor (iS (eVar 3)) (gN 6) (sApp 5 (eM1 dJoin (eC (.str " ")) (.ev (eL (eComp (iS (eVar 6)) [12] (gN 12) cYes (eB (on1 dStr) [(.ev (eVar 12))])))))))
  (sSeq (sSet 7 (eM1 dJoin (eC (.str "\n")) (.br 5)))
  (sSeq (sIf (tOrB (eT (e2 dNe (.ev (eCallKw s_store_text [0] [] [(.ev (eVar 4))])) (.ev (eVar 7)))) (tOrB (eT (e2 dNe (.ev (eCall s_store_text [(.ev (eVar 4))])) (.ev (eVar 7)))) (eT (e2 (dOwn "Store" true s_Store___eq__) (.ev (eCall s__law_read [(.ev (eVar 7))])) (.ev (eVar 4)))))) (sRet (eC (.bl false))) sNx)
  (sSeq (sSet 8 (eCall s__law_any [(.io 1), (.ev (eB (on1 dLen) [(.br 5)]))]))
  (sSeq (sSet 9 (e2 dAdd (.ev (e2 dAdd (.ev (eSl (.br 5) none (some (eVar 8)))) (.ev (eL (argGo (([(eCall s__law_line [(.io 1), (.ev (eVar 2)), (.ev (eVar 8))])] : List (EM D)).map Opd.ev)))))) (.ev (eSl (.br 5) (some (e2 dAdd (.ev (eVar 8)) (.ev (eC (.int 1))))) none))))
  (sSeq (sIf (tOrB (eT (e2 dNe (.ev (eCall s__law_read [(.ev (eM1 dJoin (eC (.str "\n")) (.ev (eVar 9))))])) (.ev (eVar 8)))) (tOrB (eT (e2 dNe (.ev (eCall s__law_read [(.ev (e2 dIx (.br 5) (.ev (eC (.int 0)))))])) (.ev (eC (.int 1))))) (eT (e2 dNe (.ev (eCall s__law_read [(.ev (e2 dAdd (.ev (eVar 7)) (.ev (eC (.str "\n")))))])) (.ev (eB (on1 dLen) [(.br 5)])))))) (sRet (eC (.bl false))) sNx)
  (sSeq (sIf (tOrB (eT (e2 dNe (.ev (eCall s__law_read [(.ev (e2 dAdd (.ev (e2 dAdd (.ev (eVar 7)) (.ev (eC (.str "\n"))))) (.ev (e2 dIx (.br 5) (.ev (e1 dNeg (.ev (eC (.int 1)))))))))])) (.ev (eB (on1 dLen) [(.br 5)])))) (eT (e2 dNe (.ev (eCall s__law_read [(.ev (eCall s__law_of [(.io 1), (.ev (eL (argGo (([(eC .non), (eC (.int 7)), (eL (argGo (([(eVar 7)] : List (EM D)).map Opd.ev))), (eTup [(eVar 7)])] : List (EM D)).map Opd.ev))))]))])) (.ev (eC (.int 0)))))) (sRet (eC (.bl false))) sNx)
  (sSeq (sIf (eT (e2 dGt (.ev (eB (on1 dLen) [(.ev (eVar 3))])) (.ev (eC (.int 1))))) (sSeq (sSet 10 (e2 dAdd (.ev (eC (.int 1))) (.ev (eCall s__law_any [(.io 1), (.ev (e2 dSub (.ev (eB (on1 dLen) [(.ev (eVar 3))])) (.ev (eC (.int 1)))))]))))
  (sSeq (sIf (eT (e2 dNe (.ev (eCall s__law_read [(.ev (eM1 dJoin (eC (.str "\n")) (.ev (e2 dAdd (.ev (e2 dAdd (.ev (eSl (.br 5) none (some (eVar 10)))) (.ev (eL (argGo (([(e2 dIx (.br 5) (.ev (e2 dAdd (.ev (eVar 10)) (.ev (eC (.int 1)))))), (e2 dIx (.br 5) (.ev (eVar 10)))] : List (EM D)).map Opd.ev)))))) (.ev (eSl (.br 5) (some (e2 dAdd (.ev (eVar 10)) (.ev (eC (.int 2))))) none))))))])) (.ev (e2 dAdd (.ev (eVar 10)) (.ev (eC (.int 1))))))) (sRet (eC (.bl false))) sNx)
  (sIf (eT (e2 (dOwn "Store" true s_Store___eq__) (.ev (eCall s__law_read [(.ev (eM1 dJoin (eC (.str "\n")) (.ev (e2 dAdd (.ev (eSl (.br 5) none (some (eVar 10)))) (.ev (eSl (.br 5) (some (e2 dAdd (.ev (eVar 10)) (.ev (eC (.int 1))))) none))))))])) (.ev (eMake "Store" s_Store___init__ [(eVar 2), (e2 dAdd (.ev (eSl (.ev (eVar 3)) none (some (e2 dSub (.ev (eVar 10)) (.ev (eC (.int 1))))))) (.ev (eSl (.ev (eVar 3)) (some (eVar 10)) none)))])))) (sRet (eC (.bl false))) sNx))) sNx)
  (sRet (eC (.bl true)))))))))))))))
def s_law : Sem' := runDef 1 13 b_law
theorem ok_law {P : Program} {w : World} {K : PySem.W.Frag} {mg : Str → Option Value} {base : Heap} (C : Fx P K mg) : FnG P w K mg base 9 C.f_law C.fd_law ["_law_script"] (spD K mg 1 s_law) :=
  fnD (k := 8) (N := n_law) (sm := b_law) C.F_law sc_law (by decide) fun cdv A outer s H vs E hr hgd =>
  (psd_cons (psd_mkDl 1 (fs := [(eVar 0), (eC (.int 4))]) ((ok__law_draw C).mono (by decide)) hr hgd rfl C.g__law_draw C.F__law_draw.kp (bd__law_draw C) (takes_of rfl rfl rfl rfl) rfl (par_cons (po_ev (pd_var 0)) (par_cons (po_ev pd_int) par_nil)) sc_law.nd)
  (psd_cons (psd_asg (pd_call ((ok__law_store C).mono (by decide)) hr hgd rfl C.g__law_store C.F__law_store.kp (bd__law_store C) (takes_of rfl rfl rfl rfl) rfl (par_cons (po_io 1) (par_cons (po_ev pd_int) par_nil))) (pgd_seq rfl (pgsd_cons (pgd_name 2 [2, 3] (by decide) sc_law.nd) (pgsd_cons (pgd_name 3 [2, 3] (by decide) sc_law.nd) pgsd_nil))))
  (psd_cons (psd_set 4 sc_law.nd (pd_make (fs := [(eVar 2), (eCall s__law_mixed [(.io 1), (.ev (eVar 3))])]) C.mk_Store ((ok_Store___init__ C).mono (by decide)) hr hgd rfl C.gC_Store (bd_Store___init__ C) (takes_of rfl rfl rfl rfl) rfl (par_cons (po_ev (pd_var 2)) (par_cons (po_ev (pd_call ((ok__law_mixed C).mono (by decide)) hr hgd rfl C.g__law_mixed C.F__law_mixed.kp (bd__law_mixed C) (takes_of rfl rfl rfl rfl) rfl (par_cons (po_io 1) (par_cons (po_ev (pd_var 3)) par_nil)))) par_nil))))
  (psd_cons (psd_own 5 sc_law.nd (pl_disp (fs := [(eM1 dJoin (eC (.str " ")) (.ev (e2 dAdd (.ev (eL (argGo (([(eC (.str "store"))] : List (EM D)).map Opd.ev)))) (.ev (eL (eComp (iS (eVar 2)) [11] (gN 11) cYes (eB (on1 dStr) [(.ev (eVar 11))])))))))]) (par_cons (po_ev (pd_join pd_str (po_ev (pd_bin op_addD vop_add (po_ev (pl_pd (pl_disp (fs := [(eC (.str "store"))]) (par_cons (po_ev pd_str) par_nil) (by decide)))) (po_ev (pl_pd (pl_comp [("_law_size", 11)] rfl sc_law.nd (pid_seq (pd_var 2)) (show BlkOk n_law (defScope (top 27)) _ _ from ⟨rfl, by decide +kernel, by decide +kernel, by decide +kernel, by decide +kernel⟩) (fun _ _ _ _ _ => (pgd_name 11 [11] (by decide) sc_law.nd)) (fun _ _ _ _ _ => ptsd_nil) (fun _ _ _ _ _ => (pd_ty call_strD vop_str rfl C.n_str (par_cons (po_ev (pd_var 11)) par_nil)))))))))) par_nil) (by decide)))
  (psd_cons (psd_for (passes_of rfl) rfl (pid_seq (pd_var 3)) (pgd_name 6 [6] (by decide) sc_law.nd) (psd_one (psd_app 5 (pd_join pd_str (po_ev (pl_pd (pl_comp [("_law_value", 12)] rfl sc_law.nd (pid_seq (pd_var 6)) (show BlkOk n_law (defScope (top 27)) _ _ from ⟨rfl, by decide +kernel, by decide +kernel, by decide +kernel, by decide +kernel⟩) (fun _ _ _ _ _ => (pgd_name 12 [12] (by decide) sc_law.nd)) (fun _ _ _ _ _ => ptsd_nil) (fun _ _ _ _ _ => (pd_ty call_strD vop_str rfl C.n_str (par_cons (po_ev (pd_var 12)) par_nil))))))) rfl (by first | exact Or.inl rfl | exact Or.inr (Or.inl rfl)) (by decide) (by decide) (fun he => pe_bm PySem.F.plainAttrs_list PySem.F.slot_list_append PySem.F.type_list_append mt_append (pe_var (i := 5) rfl (by first | exact Or.inl rfl | exact Or.inr (Or.inl rfl))) (pa_cons he pa_nil)))))
  (psd_cons (psd_set 7 sc_law.nd (pd_join pd_str (po_br 5)))
  (psd_cons (psd_if (ptd_w (pwd_or (ptd_cmp (op_neD (hu64 hr)) vop_ne (po_ev (pd_callKw0 ((ok_store_text C).mono (by decide)) hr hgd rfl C.g_store_text C.F_store_text.kp (kw_store_text_0_store C) (takes_of rfl rfl rfl rfl) rfl rfl (pkr_cons (po_ev (pd_var 4)) pkr_nil))) (po_ev (pd_var 7)) (by rfl)) (pwd_or (ptd_cmp (op_neD (hu64 hr)) vop_ne (po_ev (pd_call ((ok_store_text C).mono (by decide)) hr hgd rfl C.g_store_text C.F_store_text.kp (bd_store_text C) (takes_of rfl rfl rfl rfl) rfl (par_cons (po_ev (pd_var 4)) par_nil))) (po_ev (pd_var 7)) (by rfl)) (pwd_or1 (ptd_cmp (op_ownNe C.eqc_Store ((ok_Store___eq__ C).mono (by decide)) hr hgd (bd_Store___eq__ C)) (vop_own C.gC_Store) (po_ev (pd_call ((ok__law_read C).mono (by decide)) hr hgd rfl C.g__law_read C.F__law_read.kp (bd__law_read C) (takes_of rfl rfl rfl rfl) rfl (par_cons (po_ev (pd_var 7)) par_nil))) (po_ev (pd_var 4)) (by rfl)))))) (psd_one (psd_ret pd_bl)) psd_nil)
  (psd_cons (psd_set 8 sc_law.nd (pd_call ((ok__law_any C).mono (by decide)) hr hgd rfl C.g__law_any C.F__law_any.kp (bd__law_any C) (takes_of rfl rfl rfl rfl) rfl (par_cons (po_io 1) (par_cons (po_ev (pd_b call_lenD' vop_len rfl C.n_len (par_cons (po_br 5) par_nil))) par_nil))))
  (psd_cons (psd_set 9 sc_law.nd (pd_bin op_addD vop_add (po_ev (pd_bin op_addD vop_add (po_ev (pd_slice (ol := none) (oh := (some (eVar 8))) (po_br 5) trivial (pd_var 8))) (po_ev (pl_pd (pl_disp (fs := [(eCall s__law_line [(.io 1), (.ev (eVar 2)), (.ev (eVar 8))])]) (par_cons (po_ev (pd_call ((ok__law_line C).mono (by decide)) hr hgd rfl C.g__law_line C.F__law_line.kp (bd__law_line C) (takes_of rfl rfl rfl rfl) rfl (par_cons (po_io 1) (par_cons (po_ev (pd_var 2)) (par_cons (po_ev (pd_var 8)) par_nil))))) par_nil) (by decide)))))) (po_ev (pd_slice (ol := (some (e2 dAdd (.ev (eVar 8)) (.ev (eC (.int 1)))))) (oh := none) (po_br 5) (pd_bin op_addD vop_add (po_ev (pd_var 8)) (po_ev pd_int)) trivial))))
  (psd_cons (psd_if (ptd_w (pwd_or (ptd_cmp (op_neD (hu64 hr)) vop_ne (po_ev (pd_call ((ok__law_read C).mono (by decide)) hr hgd rfl C.g__law_read C.F__law_read.kp (bd__law_read C) (takes_of rfl rfl rfl rfl) rfl (par_cons (po_ev (pd_join pd_str (po_ev (pd_var 9)))) par_nil))) (po_ev (pd_var 8)) (by rfl)) (pwd_or (ptd_cmp (op_neD (hu64 hr)) vop_ne (po_ev (pd_call ((ok__law_read C).mono (by decide)) hr hgd rfl C.g__law_read C.F__law_read.kp (bd__law_read C) (takes_of rfl rfl rfl rfl) rfl (par_cons (po_ev (pd_sub ix_seq vop_ix (po_br 5) (po_ev pd_int) (by first | exact fun _ _ => rfl | decide))) par_nil))) (po_ev pd_int) (by rfl)) (pwd_or1 (ptd_cmp (op_neD (hu64 hr)) vop_ne (po_ev (pd_call ((ok__law_read C).mono (by decide)) hr hgd rfl C.g__law_read C.F__law_read.kp (bd__law_read C) (takes_of rfl rfl rfl rfl) rfl (par_cons (po_ev (pd_bin op_addD vop_add (po_ev (pd_var 7)) (po_ev pd_str))) par_nil))) (po_ev (pd_b call_lenD' vop_len rfl C.n_len (par_cons (po_br 5) par_nil))) (by rfl)))))) (psd_one (psd_ret pd_bl)) psd_nil)
  (psd_cons (psd_if (ptd_w (pwd_or (ptd_cmp (op_neD (hu64 hr)) vop_ne (po_ev (pd_call ((ok__law_read C).mono (by decide)) hr hgd rfl C.g__law_read C.F__law_read.kp (bd__law_read C) (takes_of rfl rfl rfl rfl) rfl (par_cons (po_ev (pd_bin op_addD vop_add (po_ev (pd_bin op_addD vop_add (po_ev (pd_var 7)) (po_ev pd_str))) (po_ev (pd_sub ix_seq vop_ix (po_br 5) (po_ev (pd_un un_neg vop_neg (po_ev pd_int))) (by first | exact fun _ _ => rfl | decide))))) par_nil))) (po_ev (pd_b call_lenD' vop_len rfl C.n_len (par_cons (po_br 5) par_nil))) (by rfl)) (pwd_or1 (ptd_cmp (op_neD (hu64 hr)) vop_ne (po_ev (pd_call ((ok__law_read C).mono (by decide)) hr hgd rfl C.g__law_read C.F__law_read.kp (bd__law_read C) (takes_of rfl rfl rfl rfl) rfl (par_cons (po_ev (pd_call ((ok__law_of C).mono (by decide)) hr hgd rfl C.g__law_of C.F__law_of.kp (bd__law_of C) (takes_of rfl rfl rfl rfl) rfl (par_cons (po_io 1) (par_cons (po_ev (pl_pd (pl_disp (fs := [(eC .non), (eC (.int 7)), (eL (argGo (([(eVar 7)] : List (EM D)).map Opd.ev))), (eTup [(eVar 7)])]) (par_cons (po_ev pd_non) (par_cons (po_ev pd_int) (par_cons (po_ev (pl_pd (pl_disp (fs := [(eVar 7)]) (par_cons (po_ev (pd_var 7)) par_nil) (by decide)))) (par_cons (po_ev (pd_tup (fs := [(eVar 7)]) (par_cons (po_ev (pd_var 7)) par_nil) (by decide))) par_nil)))) (by decide)))) par_nil)))) par_nil))) (po_ev pd_int) (by rfl))))) (psd_one (psd_ret pd_bl)) psd_nil)
  (psd_cons (psd_if (ptd_cmp op_gt (vop_cmp _) (po_ev (pd_b call_lenD' vop_len rfl C.n_len (par_cons (po_ev (pd_var 3)) par_nil))) (po_ev pd_int) (by rfl)) (psd_cons (psd_set 10 sc_law.nd (pd_bin op_addD vop_add (po_ev pd_int) (po_ev (pd_call ((ok__law_any C).mono (by decide)) hr hgd rfl C.g__law_any C.F__law_any.kp (bd__law_any C) (takes_of rfl rfl rfl rfl) rfl (par_cons (po_io 1) (par_cons (po_ev (pd_bin op_sub vop_sub (po_ev (pd_b call_lenD' vop_len rfl C.n_len (par_cons (po_ev (pd_var 3)) par_nil))) (po_ev pd_int))) par_nil))))))
  (psd_cons (psd_if (ptd_cmp (op_neD (hu64 hr)) vop_ne (po_ev (pd_call ((ok__law_read C).mono (by decide)) hr hgd rfl C.g__law_read C.F__law_read.kp (bd__law_read C) (takes_of rfl rfl rfl rfl) rfl (par_cons (po_ev (pd_join pd_str (po_ev (pd_bin op_addD vop_add (po_ev (pd_bin op_addD vop_add (po_ev (pd_slice (ol := none) (oh := (some (eVar 10))) (po_br 5) trivial (pd_var 10))) (po_ev (pl_pd (pl_disp (fs := [(e2 dIx (.br 5) (.ev (e2 dAdd (.ev (eVar 10)) (.ev (eC (.int 1)))))), (e2 dIx (.br 5) (.ev (eVar 10)))]) (par_cons (po_ev (pd_sub ix_seq vop_ix (po_br 5) (po_ev (pd_bin op_addD vop_add (po_ev (pd_var 10)) (po_ev pd_int))) (by first | exact fun _ _ => rfl | decide))) (par_cons (po_ev (pd_sub ix_seq vop_ix (po_br 5) (po_ev (pd_var 10)) (by first | exact fun _ _ => rfl | decide))) par_nil)) (by decide)))))) (po_ev (pd_slice (ol := (some (e2 dAdd (.ev (eVar 10)) (.ev (eC (.int 2)))))) (oh := none) (po_br 5) (pd_bin op_addD vop_add (po_ev (pd_var 10)) (po_ev pd_int)) trivial)))))) par_nil))) (po_ev (pd_bin op_addD vop_add (po_ev (pd_var 10)) (po_ev pd_int))) (by rfl)) (psd_one (psd_ret pd_bl)) psd_nil)
  (psd_one (psd_if (ptd_cmp (op_ownNe C.eqc_Store ((ok_Store___eq__ C).mono (by decide)) hr hgd (bd_Store___eq__ C)) (vop_own C.gC_Store) (po_ev (pd_call ((ok__law_read C).mono (by decide)) hr hgd rfl C.g__law_read C.F__law_read.kp (bd__law_read C) (takes_of rfl rfl rfl rfl) rfl (par_cons (po_ev (pd_join pd_str (po_ev (pd_bin op_addD vop_add (po_ev (pd_slice (ol := none) (oh := (some (eVar 10))) (po_br 5) trivial (pd_var 10))) (po_ev (pd_slice (ol := (some (e2 dAdd (.ev (eVar 10)) (.ev (eC (.int 1)))))) (oh := none) (po_br 5) (pd_bin op_addD vop_add (po_ev (pd_var 10)) (po_ev pd_int)) trivial)))))) par_nil))) (po_ev (pd_make (fs := [(eVar 2), (e2 dAdd (.ev (eSl (.ev (eVar 3)) none (some (e2 dSub (.ev (eVar 10)) (.ev (eC (.int 1))))))) (.ev (eSl (.ev (eVar 3)) (some (eVar 10)) none)))]) C.mk_Store ((ok_Store___init__ C).mono (by decide)) hr hgd rfl C.gC_Store (bd_Store___init__ C) (takes_of rfl rfl rfl rfl) rfl (par_cons (po_ev (pd_var 2)) (par_cons (po_ev (pd_bin op_addD vop_add (po_ev (pd_slice (ol := none) (oh := (some (e2 dSub (.ev (eVar 10)) (.ev (eC (.int 1)))))) (po_ev (pd_var 3)) trivial (pd_bin op_sub vop_sub (po_ev (pd_var 10)) (po_ev pd_int)))) (po_ev (pd_slice (ol := (some (eVar 10))) (oh := none) (po_ev (pd_var 3)) (pd_var 10) trivial)))) par_nil)))) (by rfl)) (psd_one (psd_ret pd_bl)) psd_nil)))) psd_nil)
  (psd_one (psd_ret pd_bl))))))))))))))
end Wk
end

section
set_option maxRecDepth 100000
set_option linter.all false
namespace Ma
open PySem PySem.Spec PyProof.Rows L2 DL Wk
/-! ### reckoning with meanings -/
section
variable {α β : Type}
@[simp] theorem bind_ok (a : α) (ρ : Env') (f : α → Env' → Out β) : (Out.ok a ρ).bind f = f a ρ := rfl
@[simp] theorem bind_stuck (f : α → Env' → Out β) : (Out.stuck : Out α).bind f = .stuck := rfl
@[simp] theorem fl_ok (a : α) (ρ : Env') (f : α → Env' → Fl) : (Out.ok a ρ).fl f = f a ρ := rfl
@[simp] theorem fl_stuck (f : α → Env' → Fl) : (Out.stuck : Out α).fl f = .stuck := rfl
@[simp] theorem lift_some (a : α) (ρ : Env') : Out.lift ρ (some a) = .ok a ρ := rfl
@[simp] theorem lift_none (ρ : Env') : Out.lift ρ (none : Option α) = .stuck := rfl
end
@[simp] theorem eC_go (d : D) (ρ : Env') : eC d ρ = .ok d ρ := rfl
theorem eVar_va {ρ : Env'} {i : Nat} {d : D} (h : ρ[i]? = some (.va d)) : eVar i ρ = .ok d ρ := by
  unfold eVar
  rw [h]
@[simp] theorem eVar_0 (d : D) (ρ : Env') : eVar 0 (.va d :: ρ) = .ok d (.va d :: ρ) := rfl
@[simp] theorem eVar_1 (a : Sl) (d : D) (ρ : Env') : eVar 1 (a :: .va d :: ρ) = .ok d (a :: .va d :: ρ) := rfl
@[simp] theorem eVar_2 (a b : Sl) (d : D) (ρ : Env') : eVar 2 (a :: b :: .va d :: ρ) = .ok d (a :: b :: .va d :: ρ) := rfl
@[simp] theorem eVar_3 (a b c : Sl) (d : D) (ρ : Env') : eVar 3 (a :: b :: c :: .va d :: ρ) = .ok d (a :: b :: c :: .va d :: ρ) := rfl
@[simp] theorem eVar_4 (a b c e : Sl) (d : D) (ρ : Env') : eVar 4 (a :: b :: c :: e :: .va d :: ρ) = .ok d (a :: b :: c :: e :: .va d :: ρ) := rfl
@[simp] theorem eVar_5 (a b c e f : Sl) (d : D) (ρ : Env') : eVar 5 (a :: b :: c :: e :: f :: .va d :: ρ) = .ok d (a :: b :: c :: e :: f :: .va d :: ρ) := rfl
@[simp] theorem eVar_6 (a b c e f g : Sl) (d : D) (ρ : Env') : eVar 6 (a :: b :: c :: e :: f :: g :: .va d :: ρ) = .ok d (a :: b :: c :: e :: f :: g :: .va d :: ρ) := rfl
@[simp] theorem eVar_7 (a b c e f g h : Sl) (d : D) (ρ : Env') : eVar 7 (a :: b :: c :: e :: f :: g :: h :: .va d :: ρ) = .ok d (a :: b :: c :: e :: f :: g :: h :: .va d :: ρ) := rfl
@[simp] theorem eVar_8 (a b c e f g h i : Sl) (d : D) (ρ : Env') : eVar 8 (a :: b :: c :: e :: f :: g :: h :: i :: .va d :: ρ) = .ok d (a :: b :: c :: e :: f :: g :: h :: i :: .va d :: ρ) := rfl
@[simp] theorem eVar_9 (a b c e f g h i j : Sl) (d : D) (ρ : Env') : eVar 9 (a :: b :: c :: e :: f :: g :: h :: i :: j :: .va d :: ρ) = .ok d (a :: b :: c :: e :: f :: g :: h :: i :: j :: .va d :: ρ) := rfl
@[simp] theorem eVar_10 (a0 a1 a2 a3 a4 a5 a6 a7 a8 a9 : Sl) (d : D) (ρ : Env') : eVar 10 (a0 :: a1 :: a2 :: a3 :: a4 :: a5 :: a6 :: a7 :: a8 :: a9 :: .va d :: ρ) = .ok d (a0 :: a1 :: a2 :: a3 :: a4 :: a5 :: a6 :: a7 :: a8 :: a9 :: .va d :: ρ) := rfl
@[simp] theorem eVar_11 (a0 a1 a2 a3 a4 a5 a6 a7 a8 a9 a10 : Sl) (d : D) (ρ : Env') : eVar 11 (a0 :: a1 :: a2 :: a3 :: a4 :: a5 :: a6 :: a7 :: a8 :: a9 :: a10 :: .va d :: ρ) = .ok d (a0 :: a1 :: a2 :: a3 :: a4 :: a5 :: a6 :: a7 :: a8 :: a9 :: a10 :: .va d :: ρ) := rfl
@[simp] theorem eVar_12 (a0 a1 a2 a3 a4 a5 a6 a7 a8 a9 a10 a11 : Sl) (d : D) (ρ : Env') : eVar 12 (a0 :: a1 :: a2 :: a3 :: a4 :: a5 :: a6 :: a7 :: a8 :: a9 :: a10 :: a11 :: .va d :: ρ) = .ok d (a0 :: a1 :: a2 :: a3 :: a4 :: a5 :: a6 :: a7 :: a8 :: a9 :: a10 :: a11 :: .va d :: ρ) := rfl
@[simp] theorem eVar_13 (a0 a1 a2 a3 a4 a5 a6 a7 a8 a9 a10 a11 a12 : Sl) (d : D) (ρ : Env') : eVar 13 (a0 :: a1 :: a2 :: a3 :: a4 :: a5 :: a6 :: a7 :: a8 :: a9 :: a10 :: a11 :: a12 :: .va d :: ρ) = .ok d (a0 :: a1 :: a2 :: a3 :: a4 :: a5 :: a6 :: a7 :: a8 :: a9 :: a10 :: a11 :: a12 :: .va d :: ρ) := rfl
@[simp] theorem eVar_14 (a0 a1 a2 a3 a4 a5 a6 a7 a8 a9 a10 a11 a12 a13 : Sl) (d : D) (ρ : Env') : eVar 14 (a0 :: a1 :: a2 :: a3 :: a4 :: a5 :: a6 :: a7 :: a8 :: a9 :: a10 :: a11 :: a12 :: a13 :: .va d :: ρ) = .ok d (a0 :: a1 :: a2 :: a3 :: a4 :: a5 :: a6 :: a7 :: a8 :: a9 :: a10 :: a11 :: a12 :: a13 :: .va d :: ρ) := rfl
@[simp] theorem eVar_15 (a0 a1 a2 a3 a4 a5 a6 a7 a8 a9 a10 a11 a12 a13 a14 : Sl) (d : D) (ρ : Env') : eVar 15 (a0 :: a1 :: a2 :: a3 :: a4 :: a5 :: a6 :: a7 :: a8 :: a9 :: a10 :: a11 :: a12 :: a13 :: a14 :: .va d :: ρ) = .ok d (a0 :: a1 :: a2 :: a3 :: a4 :: a5 :: a6 :: a7 :: a8 :: a9 :: a10 :: a11 :: a12 :: a13 :: a14 :: .va d :: ρ) := rfl
@[simp] theorem eVar_16 (a0 a1 a2 a3 a4 a5 a6 a7 a8 a9 a10 a11 a12 a13 a14 a15 : Sl) (d : D) (ρ : Env') : eVar 16 (a0 :: a1 :: a2 :: a3 :: a4 :: a5 :: a6 :: a7 :: a8 :: a9 :: a10 :: a11 :: a12 :: a13 :: a14 :: a15 :: .va d :: ρ) = .ok d (a0 :: a1 :: a2 :: a3 :: a4 :: a5 :: a6 :: a7 :: a8 :: a9 :: a10 :: a11 :: a12 :: a13 :: a14 :: a15 :: .va d :: ρ) := rfl
@[simp] theorem eVar_17 (a0 a1 a2 a3 a4 a5 a6 a7 a8 a9 a10 a11 a12 a13 a14 a15 a16 : Sl) (d : D) (ρ : Env') : eVar 17 (a0 :: a1 :: a2 :: a3 :: a4 :: a5 :: a6 :: a7 :: a8 :: a9 :: a10 :: a11 :: a12 :: a13 :: a14 :: a15 :: a16 :: .va d :: ρ) = .ok d (a0 :: a1 :: a2 :: a3 :: a4 :: a5 :: a6 :: a7 :: a8 :: a9 :: a10 :: a11 :: a12 :: a13 :: a14 :: a15 :: a16 :: .va d :: ρ) := rfl
@[simp] theorem eVar_18 (a0 a1 a2 a3 a4 a5 a6 a7 a8 a9 a10 a11 a12 a13 a14 a15 a16 a17 : Sl) (d : D) (ρ : Env') : eVar 18 (a0 :: a1 :: a2 :: a3 :: a4 :: a5 :: a6 :: a7 :: a8 :: a9 :: a10 :: a11 :: a12 :: a13 :: a14 :: a15 :: a16 :: a17 :: .va d :: ρ) = .ok d (a0 :: a1 :: a2 :: a3 :: a4 :: a5 :: a6 :: a7 :: a8 :: a9 :: a10 :: a11 :: a12 :: a13 :: a14 :: a15 :: a16 :: a17 :: .va d :: ρ) := rfl
@[simp] theorem eVar_19 (a0 a1 a2 a3 a4 a5 a6 a7 a8 a9 a10 a11 a12 a13 a14 a15 a16 a17 a18 : Sl) (d : D) (ρ : Env') : eVar 19 (a0 :: a1 :: a2 :: a3 :: a4 :: a5 :: a6 :: a7 :: a8 :: a9 :: a10 :: a11 :: a12 :: a13 :: a14 :: a15 :: a16 :: a17 :: a18 :: .va d :: ρ) = .ok d (a0 :: a1 :: a2 :: a3 :: a4 :: a5 :: a6 :: a7 :: a8 :: a9 :: a10 :: a11 :: a12 :: a13 :: a14 :: a15 :: a16 :: a17 :: a18 :: .va d :: ρ) := rfl
@[simp] theorem eVar_20 (a0 a1 a2 a3 a4 a5 a6 a7 a8 a9 a10 a11 a12 a13 a14 a15 a16 a17 a18 a19 : Sl) (d : D) (ρ : Env') : eVar 20 (a0 :: a1 :: a2 :: a3 :: a4 :: a5 :: a6 :: a7 :: a8 :: a9 :: a10 :: a11 :: a12 :: a13 :: a14 :: a15 :: a16 :: a17 :: a18 :: a19 :: .va d :: ρ) = .ok d (a0 :: a1 :: a2 :: a3 :: a4 :: a5 :: a6 :: a7 :: a8 :: a9 :: a10 :: a11 :: a12 :: a13 :: a14 :: a15 :: a16 :: a17 :: a18 :: a19 :: .va d :: ρ) := rfl
@[simp] theorem eVar_21 (a0 a1 a2 a3 a4 a5 a6 a7 a8 a9 a10 a11 a12 a13 a14 a15 a16 a17 a18 a19 a20 : Sl) (d : D) (ρ : Env') : eVar 21 (a0 :: a1 :: a2 :: a3 :: a4 :: a5 :: a6 :: a7 :: a8 :: a9 :: a10 :: a11 :: a12 :: a13 :: a14 :: a15 :: a16 :: a17 :: a18 :: a19 :: a20 :: .va d :: ρ) = .ok d (a0 :: a1 :: a2 :: a3 :: a4 :: a5 :: a6 :: a7 :: a8 :: a9 :: a10 :: a11 :: a12 :: a13 :: a14 :: a15 :: a16 :: a17 :: a18 :: a19 :: a20 :: .va d :: ρ) := rfl
@[simp] theorem eVar_22 (a0 a1 a2 a3 a4 a5 a6 a7 a8 a9 a10 a11 a12 a13 a14 a15 a16 a17 a18 a19 a20 a21 : Sl) (d : D) (ρ : Env') : eVar 22 (a0 :: a1 :: a2 :: a3 :: a4 :: a5 :: a6 :: a7 :: a8 :: a9 :: a10 :: a11 :: a12 :: a13 :: a14 :: a15 :: a16 :: a17 :: a18 :: a19 :: a20 :: a21 :: .va d :: ρ) = .ok d (a0 :: a1 :: a2 :: a3 :: a4 :: a5 :: a6 :: a7 :: a8 :: a9 :: a10 :: a11 :: a12 :: a13 :: a14 :: a15 :: a16 :: a17 :: a18 :: a19 :: a20 :: a21 :: .va d :: ρ) := rfl
@[simp] theorem eVar_23 (a0 a1 a2 a3 a4 a5 a6 a7 a8 a9 a10 a11 a12 a13 a14 a15 a16 a17 a18 a19 a20 a21 a22 : Sl) (d : D) (ρ : Env') : eVar 23 (a0 :: a1 :: a2 :: a3 :: a4 :: a5 :: a6 :: a7 :: a8 :: a9 :: a10 :: a11 :: a12 :: a13 :: a14 :: a15 :: a16 :: a17 :: a18 :: a19 :: a20 :: a21 :: a22 :: .va d :: ρ) = .ok d (a0 :: a1 :: a2 :: a3 :: a4 :: a5 :: a6 :: a7 :: a8 :: a9 :: a10 :: a11 :: a12 :: a13 :: a14 :: a15 :: a16 :: a17 :: a18 :: a19 :: a20 :: a21 :: a22 :: .va d :: ρ) := rfl
theorem go_ev (f : EM D) : (Opd.ev f).go = f := rfl
theorem rd_ev (f : EM D) (ρ : Env') (d : D) : (Opd.ev f).rd ρ d = some d := rfl
@[simp] theorem e2_ev (k : D → D → Option D) (f g : EM D) (ρ : Env') : e2 k (.ev f) (.ev g) ρ = (f ρ).bind fun x ρ1 => (g ρ1).bind fun y ρ2 => Out.lift ρ2 (k x y) := by
  unfold e2 op2
  simp only [go_ev, rd_ev, lift_some, bind_ok]
@[simp] theorem e1_ev (k : D → Option D) (f : EM D) (ρ : Env') : e1 k (.ev f) ρ = (f ρ).bind fun x ρ1 => Out.lift ρ1 (k x) := by
  unfold e1 op1
  simp only [go_ev, rd_ev, lift_some, bind_ok]
theorem bind_bind {α β γ : Type} (o : Out α) (f : α → Env' → Out β) (g : β → Env' → Out γ) : (o.bind f).bind g = o.bind fun a ρ => (f a ρ).bind g := by
  cases o <;> rfl
@[simp] theorem eB_1 (k : D → Option D) (f : EM D) (ρ : Env') : eB (on1 k) [.ev f] ρ = (f ρ).bind fun x ρ1 => Out.lift ρ1 (k x) := by
  show ((f ρ).bind fun d ρ1 => (Out.ok [] ρ1).bind fun ds ρ2 => Out.ok (d :: ds) ρ2).bind _ = _
  rw [bind_bind]
  rfl
@[simp] theorem eB_2 (k : D → D → Option D) (f g : EM D) (ρ : Env') : eB (on2 k) [.ev f, .ev g] ρ = (f ρ).bind fun x ρ1 => (g ρ1).bind fun y ρ2 => Out.lift ρ2 (k x y) := by
  show ((f ρ).bind fun d ρ1 => ((g ρ1).bind fun d ρ1 => (Out.ok [] ρ1).bind fun ds ρ2 => Out.ok (d :: ds) ρ2).bind fun ds ρ2 => Out.ok (d :: ds) ρ2).bind _ = _
  simp only [bind_bind]
  rfl
@[simp] theorem eTup_1 (f : EM D) (ρ : Env') : eTup [f] ρ = (f ρ).bind fun x ρ1 => .ok (.tup [x]) ρ1 := by
  show ((f ρ).bind fun d ρ1 => (Out.ok [] ρ1).bind fun ds ρ2 => Out.ok (d :: ds) ρ2).bind _ = _
  rw [bind_bind]
  rfl
@[simp] theorem eTup_2 (f g : EM D) (ρ : Env') : eTup [f, g] ρ = (f ρ).bind fun x ρ1 => (g ρ1).bind fun y ρ2 => .ok (.tup [x, y]) ρ2 := by
  show ((f ρ).bind fun d ρ1 => ((g ρ1).bind fun d ρ1 => (Out.ok [] ρ1).bind fun ds ρ2 => Out.ok (d :: ds) ρ2).bind fun ds ρ2 => Out.ok (d :: ds) ρ2).bind _ = _
  simp only [bind_bind]
  rfl
@[simp] theorem eT_ok (f : EM D) (ρ : Env') : eT f ρ = (f ρ).bind fun d ρ1 => Out.lift ρ1 (asB d) := rfl
@[simp] theorem asB_bl (b : Bool) : asB (.bl b) = some b := rfl
@[simp] theorem eAnd_def (f g : EM D) (ρ : Env') : eAnd f g ρ = (f ρ).bind fun x ρ1 => match x with
  | .bl true => g ρ1
  | .bl false => .ok (.bl false) ρ1
  | _ => .stuck := rfl
@[simp] theorem eNot_def (f : EM D) (ρ : Env') : eNot f ρ = (f ρ).bind fun x ρ1 => match x with
  | .bl b => .ok (.bl (!b)) ρ1
  | _ => .stuck := rfl
@[simp] theorem tAnd_def (f g : EM Bool) (ρ : Env') : tAndB f g ρ = (f ρ).bind fun c ρ1 => if c = true then g ρ1 else .ok false ρ1 := rfl
@[simp] theorem tOr_def (f g : EM Bool) (ρ : Env') : tOrB f g ρ = (f ρ).bind fun c ρ1 => if c = true then .ok true ρ1 else g ρ1 := rfl
@[simp] theorem tNot_def (f : EM Bool) (ρ : Env') : tNotB f ρ = (f ρ).bind fun c ρ1 => .ok (!c) ρ1 := rfl
@[simp] theorem eIf_def (c : EM Bool) (f g : EM D) (ρ : Env') : eIf c f g ρ = (c ρ).bind fun b ρ1 => if b = true then f ρ1 else g ρ1 := rfl
@[simp] theorem sRet_def (f : EM D) (ρ : Env') : sRet f ρ = (f ρ).fl fun d ρ1 => .rt d ρ1 := rfl
@[simp] theorem sIf_def (c : EM Bool) (f g : SM) (ρ : Env') : sIf c f g ρ = (c ρ).fl fun b ρ1 => if b = true then f ρ1 else g ρ1 := rfl
@[simp] theorem sSet_def (i : Nat) (f : EM D) (ρ : Env') : sSet i f ρ = (f ρ).fl fun d ρ1 => putSl ρ1 i (.va d) := rfl
@[simp] theorem sNx_def (ρ : Env') : sNx ρ = .nx ρ := rfl
theorem seq_nx {f g : SM} {ρ ρ1 : Env'} (h : f ρ = .nx ρ1) : sSeq f g ρ = g ρ1 := by
  unfold sSeq
  rw [h]
theorem seq_rt {f g : SM} {ρ ρ1 : Env'} {d : D} (h : f ρ = .rt d ρ1) : sSeq f g ρ = .rt d ρ1 := by
  unfold sSeq
  rw [h]
/-- a call's answer -/
def outR (n : Nat) (o : Out D) (ρ : Env') : Out D := match o with
  | .ok d ps => if n ≤ ps.length then .ok d ρ else .stuck
  | .err c d ps => if n ≤ ps.length then .err c d ρ else .stuck
  | .stuck => .stuck
theorem outR1 {o : Out D} {d : D} {a : Sl} (ρ : Env') (h : o = .ok d [a]) : outR 1 o ρ = .ok d ρ := by
  rw [h]
  rfl
theorem outR2 {o : Out D} {d : D} {a b : Sl} (ρ : Env') (h : o = .ok d [a, b]) : outR 2 o ρ = .ok d ρ := by
  rw [h]
  rfl
theorem outR3 {o : Out D} {d : D} {a b c : Sl} (ρ : Env') (h : o = .ok d [a, b, c]) : outR 3 o ρ = .ok d ρ := by
  rw [h]
  rfl
theorem outR4 {o : Out D} {d : D} {a b c e : Sl} (ρ : Env') (h : o = .ok d [a, b, c, e]) : outR 4 o ρ = .ok d ρ := by
  rw [h]
  rfl
theorem outR5 {o : Out D} {d : D} {a b c e f : Sl} (ρ : Env') (h : o = .ok d [a, b, c, e, f]) : outR 5 o ρ = .ok d ρ := by
  rw [h]
  rfl
theorem back_ev : ∀ (fs : List (EM D)) (ps : List Sl) (ρ : Env'), back (fs.map Opd.ev) ps ρ = if fs.length ≤ ps.length then some ρ else none
  | [], ps, ρ => by simp [back]
  | f :: fs, [], ρ => by simp [back]
  | f :: fs, s :: ps, ρ => by
    show back (fs.map Opd.ev) ps ρ = _
    rw [back_ev fs ps ρ]
    simp
theorem argSl_ev (ρ : Env') : ∀ (fs : List (EM D)) (ds : List D), fs.length = ds.length → argSl ρ (fs.map Opd.ev) ds = some (ds.map Sl.va)
  | [], [], _ => rfl
  | f :: fs, [], h => by simp at h
  | [], _ :: _, h => by simp at h
  | f :: fs, d :: ds, h => by
    show (match argSl ρ (fs.map Opd.ev) ds with
      | none => none
      | some xs => some (Sl.va d :: xs)) = _
    rw [argSl_ev ρ fs ds (by simpa using h)]
    rfl
theorem ios_ev : ∀ fs : List (EM D), iosOf (fs.map Opd.ev) = []
  | [] => rfl
  | _ :: fs => ios_ev fs
theorem brs_ev : ∀ fs : List (EM D), brsOf (fs.map Opd.ev) = []
  | [] => rfl
  | _ :: fs => brs_ev fs
theorem callK_ev (sem : Sem') (fs : List (EM D)) (ds : List D) (ρ : Env') (hl : fs.length = ds.length) : eCallK sem (fs.map Opd.ev) ds ρ = outR fs.length (sem (ds.map Sl.va)) ρ := by
  unfold eCallK
  rw [argSl_ev ρ fs ds hl]
  have h1 : okArgs (fs.map Opd.ev) = true := by
    unfold okArgs
    rw [ios_ev, brs_ev]
    rfl
  have h2 : ∀ d ps, safe (fs.map Opd.ev) d ps = true := fun d ps => by
    unfold safe
    rw [brs_ev]
    rfl
  simp only [h1, if_true]
  cases sem (ds.map Sl.va) with
  | ok d ps =>
    simp only [h2, if_true, back_ev, outR]
    split <;> rename_i h <;> split at h <;> simp_all
  | err c d ps =>
    simp only [h2, if_true, back_ev, outR]
    split <;> rename_i h <;> split at h <;> simp_all
  | stuck => rfl
@[simp] theorem call_1 (sem : Sem') (f : EM D) (ρ : Env') : eCall sem [.ev f] ρ = (f ρ).bind fun a ρ1 => outR 1 (sem [.va a]) ρ1 := by
  show ((f ρ).bind fun d ρ1 => (Out.ok [] ρ1).bind fun ds ρ2 => Out.ok (d :: ds) ρ2).bind _ = _
  simp only [bind_bind, bind_ok]
  congr 1
  funext a ρ1
  exact callK_ev sem [f] [a] ρ1 rfl
@[simp] theorem call_2 (sem : Sem') (f g : EM D) (ρ : Env') : eCall sem [.ev f, .ev g] ρ = (f ρ).bind fun a ρ1 => (g ρ1).bind fun b ρ2 => outR 2 (sem [.va a, .va b]) ρ2 := by
  show ((f ρ).bind fun d ρ1 => ((g ρ1).bind fun d ρ1 => (Out.ok [] ρ1).bind fun ds ρ2 => Out.ok (d :: ds) ρ2).bind fun ds ρ2 => Out.ok (d :: ds) ρ2).bind _ = _
  simp only [bind_bind, bind_ok]
  congr 1
  funext a ρ1
  congr 1
  funext b ρ2
  exact callK_ev sem [f, g] [a, b] ρ2 rfl
@[simp] theorem call_3 (sem : Sem') (f g h : EM D) (ρ : Env') : eCall sem [.ev f, .ev g, .ev h] ρ = (f ρ).bind fun a ρ1 => (g ρ1).bind fun b ρ2 => (h ρ2).bind fun c ρ3 => outR 3 (sem [.va a, .va b, .va c]) ρ3 := by
  show ((f ρ).bind fun d ρ1 => ((g ρ1).bind fun d ρ1 => ((h ρ1).bind fun d ρ1 => (Out.ok [] ρ1).bind fun ds ρ2 => Out.ok (d :: ds) ρ2).bind fun ds ρ2 => Out.ok (d :: ds) ρ2).bind fun ds ρ2 => Out.ok (d :: ds) ρ2).bind _ = _
  simp only [bind_bind, bind_ok]
  congr 1
  funext a ρ1
  congr 1
  funext b ρ2
  congr 1
  funext c ρ3
  exact callK_ev sem [f, g, h] [a, b, c] ρ3 rfl
@[simp] theorem call_4 (sem : Sem') (f g h k : EM D) (ρ : Env') : eCall sem [.ev f, .ev g, .ev h, .ev k] ρ = (f ρ).bind fun a ρ1 => (g ρ1).bind fun b ρ2 => (h ρ2).bind fun c ρ3 => (k ρ3).bind fun d ρ4 => outR 4 (sem [.va a, .va b, .va c, .va d]) ρ4 := by
  show ((f ρ).bind fun d ρ1 => ((g ρ1).bind fun d ρ1 => ((h ρ1).bind fun d ρ1 => ((k ρ1).bind fun d ρ1 => (Out.ok [] ρ1).bind fun ds ρ2 => Out.ok (d :: ds) ρ2).bind fun ds ρ2 => Out.ok (d :: ds) ρ2).bind fun ds ρ2 => Out.ok (d :: ds) ρ2).bind fun ds ρ2 => Out.ok (d :: ds) ρ2).bind _ = _
  simp only [bind_bind, bind_ok]
  congr 1
  funext a ρ1
  congr 1
  funext b ρ2
  congr 1
  funext c ρ3
  congr 1
  funext d ρ4
  exact callK_ev sem [f, g, h, k] [a, b, c, d] ρ4 rfl
@[simp] theorem call_5 (sem : Sem') (f g h k l : EM D) (ρ : Env') : eCall sem [.ev f, .ev g, .ev h, .ev k, .ev l] ρ = (f ρ).bind fun a ρ1 => (g ρ1).bind fun b ρ2 => (h ρ2).bind fun c ρ3 => (k ρ3).bind fun d ρ4 => (l ρ4).bind fun e ρ5 => outR 5 (sem [.va a, .va b, .va c, .va d, .va e]) ρ5 := by
  show ((f ρ).bind fun d ρ1 => ((g ρ1).bind fun d ρ1 => ((h ρ1).bind fun d ρ1 => ((k ρ1).bind fun d ρ1 => ((l ρ1).bind fun d ρ1 => (Out.ok [] ρ1).bind fun ds ρ2 => Out.ok (d :: ds) ρ2).bind fun ds ρ2 => Out.ok (d :: ds) ρ2).bind fun ds ρ2 => Out.ok (d :: ds) ρ2).bind fun ds ρ2 => Out.ok (d :: ds) ρ2).bind fun ds ρ2 => Out.ok (d :: ds) ρ2).bind _ = _
  simp only [bind_bind, bind_ok]
  congr 1
  funext a ρ1
  congr 1
  funext b ρ2
  congr 1
  funext c ρ3
  congr 1
  funext d ρ4
  congr 1
  funext e ρ5
  exact callK_ev sem [f, g, h, k, l] [a, b, c, d, e] ρ5 rfl
theorem run_rt {n N : Nat} {b : SM} {ps : List Sl} {d : D} {ρ : Env'} (h : b (ps ++ List.replicate (N - n) Sl.no) = .rt d ρ) : runDef n N b ps = .ok d (outIo n ρ) := by
  unfold runDef
  rw [h]
/-! ### comprehensions, loops -/
def stepC (ws : List Nat) (g : Tgt) (c : EM Bool) (f : EM D) (x : D) (ρ : Env') : Out (Option D) := match g x (wipeR ρ ws) with
  | none => .stuck
  | some ρ1 => match c ρ1 with
    | .ok true ρ2 => match f ρ2 with
      | .ok y ρ3 => .ok (some y) (restore ρ ρ3 ws)
      | _ => .stuck
    | .ok false ρ2 => .ok none (restore ρ ρ2 ws)
    | _ => .stuck
theorem compL_cons (ws : List Nat) (g : Tgt) (c : EM Bool) (f : EM D) (x : D) (xs : List D) (ρ : Env') : compL ws g c f (x :: xs) ρ = (stepC ws g c f x ρ).bind fun o ρ1 => (compL ws g c f xs ρ1).bind fun ys ρ2 => .ok (o.toList ++ ys) ρ2 := by
  unfold stepC
  show (match g x (wipeR ρ ws) with
    | none => Out.stuck
    | some ρ1 => match c ρ1 with
      | .ok true ρ2 => match f ρ2 with
        | .ok y ρ3 => (compL ws g c f xs (restore ρ ρ3 ws)).bind fun ys ρ4 => .ok (y :: ys) ρ4
        | _ => Out.stuck
      | .ok false ρ2 => compL ws g c f xs (restore ρ ρ2 ws)
      | _ => Out.stuck) = _
  cases g x (wipeR ρ ws) with
  | none => rfl
  | some ρ1 =>
    simp only
    cases c ρ1 with
    | ok b ρ2 =>
      cases b with
      | true =>
        simp only
        cases f ρ2 with
        | ok y ρ3 => rfl
        | err _ _ _ => rfl
        | stuck => rfl
      | false =>
        simp only [bind_ok]
        cases compL ws g c f xs (restore ρ ρ2 ws) <;> rfl
    | err _ _ _ => rfl
    | stuck => rfl
theorem compL_pure {ws : List Nat} {g : Tgt} {c : EM Bool} {f : EM D} {ρ : Env'} {F : D → Option D} : ∀ {items : List D}, (∀ x ∈ items, stepC ws g c f x ρ = .ok (F x) ρ) → compL ws g c f items ρ = .ok (items.filterMap F) ρ
  | [], _ => rfl
  | x :: xs, h => by
    rw [compL_cons, h x List.mem_cons_self, bind_ok, compL_pure fun y hy => h y (List.mem_cons_of_mem _ hy), bind_ok]
    cases e : F x <;> simp [List.filterMap_cons, e]
theorem comp_pure {it : EM (List D)} {ws : List Nat} {g : Tgt} {c : EM Bool} {f : EM D} {ρ : Env'} {items : List D} (F : D → Option D) (hi : it ρ = .ok items ρ) (hw : (ws.all fun w => notOw ρ[w]?) = true) (hl : items.length < 1000000) (h : ∀ x ∈ items, stepC ws g c f x ρ = .ok (F x) ρ) : eComp it ws g c f ρ = .ok (items.filterMap F) ρ := by
  unfold eComp
  rw [hi, bind_ok, if_pos ⟨hw, hl⟩]
  exact compL_pure h
/-- with a source, or whatever else goes on -/
theorem comp_inv {it : EM (List D)} {ws : List Nat} {g : Tgt} {c : EM Bool} {f : EM D} {ρ0 ρ : Env'} {items : List D} (I : Env' → Prop) (R : D → Option D → Prop) (hi : it ρ0 = .ok items ρ) (hw : ∀ ρ, I ρ → (ws.all fun w => notOw ρ[w]?) = true) (hl : items.length < 1000000) (h0 : I ρ)
    (h : ∀ x ∈ items, ∀ ρ, I ρ → ∃ o ρ', stepC ws g c f x ρ = .ok o ρ' ∧ I ρ' ∧ R x o) : ∃ os ρ', eComp it ws g c f ρ0 = .ok (os.filterMap id) ρ' ∧ I ρ' ∧ os.length = items.length ∧ ∀ p ∈ items.zip os, R p.1 p.2 := by
  have key : ∀ (items : List D) (ρ : Env'), I ρ → (∀ x ∈ items, ∀ ρ, I ρ → ∃ o ρ', stepC ws g c f x ρ = .ok o ρ' ∧ I ρ' ∧ R x o) → ∃ os ρ', compL ws g c f items ρ = .ok (os.filterMap id) ρ' ∧ I ρ' ∧ os.length = items.length ∧ ∀ p ∈ items.zip os, R p.1 p.2 := by
    intro items
    induction items with
    | nil => exact fun ρ i _ => ⟨[], ρ, rfl, i, rfl, fun p hp => by simp at hp⟩
    | cons x xs ih =>
      intro ρ i h
      obtain ⟨o, ρ1, e1, i1, r1⟩ := h x List.mem_cons_self ρ i
      obtain ⟨os, ρ2, e2, i2, l2, r2⟩ := ih ρ1 i1 fun y hy => h y (List.mem_cons_of_mem _ hy)
      refine ⟨o :: os, ρ2, ?_, i2, by simp [l2], fun p hp => ?_⟩
      · rw [compL_cons, e1, bind_ok, e2, bind_ok]
        cases o <;> simp [List.filterMap_cons]
      · rcases List.mem_cons.mp (by simpa using hp) with q | q
        · rw [q]
          exact r1
        · exact r2 p q
  obtain ⟨os, ρ', e, i, l, r⟩ := key items ρ h0 h
  refine ⟨os, ρ', ?_, i, l, r⟩
  unfold eComp
  rw [hi, bind_ok, if_pos ⟨hw ρ h0, hl⟩]
  exact e
@[simp] theorem sFor_def (it : EM (List D)) (g : Tgt) (b : SM) (ρ : Env') : sFor it g b ρ = (it ρ).fl fun items ρ1 => forL g b items ρ1 := rfl
/-- a loop that goes to its end -/
theorem forL_all {g : Tgt} {b : SM} (I : Nat → Env' → Prop) : ∀ (items : List D) (k : Nat) (ρ : Env'), I k ρ → (∀ i x ρ, items[i]? = some x → I (k + i) ρ → ∃ ρ1 ρ2, g x ρ = some ρ1 ∧ (b ρ1 = .nx ρ2 ∨ b ρ1 = .ct ρ2) ∧ I (k + i + 1) ρ2) → ∃ ρ', forL g b items ρ = .nx ρ' ∧ I (k + items.length) ρ'
  | [], k, ρ, i, _ => ⟨ρ, rfl, i⟩
  | x :: xs, k, ρ, i, h => by
    obtain ⟨ρ1, ρ2, e1, e2, i2⟩ := h 0 x ρ rfl i
    obtain ⟨ρ', e3, i3⟩ := forL_all I xs (k + 1) ρ2 i2 fun j y ρ hy iy => by
      have := h (j + 1) y ρ (by simpa using hy) (by rw [show k + (j + 1) = k + 1 + j by omega]; exact iy)
      rw [show k + (j + 1) + 1 = k + 1 + j + 1 by omega] at this
      exact this
    refine ⟨ρ', ?_, by rw [List.length_cons, show k + (xs.length + 1) = k + 1 + xs.length by omega]; exact i3⟩
    show (match g x ρ with
      | none => Fl.stuck
      | some ρ1 => match b ρ1 with
        | .nx ρ2 => forL g b xs ρ2
        | .ct ρ2 => forL g b xs ρ2
        | .bk ρ2 => .nx ρ2
        | r => r) = _
    rw [e1]
    rcases e2 with e2 | e2 <;> simp only [e2] <;> exact e3
theorem kt_ii : kitB "int" "int" = some true := rfl
theorem kt_bi : kitB "bool" "int" = some true := rfl
theorem kt_si : kitB "str" "int" = some false := rfl
theorem kt_ni : kitB "NoneType" "int" = some false := rfl
theorem kt_li : kitB "list" "int" = some false := rfl
theorem kt_ti : kitB "tuple" "int" = some false := rfl
theorem kt_di : kitB "dict" "int" = some false := rfl
theorem kt_ib : kitB "int" "bool" = some false := rfl
theorem kt_bb : kitB "bool" "bool" = some true := rfl
theorem kt_sb : kitB "str" "bool" = some false := rfl
theorem kt_nb : kitB "NoneType" "bool" = some false := rfl
theorem kt_lb : kitB "list" "bool" = some false := rfl
theorem kt_tb : kitB "tuple" "bool" = some false := rfl
theorem kt_db : kitB "dict" "bool" = some false := rfl
theorem kt_il : kitB "int" "list" = some false := rfl
theorem kt_bl : kitB "bool" "list" = some false := rfl
theorem kt_sl : kitB "str" "list" = some false := rfl
theorem kt_nl : kitB "NoneType" "list" = some false := rfl
theorem kt_ll : kitB "list" "list" = some true := rfl
theorem kt_tl : kitB "tuple" "list" = some false := rfl
theorem kt_dl : kitB "dict" "list" = some false := rfl
theorem kt_it : kitB "int" "tuple" = some false := rfl
theorem kt_bt : kitB "bool" "tuple" = some false := rfl
theorem kt_st : kitB "str" "tuple" = some false := rfl
theorem kt_nt : kitB "NoneType" "tuple" = some false := rfl
theorem kt_lt : kitB "list" "tuple" = some false := rfl
theorem kt_tt : kitB "tuple" "tuple" = some true := rfl
theorem kt_dt : kitB "dict" "tuple" = some false := rfl
/-- a thing of data -/
def dat : D → Bool
  | .non => true
  | .bl _ => true
  | .int _ => true
  | .str _ => true
  | .lst _ => true
  | .tup _ => true
  | .dK _ _ => true
  | .dT _ _ => true
  | _ => false
def isI : D → Bool
  | .int _ => true
  | _ => false
def isT : D → Bool
  | .tup _ => true
  | _ => false
def isSq : D → Bool
  | .tup _ => true
  | .lst _ => true
  | _ => false
def isIB : D → Bool
  | .int _ => true
  | .bl _ => true
  | _ => false
def isBo : D → Bool
  | .bl _ => true
  | _ => false
theorem isi_int {d : D} (h : dat d = true) : dIsi "int" d = some (.bl (isIB d)) := by
  unfold dIsi
  cases d <;> first | (simp [dat] at h; done) | simp [tyName, isIB, kt_ii, kt_bi, kt_si, kt_ni, kt_li, kt_ti, kt_di]
theorem isi_bool {d : D} (h : dat d = true) : dIsi "bool" d = some (.bl (isBo d)) := by
  unfold dIsi
  cases d <;> first | (simp [dat] at h; done) | simp [tyName, isBo, kt_ib, kt_bb, kt_sb, kt_nb, kt_lb, kt_tb, kt_db]
theorem isi_tuple {d : D} (h : dat d = true) : dIsi "tuple" d = some (.bl (isT d)) := by
  unfold dIsi
  cases d <;> first | (simp [dat] at h; done) | simp [tyName, isT, kt_it, kt_bt, kt_st, kt_nt, kt_lt, kt_tt, kt_dt]
theorem isi_seq {d : D} (h : dat d = true) : dIsis ["list", "tuple"] d = some (.bl (isSq d)) := by
  unfold dIsis
  cases d <;> first | (simp [dat] at h; done) | simp [tyName, isSq, kitBs, kt_it, kt_bt, kt_st, kt_nt, kt_lt, kt_tt, kt_dt, kt_il, kt_bl, kt_sl, kt_nl, kt_ll, kt_tl, kt_dl]
/-! ### the small defs -/
theorem v_is_integer {d : D} (h : dat d = true) : s_is_integer [.va d] = .ok (.bl (isI d)) [.no] := by
  refine run_rt (ρ := [.va d]) ?_
  show b_is_integer [.va d] = _
  simp only [b_is_integer, sRet_def, eAnd_def, e1_ev, eNot_def, eVar_0, bind_ok, isi_int h, lift_some]
  cases d <;> simp [isIB, isI, isBo, isi_bool h]
def isN : D → Bool
  | .int i => decide (0 ≤ i)
  | _ => false
theorem v_is_number {d : D} (h : dat d = true) : s_is_number [.va d] = .ok (.bl (isN d)) [.no] := by
  refine run_rt (ρ := [.va d]) ?_
  show b_is_number [.va d] = _
  simp only [b_is_number, sRet_def, eAnd_def, call_1, eVar_0, bind_ok, outR1 _ (v_is_integer h)]
  cases d <;> simp [isI, isN, dCmp]
def isX (d : D) (n : Int) : Bool := match d with
  | .int i => decide (0 ≤ i) && decide (i < n)
  | _ => false
theorem v_is_index {d : D} (n : Int) (h : dat d = true) : s_is_index [.va d, .va (.int n)] = .ok (.bl (isX d n)) [.no, .no] := by
  refine run_rt (ρ := [.va d, .va (.int n)]) ?_
  show b_is_index [.va d, .va (.int n)] = _
  simp only [b_is_index, sRet_def, eAnd_def, call_1, eVar_0, bind_ok, outR1 _ (v_is_number h)]
  cases d with
  | int i =>
    by_cases hi : 0 ≤ i
    · simp [isN, isX, hi, dCmp]
    · simp [isN, isX, hi]
  | _ => simp [isN, isX]
theorem v_is_sequence {d : D} (h : dat d = true) : s_is_sequence [.va d] = .ok (.bl (isSq d)) [.no] := by
  refine run_rt (ρ := [.va d]) ?_
  show b_is_sequence [.va d] = _
  simp only [b_is_sequence, sRet_def, e1_ev, eVar_0, bind_ok, isi_seq h, lift_some, fl_ok]
end Ma
end

section
set_option maxRecDepth 100000
set_option linter.all false
set_option exponentiation.threshold 100000
namespace Ma
open PySem PySem.Spec PyProof.Rows L2 DL Wk
@[simp] theorem eqv_int (a b : Int) : dEqv (.int a) (.int b) = some (decide (a = b)) := rfl
@[simp] theorem dEq_int (a b : Int) : dEq (.int a) (.int b) = some (.bl (decide (a = b))) := rfl
@[simp] theorem dNe_int (a b : Int) : dNe (.int a) (.int b) = some (.bl (!decide (a = b))) := rfl
@[simp] theorem eL_def (f : EM (List D)) (ρ : Env') : eL f ρ = (f ρ).bind fun xs ρ1 => .ok (.lst xs) ρ1 := rfl
@[simp] theorem dAdd_int (a b : Int) : dAdd (.int a) (.int b) = some (.int (a + b)) := rfl
@[simp] theorem dSub_int (a b : Int) : dSub (.int a) (.int b) = some (.int (a - b)) := rfl
@[simp] theorem cYes_def (ρ : Env') : cYes ρ = .ok true ρ := rfl
def SqI (d : D) (ns : List Int) : Prop := dItems d = some (ns.map .int)
theorem SqI.len {d : D} {ns : List Int} (h : SqI d ns) : dLen d = some (.int ns.length) := by
  unfold SqI at h
  cases d with
  | lst xs =>
    cases h
    simp [dLen]
  | tup xs =>
    cases h
    simp [dLen]
  | _ => cases h
theorem sqI_lst (ns : List Int) : SqI (.lst (ns.map .int)) ns := rfl
theorem sqI_tup (ns : List Int) : SqI (.tup (ns.map .int)) ns := rfl
theorem isSq_items {d : D} : isSq d = (dItems d).isSome := by
  cases d <;> rfl
theorem zipD_int : ∀ (xs : List D) (cs : List Int), zipD xs (cs.map .int) = (xs.zip cs).map fun p => .tup [p.1, .int p.2]
  | [], _ => by simp [zipD]
  | x :: xs, [] => by simp [zipD]
  | x :: xs, c :: cs => by simp [zipD, zipD_int xs cs]
theorem it_zip {f g : EM D} {ρ : Env'} {x y : D} {xs ys : List D} (hf : f ρ = .ok x ρ) (hg : g ρ = .ok y ρ) (hx : dItems x = some xs) (hy : dItems y = some ys) : iZp f g ρ = .ok (zipD xs ys) ρ := by
  show ((f ρ).bind fun d ρ1 => ((g ρ1).bind fun d ρ1 => (Out.ok [] ρ1).bind fun ds ρ2 => Out.ok (d :: ds) ρ2).bind fun ds ρ2 => Out.ok (d :: ds) ρ2).bind _ = _
  rw [hf, bind_ok, hg, bind_ok, bind_ok, bind_ok, bind_ok]
  show (match dItems x, dItems y with
    | some xs, some ys => Out.ok (zipD xs ys) ρ
    | _, _ => Out.stuck) = _
  rw [hx, hy]
theorem it_seq {f : EM D} {ρ : Env'} {x : D} {xs : List D} (hf : f ρ = .ok x ρ) (hx : dItems x = some xs) : iS f ρ = .ok xs ρ := by
  show (f ρ).bind _ = _
  rw [hf, bind_ok, hx]
  rfl
theorem it_enum {f : EM D} {ρ : Env'} {x : D} {xs : List D} (hf : f ρ = .ok x ρ) (hx : dItems x = some xs) : iEn f ρ = .ok (numD 0 xs) ρ := by
  show ((f ρ).bind fun d ρ1 => (Out.ok [] ρ1).bind fun ds ρ2 => Out.ok (d :: ds) ρ2).bind _ = _
  rw [hf, bind_ok, bind_ok, bind_ok]
  show Out.lift ρ ((dItems x).map (numD 0)) = _
  rw [hx]
  rfl
theorem it_rng {f : EM D} {ρ : Env'} {j : Int} (hf : f ρ = .ok (.int j) ρ) (h1 : -1000000 ≤ j) (h2 : j < 1000000) : iR1 (.ev f) ρ = .ok (rngD 0 j.toNat) ρ := by
  show ((f ρ).bind fun d ρ1 => (Out.ok [] ρ1).bind fun ds ρ2 => Out.ok (d :: ds) ρ2).bind _ = _
  rw [hf, bind_ok, bind_ok, bind_ok]
  show (if -1000000 ≤ j ∧ j < 1000000 then Out.ok (rngD 0 j.toNat) ρ else Out.stuck) = _
  rw [if_pos ⟨h1, h2⟩]
theorem fm_all {α : Type} (h : α → D) (f : α → D) (F : D → Option D) : ∀ l : List α, (∀ a ∈ l, F (h a) = some (f a)) → (l.map h).filterMap F = l.map f
  | [], _ => rfl
  | a :: l, k => by
    rw [List.map_cons, List.filterMap_cons_some (k a List.mem_cons_self), fm_all h f F l fun b hb => k b (List.mem_cons_of_mem _ hb)]
    rfl
theorem comp_map {α : Type} {it : EM (List D)} {ws : List Nat} {g : Tgt} {c : EM Bool} {f : EM D} {ρ : Env'} {l : List α} (h : α → D) (F : α → D) (hi : it ρ = .ok (l.map h) ρ) (hw : (ws.all fun w => notOw ρ[w]?) = true) (hl : l.length < 1000000) (hs : ∀ a ∈ l, stepC ws g c f (h a) ρ = .ok (some (F a)) ρ) : eComp it ws g c f ρ = .ok (l.map F) ρ := by
  unfold eComp
  rw [hi, bind_ok, if_pos ⟨hw, by rw [List.length_map]; exact hl⟩]
  clear hi hl
  induction l with
  | nil => rfl
  | cons a l ih =>
    rw [List.map_cons, compL_cons, hs a List.mem_cons_self, bind_ok, ih fun b hb => hs b (List.mem_cons_of_mem _ hb)]
    rfl
theorem comp_filt {α : Type} {it : EM (List D)} {ws : List Nat} {g : Tgt} {c : EM Bool} {f : EM D} {ρ : Env'} {l : List α} (h : α → D) (p : α → Bool) (F : α → D) (hi : it ρ = .ok (l.map h) ρ) (hw : (ws.all fun w => notOw ρ[w]?) = true) (hl : l.length < 1000000)
    (hs : ∀ a ∈ l, stepC ws g c f (h a) ρ = .ok (if p a = true then some (F a) else none) ρ) : eComp it ws g c f ρ = .ok ((l.filter p).map F) ρ := by
  unfold eComp
  rw [hi, bind_ok, if_pos ⟨hw, by rw [List.length_map]; exact hl⟩]
  clear hi hl
  induction l with
  | nil => rfl
  | cons a l ih =>
    rw [List.map_cons, compL_cons, hs a List.mem_cons_self, bind_ok, ih fun b hb => hs b (List.mem_cons_of_mem _ hb)]
    cases e : p a <;> simp [List.filter_cons, e]
theorem all_map {α : Type} (f : α → Bool) (l : List α) : dAll (.lst (l.map fun a => .bl (f a))) = some (.bl (l.all f)) := by
  have e : l.map (fun a => D.bl (f a)) = (l.map f).map .bl := by rw [List.map_map]; rfl
  rw [e]
  show ((asBls ((l.map f).map .bl)).map fun bs => D.bl (bs.all id)) = _
  rw [asBls_map]
  show some (D.bl ((l.map f).all id)) = _
  rw [List.all_map]
  rfl
theorem sum_map {α : Type} (f : α → Int) (l : List α) : dSum (.lst (l.map fun a => .int (f a))) = some (.int (l.map f).sum) := by
  have e : l.map (fun a => D.int (f a)) = (l.map f).map .int := by rw [List.map_map]; rfl
  rw [e]
  show ((asIs ((l.map f).map .int)).map fun is => D.int is.sum) = _
  rw [asIs_map]
  rfl
def Sm (k : Nat) (i : Int) : Prop := i.natAbs < 2 ^ k
theorem log2_lt {n k : Nat} (h : n < 2 ^ k) (hk : 0 < k) : n.log2 < k := by
  by_cases hn : n = 0
  · subst hn
    simpa using hk
  · exact (Nat.log2_lt hn).mpr h
theorem dMul_sm {k : Nat} {a b : Int} (ha : Sm k a) (hb : Sm k b) (hk : 0 < k) (hk2 : k < 500000) : dMul (.int a) (.int b) = some (.int (a * b)) := by
  have h1 := log2_lt ha hk
  have h2 := log2_lt hb hk
  unfold dMul
  exact if_pos (by omega)
@[simp] theorem dIsN_non : dIsN .non .non = some (.bl true) := rfl
@[simp] theorem dIsN_int (i : Int) : dIsN (.int i) .non = some (.bl false) := rfl
@[simp] theorem dIsN_tup (xs : List D) : dIsN (.tup xs) .non = some (.bl false) := rfl
@[simp] theorem dNotN_non : dNotN .non .non = some (.bl false) := rfl
@[simp] theorem dNotN_int (i : Int) : dNotN (.int i) .non = some (.bl true) := rfl
@[simp] theorem dNotN_tup (xs : List D) : dNotN (.tup xs) .non = some (.bl true) := rfl
theorem dMul_sm2 {a b : Int} {j k : Nat} (ha : Sm j a) (hb : Sm k b) (hj : 0 < j) (hk : 0 < k) (h : j + k < 1000000) : dMul (.int a) (.int b) = some (.int (a * b)) := by
  have h1 := log2_lt ha hj
  have h2 := log2_lt hb hk
  unfold dMul
  exact if_pos (by omega)
theorem dDivW_sm {a b : Int} {k : Nat} (h0 : 0 < b) (hb : Sm k b) (hk : 0 < k) (h : k ≤ 9000) : dDivW (.int a) (.int b) = some (.int (a / b)) := by
  have h2 := log2_lt hb hk
  unfold dDivW
  exact if_pos ⟨h0, by omega⟩
theorem dMod_pos {a b : Int} (h0 : 0 < b) : dMod (.int a) (.int b) = some (.int (a % b)) := if_pos h0
theorem sm_lt {k : Nat} {a : Int} (h0 : 0 ≤ a) (h : a < 2 ^ k) : Sm k a := by
  unfold Sm
  have : ((a.natAbs : Nat) : Int) < ((2 ^ k : Nat) : Int) := by
    rw [Int.natAbs_of_nonneg h0]
    simpa using h
  exact Int.ofNat_lt.mp this
theorem sm_of {k : Nat} {a : Int} (h1 : -(2 ^ k) < a) (h : a < 2 ^ k) : Sm k a := by
  unfold Sm
  have : ((a.natAbs : Nat) : Int) < ((2 ^ k : Nat) : Int) := by
    have e : ((2 ^ k : Nat) : Int) = 2 ^ k := by simp
    rw [e]
    omega
  exact Int.ofNat_lt.mp this
@[simp] theorem dLen_tup (xs : List D) : dLen (.tup xs) = some (.int xs.length) := rfl
@[simp] theorem dLen_lst (xs : List D) : dLen (.lst xs) = some (.int xs.length) := rfl
@[simp] theorem eOr_def (f g : EM D) (ρ : Env') : eOr f g ρ = (f ρ).bind fun x ρ1 => match x with
  | .bl true => .ok (.bl true) ρ1
  | .bl false => g ρ1
  | _ => .stuck := rfl
theorem sum2 (a b : Int) : dSum (.lst [.int a, .int b]) = some (.int (a + b)) := by
  show some (D.int (a + (b + 0))) = _
  rw [Int.add_zero]
end Ma
end

section
set_option maxRecDepth 100000
set_option linter.all false
set_option exponentiation.threshold 100000
namespace Ma
open PySem PySem.Spec PyProof.Rows L2 DL Wk
def rD (r : List Int) : D := .tup (r.map .int)
def pyR (r : List Int) : PyData := .tuple (r.map .int)
theorem toPys_int : ∀ r : List Int, toPys (r.map .int) = some (r.map .int)
  | [] => by simp [toPys]
  | x :: r => by simp [toPys, toPy, toPys_int r]
theorem toPy_rD (r : List Int) : toPy (rD r) = some (pyR r) := by
  simp [rD, pyR, toPy, toPys_int]
theorem toPys_rows : ∀ rs : List (List Int), toPys (rs.map rD) = some (rs.map pyR)
  | [] => by simp [toPys]
  | r :: rs => by simp [toPys, toPy_rD, toPys_rows rs]
theorem toPy_ints (r : List Int) : toPy (.lst (r.map .int)) = some (.list (r.map .int)) := by
  simp [toPy, toPys_int]
theorem toPy_rows (rs : List (List Int)) : toPy (.lst (rs.map rD)) = some (.list (rs.map pyR)) := by
  simp [toPy, toPys_rows]
theorem canLay_ints : ∀ r : List Int, PyData.canLayAll0 (r.map .int) = true
  | [] => by simp [PyData.canLayAll0]
  | x :: r => by simp [PyData.canLayAll0, PyData.canLay0, canLay_ints r]
theorem depth_ints : ∀ r : List Int, PyData.depthAll (r.map .int) = 0
  | [] => by simp [PyData.depthAll]
  | x :: r => by simp [PyData.depthAll, PyData.depth, depth_ints r]
theorem canLay_rows : ∀ r : List (List Int), PyData.canLayAll0 (r.map pyR) = true
  | [] => by simp [PyData.canLayAll0]
  | x :: r => by simp [PyData.canLayAll0, PyData.canLay0, canLay_rows r, pyR, canLay_ints]
theorem depth_rows : ∀ r : List (List Int), PyData.depthAll (r.map pyR) ≤ 1
  | [] => by simp [PyData.depthAll]
  | x :: r => by
    have := depth_rows r
    simp only [List.map_cons, PyData.depthAll, pyR, PyData.depth, depth_ints] at this ⊢
    omega
theorem sh_row (r : List Int) : SeqAt.shaped (pyR r) = true := by
  simp [SeqAt.shaped, pyR, PyData.canLay0, canLay_ints, PyData.depth, depth_ints]
theorem sh_ints (r : List Int) : SeqAt.shaped (.list (r.map .int)) = true := by
  simp [SeqAt.shaped, PyData.canLay0, canLay_ints, PyData.depth, depth_ints]
theorem sh_rows (rs : List (List Int)) : SeqAt.shaped (.list (rs.map pyR)) = true := by
  have := depth_rows rs
  simp [SeqAt.shaped, PyData.canLay0, canLay_rows, PyData.depth]
  omega
theorem eqv_ints : ∀ r s : List Int, PyData.eqvAll (r.map .int) (s.map .int) = decide (r = s)
  | [], [] => by simp [PyData.eqvAll]
  | [], y :: s => by simp [PyData.eqvAll]
  | x :: r, [] => by simp [PyData.eqvAll]
  | x :: r, y :: s => by
    simp only [List.map_cons, PyData.eqvAll, PyData.eqv, eqv_ints r s]
    by_cases h : x = y <;> by_cases k : r = s <;> simp [h, k]
theorem eqv_row (r s : List Int) : PyData.eqv (pyR r) (pyR s) = decide (r = s) := by
  simp only [pyR, PyData.eqv, eqv_ints]
theorem dEqv_row (r s : List Int) : dEqv (rD r) (rD s) = some (decide (r = s)) := by
  unfold dEqv
  simp only [toPy_rD, sh_row, and_self, if_true, eqv_row]
@[simp] theorem dEq_row (r s : List Int) : dEq (rD r) (rD s) = some (.bl (decide (r = s))) := by
  unfold dEq
  rw [dEqv_row]
  rfl
@[simp] theorem dNe_row (r s : List Int) : dNe (rD r) (rD s) = some (.bl (!decide (r = s))) := by
  unfold dNe
  rw [dEqv_row]
  rfl
theorem sh_nil : SeqAt.shaped (.list []) = true := sh_ints []
theorem toPy_nil : toPy (.lst []) = some (.list []) := toPy_ints []
theorem eqv_nil {α : Type} (f : α → PyData) (l : List α) : PyData.eqv (.list (l.map f)) (.list []) = l.isEmpty := by
  cases l <;> simp [PyData.eqv, PyData.eqvAll]
theorem dEqv_rows_nil (rs : List (List Int)) : dEqv (.lst (rs.map rD)) (.lst []) = some rs.isEmpty := by
  unfold dEqv
  simp only [toPy_rows, toPy_nil, sh_rows, sh_nil, and_self, if_true, eqv_nil]
theorem dEq_rows_nil (rs : List (List Int)) : dEq (.lst (rs.map rD)) (.lst []) = some (.bl rs.isEmpty) := by
  unfold dEq
  rw [dEqv_rows_nil]
  rfl
theorem dNe_rows_nil (rs : List (List Int)) : dNe (.lst (rs.map rD)) (.lst []) = some (.bl (!rs.isEmpty)) := by
  unfold dNe
  rw [dEqv_rows_nil]
  rfl
theorem dEqv_ints_nil (rs : List Int) : dEqv (.lst (rs.map .int)) (.lst []) = some rs.isEmpty := by
  unfold dEqv
  simp only [toPy_ints, toPy_nil, sh_ints, sh_nil, and_self, if_true, eqv_nil]
theorem dEq_ints_nil (rs : List Int) : dEq (.lst (rs.map .int)) (.lst []) = some (.bl rs.isEmpty) := by
  unfold dEq
  rw [dEqv_ints_nil]
  rfl
theorem dNe_ints_nil (rs : List Int) : dNe (.lst (rs.map .int)) (.lst []) = some (.bl (!rs.isEmpty)) := by
  unfold dNe
  rw [dEqv_ints_nil]
  rfl
theorem dInL_row (r : List Int) (rs : List (List Int)) : dInL (rD r) (.lst (rs.map rD)) = some (decide (r ∈ rs)) := by
  unfold dInL
  simp only [toPy_rD, toPy_rows, sh_row, sh_rows, and_self, if_true]
  congr 1
  induction rs with
  | nil => simp
  | cons s rs ih =>
    rw [List.map_cons, List.any_cons, ih, eqv_row]
    by_cases h : r = s
    · simp [h]
    · have : ¬ s = r := fun z => h z.symm
      by_cases k : r ∈ rs <;> simp [h, this, k]
theorem dNotIn_row (r : List Int) (rs : List (List Int)) : dNotIn (rD r) (.lst (rs.map rD)) = some (.bl (!decide (r ∈ rs))) := by
  unfold dNotIn
  rw [dInL_row]
  rfl
@[simp] theorem disp_0 (ρ : Env') : argGo (([] : List (EM D)).map Opd.ev) ρ = .ok [] ρ := rfl
@[simp] theorem disp_1 (f : EM D) (ρ : Env') : argGo (([f] : List (EM D)).map Opd.ev) ρ = (f ρ).bind fun x ρ1 => .ok [x] ρ1 := by
  show ((f ρ).bind fun d ρ1 => (Out.ok [] ρ1).bind fun ds ρ2 => Out.ok (d :: ds) ρ2) = _
  rfl
@[simp] theorem disp_2 (f g : EM D) (ρ : Env') : argGo (([f, g] : List (EM D)).map Opd.ev) ρ = (f ρ).bind fun x ρ1 => (g ρ1).bind fun y ρ2 => .ok [x, y] ρ2 := by
  show ((f ρ).bind fun d ρ1 => ((g ρ1).bind fun d ρ1 => (Out.ok [] ρ1).bind fun ds ρ2 => Out.ok (d :: ds) ρ2).bind fun ds ρ2 => Out.ok (d :: ds) ρ2) = _
  simp only [bind_bind]
  rfl
@[simp] theorem eTup_0 (ρ : Env') : eTup [] ρ = .ok (.tup []) ρ := rfl
@[simp] theorem eTup_3 (f g h : EM D) (ρ : Env') : eTup [f, g, h] ρ = (f ρ).bind fun x ρ1 => (g ρ1).bind fun y ρ2 => (h ρ2).bind fun z ρ3 => .ok (.tup [x, y, z]) ρ3 := by
  show ((f ρ).bind fun d ρ1 => ((g ρ1).bind fun d ρ1 => ((h ρ1).bind fun d ρ1 => (Out.ok [] ρ1).bind fun ds ρ2 => Out.ok (d :: ds) ρ2).bind fun ds ρ2 => Out.ok (d :: ds) ρ2).bind fun ds ρ2 => Out.ok (d :: ds) ρ2).bind _ = _
  simp only [bind_bind]
  rfl
theorem dAdd_lst {a b : List D} (h : a.length + b.length ≤ 1000000) : dAdd (.lst a) (.lst b) = some (.lst (a ++ b)) := if_pos h
theorem dAdd_tup {a b : List D} (h : a.length + b.length ≤ 1000000) : dAdd (.tup a) (.tup b) = some (.tup (a ++ b)) := if_pos h
theorem take_succ_of {α : Type} {l : List α} {i : Nat} {x : α} (h : l[i]? = some x) : l.take (i + 1) = l.take i ++ [x] := by
  rw [List.take_add_one, h]
  rfl
def Fre (s : Sl) : Prop := s = .no ∨ ∃ d, s = .va d
theorem Fre.io {s : Sl} (h : Fre s) : isIo (some s) = false := by
  rcases h with rfl | ⟨d, rfl⟩ <;> rfl
theorem Fre.no : Fre .no := .inl rfl
theorem Fre.va (d : D) : Fre (.va d) := .inr ⟨d, rfl⟩
@[simp] theorem argGo_nil (ρ : Env') : argGo [] ρ = .ok [] ρ := rfl
theorem rD_sq (r : List Int) : SqI (rD r) r := sqI_tup r
def lR (rs : List (List Int)) : D := .lst (rs.map rD)
theorem step_of {ws : List Nat} {g : Tgt} {c : EM Bool} {f : EM D} {x y : D} {ρ ρ1 ρ2 ρ3 : Env'} {b : Bool} (hg : g x (wipeR ρ ws) = some ρ1) (hc : c ρ1 = .ok b ρ2) (hf : f ρ2 = .ok y ρ3) (h2 : restore ρ ρ2 ws = ρ) (h3 : restore ρ ρ3 ws = ρ) : stepC ws g c f x ρ = .ok (if b = true then some y else none) ρ := by
  unfold stepC
  rw [hg]
  simp only [hc]
  cases b
  · simp only [h2]
    rfl
  · simp only [hf, h3]
    rfl
end Ma
end

section
set_option maxRecDepth 100000
set_option linter.all false
set_option exponentiation.threshold 100000
namespace Ma
open PySem PySem.Spec PyProof.Rows L2 DL Wk
/-- a source of draws -/
structure Good (L : List Int) (b : Int) : Prop where
  len : L.length ≤ 48
  pos : ∀ c ∈ L, 0 ≤ c
  b0 : 0 ≤ b
  b1 : b < 2147483647
def E2 (io : Bool) (L : List Int) (b m : Int) (a : Sl) : Env' := [.ow io (.deal L b), .va (.int m), a]
theorem while_ev {io : Bool} {b m : Int} {a : Sl} : ∀ (k : Nat) (L : List Int), Good L b → L.length < k → ∃ L', Good L' b ∧ (L' = [] ∨ ∃ c, L'.getLast? = some c ∧ c ≠ 0) ∧ whileF (tAndB (bLeft 0) (eT (e2 dEq (.ev (eLast 0)) (.ev (eC (.int 0)))))) (sDrop (eDPop 0)) k (E2 io L b m a) = .nx (E2 io L' b m a)
  | 0, L, _, h => absurd h (Nat.not_lt_zero _)
  | k + 1, L, g, h => by
    unfold whileF
    cases e : L.getLast? with
    | none =>
      have : L = [] := List.getLast?_eq_none_iff.mp e
      subst this
      refine ⟨[], g, .inl rfl, ?_⟩
      simp [E2, bLeft, dealAt]
    | some c =>
      have hn : L.isEmpty = false := by
        cases L with
        | nil => cases e
        | cons _ _ => rfl
      by_cases hc : c = 0
      · subst hc
        have g' : Good L.dropLast b := ⟨by have := g.len; rw [List.length_dropLast]; omega, fun c hc => g.pos c (List.dropLast_subset L hc), g.b0, g.b1⟩
        have hl : L.dropLast.length < k := by
          rw [List.length_dropLast]
          cases L with
          | nil => cases e
          | cons _ _ =>
            simp at h ⊢
            omega
        obtain ⟨L', g2, p, w⟩ := while_ev k L.dropLast g' hl
        refine ⟨L', g2, p, ?_⟩
        rw [← w]
        simp [E2, bLeft, dealAt, hn, eLast, e, sDrop, eDPop]
      · refine ⟨L, g, .inr ⟨c, e, hc⟩, ?_⟩
        simp [E2, bLeft, dealAt, hn, eLast, e, hc]
theorem v__law_any {L : List Int} {b m : Int} {io : Bool} (g : Good L b) (hm : 0 < m) (hs : m < 2 ^ 8000) : ∃ L' b' v, Good L' b' ∧ 0 ≤ v ∧ v < m ∧ s__law_any [.ow true (.deal L b), .va (.int m)] = .ok (.int v) [.ow true (.deal L' b'), .no] := by
  suffices h : ∃ ρ L' b' v, Good L' b' ∧ 0 ≤ v ∧ v < m ∧ b__law_any (E2 true L b m .no) = .rt (.int v) ρ ∧ outIo 2 ρ = [.ow true (.deal L' b'), .no] by
    obtain ⟨ρ, L', b', v, h1, h2, h3, h4, h5⟩ := h
    have z := run_rt (n := 2) (N := 3) (b := b__law_any) (ps := [.ow true (.deal L b), .va (.int m)]) h4
    rw [h5] at z
    exact ⟨L', b', v, h1, h2, h3, z⟩
  unfold b__law_any
  have hl := g.len
  obtain ⟨L1, g1, p, w⟩ := while_ev (io := true) (m := m) (a := .no) 60 L g (by omega)
  rw [seq_nx w]
  have sm : Sm 8000 m := sm_lt (by omega) hs
  rcases p with rfl | ⟨c, e, hc⟩
  · have q1 : sIf (bLeft 0) (sSeq (sSet 2 (eB (on1 dInt) [(.ev (eDPop 0))])) (sSeq (sDApp 0 2 1) (sRet (e2 dMod (.ev (eVar 2)) (.ev (eVar 1)))))) sNx (E2 true [] b m .no) = .nx (E2 true [] b m .no) := by
      simp [E2, bLeft, dealAt]
    rw [seq_nx q1]
    have sb : Sm 31 b := sm_lt g.b0 (Int.lt_trans g.b1 (by decide))
    have mb : dMul (.int b) (.int 40693) = some (.int (b * 40693)) := dMul_sm sb (sm_lt (k := 31) (by decide) (by decide)) (by decide) (by decide)
    have md := dMod_pos (a := b * 40693 + 71) (b := 2147483647) (by decide)
    have q2 : sBlend 0 (e2 dMod (.ev (eB (on1 dInt) [(.ev (e2 dAdd (.ev (e2 dMul (.ev (eBlend 0)) (.ev (eC (.int 40693))))) (.ev (eC (.int 71)))))])) (.ev (eC (.int 2147483647)))) (E2 true [] b m .no) = .nx (E2 true [] ((b * 40693 + 71) % 2147483647) m .no) := by
      simp [E2, sBlend, eBlend, dealAt, mb, dInt, md]
    rw [seq_nx q2]
    have g2 : Good [] ((b * 40693 + 71) % 2147483647) := ⟨by simp, by simp, Int.emod_nonneg _ (by decide), Int.emod_lt_of_pos _ (by decide)⟩
    have dv : dDivW (.int ((b * 40693 + 71) % 2147483647)) (.int 64) = some (.int ((b * 40693 + 71) % 2147483647 / 64)) := dDivW_sm (k := 31) (by decide) (sm_lt (k := 31) (by decide) (by decide)) (by decide) (by decide)
    refine ⟨E2 true [] ((b * 40693 + 71) % 2147483647) m .no, [], (b * 40693 + 71) % 2147483647, (b * 40693 + 71) % 2147483647 / 64 % m, g2, Int.emod_nonneg _ (by omega), Int.emod_lt_of_pos _ hm, ?_, rfl⟩
    generalize (b * 40693 + 71) % 2147483647 = x at dv
    simp [E2, eBlend, dealAt, dInt, dv, dMod_pos hm]
  · have hn : L1.isEmpty = false := by
      cases L1 with
      | nil => cases e
      | cons _ _ => rfl
    have cm : c ∈ L1 := List.mem_of_getLast? e
    have c0 := g1.pos c cm
    have ll := g1.len
    have hlg : m.natAbs.log2 < 9000 := Nat.lt_of_lt_of_le (log2_lt sm (by decide)) (by decide)
    have hc2 : L1.length - 1 < 1000000 := by omega
    have q1 : sIf (bLeft 0) (sSeq (sSet 2 (eB (on1 dInt) [(.ev (eDPop 0))])) (sSeq (sDApp 0 2 1) (sRet (e2 dMod (.ev (eVar 2)) (.ev (eVar 1)))))) sNx (E2 true L1 b m .no) = .rt (.int (c % m)) (E2 true (L1.dropLast ++ [c / m]) b m (.va (.int c))) := by
      have u1 : sSet 2 (eB (on1 dInt) [(.ev (eDPop 0))]) (E2 true L1 b m .no) = .nx (E2 true L1.dropLast b m (.va (.int c))) := by
        simp [E2, eDPop, dealAt, e, dInt, putSl, isIo]
      have u2 : sDApp 0 2 1 (E2 true L1.dropLast b m (.va (.int c))) = .nx (E2 true (L1.dropLast ++ [c / m]) b m (.va (.int c))) := by
        unfold sDApp
        show (if L1.dropLast.length < 1000000 ∧ 0 < m ∧ m.natAbs.log2 < 9000 then _ else _) = _
        rw [if_pos ⟨by rw [List.length_dropLast]; exact hc2, hm, hlg⟩]
        rfl
      have t : bLeft 0 (E2 true L1 b m .no) = .ok true (E2 true L1 b m .no) := by
        simp [E2, bLeft, dealAt, hn]
      rw [sIf_def, t, fl_ok, if_pos rfl, seq_nx u1, seq_nx u2]
      simp [E2, dMod_pos hm]
    refine ⟨_, L1.dropLast ++ [c / m], b, c % m, ⟨?_, fun x hx => ?_, g1.b0, g1.b1⟩, Int.emod_nonneg _ (by omega), Int.emod_lt_of_pos _ hm, seq_rt q1, rfl⟩
    · rw [List.length_append, List.length_dropLast]
      have : 0 < L1.length := List.length_pos_of_mem cm
      simp
      omega
    · rcases List.mem_append.mp hx with h | h
      · exact g1.pos x (List.dropLast_subset _ h)
      · rw [List.mem_singleton.mp h]
        exact Int.ediv_nonneg c0 (by omega)
/-- a call with the source first -/
theorem callIo {sem : Sem'} {f : EM D} {ρ0 rest : Env'} {io : Bool} {L L' : List Int} {b b' : Int} {x d : D} {z : Sl} (h0 : ∃ io L b r, ρ0 = .ow io (.deal L b) :: r) (hf : f ρ0 = .ok x (.ow io (.deal L b) :: rest)) (hs : sem [.ow true (.deal L b), .va x] = .ok d [.ow true (.deal L' b'), z]) :
    eCall sem [.io 0, .ev f] ρ0 = .ok d (.ow io (.deal L' b') :: rest) := by
  obtain ⟨io0, L0, b0, r0, rfl⟩ := h0
  show ((Out.ok D.non (.ow io0 (.deal L0 b0) :: r0)).bind fun d ρ1 => ((f ρ1).bind fun d ρ1 => (Out.ok [] ρ1).bind fun ds ρ2 => Out.ok (d :: ds) ρ2).bind fun ds ρ2 => Out.ok (d :: ds) ρ2).bind _ = _
  rw [bind_ok, hf, bind_ok, bind_ok, bind_ok, bind_ok]
  show (match sem [.ow true (.deal L b), .va x] with
    | .ok d ps' => _
    | .err c d ps' => _
    | .stuck => _) = _
  rw [hs]
  rfl
theorem any_ev {f : EM D} {ρ0 rest : Env'} {io : Bool} {L : List Int} {b m : Int} (h0 : ∃ io L b r, ρ0 = .ow io (.deal L b) :: r) (hf : f ρ0 = .ok (.int m) (.ow io (.deal L b) :: rest)) (g : Good L b) (hm : 0 < m) (hs : m < 2 ^ 8000) :
    ∃ L' b' v, Good L' b' ∧ 0 ≤ v ∧ v < m ∧ eCall s__law_any [.io 0, .ev f] ρ0 = .ok (.int v) (.ow io (.deal L' b') :: rest) := by
  obtain ⟨L', b', v, h1, h2, h3, h4⟩ := v__law_any (io := io) g hm hs
  exact ⟨L', b', v, h1, h2, h3, callIo h0 hf h4⟩
theorem ix_items {d y : D} {xs : List D} {i : Nat} (h : dItems d = some xs) (e : xs[i]? = some y) : dIx d (.int (i : Int)) = some y := by
  have hi := (List.getElem?_eq_some_iff.mp e).1
  have key : atI xs (i : Int) = some y := by
    unfold atI
    rw [Evl.ixN_nat hi]
    exact e
  cases d with
  | lst ys =>
    cases h
    exact key
  | tup ys =>
    cases h
    exact key
  | _ => cases h
theorem items_len {d : D} {xs : List D} (h : dItems d = some xs) : dLen d = some (.int xs.length) := by
  cases d <;> cases h <;> rfl
theorem v__law_of {L : List Int} {b : Int} {x : D} {xs : List D} (g : Good L b) (hx : dItems x = some xs) (hn : xs ≠ []) (hl : xs.length < 2 ^ 20) : ∃ L' b' y, Good L' b' ∧ y ∈ xs ∧ s__law_of [.ow true (.deal L b), .va x] = .ok y [.ow true (.deal L' b'), .no] := by
  have h0 : 0 < xs.length := List.length_pos_iff.mpr hn
  have hlen := items_len hx
  have p : (xs.length : Int) < 2 ^ 8000 := Int.lt_of_lt_of_le (show (xs.length : Int) < 2 ^ 20 by exact_mod_cast hl) (by decide +kernel)
  obtain ⟨L', b', v, h1, h2, h3, h4⟩ := any_ev (f := eB (on1 dLen) [(.ev (eVar 1))]) (ρ0 := [.ow true (.deal L b), .va x]) (rest := [.va x]) (io := true) (L := L) (b := b) (m := xs.length) ⟨_, _, _, _, rfl⟩ (by simp [hlen]) g (by omega) p
  have hv : v.toNat < xs.length := by omega
  refine ⟨L', b', xs[v.toNat], h1, List.getElem_mem hv, ?_⟩
  have iv : dIx x (.int v) = some xs[v.toNat] := by
    have := ix_items (i := v.toNat) hx (List.getElem?_eq_getElem hv)
    rwa [Int.toNat_of_nonneg h2] at this
  have bd : b__law_of [.ow true (.deal L b), .va x] = .rt xs[v.toNat] [.ow true (.deal L' b'), .va x] := by
    unfold b__law_of
    rw [sRet_def, e2_ev, eVar_1, bind_ok, h4, bind_ok, iv]
    rfl
  exact run_rt (n := 2) (N := 2) (b := b__law_of) (ps := [.ow true (.deal L b), .va x]) bd
theorem of_ev {f : EM D} {ρ0 rest : Env'} {io : Bool} {L : List Int} {b : Int} {x : D} {xs : List D} (h0 : ∃ io L b r, ρ0 = .ow io (.deal L b) :: r) (hf : f ρ0 = .ok x (.ow io (.deal L b) :: rest)) (g : Good L b) (hx : dItems x = some xs) (hn : xs ≠ []) (hl : xs.length < 2 ^ 20) :
    ∃ L' b' y, Good L' b' ∧ y ∈ xs ∧ eCall s__law_of [.io 0, .ev f] ρ0 = .ok y (.ow io (.deal L' b') :: rest) := by
  obtain ⟨L', b', y, h1, h2, h3⟩ := v__law_of g hx hn hl
  exact ⟨L', b', y, h1, h2, callIo h0 hf h3⟩
end Ma
end

section
set_option maxRecDepth 100000
set_option linter.all false
set_option exponentiation.threshold 100000
namespace Ma
open PySem PySem.Spec PyProof.Rows L2 DL Wk
def WE {α : Type} (o : Out α) (P : α → Env' → Prop) : Prop := match o with
  | .ok a ρ => P a ρ
  | _ => False
def WF (o : Fl) (P : Fl → Prop) : Prop := match o with
  | .stuck => False
  | .er _ _ _ => False
  | r => P r
section
variable {α β : Type} {P : α → Env' → Prop}
@[simp] theorem we_ok (a : α) (ρ : Env') : WE (.ok a ρ) P = P a ρ := rfl
theorem WE.out {o : Out α} (h : WE o P) : ∃ a ρ, o = .ok a ρ ∧ P a ρ := by
  cases o with
  | ok a ρ => exact ⟨a, ρ, rfl, h⟩
  | err _ _ _ => exact h.elim
  | stuck => exact h.elim
theorem WE.mono {o : Out α} {Q : α → Env' → Prop} (h : WE o P) (k : ∀ a ρ, P a ρ → Q a ρ) : WE o Q := by
  cases o with
  | ok a ρ => exact k a ρ h
  | err _ _ _ => exact h
  | stuck => exact h
@[simp] theorem we_bind (o : Out β) (k : β → Env' → Out α) : WE (o.bind k) P = WE o fun a ρ => WE (k a ρ) P := by
  cases o <;> rfl
@[simp] theorem wf_fl (o : Out β) (k : β → Env' → Fl) (P : Fl → Prop) : WF (o.fl k) P = WE o fun a ρ => WF (k a ρ) P := by
  cases o <;> rfl
@[simp] theorem wf_nx (ρ : Env') (P : Fl → Prop) : WF (.nx ρ) P = P (.nx ρ) := rfl
@[simp] theorem wf_rt (d : D) (ρ : Env') (P : Fl → Prop) : WF (.rt d ρ) P = P (.rt d ρ) := rfl
/-- one behind another -/
def sq (g : SM) (P : Fl → Prop) : Fl → Prop
  | .nx ρ1 => WF (g ρ1) P
  | r => P r
@[simp] theorem sq_nx (g : SM) (P : Fl → Prop) (ρ : Env') : sq g P (.nx ρ) = WF (g ρ) P := rfl
@[simp] theorem sq_rt (g : SM) (P : Fl → Prop) (d : D) (ρ : Env') : sq g P (.rt d ρ) = P (.rt d ρ) := rfl
theorem wf_seq (f g : SM) (ρ : Env') (P : Fl → Prop) : WF (sSeq f g ρ) P = WF (f ρ) (sq g P) := by
  unfold sSeq
  cases f ρ <;> rfl
theorem WF.nx {o : Fl} {Q : Env' → Prop} (h : WF o fun r => ∃ ρ, r = .nx ρ ∧ Q ρ) : ∃ ρ, o = .nx ρ ∧ Q ρ := by
  cases o with
  | stuck => exact h.elim
  | er _ _ _ => exact h.elim
  | nx ρ => exact h
  | rt _ _ => exact h
  | bk _ => exact h
  | ct _ => exact h
/-- a run of a body -/
theorem run_wf {n N : Nat} {b : SM} {ps : List Sl} {Q : D → List Sl → Prop} (h : WF (b (ps ++ List.replicate (N - n) Sl.no)) fun r => ∃ d ρ, r = .rt d ρ ∧ Q d (outIo n ρ)) : WE (runDef n N b ps) Q := by
  unfold runDef
  cases e : b (ps ++ List.replicate (N - n) Sl.no) with
  | rt d ρ =>
    rw [e] at h
    obtain ⟨d', ρ', z, q⟩ := h
    cases z
    exact q
  | stuck =>
    rw [e] at h
    exact h.elim
  | er _ _ _ =>
    rw [e] at h
    exact h.elim
  | nx _ =>
    rw [e] at h
    obtain ⟨_, _, z, _⟩ := h
    cases z
  | bk _ =>
    rw [e] at h
    obtain ⟨_, _, z, _⟩ := h
    cases z
  | ct _ =>
    rw [e] at h
    obtain ⟨_, _, z, _⟩ := h
    cases z
end
/-- a call with one thing handed in to be changed -/
theorem we_io {sem : Sem'} {i : Nat} {fs : List (EM D)} {ρ : Env'} {io0 : Bool} {o0 : Ow} {P : D → Env' → Prop} (h0 : ρ[i]? = some (.ow io0 o0))
    (h : WE (argGo (fs.map Opd.ev) ρ) fun ds ρ1 => fs.length = ds.length ∧ ∃ io o, ρ1[i]? = some (.ow io o) ∧ WE (sem (.ow true o :: ds.map Sl.va)) fun d ps => ∃ o' zs, ps = .ow true o' :: zs ∧ fs.length ≤ zs.length ∧ P d (ρ1.set i (.ow io o'))) :
    WE (eCall sem (.io i :: fs.map Opd.ev) ρ) P := by
  have hgo : (Opd.io i).go ρ = .ok .non ρ := by
    show (match ρ[i]? with
      | some (.ow _ _) => Out.ok D.non ρ
      | _ => .stuck) = _
    rw [h0]
  show WE (((Opd.io i).go ρ).bind (fun d ρ1 => (argGo (fs.map Opd.ev) ρ1).bind fun ds ρ2 => Out.ok (d :: ds) ρ2) |>.bind fun ds ρ1 => eCallK sem (.io i :: fs.map Opd.ev) ds ρ1) P
  rw [hgo, bind_ok]
  rw [we_bind, we_bind]
  refine h.mono fun ds ρ1 h1 => ?_
  obtain ⟨hl, io, o, h2, h3⟩ := h1
  rw [we_ok]
  obtain ⟨d, ps, e, o', zs, rfl, hz, q⟩ := h3.out
  have hs : argSl ρ1 (.io i :: fs.map Opd.ev) (.non :: ds) = some (.ow true o :: ds.map Sl.va) := by
    show (match argSl ρ1 (fs.map Opd.ev) ds with
      | none => none
      | some xs => match ρ1[i]? with
        | some (.ow _ o) => some (Sl.ow true o :: xs)
        | _ => none) = _
    rw [argSl_ev ρ1 fs ds hl, h2]
  have ok : okArgs (.io i :: fs.map Opd.ev) = true := by
    unfold okArgs
    show (decide (i :: iosOf (fs.map Opd.ev)).Nodup && (i :: iosOf (fs.map Opd.ev)).all fun j => !(brsOf (fs.map Opd.ev)).contains j) = true
    rw [ios_ev, brs_ev]
    simp
  have hsafe : safe (.io i :: fs.map Opd.ev) d (.ow true o' :: zs) = true := by
    unfold safe
    show ((brsOf (fs.map Opd.ev)).isEmpty || _) = true
    rw [brs_ev]
    rfl
  have hb : back (.io i :: fs.map Opd.ev) (.ow true o' :: zs) ρ1 = some (ρ1.set i (.ow io o')) := by
    show (match ρ1[i]? with
      | some (.ow b _) => back (fs.map Opd.ev) zs (ρ1.set i (.ow b o'))
      | _ => none) = _
    rw [h2]
    show back (fs.map Opd.ev) zs (ρ1.set i (.ow io o')) = _
    rw [back_ev, if_pos hz]
  show WE (eCallK sem (.io i :: fs.map Opd.ev) (.non :: ds) ρ1) P
  unfold eCallK
  rw [hs]
  simp only [ok, if_true, e, hsafe, hb]
  exact q
@[simp] theorem argGo_cons (f : EM D) (fs : List Opd) (ρ : Env') : argGo (.ev f :: fs) ρ = (f ρ).bind fun d ρ1 => (argGo fs ρ1).bind fun ds ρ2 => .ok (d :: ds) ρ2 := rfl
theorem we_lift {α : Type} {P : α → Env' → Prop} {o : Option α} {a : α} {ρ : Env'} (e : o = some a) (h : P a ρ) : WE (Out.lift ρ o) P := by
  rw [e]
  exact h
theorem we_outR {n : Nat} {o : Out D} {P : D → Env' → Prop} {ρ : Env'} (h : WE o fun d ps => n ≤ ps.length ∧ P d ρ) : WE (outR n o ρ) P := by
  obtain ⟨d, ps, e, h1, h2⟩ := h.out
  rw [e]
  show WE (if n ≤ ps.length then Out.ok d ρ else Out.stuck) P
  rw [if_pos h1]
  exact h2
theorem any_we {i : Nat} {f : EM D} {ρ : Env'} {io0 : Bool} {o0 : Ow} {P : D → Env' → Prop} (h0 : ρ[i]? = some (.ow io0 o0))
    (h : WE (f ρ) fun d ρ1 => ∃ m io L b, d = .int m ∧ ρ1[i]? = some (.ow io (.deal L b)) ∧ Good L b ∧ 0 < m ∧ m < 2 ^ 1000 ∧ ∀ L' b' v, Good L' b' → 0 ≤ v → v < m → P (.int v) (ρ1.set i (.ow io (.deal L' b')))) :
    WE (eCall s__law_any [.io i, .ev f] ρ) P := by
  refine we_io (fs := [f]) h0 ?_
  show WE ((f ρ).bind _) _
  rw [we_bind]
  refine h.mono fun d ρ1 h => ?_
  obtain ⟨m, io, L, b, rfl, h1, g, m0, m1, k⟩ := h
  refine ⟨rfl, io, .deal L b, h1, ?_⟩
  obtain ⟨L', b', v, g', v0, v1, e⟩ := v__law_any (io := io) g m0 (Int.lt_trans m1 (by decide +kernel))
  show WE (s__law_any [.ow true (.deal L b), .va (.int m)]) _
  rw [e]
  exact ⟨_, _, rfl, Nat.le_refl _, k L' b' v g' v0 v1⟩
theorem of_we {i : Nat} {f : EM D} {ρ : Env'} {io0 : Bool} {o0 : Ow} {P : D → Env' → Prop} (h0 : ρ[i]? = some (.ow io0 o0))
    (h : WE (f ρ) fun d ρ1 => ∃ xs io L b, dItems d = some xs ∧ xs ≠ [] ∧ xs.length < 2 ^ 20 ∧ ρ1[i]? = some (.ow io (.deal L b)) ∧ Good L b ∧ ∀ L' b' y, Good L' b' → y ∈ xs → P y (ρ1.set i (.ow io (.deal L' b')))) :
    WE (eCall s__law_of [.io i, .ev f] ρ) P := by
  refine we_io (fs := [f]) h0 ?_
  show WE ((f ρ).bind _) _
  rw [we_bind]
  refine h.mono fun d ρ1 h => ?_
  obtain ⟨xs, io, L, b, hx, hn, hl, h1, g, k⟩ := h
  refine ⟨rfl, io, .deal L b, h1, ?_⟩
  obtain ⟨L', b', y, g', m, e⟩ := v__law_of g hx hn hl
  show WE (s__law_of [.ow true (.deal L b), .va d]) _
  rw [e]
  exact ⟨_, _, rfl, Nat.le_refl _, k L' b' y g' m⟩
/-- a comprehension, forwards -/
theorem we_comp {it : EM (List D)} {ws : List Nat} {g : Tgt} {c : EM Bool} {f : EM D} {ρ0 : Env'} {P : List D → Env' → Prop} (I : List D → List D → Env' → Prop)
    (hi : WE (it ρ0) fun items ρ => (ws.all fun w => notOw ρ[w]?) = true ∧ items.length < 1000000 ∧ I items [] ρ)
    (h : ∀ x xs ys ρ, I (x :: xs) ys ρ → WE (stepC ws g c f x ρ) fun o ρ' => I xs (ys ++ o.toList) ρ')
    (hP : ∀ ys ρ, I [] ys ρ → P ys ρ) : WE (eComp it ws g c f ρ0) P := by
  unfold eComp
  rw [we_bind]
  refine hi.mono fun items ρ h1 => ?_
  obtain ⟨h1, h2, h3⟩ := h1
  rw [if_pos ⟨h1, h2⟩]
  have key : ∀ (items ys : List D) (ρ : Env'), I items ys ρ → WE (compL ws g c f items ρ) fun zs ρ' => P (ys ++ zs) ρ' := by
    intro items
    induction items with
    | nil =>
      intro ys ρ i
      show P (ys ++ []) ρ
      rw [List.append_nil]
      exact hP ys ρ i
    | cons x xs ih =>
      intro ys ρ i
      rw [compL_cons, we_bind]
      refine (h x xs ys ρ i).mono fun o ρ1 i1 => ?_
      rw [we_bind]
      refine (ih _ ρ1 i1).mono fun zs ρ2 q => ?_
      rw [we_ok, ← List.append_assoc]
      exact q
  exact (key items [] ρ h3).mono fun zs ρ' q => q
/-- one step of it -/
theorem we_step {ws : List Nat} {g : Tgt} {c : EM Bool} {f : EM D} {x : D} {ρ : Env'} {P : Option D → Env' → Prop}
    (h : ∃ ρ1, g x (wipeR ρ ws) = some ρ1 ∧ WE (c ρ1) fun b ρ2 => if b = true then WE (f ρ2) fun y ρ3 => P (some y) (restore ρ ρ3 ws) else P none (restore ρ ρ2 ws)) : WE (stepC ws g c f x ρ) P := by
  obtain ⟨ρ1, e, h⟩ := h
  unfold stepC
  rw [e]
  obtain ⟨b, ρ2, e2, h2⟩ := h.out
  simp only [e2]
  cases b with
  | true =>
    obtain ⟨y, ρ3, e3, h3⟩ := (show WE (f ρ2) _ from h2).out
    simp only [e3]
    exact h3
  | false => exact h2
/-- a loop that goes to its end, forwards -/
theorem wf_for {it : EM (List D)} {g : Tgt} {b : SM} {ρ0 : Env'} {P : Fl → Prop} (I : List D → Env' → Prop)
    (hi : WE (it ρ0) fun items ρ => I items ρ)
    (h : ∀ x xs ρ, I (x :: xs) ρ → ∃ ρ1, g x ρ = some ρ1 ∧ WF (b ρ1) fun r => ∃ ρ2, (r = .nx ρ2 ∨ r = .ct ρ2) ∧ I xs ρ2)
    (hP : ∀ ρ, I [] ρ → P (.nx ρ)) : WF (sFor it g b ρ0) P := by
  rw [sFor_def, wf_fl]
  refine hi.mono fun items ρ i => ?_
  clear hi
  induction items generalizing ρ with
  | nil => exact hP ρ i
  | cons x xs ih =>
    obtain ⟨ρ1, e1, h1⟩ := h x xs ρ i
    show WF (match g x ρ with
      | none => Fl.stuck
      | some ρ1 => match b ρ1 with
        | .nx ρ2 => forL g b xs ρ2
        | .ct ρ2 => forL g b xs ρ2
        | .bk ρ2 => .nx ρ2
        | r => r) P
    rw [e1]
    simp only
    cases e2 : b ρ1 with
    | nx ρ2 =>
      rw [e2] at h1
      obtain ⟨ρ3, z, q⟩ := h1
      rcases z with z | z <;> cases z
      exact ih ρ2 q
    | ct ρ2 =>
      rw [e2] at h1
      obtain ⟨ρ3, z, q⟩ := h1
      rcases z with z | z <;> cases z
      exact ih ρ2 q
    | stuck =>
      rw [e2] at h1
      exact h1.elim
    | er _ _ _ =>
      rw [e2] at h1
      exact h1.elim
    | rt _ _ =>
      rw [e2] at h1
      obtain ⟨ρ3, z, q⟩ := h1
      rcases z with z | z <;> cases z
    | bk _ =>
      rw [e2] at h1
      obtain ⟨ρ3, z, q⟩ := h1
      rcases z with z | z <;> cases z
theorem cut_to (xs : List D) (n : Nat) : DL.cutD xs none (some (n : Int)) = xs.take n := by
  unfold DL.cutD
  have e1 : HT.sIx xs.length 0 none = 0 := rfl
  have e2 : HT.sIx xs.length xs.length (some (n : Int)) = min n xs.length := HT.sIx_nat _ _ _
  rw [e1, e2, List.drop_zero, Nat.sub_zero]
  by_cases h : n ≤ xs.length
  · rw [Nat.min_eq_left h]
  · rw [Nat.min_eq_right (by omega), List.take_of_length_le (Nat.le_refl _), List.take_of_length_le (by omega)]
theorem strOk_of (s : String) : PyData.strOk (Str.ofString s) = true := by
  rw [Str.ofString_eq_toList]
  show ((s.toList.map Char.toNat).toArray).all (fun x => decide (x < 0x110000)) = true
  rw [List.all_toArray, List.all_eq_true]
  intro n hn
  obtain ⟨c, _, rfl⟩ := List.mem_map.mp hn
  have h := c.valid
  rw [decide_eq_true_eq]
  rcases h with h | h
  · have : c.toNat < 0xd800 := h
    omega
  · exact h.2
@[simp] theorem dNe_str (s : String) : dNe (.str (Str.ofString s)) (.str (Str.ofString s)) = some (.bl false) := by
  have h := strOk_of s
  have e : dEqv (.str (Str.ofString s)) (.str (Str.ofString s)) = some true := by
    simp [dEqv, toPy, SeqAt.shaped, PyData.eqv, PyData.canLay0, PyData.depth, h]
  unfold dNe
  rw [e]
  rfl
theorem cut_from (xs : List D) (n : Nat) : DL.cutD xs (some (n : Int)) none = xs.drop n := by
  unfold DL.cutD
  have e1 : HT.sIx xs.length 0 (some (n : Int)) = min n xs.length := HT.sIx_nat _ _ _
  have e2 : HT.sIx xs.length xs.length none = xs.length := rfl
  rw [e1, e2]
  by_cases h : n ≤ xs.length
  · rw [Nat.min_eq_left h, List.take_of_length_le (by rw [List.length_drop]; omega)]
  · rw [Nat.min_eq_right (by omega), Nat.sub_self, List.take_zero, List.drop_of_length_le (by omega)]
@[simp] theorem eSl_ev (f : EM D) (lo hi : Option (EM D)) (ρ : Env') : eSl (.ev f) lo hi ρ = (f ρ).bind fun x ρ1 => (oBd lo ρ1).bind fun l ρ2 => (oBd hi ρ2).bind fun h ρ3 => Out.lift ρ3 (dSlice x l h) := rfl
@[simp] theorem oBd_none (ρ : Env') : oBd none ρ = .ok none ρ := rfl
theorem oBd_some {f : EM D} {ρ ρ1 : Env'} {i : Int} (h : f ρ = .ok (.int i) ρ1) : oBd (some f) ρ = .ok (some i) ρ1 := by
  show (f ρ).bind _ = _
  rw [h]
  rfl
theorem rD_len (r : List Int) : dLen (rD r) = some (.int r.length) := (rD_sq r).len
theorem take_rD (r : List Int) (n : Nat) : dSlice (rD r) none (some (n : Int)) = some (rD (r.take n)) := by
  show some (D.tup (DL.cutD (r.map .int) none (some (n : Int)))) = _
  rw [cut_to, ← List.map_take]
  rfl
theorem drop_rD (r : List Int) (n : Nat) : dSlice (rD r) (some (n : Int)) none = some (rD (r.drop n)) := by
  show some (D.tup (DL.cutD (r.map .int) (some (n : Int)) none)) = _
  rw [cut_from, ← List.map_drop]
  rfl
theorem we_rng {f : EM D} {ρ : Env'} {P : List D → Env' → Prop} (h : WE (f ρ) fun d ρ1 => ∃ j : Int, d = .int j ∧ -1000000 ≤ j ∧ j < 1000000 ∧ P (rngD 0 j.toNat) ρ1) : WE (iR1 (.ev f) ρ) P := by
  obtain ⟨d, ρ1, e, j, rfl, a, b, q⟩ := h.out
  have : iR1 (.ev f) ρ = .ok (rngD 0 j.toNat) ρ1 := by
    show ((f ρ).bind fun d ρ1 => (Out.ok [] ρ1).bind fun ds ρ2 => Out.ok (d :: ds) ρ2).bind _ = _
    rw [e, bind_ok, bind_ok, bind_ok]
    show (if -1000000 ≤ j ∧ j < 1000000 then Out.ok (rngD 0 j.toNat) ρ1 else Out.stuck) = _
    rw [if_pos ⟨a, b⟩]
  rw [this]
  exact q
theorem forL_find {α : Type} {g : Tgt} {b : SM} (I : Env' → Prop) (h : α → D) (bad : α → Bool) (d : D) : ∀ (l : List α) (ρ : Env'), I ρ → (∀ a ∈ l, ∀ ρ, I ρ → ∃ ρ1 ρ2, g (h a) ρ = some ρ1 ∧ I ρ2 ∧ b ρ1 = if bad a = true then .rt d ρ2 else .nx ρ2) →
    ∃ ρ', I ρ' ∧ forL g b (l.map h) ρ = if l.any bad = true then .rt d ρ' else .nx ρ'
  | [], ρ, i, _ => ⟨ρ, i, rfl⟩
  | a :: l, ρ, i, k => by
    obtain ⟨ρ1, ρ2, e1, i2, e2⟩ := k a List.mem_cons_self ρ i
    have hd : forL g b ((a :: l).map h) ρ = match b ρ1 with
        | .nx ρ2 => forL g b (l.map h) ρ2
        | .ct ρ2 => forL g b (l.map h) ρ2
        | .bk ρ2 => .nx ρ2
        | r => r := by
      show (match g (h a) ρ with
        | none => Fl.stuck
        | some ρ1 => match b ρ1 with
          | .nx ρ2 => forL g b (l.map h) ρ2
          | .ct ρ2 => forL g b (l.map h) ρ2
          | .bk ρ2 => .nx ρ2
          | r => r) = _
      rw [e1]
    rw [hd, e2]
    cases hb : bad a with
    | true => exact ⟨ρ2, i2, by simp [hb]⟩
    | false =>
      obtain ⟨ρ', i', e'⟩ := forL_find I h bad d l ρ2 i2 fun c hc => k c (List.mem_cons_of_mem _ hc)
      refine ⟨ρ', i', ?_⟩
      simp [hb, e']
end Ma
end

section
set_option maxRecDepth 100000
set_option linter.all false
set_option exponentiation.threshold 100000
namespace Ma
open PySem PySem.Spec PyProof.Rows L2 DL Wk
theorem pow10 {k : Nat} (hk : k ≤ 1000) : dPow (.int 10) (.int (k : Int)) = some (.int (10 ^ k)) := by
  show (if (0 : Int) ≤ (k : Int) ∧ (k : Int) ≤ 1000 ∧ (10 : Int).natAbs < 2 ^ 64 then some (D.int ((10 : Int) ^ (k : Int).toNat)) else none) = _
  rw [if_pos ⟨by omega, by omega, by decide⟩, Int.toNat_natCast]

/-! ### the source of draws -/
theorem sqD_nx {f : SM} {g : Env' → FlD} {ρ ρ1 : Env'} (h : f ρ = .nx ρ1) : sqD f g ρ = g ρ1 := by
  unfold sqD
  rw [h]
def ab (n : Int) : Int := if n < 0 then -n else n
theorem ab_nn (n : Int) : 0 ≤ ab n := by
  unfold ab
  split <;> omega
theorem v_draw (ns : List Int) : ∃ L b ps, Good L b ∧ s__law_draw [.va (.scr ns), .va (.int 4)] = .ok (L, b) ps := by
  let cells : List Int := (ns.take 48).map ab
  have hc : cells.length ≤ 48 := by
    rw [List.length_map]
    exact List.length_take_le 48 ns
  let R (s2 : Sl) (b : Int) : Env' := [.va (.scr ns), .va (.int 4), s2, .va (.lst (cells.map .int)), .va (.int b)]
  suffices h : ∃ L b ρ, Good L b ∧ b__law_draw [.va (.scr ns), .va (.int 4), .no, .no, .no] = .dl (L, b) ρ by
    obtain ⟨L, b, ρ, g, e⟩ := h
    refine ⟨L, b, outIo 2 ρ, g, ?_⟩
    show (match b__law_draw ([.va (.scr ns), .va (.int 4)] ++ List.replicate 3 Sl.no) with
      | .dl r ρ => Out.ok r (outIo 2 ρ)
      | .er c d ρ => .err c d (outIo 2 ρ)
      | _ => .stuck) = _
    have e' : b__law_draw ([.va (.scr ns), .va (.int 4)] ++ List.replicate 3 Sl.no) = .dl (L, b) ρ := e
    rw [e']
  unfold b__law_draw
  have s48 : eSl (.ev (eVar 0)) none (some (eC (.int 48))) [.va (.scr ns), .va (.int 4), .no, .no, .no] = .ok (.lst ((ns.take 48).map .int)) [.va (.scr ns), .va (.int 4), .no, .no, .no] := by
    show Out.lift _ (some (D.lst (DL.cutD (ns.map .int) none (some ((48 : Nat) : Int))))) = _
    rw [cut_to, ← List.map_take]
    rfl
  have q1 : sSet 3 (eL (eComp (iS (eSl (.ev (eVar 0)) none (some (eC (.int 48))))) [2] (gN 2) cYes (eB (on1 dAbs) [(.ev (eB (on1 dInt) [(.ev (eVar 2))]))]))) [.va (.scr ns), .va (.int 4), .no, .no, .no] = .nx [.va (.scr ns), .va (.int 4), .no, .va (.lst (cells.map .int)), .no] := by
    rw [sSet_def, eL_def, comp_map (l := ns.take 48) (fun n : Int => D.int n) (fun n : Int => D.int (ab n)) (it_seq s48 rfl) rfl (by
      have := List.length_take_le 48 ns
      omega) fun n hn => ?_, bind_ok]
    · show Fl.nx [.va (.scr ns), .va (.int 4), .no, .va (.lst ((ns.take 48).map fun n => D.int (ab n))), .no] = Fl.nx [.va (.scr ns), .va (.int 4), .no, .va (.lst (((ns.take 48).map ab).map .int)), .no]
      rw [List.map_map]
      rfl
    · simp [stepC, wipeR, gN, isIo, restore, dInt, dAbs, ab]
  rw [sqD_nx q1]
  have m1 : dMul (.int 104729) (.int 4) = some (.int 418916) := dMul_sm (k := 40) (by unfold Sm; decide) (by unfold Sm; decide) (by decide) (by decide)
  have q2 : sSet 4 (e2 dAdd (.ev (eC (.int 7919))) (.ev (e2 dMul (.ev (eC (.int 104729))) (.ev (eVar 1))))) [.va (.scr ns), .va (.int 4), .no, .va (.lst (cells.map .int)), .no] = .nx (R .no 426835) := by
    simp [m1, putSl, isIo, R]
  rw [sqD_nx q2]
  have hit : iS (eVar 3) (R .no 426835) = .ok (cells.map .int) (R .no 426835) := it_seq (f := eVar 3) (x := .lst (cells.map .int)) rfl rfl
  obtain ⟨ρ', e', s2, b, b0, b1, hs2, rfl⟩ := forL_all (g := gN 2) (b := (sSet 4 (e2 dMod (.ev (eB (on1 dInt) [(.ev (e2 dAdd (.ev (e2 dAdd (.ev (e2 dMul (.ev (eVar 4)) (.ev (eC (.int 48271))))) (.ev (e2 dMod (.ev (eVar 2)) (.ev (eC (.int 2147483549))))))) (.ev (eC (.int 11)))))])) (.ev (eC (.int 2147483647))))))
    (fun _ ρ => ∃ s2 b, 0 ≤ b ∧ b < 2147483647 ∧ Fre s2 ∧ ρ = R s2 b) (cells.map .int) 0 (R .no 426835) ⟨.no, 426835, by decide, by decide, .no, rfl⟩ fun i x ρ hx hI => by
      obtain ⟨s2, b, b0, b1, hs2, rfl⟩ := hI
      rw [List.getElem?_map] at hx
      cases ec : cells[i]? with
      | none =>
        rw [ec] at hx
        cases hx
      | some c =>
        rw [ec] at hx
        cases hx
        have sb : Sm 31 b := sm_lt b0 (Int.lt_trans b1 (by decide))
        have mb : dMul (.int b) (.int 48271) = some (.int (b * 48271)) := dMul_sm sb (sm_lt (k := 31) (by decide) (by decide)) (by decide) (by decide)
        have d1 := dMod_pos (a := c) (b := 2147483549) (by decide)
        have d2 := dMod_pos (a := b * 48271 + c % 2147483549 + 11) (b := 2147483647) (by decide)
        refine ⟨R (.va (.int c)) b, R (.va (.int c)) ((b * 48271 + c % 2147483549 + 11) % 2147483647), ?_, .inl ?_, .va (.int c), _, Int.emod_nonneg _ (by decide), Int.emod_lt_of_pos _ (by decide), .va _, rfl⟩
        · simp [gN, R, hs2.io]
        · simp [R, mb, d1, dInt, d2, putSl, isIo]
  have q3 : sFor (iS (eVar 3)) (gN 2) (sSet 4 (e2 dMod (.ev (eB (on1 dInt) [(.ev (e2 dAdd (.ev (e2 dAdd (.ev (e2 dMul (.ev (eVar 4)) (.ev (eC (.int 48271))))) (.ev (e2 dMod (.ev (eVar 2)) (.ev (eC (.int 2147483549))))))) (.ev (eC (.int 11)))))])) (.ev (eC (.int 2147483647))))) (R .no 426835) = .nx (R s2 b) := by
    rw [sFor_def, hit, fl_ok]
    exact e'
  rw [sqD_nx q3]
  have pw18 : dPow (.int 10) (.int 18) = some (.int (10 ^ 18)) := pow10 (k := 18) (by decide)
  have q4 : eComp (iS (eVar 3)) [2] (gN 2) (eT (e2 dGe (.ev (eVar 2)) (.ev (e2 dPow (.ev (eC (.int 10))) (.ev (eC (.int 18))))))) (eVar 2) (R s2 b) = .ok ((cells.filter fun c => decide (10 ^ 18 ≤ c)).map .int) (R s2 b) := by
    refine comp_filt (l := cells) (fun c : Int => D.int c) (fun c => decide (10 ^ 18 ≤ c)) (fun c => .int c) (it_seq (f := eVar 3) (x := .lst (cells.map .int)) rfl rfl) ?_ (by omega) fun c hc => ?_
    · rcases hs2 with rfl | ⟨d, rfl⟩ <;> rfl
    · by_cases h : (1000000000000000000 : Int) ≤ c <;> simp [stepC, wipeR, gN, isIo, restore, R, pw18, dCmp, h]
  refine ⟨(cells.filter fun c => decide (10 ^ 18 ≤ c)).reverse, b, R s2 b, ⟨?_, fun c hc' => ?_, b0, b1⟩, ?_⟩
  · rw [List.length_reverse]
    exact Nat.le_trans (List.length_filter_le _ _) hc
  · have h := (List.mem_filter.mp (List.mem_reverse.mp hc')).1
    obtain ⟨n, _, rfl⟩ := List.mem_map.mp h
    exact ab_nn n
  · unfold sRetDl eDl
    rw [q4, bind_ok, asIs_map]
    rfl
end Ma
end

section
set_option maxRecDepth 100000
set_option linter.all false
set_option exponentiation.threshold 100000
namespace Ma
open PySem PySem.Spec PyProof.Rows L2 DL Wk
/-! words of a text -/
abbrev digs : Str := "0123456789"
def bw1 (w : Str) : Bool := !(decide (1 ≤ w.length) && decide (w.length ≤ 2)) || !(w.cps.toList.all fun c => decide (c ∈ digs.cps.toList))
def bw2 (w : Str) : Bool := decide (w.length = 2) && decide (w.cps.toList[0]? = some 48)
def bw (w : Str) : Bool := bw1 w || bw2 w
def wv (w : Str) : Int := (PySem.intText? w).getD 0
theorem forL_er {α : Type} {g : Tgt} {b : SM} {c : Str} {d : D} (I J : Env' → Prop) (h : α → D) (bad : α → Bool) : ∀ (l : List α) (ρ : Env'), I ρ →
    (∀ a ∈ l, ∀ ρ, I ρ → ∃ ρ1, g (h a) ρ = some ρ1 ∧ if bad a = true then ∃ ρ2, b ρ1 = .er c d ρ2 ∧ J ρ2 else ∃ ρ2, b ρ1 = .nx ρ2 ∧ I ρ2) →
    if l.any bad = true then ∃ ρ', forL g b (l.map h) ρ = .er c d ρ' ∧ J ρ' else ∃ ρ', forL g b (l.map h) ρ = .nx ρ' ∧ I ρ'
  | [], ρ, i, _ => ⟨ρ, rfl, i⟩
  | a :: l, ρ, i, k => by
    obtain ⟨ρ1, e1, h1⟩ := k a List.mem_cons_self ρ i
    rw [List.any_cons]
    by_cases hb : bad a = true
    · rw [if_pos hb] at h1
      obtain ⟨ρ2, e2, j⟩ := h1
      rw [hb, Bool.true_or, if_pos rfl]
      refine ⟨ρ2, ?_, j⟩
      show (match g (h a) ρ with
        | none => Fl.stuck
        | some ρ1 => match b ρ1 with
          | .nx ρ2 => forL g b (l.map h) ρ2
          | .ct ρ2 => forL g b (l.map h) ρ2
          | .bk ρ2 => .nx ρ2
          | r => r) = _
      rw [e1]
      simp only [e2]
    · rw [if_neg hb] at h1
      obtain ⟨ρ2, e2, i2⟩ := h1
      have hb' : bad a = false := by simpa using hb
      rw [hb', Bool.false_or]
      have ih := forL_er I J h bad l ρ2 i2 fun a ha => k a (List.mem_cons_of_mem _ ha)
      have e3 : forL g b ((a :: l).map h) ρ = forL g b (l.map h) ρ2 := by
        show (match g (h a) ρ with
          | none => Fl.stuck
          | some ρ1 => match b ρ1 with
            | .nx ρ2 => forL g b (l.map h) ρ2
            | .ct ρ2 => forL g b (l.map h) ρ2
            | .bk ρ2 => .nx ρ2
            | r => r) = _
        rw [e1]
        simp only [e2]
      rw [e3]
      exact ih
theorem seq_er {f g : SM} {ρ ρ1 : Env'} {c : Str} {d : D} (h : f ρ = .er c d ρ1) : sSeq f g ρ = .er c d ρ1 := by
  unfold sSeq
  rw [h]
theorem len_str {w : Str} (h : w.length ≤ 1000000) : dLen (.str w) = some (.int w.length) := if_pos h
theorem strOk_asc {w : Str} (h : ∀ c ∈ w.cps.toList, c < 128) : PyData.strOk w = true := by
  unfold PyData.strOk
  rw [← Array.all_toList, List.all_eq_true]
  intro c hc
  have := h c hc
  rw [decide_eq_true_eq]
  omega
theorem eqv_str {x y : Str} (hx : PyData.strOk x = true) (hy : PyData.strOk y = true) : dEqv (.str x) (.str y) = some (decide (x = y)) := by
  have e : (x == y) = decide (x = y) := by
    by_cases h : x = y
    · subst h
      simp
    · simp [h]
  simp [dEqv, toPy, SeqAt.shaped, PyData.eqv, PyData.canLay0, PyData.depth, hx, hy, e]
theorem dEq_str {x y : Str} (hx : PyData.strOk x = true) (hy : PyData.strOk y = true) : dEq (.str x) (.str y) = some (.bl (decide (x = y))) := by
  unfold dEq
  rw [eqv_str hx hy]
  rfl
theorem dNe_strs {x y : Str} (hx : PyData.strOk x = true) (hy : PyData.strOk y = true) : dNe (.str x) (.str y) = some (.bl (!decide (x = y))) := by
  unfold dNe
  rw [eqv_str hx hy]
  rfl
@[simp] theorem dLe_int (a b : Int) : dLe (.int a) (.int b) = some (.bl (decide (a ≤ b))) := rfl
theorem digs_lt : ∀ c ∈ digs.cps.toList, 48 ≤ c ∧ c ≤ 57 := by decide
/-- the two tests of a word -/
theorem c1_ev {a b : D} {w : Str} (hl : w.length ≤ 1000) : (tOrB (tNotB (eT (eChain dLe dLe (eC (.int 1)) (eB (on1 dLen) [(.ev (eVar 2))]) (eC (.int 2))))) (tNotB (eT (eB (on1 dAll) [(.ev (eL (eComp (iStrD (eVar 2)) [3] (gN 3) cYes (e2 dInS (.ev (eVar 3)) (.ev (eC (.str "0123456789")))))))])))) [.va a, .va b, .va (.str w), .no] = .ok (bw1 w) [.va a, .va b, .va (.str w), .no] := by
  have hlen := len_str (w := w) (by omega)
  have e1 : eChain dLe dLe (eC (.int 1)) (eB (on1 dLen) [(.ev (eVar 2))]) (eC (.int 2)) [.va a, .va b, .va (.str w), .no] = .ok (.bl (decide (1 ≤ w.length) && decide (w.length ≤ 2))) [.va a, .va b, .va (.str w), .no] := by
    unfold eChain
    simp only [eC_go, bind_ok, eB_1, eVar_2, hlen, lift_some, dLe_int]
    by_cases h : (1 : Int) ≤ (w.length : Int)
    · have h' : 1 ≤ w.length := by omega
      simp [h, h']
      omega
    · have h' : ¬ 1 ≤ w.length := by omega
      simp [h, h']
  have e2 : eL (eComp (iStrD (eVar 2)) [3] (gN 3) cYes (e2 dInS (.ev (eVar 3)) (.ev (eC (.str "0123456789"))))) [.va a, .va b, .va (.str w), .no] = .ok (.lst (w.cps.toList.map fun c => .bl (decide (c ∈ digs.cps.toList)))) [.va a, .va b, .va (.str w), .no] := by
    have hi : iStrD (eVar 2) [.va a, .va b, .va (.str w), .no] = .ok (w.cps.toList.map fun c : Nat => D.str ⟨#[c]⟩) [.va a, .va b, .va (.str w), .no] := rfl
    rw [eL_def, comp_map (l := w.cps.toList) (fun c : Nat => D.str ⟨#[c]⟩) (fun c : Nat => D.bl (decide (c ∈ digs.cps.toList))) hi rfl (by
      show w.cps.toList.length < 1000000
      have : w.cps.toList.length = w.length := Array.length_toList
      omega) fun c hc => ?_, bind_ok]
    simp [stepC, wipeR, gN, isIo, restore, dInS]
  rw [tOr_def, tNot_def, eT_ok, e1]
  simp only [bind_ok, asB_bl, lift_some]
  unfold bw1
  cases h : (decide (1 ≤ w.length) && decide (w.length ≤ 2)) with
  | false => rfl
  | true =>
    simp only [Bool.not_true, Bool.false_eq_true, if_false, Bool.false_or]
    rw [tNot_def, eT_ok, eB_1, e2]
    simp only [bind_ok, all_map, lift_some, asB_bl]
theorem c2_ev {a b : D} {w : Str} (hl : w.length ≤ 1000) (h1 : bw1 w = false) : (tAndB (eT (e2 dEq (.ev (eB (on1 dLen) [(.ev (eVar 2))])) (.ev (eC (.int 2))))) (eT (e2 dEq (.ev (e2 dIxS (.ev (eVar 2)) (.ev (eC (.int 0))))) (.ev (eC (.str "0")))))) [.va a, .va b, .va (.str w), .no] = .ok (bw2 w) [.va a, .va b, .va (.str w), .no] := by
  have hlen := len_str (w := w) (by omega)
  rw [tAnd_def, eT_ok, e2_ev, eB_1]
  simp only [eVar_2, bind_ok, hlen, lift_some, eC_go, dEq_int, asB_bl]
  unfold bw2
  by_cases h : (w.length : Int) = 2
  · have h' : w.length = 2 := by omega
    have hlist : w.cps.toList.length = 2 := by
      have : w.cps.toList.length = w.length := Array.length_toList
      omega
    obtain ⟨c, r, hc⟩ : ∃ c r, w.cps.toList = c :: r := by
      cases e : w.cps.toList with
      | nil =>
        rw [e] at hlist
        cases hlist
      | cons c r => exact ⟨c, r, rfl⟩
    have hd : c ∈ digs.cps.toList := by
      unfold bw1 at h1
      simp only [Bool.or_eq_false_iff, Bool.not_eq_false', List.all_eq_true, decide_eq_true_eq] at h1
      exact h1.2 c (by rw [hc]; exact List.mem_cons_self)
    have hlt := digs_lt c hd
    have ix : dIxS (.str w) (.int 0) = some (.str ⟨#[c]⟩) := by
      show (if w.length ≤ 1000000 then (atI w.cps.toList 0).map fun c => D.str ⟨#[c]⟩ else none) = _
      have : atI (c :: r) 0 = some c := by simp [atI, ixN]
      rw [if_pos (by omega), hc, this]
      rfl
    have eq := dEq_str (x := ⟨#[c]⟩) (y := Str.ofString "0") (strOk_asc (fun d hd => by
      simp at hd
      omega)) (strOk_of "0")
    have e0 : (Str.ofString "0") = ⟨#[48]⟩ := by decide +kernel
    simp only [h, decide_true, if_true, eT_ok, e2_ev, eVar_2, bind_ok, eC_go, ix, lift_some, eq, asB_bl, h', hc, Bool.true_and]
    rw [e0]
    simp
  · have h' : ¬ w.length = 2 := by omega
    simp [h, h']
theorem wv_ok {w : Str} (h : bw1 w = false) : PySem.intText? w = some (wv w) ∧ w.length ≤ 2 := by
  have h0 := h
  unfold bw1 at h0
  simp only [Bool.or_eq_false_iff, Bool.not_eq_false', List.all_eq_true, decide_eq_true_eq, Bool.and_eq_true] at h0
  have hl : w.cps.toList.length = w.length := Array.length_toList
  have e := PySem.intText_digits (x := w) (fun c hc => by
    have := digs_lt c (h0.2 c hc)
    omega) (fun z => by
    rw [z] at hl
    have : w.length = 0 := hl.symm
    omega) (by
    have := h0.1.2
    omega)
  refine ⟨?_, h0.1.2⟩
  unfold wv
  rw [e]
  rfl
theorem v_numbers_of {d : D} {ws : List Str} {k : Int} (hd : dItems d = some (ws.map .str)) (hn : ws.length ≤ 100000) (hl : ∀ w ∈ ws, w.length ≤ 1000) : s_numbers_of [.va d, .va (.int k)] = if ws.any bw = true then .err "InvalidText" (.int k) [.no, .no] else .ok (.tup (ws.map fun w => .int (wv w))) [.no, .no] := by
  let R (s : Sl) : Env' := [.va d, .va (.int k), s, .no]
  have loop := forL_er (g := gN 2) (b := (sSeq (sIf (tOrB (tNotB (eT (eChain dLe dLe (eC (.int 1)) (eB (on1 dLen) [(.ev (eVar 2))]) (eC (.int 2))))) (tNotB (eT (eB (on1 dAll) [(.ev (eL (eComp (iStrD (eVar 2)) [3] (gN 3) cYes (e2 dInS (.ev (eVar 3)) (.ev (eC (.str "0123456789")))))))])))) (sRaise "InvalidText" (eVar 1)) sNx)
    (sIf (tAndB (eT (e2 dEq (.ev (eB (on1 dLen) [(.ev (eVar 2))])) (.ev (eC (.int 2))))) (eT (e2 dEq (.ev (e2 dIxS (.ev (eVar 2)) (.ev (eC (.int 0))))) (.ev (eC (.str "0")))))) (sRaise "InvalidText" (eVar 1)) sNx)))
    (c := "InvalidText") (d := .int k) (fun ρ => ∃ s, Fre s ∧ ρ = R s) (fun ρ => ∃ s, Fre s ∧ ρ = R s) (fun w : Str => D.str w) bw ws (R .no) ⟨.no, .no, rfl⟩ (fun w hw ρ hI => by
      obtain ⟨s, hs, rfl⟩ := hI
      refine ⟨R (.va (.str w)), ?_, ?_⟩
      · show (if isIo (R s)[2]? = true then none else some ((R s).set 2 (.va (.str w)))) = _
        rw [show isIo (R s)[2]? = false from hs.io]
        rfl
      have t1 := c1_ev (a := d) (b := .int k) (hl w hw)
      by_cases b1 : bw1 w = true
      · have hb : bw w = true := by unfold bw; rw [b1]; rfl
        rw [if_pos hb]
        refine ⟨R (.va (.str w)), seq_er ?_, .va (.str w), .va _, rfl⟩
        rw [sIf_def, show R (.va (.str w)) = [.va d, .va (.int k), .va (.str w), .no] from rfl, t1, fl_ok, b1]
        rfl
      · have b1' : bw1 w = false := by simpa using b1
        have t2 := c2_ev (a := d) (b := .int k) (hl w hw) b1'
        have q : ∀ f g : SM, sIf (tOrB (tNotB (eT (eChain dLe dLe (eC (.int 1)) (eB (on1 dLen) [(.ev (eVar 2))]) (eC (.int 2))))) (tNotB (eT (eB (on1 dAll) [(.ev (eL (eComp (iStrD (eVar 2)) [3] (gN 3) cYes (e2 dInS (.ev (eVar 3)) (.ev (eC (.str "0123456789")))))))])))) f sNx (R (.va (.str w))) = .nx (R (.va (.str w))) := fun f g => by
          rw [sIf_def, show R (.va (.str w)) = [.va d, .va (.int k), .va (.str w), .no] from rfl, t1, fl_ok, b1']
          rfl
        rw [seq_nx (q _ sNx)]
        have hbw : bw w = bw2 w := by unfold bw; rw [b1']; rfl
        rw [hbw]
        by_cases b2 : bw2 w = true
        · rw [if_pos b2]
          refine ⟨R (.va (.str w)), ?_, .va (.str w), .va _, rfl⟩
          rw [sIf_def, show R (.va (.str w)) = [.va d, .va (.int k), .va (.str w), .no] from rfl, t2, fl_ok, b2]
          rfl
        · rw [if_neg b2]
          refine ⟨R (.va (.str w)), ?_, .va (.str w), .va _, rfl⟩
          have b2' : bw2 w = false := by simpa using b2
          rw [sIf_def, show R (.va (.str w)) = [.va d, .va (.int k), .va (.str w), .no] from rfl, t2, fl_ok, b2']
          rfl)
  have it : iS (eVar 0) (R .no) = .ok (ws.map .str) (R .no) := it_seq (f := eVar 0) (x := d) rfl hd
  unfold s_numbers_of runDef
  show (match b_numbers_of (R .no) with
    | .rt d ρ => Out.ok d (outIo 2 ρ)
    | .nx ρ => .ok .non (outIo 2 ρ)
    | .er c d ρ => .err c d (outIo 2 ρ)
    | _ => .stuck) = _
  unfold b_numbers_of
  by_cases hb : ws.any bw = true
  · rw [if_pos hb] at loop ⊢
    obtain ⟨ρ', e, s, hs, rfl⟩ := loop
    rw [seq_er (c := "InvalidText") (d := .int k) (ρ1 := R s) (by rw [sFor_def, it, fl_ok]; exact e)]
    rcases hs with rfl | ⟨x, rfl⟩ <;> rfl
  · rw [if_neg hb] at loop ⊢
    obtain ⟨ρ', e, s, hs, rfl⟩ := loop
    rw [seq_nx (ρ1 := R s) (by rw [sFor_def, it, fl_ok]; exact e)]
    have hgood : ∀ w ∈ ws, bw1 w = false := fun w hw => by
      have := List.any_eq_false.mp (by simpa using hb) w hw
      unfold bw at this
      simp at this
      exact this.1
    have it2 : iS (eVar 0) (R s) = .ok (ws.map .str) (R s) := it_seq (f := eVar 0) (x := d) rfl hd
    have c := comp_map (l := ws) (g := gN 2) (c := cYes) (f := eB (on1 dIntT) [(.ev (eVar 2))]) (ws := [2]) (fun w : Str => D.str w) (fun w : Str => D.int (wv w)) it2 (by rcases hs with rfl | ⟨x, rfl⟩ <;> rfl) (by omega) fun w hw => by
      obtain ⟨h1, h2⟩ := wv_ok (hgood w hw)
      have hi : dIntT (.str w) = some (.int (wv w)) := by
        show (if w.length ≤ 640 then (PySem.intText? w).map D.int else none) = _
        rw [if_pos (by omega), h1]
        rfl
      have g0 : gN 2 (.str w) (wipeR (R s) [2]) = some (R (.va (.str w))) := by rcases hs with rfl | ⟨x, rfl⟩ <;> rfl
      refine step_of (b := true) (y := .int (wv w)) g0 rfl (by rw [eB_1, show eVar 2 (R (.va (.str w))) = .ok (.str w) (R (.va (.str w))) from rfl, bind_ok, hi]; rfl) ?_ ?_
      · rcases hs with rfl | ⟨x, rfl⟩ <;> rfl
      · rcases hs with rfl | ⟨x, rfl⟩ <;> rfl
    rw [sRet_def, eB_1, eL_def, c]
    rcases hs with rfl | ⟨x, rfl⟩ <;> rfl
end Ma
end

section
set_option maxRecDepth 100000
set_option linter.all false
set_option exponentiation.threshold 100000
namespace Ma
open PySem PySem.Spec PyProof.Rows L2 DL Wk
/-! states of a store, a store made -/
theorem SqI.tup {d : D} {ns : List Int} (h : SqI d ns) : dTuple d = some (.tup (ns.map .int)) := by
  unfold SqI at h
  unfold dTuple
  rw [h]
  rfl
def okR (zs r : List Int) : Bool := decide (r.length = zs.length) && (r.zip zs).all fun p => decide (0 ≤ p.1) && decide (p.1 < p.2)
theorem zipD_ints : ∀ (xs cs : List Int), zipD (xs.map .int) (cs.map .int) = (xs.zip cs).map fun p => .tup [.int p.1, .int p.2]
  | [], _ => rfl
  | _ :: _, [] => rfl
  | x :: xs, c :: cs => by
    show D.tup [.int x, .int c] :: zipD (xs.map .int) (cs.map .int) = _
    rw [zipD_ints xs cs]
    rfl
theorem v_is_state_of {d : D} {zs r : List Int} (hd : SqI d zs) (hl : zs.length < 1000) : s_is_state_of [.va d, .va (rD r)] = .ok (.bl (okR zs r)) [.no, .no] := by
  refine run_rt (ρ := [.va d, .va (rD r), .no, .no]) ?_
  show b_is_state_of [.va d, .va (rD r), .no, .no] = _
  have h1 : s_is_sequence [.va (rD r)] = .ok (.bl true) [.no] := v_is_sequence (d := rD r) rfl
  by_cases hlen : r.length = zs.length
  · unfold b_is_state_of
    refine (seq_nx (ρ1 := [.va d, .va (rD r), .no, .no]) ?_).trans ?_
    · simp [outR1 _ h1, hd.len, rD_len, hlen]
    · have hcomp := comp_map (it := iZp (eVar 1) (eVar 0)) (ws := [2, 3]) (g := gS 2 (gsCons (gN 2) (gsCons (gN 3) gsNil))) (c := cYes) (f := eCall s_is_index [.ev (eVar 2), .ev (eVar 3)])
        (ρ := [.va d, .va (rD r), .no, .no]) (l := r.zip zs) (fun p => .tup [.int p.1, .int p.2]) (fun p => .bl (decide (0 ≤ p.1) && decide (p.1 < p.2))) (by rw [it_zip (eVar_1 _ _ _) (eVar_0 _ _) (show dItems (rD r) = some (r.map .int) from rfl) hd, zipD_ints]) rfl (by rw [List.length_zip]; omega) fun p hp => by
          have hx := v_is_index (d := .int p.1) p.2 rfl
          have hx2 : isX (.int p.1) p.2 = (decide (0 ≤ p.1) && decide (p.1 < p.2)) := rfl
          rw [hx2] at hx
          simp [stepC, wipeR, gS, dItems, gsCons, gN, gsNil, isIo, restore, outR2 _ hx]
      rw [sRet_def, eB_1, eL_def, hcomp, bind_ok, bind_ok, all_map, lift_some, fl_ok]
      unfold okR
      rw [decide_eq_true hlen, Bool.true_and]
  · unfold b_is_state_of
    refine (seq_rt (d := .bl false) (ρ1 := [.va d, .va (rD r), .no, .no]) ?_).trans (by unfold okR; rw [decide_eq_false hlen]; rfl)
    have hlen' : ¬ ((r.length : Int) = zs.length) := by omega
    simp [outR1 _ h1, hd.len, rD_len, hlen']
theorem numD_zip {α : Type} (f : α → D) : ∀ (l : List α) (i : Nat), numD i (l.map f) = (l.zipIdx i).map fun p => D.tup [.int (p.2 : Int), f p.1]
  | [], _ => rfl
  | x :: xs, i => by
    show D.tup [.int (i : Int), f x] :: numD (i + 1) (xs.map f) = _
    rw [numD_zip f xs (i + 1), List.zipIdx_cons]
    rfl
def keyR (r : List Int) : List Key := r.map Sum.inl
theorem keyR_inj {r s : List Int} (h : keyR r = keyR s) : r = s := by
  unfold keyR at h
  exact (List.map_inj_right (fun a b e => Sum.inl.inj e)).mp h
theorem keyT_rD (r : List Int) : keyT (rD r) = some (keyR r) := by
  show (asIs (r.map .int)).map (fun ns => ns.map Sum.inl) = _
  rw [asIs_map]
  rfl
/-- the dict of the places -/
theorem dcL_rows {ρ : Env'} {ws : List Nat} {g : Tgt} {fk fv : EM D} : ∀ (l : List (List Int × Nat)) (ks : List (List Key)) (ds : List D), (∀ p ∈ l, ∃ ρ1, g (.tup [.int (p.2 : Int), rD p.1]) (wipeR ρ ws) = some ρ1 ∧ fk ρ1 = .ok (rD p.1) ρ1 ∧ fv ρ1 = .ok (.int (p.2 : Int)) ρ1 ∧ restore ρ ρ1 ws = ρ) → (∀ p ∈ l, keyR p.1 ∉ ks) → (l.map (·.1)).Nodup →
    dcL ws g fk fv (l.map fun p => D.tup [.int (p.2 : Int), rD p.1]) ks ds ρ = .ok (.dT (ks ++ l.map fun p => keyR p.1) (ds ++ l.map fun p => D.int (p.2 : Int))) ρ
  | [], ks, ds, _, _, _ => by simp [dcL]
  | p :: l, ks, ds, h, hn, nd => by
    obtain ⟨ρ1, h1, h2, h3, h4⟩ := h p List.mem_cons_self
    have hk : (ks.any fun x => decide (x = keyR p.1)) = false := by
      refine List.any_eq_false.mpr fun x hx => ?_
      simp
      intro z
      exact hn p List.mem_cons_self (z ▸ hx)
    rw [List.map_cons]
    show (match g (.tup [.int (p.2 : Int), rD p.1]) (wipeR ρ ws) with
      | none => Out.stuck
      | some ρ1 => match fk ρ1 with
        | .ok y ρ2 => match fv ρ2 with
          | .ok z ρ3 => match keyT y with
            | some k => if (ks.any fun x => decide (x = k)) = true then .stuck else dcL ws g fk fv (l.map fun p : List Int × Nat => D.tup [.int (p.2 : Int), rD p.1]) (ks ++ [k]) (ds ++ [z]) (restore ρ ρ3 ws)
            | none => .stuck
          | _ => .stuck
        | _ => .stuck) = _
    rw [h1]
    simp only [h2, h3, keyT_rD, hk, h4, Bool.false_eq_true, if_false]
    rw [List.map_cons] at nd
    obtain ⟨nd1, nd2⟩ := List.nodup_cons.mp nd
    rw [dcL_rows l (ks ++ [keyR p.1]) (ds ++ [D.int (p.2 : Int)]) (fun q hq => h q (List.mem_cons_of_mem _ hq)) (fun q hq hm => ?_) nd2]
    · simp
    · rcases List.mem_append.mp hm with z | z
      · exact hn q (List.mem_cons_of_mem _ hq) z
      · have e := keyR_inj (List.mem_singleton.mp z)
        exact nd1 (by rw [← e]; exact List.mem_map_of_mem hq)
abbrev stN : List Str := ["key_count", "sizes", "states", "_index", "_found"]
def stV (zs : List Int) (rows : List (List Int)) : List D := [.int zs.length, rD zs, .tup (rows.map rD), .dT (rows.map keyR) ((rows.zipIdx 0).map fun p => D.int (p.2 : Int)), .dK [] []]
def stD (zs : List Int) (rows : List (List Int)) : D := .ins "Store" stN (stV zs rows)
/-- what a store is made of -/
structure Ok (zs : List Int) (rows : List (List Int)) : Prop where
  z0 : zs ≠ []
  z1 : ∀ z ∈ zs, 0 < z ∧ z ≤ 100
  z2 : zs.length ≤ 100
  r0 : rows ≠ []
  r1 : rows.length < 64
  r2 : ∀ r ∈ rows, okR zs r = true
theorem okR_len {zs r : List Int} (h : okR zs r = true) : r.length = zs.length := by
  unfold okR at h
  simp only [Bool.and_eq_true, decide_eq_true_eq] at h
  exact h.1
theorem okR_bd {zs r : List Int} (h : okR zs r = true) (hz : ∀ z ∈ zs, z ≤ 100) : TS.Bd 1000 r := fun m hm => by
  unfold okR at h
  simp only [Bool.and_eq_true, decide_eq_true_eq, List.all_eq_true] at h
  obtain ⟨hl, ha⟩ := h
  obtain ⟨i, hi, e⟩ := List.mem_iff_getElem.mp hm
  have hi2 : i < zs.length := by omega
  have := ha (r[i], zs[i]) (List.mem_iff_getElem.mpr ⟨i, by rw [List.length_zip]; omega, by simp⟩)
  have hz' := hz zs[i] (List.getElem_mem hi2)
  rw [e] at this
  simp only at this
  omega
theorem Ok.inj {zs : List Int} {rows : List (List Int)} (o : Ok zs rows) : Inj rows := inj_ok (d := zs.length) fun t ht => ⟨okR_len (o.r2 t ht), okR_bd (o.r2 t ht) fun z hz => (o.z1 z hz).2⟩
theorem Ok.okTs {zs : List Int} {rows : List (List Int)} (o : Ok zs rows) : okTs rows = true := by
  have hr := o.r0
  cases rows with
  | nil => exact absurd rfl hr
  | cons t ts =>
    unfold DL.okTs
    have ht : t.length = zs.length := okR_len (o.r2 t List.mem_cons_self)
    have h1 : 1 ≤ t.length := by
      rw [ht]
      exact List.length_pos_iff.mpr o.z0
    simp only [Bool.and_eq_true, decide_eq_true_eq, List.all_eq_true]
    refine ⟨h1, fun u hu => ?_, o.r1⟩
    unfold okT
    have hb := okR_bd (o.r2 u hu) fun z hz => (o.z1 z hz).2
    simp only [Bool.and_eq_true, beq_iff_eq, List.all_eq_true, decide_eq_true_eq]
    exact ⟨(okR_len (o.r2 u hu)).trans ht.symm, fun i hi => hb i hi⟩
theorem asTups_rows : ∀ rows : List (List Int), asTups (rows.map rD) = some rows
  | [] => rfl
  | r :: rows => by
    show (match asIsT (rD r), asTups (rows.map rD) with
      | some t, some ts => some (t :: ts)
      | _, _ => none) = _
    rw [asTups_rows rows, show asIsT (rD r) = some r from asIs_map r]
theorem v_init {d : D} {zs : List Int} {rows : List (List Int)} (hd : SqI d zs) (o : Ok zs rows) : s_Store___init__ [.ow true (.obj "Store" [] []), .va d, .va (.lst (rows.map rD))] = .ok .non [.ow true (.obj "Store" stN (stV zs (sortSet rows))), .no, .no] := by
  have dat_d : dat d = true ∧ isSq d = true := by
    unfold SqI at hd
    cases d <;> first | exact ⟨rfl, rfl⟩ | cases hd
  let O (ns : List Str) (xs : List D) (a b : Sl) : Env' := [.ow true (.obj "Store" ns xs), .va d, .va (.lst (rows.map rD)), a, b, .no]
  obtain ⟨aS, mS⟩ := sortSet_spec o.inj
  have nd : (sortSet rows).Nodup := aS.imp fun h e => by
    rw [e] at h
    omega
  have hlen : (sortSet rows).length ≤ 64 := by
    have h1 : ∀ ks : List (List Int), (sortSet ks).length ≤ ks.length := by
      have h0 : ∀ (x : List Int) (ys : List (List Int)), (insT x ys).length ≤ ys.length + 1 := by
        intro x ys
        induction ys with
        | nil => simp [insT]
        | cons y ys ih =>
          unfold insT
          split
          · simp
          · split
            · simp
            · simp only [List.length_cons]
              omega
      intro ks
      induction ks with
      | nil => simp [sortSet]
      | cons x xs ih =>
        have := h0 x (sortSet xs)
        show (insT x (sortSet xs)).length ≤ _
        simp only [List.length_cons]
        omega
    have := h1 rows
    have := o.r1
    omega
  suffices h : ∃ a b, b_Store___init__ (O [] [] .no .no) = .nx (O stN (stV zs (sortSet rows)) a b) by
    obtain ⟨a, b, h⟩ := h
    unfold s_Store___init__ runDef
    show (match b_Store___init__ (O [] [] .no .no) with
      | .rt d ρ => Out.ok d (outIo 3 ρ)
      | .nx ρ => .ok .non (outIo 3 ρ)
      | .er c d ρ => .err c d (outIo 3 ρ)
      | _ => .stuck) = _
    rw [h]
    rfl
  unfold b_Store___init__
  -- the sizes
  have sq := v_is_sequence dat_d.1
  rw [dat_d.2] at sq
  have h0 : zs.length ≠ 0 := fun z => o.z0 (List.length_eq_zero_iff.mp z)
  have cz := comp_map (it := iS (eVar 1)) (ws := [5]) (g := gN 5) (c := cYes) (f := (eAnd (eCall s_is_number [(.ev (eVar 5))]) (e2 dGt (.ev (eVar 5)) (.ev (eC (.int 0)))))) (ρ := O [] [] .no .no) (l := zs) D.int (fun z => .bl (decide (0 < z))) (it_seq (f := eVar 1) (x := d) rfl hd) rfl (by have := o.z2; omega) fun z hz => by
    have hx := v_is_number (d := .int z) rfl
    have hz0 := (o.z1 z hz).1
    have hx2 : isN (.int z) = true := by
      show decide (0 ≤ z) = true
      exact decide_eq_true (by omega)
    rw [hx2] at hx
    simp [stepC, wipeR, gN, isIo, restore, outR1 _ hx, O, dCmp]
  have q1 : sIf (tOrB (tNotB (eT (eCall s_is_sequence [(.ev (eVar 1))]))) (tOrB (eT (e2 dEq (.ev (eB (on1 dLen) [(.ev (eVar 1))])) (.ev (eC (.int 0))))) (tNotB (eT (eB (on1 dAll) [(.ev (eL (eComp (iS (eVar 1)) [5] (gN 5) cYes (eAnd (eCall s_is_number [(.ev (eVar 5))]) (e2 dGt (.ev (eVar 5)) (.ev (eC (.int 0))))))))]))))) (sRaise "InvalidStore" (eC (.int 0))) sNx (O [] [] .no .no) = .nx (O [] [] .no .no) := by
    have hall : (zs.all fun z => decide (0 < z)) = true := List.all_eq_true.mpr fun z hz => decide_eq_true (o.z1 z hz).1
    have e1' : eVar 1 (O [] [] .no .no) = .ok d (O [] [] .no .no) := rfl
    simp only [sIf_def, tOr_def, tNot_def, eT_ok, call_1, e2_ev, eB_1, e1', bind_ok, outR1 _ sq, lift_some, asB_bl, hd.len, eC_go, dEq_int, eL_def, cz, all_map, hall]
    simp [o.z0]
  rw [seq_nx q1]
  have hr0 : rows.length ≠ 0 := fun z => o.r0 (List.length_eq_zero_iff.mp z)
  have sq2 : s_is_sequence [.va (.lst (rows.map rD))] = .ok (.bl true) [.no] := v_is_sequence (d := .lst (rows.map rD)) rfl
  have q2 : sIf (tOrB (tNotB (eT (eCall s_is_sequence [(.ev (eVar 2))]))) (eT (e2 dEq (.ev (eB (on1 dLen) [(.ev (eVar 2))])) (.ev (eC (.int 0)))))) (sRaise "InvalidStore" (eC (.int 1))) sNx (O [] [] .no .no) = .nx (O [] [] .no .no) := by
    have e2' : eVar 2 (O [] [] .no .no) = .ok (.lst (rows.map rD)) (O [] [] .no .no) := rfl
    simp only [sIf_def, tOr_def, tNot_def, eT_ok, call_1, e2_ev, eB_1, e2', bind_ok, outR1 _ sq2, lift_some, asB_bl, dLen_lst, eC_go, dEq_int]
    simp [o.r0]
  rw [seq_nx q2]
  -- the states
  have q3 : ∃ a b, sFor (iEn (eVar 2)) (gS 2 (gsCons (gN 3) (gsCons (gN 4) gsNil))) (sIf (tNotB (eT (eCall s_is_state_of [(.ev (eVar 1)), (.ev (eVar 4))]))) (sRaise "InvalidStore" (e2 dAdd (.ev (eC (.int 2))) (.ev (eVar 3)))) sNx) (O [] [] .no .no) = .nx (O [] [] a b) ∧ Fre a ∧ Fre b := by
    have it : iEn (eVar 2) (O [] [] .no .no) = .ok ((rows.zipIdx 0).map fun p => D.tup [.int (p.2 : Int), rD p.1]) (O [] [] .no .no) := by
      rw [it_enum (f := eVar 2) (x := .lst (rows.map rD)) (xs := rows.map rD) rfl rfl, numD_zip]
    have z := forL_er (c := "") (d := .non) (g := gS 2 (gsCons (gN 3) (gsCons (gN 4) gsNil))) (b := sIf (tNotB (eT (eCall s_is_state_of [(.ev (eVar 1)), (.ev (eVar 4))]))) (sRaise "InvalidStore" (e2 dAdd (.ev (eC (.int 2))) (.ev (eVar 3)))) sNx) (fun ρ => ∃ a b, Fre a ∧ Fre b ∧ ρ = O [] [] a b) (fun _ => True) (fun p : List Int × Nat => D.tup [.int (p.2 : Int), rD p.1]) (fun _ => false) (rows.zipIdx 0) (O [] [] .no .no) ⟨.no, .no, .no, .no, rfl⟩ fun p hp ρ hI => by
      obtain ⟨a, b, ha, hb, rfl⟩ := hI
      have hr : p.1 ∈ rows := by
        have := List.mem_zipIdx hp
        simp at this
        obtain ⟨_, hh⟩ := this
        rw [hh]
        exact List.getElem_mem _
      have vs := v_is_state_of (d := d) (r := p.1) hd (by have := o.z2; omega)
      rw [o.r2 _ hr] at vs
      refine ⟨O [] [] (.va (.int (p.2 : Int))) (.va (rD p.1)), ?_, ?_⟩
      · rcases ha with rfl | ⟨x, rfl⟩ <;> rcases hb with rfl | ⟨y, rfl⟩ <;> rfl
      · rw [if_neg Bool.false_ne_true]
        refine ⟨O [] [] (.va (.int (p.2 : Int))) (.va (rD p.1)), ?_, .va (.int (p.2 : Int)), .va (rD p.1), .va _, .va _, rfl⟩
        have f1 : eVar 1 (O [] [] (.va (.int (p.2 : Int))) (.va (rD p.1))) = .ok d (O [] [] (.va (.int (p.2 : Int))) (.va (rD p.1))) := rfl
        have f4 : eVar 4 (O [] [] (.va (.int (p.2 : Int))) (.va (rD p.1))) = .ok (rD p.1) (O [] [] (.va (.int (p.2 : Int))) (.va (rD p.1))) := rfl
        simp only [sIf_def, tNot_def, eT_ok, call_2, f1, f4, bind_ok, outR2 _ vs, lift_some, asB_bl, fl_ok]
        simp
    rw [if_neg (by simp)] at z
    obtain ⟨ρ', h1, a, b, ha, hb, rfl⟩ := z
    exact ⟨a, b, by rw [sFor_def, it, fl_ok]; exact h1, ha, hb⟩
  obtain ⟨a, b, q3, ha, hb⟩ := q3
  rw [seq_nx q3]
  refine ⟨a, b, ?_⟩
  have g1 : ∀ ns xs, eVar 1 (O ns xs a b) = .ok d (O ns xs a b) := fun _ _ => rfl
  have g2 : ∀ ns xs, eVar 2 (O ns xs a b) = .ok (.lst (rows.map rD)) (O ns xs a b) := fun _ _ => rfl
  have fld : ∀ (f : Str) (e : EM D) (x : D) (ns ns' : List Str) (xs xs' : List D), e (O ns xs a b) = .ok x (O ns xs a b) → f ∉ ns → ns.length < 900 → ns ++ [f] = ns' → xs ++ [x] = xs' → sFldD "Store" 0 f e (O ns xs a b) = .nx (O ns' xs' a b) := fun f e x ns ns' xs xs' he h1 h2 h3 h4 => by
    subst h3 h4
    unfold sFldD
    rw [he, fl_ok]
    show (match ownO "Store" (O ns xs a b) 0 with
      | some (b, ns, xs) => if f ∉ ns ∧ ns.length < 900 then Fl.nx ((O ns xs a _).set 0 (.ow b (.obj "Store" (ns ++ [f]) (xs ++ [x])))) else .stuck
      | none => .stuck) = _
    have ho : ownO "Store" (O ns xs a b) 0 = some (true, ns, xs) := by
      show (if (("Store" : Str) = ("Store" : Str)) then some (true, ns, xs) else none) = _
      exact if_pos rfl
    rw [ho]
    simp only
    rw [if_pos ⟨h1, h2⟩]
    rfl
  rw [seq_nx (fld "key_count" _ (.int zs.length) [] ["key_count"] [] [.int zs.length] (by rw [eB_1, g1, bind_ok, hd.len]; rfl) (by decide) (by decide) rfl rfl)]
  rw [seq_nx (fld "sizes" _ (rD zs) ["key_count"] ["key_count", "sizes"] [.int zs.length] [.int zs.length, rD zs] (by rw [eB_1, g1, bind_ok, hd.tup]; rfl) (by decide) (by decide) rfl rfl)]
  have sts : eB (on1 dTuple) [(.ev (eSortSet (eL (eComp (iS (eVar 2)) [4] (gN 4) cYes (eB (on1 dTuple) [(.ev (eVar 4))])))))] (O ["key_count", "sizes"] [.int zs.length, rD zs] a b) = .ok (.tup ((sortSet rows).map rD)) (O ["key_count", "sizes"] [.int zs.length, rD zs] a b) := by
    have c := comp_map (it := iS (eVar 2)) (ws := [4]) (g := gN 4) (c := cYes) (f := eB (on1 dTuple) [(.ev (eVar 4))]) (ρ := O ["key_count", "sizes"] [.int zs.length, rD zs] a b) (l := rows) rD rD (it_seq (f := eVar 2) (x := .lst (rows.map rD)) rfl rfl) (by rcases hb with rfl | ⟨y, rfl⟩ <;> rfl) (by have := o.r1; omega) fun r hr => by
      have ht : dTuple (rD r) = some (rD r) := rfl
      rcases hb with rfl | ⟨y, rfl⟩ <;> simp [stepC, wipeR, gN, isIo, restore, O, ht]
    have hs : dSortSet (.lst (rows.map rD)) = some (.lst ((sortSet rows).map rD)) := by
      show (match asTups (rows.map rD) with
        | some ts => if DL.okTs ts = true then some (D.lst ((sortSet ts).map tupD)) else none
        | none => none) = _
      rw [asTups_rows]
      simp only
      rw [if_pos o.okTs]
      rfl
    rw [eB_1]
    show ((eL _ _).bind _ |>.bind _) = _
    rw [eL_def, c, bind_ok, bind_ok, hs, lift_some, bind_ok]
    rfl
  rw [seq_nx (fld "states" _ (.tup ((sortSet rows).map rD)) ["key_count", "sizes"] ["key_count", "sizes", "states"] [.int zs.length, rD zs] [.int zs.length, rD zs, .tup ((sortSet rows).map rD)] sts (by decide) (by decide) rfl rfl)]
  let O3 : Env' := O ["key_count", "sizes", "states"] [.int zs.length, rD zs, .tup ((sortSet rows).map rD)] a b
  have ix : eDcT (iEn (e1 (dFld "Store" "states") (.br 0))) [3, 4] (gS 2 (gsCons (gN 3) (gsCons (gN 4) gsNil))) (eVar 4) (eVar 3) O3 = .ok (.dT ((sortSet rows).map keyR) (((sortSet rows).zipIdx 0).map fun p => D.int (p.2 : Int))) O3 := by
    have f1 : e1 (dFld "Store" "states") (.br 0) O3 = .ok (.tup ((sortSet rows).map rD)) O3 := by
      show Out.lift O3 (dFld "Store" "states" (.ins "Store" ["key_count", "sizes", "states"] [.int zs.length, rD zs, .tup ((sortSet rows).map rD)])) = _
      have : dFld "Store" "states" (.ins "Store" ["key_count", "sizes", "states"] [.int zs.length, rD zs, .tup ((sortSet rows).map rD)]) = some (.tup ((sortSet rows).map rD)) := by
        show (if (("Store" : Str) = ("Store" : Str)) then (if (("key_count" : Str) = ("states" : Str)) then some (D.int zs.length) else if (("sizes" : Str) = ("states" : Str)) then some (rD zs) else if (("states" : Str) = ("states" : Str)) then some (D.tup ((sortSet rows).map rD)) else none) else none) = _
        rw [if_pos rfl, if_neg (by decide), if_neg (by decide), if_pos rfl]
      rw [this]
      rfl
    have it : iEn (e1 (dFld "Store" "states") (.br 0)) O3 = .ok (((sortSet rows).zipIdx 0).map fun p => D.tup [.int (p.2 : Int), rD p.1]) O3 := by
      rw [it_enum (x := .tup ((sortSet rows).map rD)) (xs := (sortSet rows).map rD) f1 rfl, numD_zip]
    unfold eDcT
    rw [it, bind_ok, if_pos ⟨by rcases ha with rfl | ⟨x, rfl⟩ <;> rcases hb with rfl | ⟨y, rfl⟩ <;> rfl, by rw [List.length_map, List.length_zipIdx]; omega⟩]
    have z := dcL_rows (ρ := O3) (ws := [3, 4]) (g := gS 2 (gsCons (gN 3) (gsCons (gN 4) gsNil))) (fk := eVar 4) (fv := eVar 3) ((sortSet rows).zipIdx 0) [] [] (fun p _ => ⟨O ["key_count", "sizes", "states"] [.int zs.length, rD zs, .tup ((sortSet rows).map rD)] (.va (.int (p.2 : Int))) (.va (rD p.1)), rfl, rfl, rfl, by rcases ha with rfl | ⟨x, rfl⟩ <;> rcases hb with rfl | ⟨y, rfl⟩ <;> rfl⟩) (fun p _ h => by cases h) (by simpa using nd)
    rw [z]
    have e3 : ((sortSet rows).zipIdx 0).map (fun p => keyR p.1) = (sortSet rows).map keyR := by
      have : (fun p : List Int × Nat => keyR p.1) = keyR ∘ Prod.fst := rfl
      rw [this, ← List.map_map, List.zipIdx_map_fst]
    rw [e3]
    rfl
  rw [seq_nx (fld "_index" _ _ ["key_count", "sizes", "states"] ["key_count", "sizes", "states", "_index"] _ [.int zs.length, rD zs, .tup ((sortSet rows).map rD), .dT ((sortSet rows).map keyR) (((sortSet rows).zipIdx 0).map fun p => D.int (p.2 : Int))] ix (by decide) (by decide) rfl rfl)]
  exact fld "_found" (eC (.dK [] [])) (.dK [] []) ["key_count", "sizes", "states", "_index"] stN _ (stV zs (sortSet rows)) rfl (by decide) (by decide) rfl rfl
end Ma
end

section
set_option maxRecDepth 100000
set_option linter.all false
set_option exponentiation.threshold 100000
namespace Ma
open PySem PySem.Spec PyProof.Rows L2 DL Wk
/-! stores compared, made by a call -/
theorem eqv_rows : ∀ a b : List (List Int), PyData.eqvAll (a.map pyR) (b.map pyR) = decide (a = b)
  | [], [] => by simp [PyData.eqvAll]
  | [], y :: s => by simp [PyData.eqvAll]
  | x :: r, [] => by simp [PyData.eqvAll]
  | x :: r, y :: s => by
    simp only [List.map_cons, PyData.eqvAll, eqv_row, eqv_rows r s]
    by_cases h : x = y <;> by_cases k : r = s <;> simp [h, k]
theorem sh_tups (rs : List (List Int)) : SeqAt.shaped (.tuple (rs.map pyR)) = true := by
  have := depth_rows rs
  simp [SeqAt.shaped, PyData.canLay0, canLay_rows, PyData.depth]
  omega
theorem dEq_tups (a b : List (List Int)) : dEq (.tup (a.map rD)) (.tup (b.map rD)) = some (.bl (decide (a = b))) := by
  have h : ∀ l : List (List Int), toPy (.tup (l.map rD)) = some (.tuple (l.map pyR)) := fun l => by
    show (toPys (l.map rD)).map PyData.tuple = _
    rw [toPys_rows]
    rfl
  unfold dEq dEqv
  rw [h, h]
  simp only [sh_tups, and_self, if_true, PyData.eqv, eqv_rows, Option.map_some]
theorem isC_st (zs : List Int) (rows : List (List Int)) : dIsC "Store" (stD zs rows) = some (.bl true) := by
  show (if ("Store" : Str) = ("Store" : Str) then some (D.bl true) else none) = _
  exact if_pos rfl
theorem fldAt_cons (f n : Str) (ns : List Str) (d : D) (ds : List D) : DL.fldAt f (n :: ns) (d :: ds) = if n = f then some d else DL.fldAt f ns ds := rfl
theorem dFld_st (f : Str) (zs : List Int) (rows : List (List Int)) : dFld "Store" f (stD zs rows) = DL.fldAt f stN (stV zs rows) := by
  show (if ("Store" : Str) = ("Store" : Str) then DL.fldAt f stN (stV zs rows) else none) = _
  exact if_pos rfl
theorem sizes_st (zs : List Int) (rows : List (List Int)) : dFld "Store" "sizes" (stD zs rows) = some (rD zs) := by
  rw [dFld_st]
  unfold stN stV
  rw [fldAt_cons, if_neg (by decide), fldAt_cons, if_pos rfl]
theorem states_st (zs : List Int) (rows : List (List Int)) : dFld "Store" "states" (stD zs rows) = some (.tup (rows.map rD)) := by
  rw [dFld_st]
  unfold stN stV
  rw [fldAt_cons, if_neg (by decide), fldAt_cons, if_neg (by decide), fldAt_cons, if_pos rfl]
theorem v_eq (zs ys : List Int) (a b : List (List Int)) : s_Store___eq__ [.va (stD zs a), .va (stD ys b)] = .ok (.bl (decide (zs = ys) && decide (a = b))) [.no, .no] := by
  refine run_rt (ρ := [.va (stD zs a), .va (stD ys b)]) ?_
  show b_Store___eq__ [.va (stD zs a), .va (stD ys b)] = _
  unfold b_Store___eq__
  refine (seq_nx (ρ1 := [.va (stD zs a), .va (stD ys b)]) ?_).trans ?_
  · simp [isC_st]
  · simp only [sRet_def, eAnd_def, e2_ev, e1_ev, eVar_0, eVar_1, bind_ok, sizes_st, lift_some, dEq_row, states_st, dEq_tups]
    cases h : decide (zs = ys) <;> rfl
theorem own_ne (zs ys : List Int) (a b : List (List Int)) : dOwn "Store" true s_Store___eq__ (stD zs a) (stD ys b) = some (.bl (!(decide (zs = ys) && decide (a = b)))) := by
  show (if ("Store" : Str) = "Store" ∧ ("Store" : Str) = "Store" then (match s_Store___eq__ [.va (stD zs a), .va (stD ys b)] with
    | .ok (.bl b) _ => some (D.bl (b != true))
    | _ => none) else none) = _
  rw [if_pos ⟨rfl, rfl⟩, v_eq]
  simp
theorem own_same (zs : List Int) (a : List (List Int)) : dOwn "Store" true s_Store___eq__ (stD zs a) (stD zs a) = some (.bl false) := by
  rw [own_ne]
  simp
/-- a store made by a call -/
theorem makeK {d : D} {zs : List Int} {rows : List (List Int)} (hd : SqI d zs) (o : Ok zs rows) (ρ : Env') : eMakeK "Store" s_Store___init__ [d, .lst (rows.map rD)] ρ = .ok (stD zs (sortSet rows)) ρ := by
  unfold eMakeK
  show (match s_Store___init__ [.ow true (.obj "Store" [] []), .va d, .va (.lst (rows.map rD))] with
    | .ok .non ps' => match madeOf "Store" ps' with
      | some (ns, xs) => Out.ok (D.ins "Store" ns xs) ρ
      | none => .stuck
    | .err e d _ => .err e d ρ
    | _ => .stuck) = _
  rw [v_init hd o]
  show (match (if ("Store" : Str) = "Store" then some (stN, stV zs (sortSet rows)) else none) with
    | some (ns, xs) => Out.ok (D.ins "Store" ns xs) ρ
    | none => .stuck) = _
  rw [if_pos rfl]
  rfl
theorem sorted_id {rows : List (List Int)} (hi : Inj rows) (h : Asc rows) : sortSet rows = rows := by
  obtain ⟨a, b⟩ := sortSet_spec hi
  exact asc_uniq a h b
theorem sorted_perm {rows ss : List (List Int)} (hi : Inj rows) (h : Asc ss) (hm : ∀ z, z ∈ rows ↔ z ∈ ss) : sortSet rows = ss := by
  obtain ⟨a, b⟩ := sortSet_spec hi
  exact asc_uniq a h fun z => (b z).trans (hm z)
end Ma
end

section
set_option maxRecDepth 100000
set_option linter.all false
set_option exponentiation.threshold 100000
namespace Ma
open PySem PySem.Spec PyProof.Rows L2 DL Wk
/-! read_store -/
def wd (l : Str) : List Str := Txt.split l " "
theorem atI_nat {α : Type} (xs : List α) (k : Nat) : atI xs (k : Int) = xs[k]? := by
  unfold atI ixN
  by_cases h : k < xs.length
  · rw [if_pos (by omega), if_pos (by omega)]
    simp
  · rw [if_pos (by omega), if_neg (by omega), List.getElem?_eq_none (by omega)]
    rfl
theorem atI_last {α : Type} (xs : List α) (h : xs ≠ []) : atI xs (-1) = xs.getLast? := by
  have h0 : 0 < xs.length := List.length_pos_iff.mpr h
  unfold atI ixN
  rw [if_neg (by omega), if_pos (by omega), List.getLast?_eq_getElem?]
  show xs[(-1 + (xs.length : Int)).toNat]? = _
  congr 1
  omega
def lastD (acc : List (List Int)) : List Int := acc.getLast?.getD []
def stepOk (acc : List (List Int)) (r : List Int) : Bool := acc.isEmpty || !lexLeI r (lastD acc)
def rowOk (zs : List Int) (w : List Str) : Bool := !(w.any bw) && (decide (w.length = zs.length) && ((w.map wv).zip zs).all fun p => decide (p.1 < p.2))
def rdRows (zs : List Int) : List (List Str) → Nat → List (List Int) → Except Nat (List (List Int))
  | [], _, acc => .ok acc
  | w :: ws, k, acc => if (rowOk zs w && stepOk acc (w.map wv)) = true then rdRows zs ws (k + 1) (acc ++ [w.map wv]) else .error k
abbrev rowB : SM := sSeq (sSet 6 (eCall s_numbers_of [(.ev (eM1 dSplit (e2 dIx (.ev (eVar 1)) (.ev (eVar 5))) (.ev (eC (.str " "))))), (.ev (eVar 5))]))
  (sSeq (sIf (tOrB (eT (e2 dNe (.ev (eB (on1 dLen) [(.ev (eVar 6))])) (.ev (eB (on1 dLen) [(.ev (eVar 3))])))) (tNotB (eT (eB (on1 dAll) [(.ev (eL (eComp (iZp (eVar 6) (eVar 3)) [7, 8] (gS 2 (gsCons (gN 7) (gsCons (gN 8) gsNil))) cYes (e2 dLt (.ev (eVar 7)) (.ev (eVar 8))))))])))) (sRaise "InvalidText" (eVar 5)) sNx)
  (sSeq (sIf (tAndB (eT (e2 dGt (.ev (eB (on1 dLen) [(.br 4)])) (.ev (eC (.int 0))))) (eT (e2 dLeT (.ev (eVar 6)) (.ev (e2 dIx (.br 4) (.ev (e1 dNeg (.ev (eC (.int 1)))))))))) (sRaise "InvalidText" (eVar 5)) sNx)
  (sApp 4 (eVar 6))))
def R4 (text : Str) (lines h : List Str) (zs : List Int) (acc : List (List Int)) (s5 s6 : Sl) : Env' := [.va (.str text), .va (.lst (lines.map .str)), .va (.lst (h.map .str)), .va (rD zs), .ow false (.lst (acc.map rD)), s5, s6, .no, .no]
theorem split_ev {f : EM D} {ρ : Env'} {l s : Str} (hf : f ρ = .ok (.str l) ρ) (hs : (s.length == 0) = false) (hl : l.length ≤ 1000000) : eM1 dSplit f (.ev (eC (.str s))) ρ = .ok (.lst ((Txt.split l s).map .str)) ρ := by
  unfold eM1
  rw [hf, bind_ok]
  show Out.lift ρ (if (s.length == 0) = false ∧ l.length ≤ 1000000 then some (D.lst ((Txt.split l s).map .str)) else none) = _
  rw [if_pos ⟨hs, hl⟩]
  rfl
theorem row_ev {text : Str} {lines h : List Str} {zs : List Int} {acc : List (List Int)} {s6 : Sl} {k : Nat} {l : Str} (h6 : Fre s6) (hl : lines[k]? = some l) (hlen : l.length ≤ 1000000) (hw1 : (wd l).length ≤ 1000) (hw2 : ∀ w ∈ wd l, w.length ≤ 1000) (hacc : acc.length ≤ 1000) :
    if (rowOk zs (wd l) && stepOk acc ((wd l).map wv)) = true then rowB (R4 text lines h zs acc (.va (.int (k : Int))) s6) = .nx (R4 text lines h zs (acc ++ [(wd l).map wv]) (.va (.int (k : Int))) (.va (rD ((wd l).map wv))))
    else ∃ r, rowB (R4 text lines h zs acc (.va (.int (k : Int))) s6) = .er "InvalidText" (.int (k : Int)) (.va (.str text) :: r) := by
  have f1 : eVar 1 (R4 text lines h zs acc (.va (.int (k : Int))) s6) = .ok (.lst (lines.map .str)) (R4 text lines h zs acc (.va (.int (k : Int))) s6) := rfl
  have f5 : eVar 5 (R4 text lines h zs acc (.va (.int (k : Int))) s6) = .ok (.int (k : Int)) (R4 text lines h zs acc (.va (.int (k : Int))) s6) := rfl
  have ix : e2 dIx (.ev (eVar 1)) (.ev (eVar 5)) (R4 text lines h zs acc (.va (.int (k : Int))) s6) = .ok (.str l) (R4 text lines h zs acc (.va (.int (k : Int))) s6) := by
    rw [e2_ev, f1, bind_ok, f5, bind_ok, ix_items (xs := lines.map .str) rfl (by rw [List.getElem?_map, hl]; rfl)]
    rfl
  have sp := split_ev (s := " ") ix rfl hlen
  have no := v_numbers_of (d := .lst ((wd l).map .str)) (ws := wd l) (k := (k : Int)) rfl (by omega) hw2
  have c1 : eCall s_numbers_of [(.ev (eM1 dSplit (e2 dIx (.ev (eVar 1)) (.ev (eVar 5))) (.ev (eC (.str " "))))), (.ev (eVar 5))] (R4 text lines h zs acc (.va (.int (k : Int))) s6) = outR 2 (s_numbers_of [.va (.lst ((wd l).map .str)), .va (.int (k : Int))]) (R4 text lines h zs acc (.va (.int (k : Int))) s6) := by
    rw [call_2, sp, bind_ok, f5, bind_ok]
    rfl
  by_cases hb : (wd l).any bw = true
  · have hr : rowOk zs (wd l) = false := by
      unfold rowOk
      rw [hb]
      rfl
    rw [hr, Bool.false_and, if_neg Bool.false_ne_true]
    rw [if_pos hb] at no
    refine ⟨_, seq_er (ρ1 := R4 text lines h zs acc (.va (.int (k : Int))) s6) ?_⟩
    rw [sSet_def, c1, no]
    rfl
  · rw [if_neg hb] at no
    have hb' : (wd l).any bw = false := by simpa using hb
    let r := (wd l).map wv
    have hr : (wd l).map (fun w => D.int (wv w)) = r.map D.int := by
      show _ = ((wd l).map wv).map D.int
      rw [List.map_map]
      rfl
    rw [hr] at no
    have q1 : sSet 6 (eCall s_numbers_of [(.ev (eM1 dSplit (e2 dIx (.ev (eVar 1)) (.ev (eVar 5))) (.ev (eC (.str " "))))), (.ev (eVar 5))]) (R4 text lines h zs acc (.va (.int (k : Int))) s6) = .nx (R4 text lines h zs acc (.va (.int (k : Int))) (.va (rD r))) := by
      rw [sSet_def, c1, outR2 _ no, fl_ok]
      rcases h6 with rfl | ⟨d, rfl⟩ <;> rfl
    rw [show rowB (R4 text lines h zs acc (.va (.int (k : Int))) s6) = _ from seq_nx q1]
    let ρ : Env' := R4 text lines h zs acc (.va (.int (k : Int))) (.va (rD r))
    have g6 : eVar 6 ρ = .ok (rD r) ρ := rfl
    have g3 : eVar 3 ρ = .ok (rD zs) ρ := rfl
    have g5 : eVar 5 ρ = .ok (.int (k : Int)) ρ := rfl
    have hrl : r.length = (wd l).length := List.length_map ..
    have t1 : (tOrB (eT (e2 dNe (.ev (eB (on1 dLen) [(.ev (eVar 6))])) (.ev (eB (on1 dLen) [(.ev (eVar 3))])))) (tNotB (eT (eB (on1 dAll) [(.ev (eL (eComp (iZp (eVar 6) (eVar 3)) [7, 8] (gS 2 (gsCons (gN 7) (gsCons (gN 8) gsNil))) cYes (e2 dLt (.ev (eVar 7)) (.ev (eVar 8))))))])))) ρ = .ok (!rowOk zs (wd l)) ρ := by
      have cm := comp_map (it := iZp (eVar 6) (eVar 3)) (ws := [7, 8]) (g := gS 2 (gsCons (gN 7) (gsCons (gN 8) gsNil))) (c := cYes) (f := e2 dLt (.ev (eVar 7)) (.ev (eVar 8))) (ρ := ρ) (l := r.zip zs) (fun p => .tup [.int p.1, .int p.2]) (fun p => .bl (decide (p.1 < p.2))) (by rw [it_zip g6 g3 (show dItems (rD r) = some (r.map .int) from rfl) (show dItems (rD zs) = some (zs.map .int) from rfl), zipD_ints]) rfl (by rw [List.length_zip]; omega) fun p hp => by
        simp [stepC, wipeR, gS, dItems, gsCons, gN, gsNil, isIo, restore, ρ, R4, dCmp]
      rw [tOr_def, eT_ok, e2_ev, eB_1, g6, bind_ok, rD_len, lift_some, bind_ok, eB_1, g3, bind_ok, rD_len, lift_some, bind_ok, dNe_int, lift_some, bind_ok]
      rw [show rowOk zs (wd l) = (decide (r.length = zs.length) && (r.zip zs).all fun p => decide (p.1 < p.2)) by
        unfold rowOk
        rw [hb', hrl]
        rfl]
      by_cases hz : r.length = zs.length
      · have hz' : (r.length : Int) = zs.length := by omega
        rw [decide_eq_true hz']
        simp only [asB_bl, lift_some, bind_ok, Bool.not_true, Bool.false_eq_true, if_false]
        rw [tNot_def, eT_ok, eB_1, eL_def, cm, bind_ok, bind_ok, all_map, lift_some, bind_ok, decide_eq_true hz]
        rfl
      · have hz' : ¬ (r.length : Int) = zs.length := by omega
        rw [decide_eq_false hz', decide_eq_false hz]
        rfl
    by_cases hk' : rowOk zs (wd l) = false
    · rw [hk', Bool.false_and, if_neg Bool.false_ne_true]
      refine ⟨_, seq_er (ρ1 := ρ) ?_⟩
      rw [sIf_def, show R4 text lines h zs acc (.va (.int (k : Int))) (.va (rD r)) = ρ from rfl, t1, fl_ok, hk']
      rfl
    · have hk : rowOk zs (wd l) = true := by simpa using hk'
      rw [hk, Bool.true_and]
      have q2 : sIf (tOrB (eT (e2 dNe (.ev (eB (on1 dLen) [(.ev (eVar 6))])) (.ev (eB (on1 dLen) [(.ev (eVar 3))])))) (tNotB (eT (eB (on1 dAll) [(.ev (eL (eComp (iZp (eVar 6) (eVar 3)) [7, 8] (gS 2 (gsCons (gN 7) (gsCons (gN 8) gsNil))) cYes (e2 dLt (.ev (eVar 7)) (.ev (eVar 8))))))])))) (sRaise "InvalidText" (eVar 5)) sNx ρ = .nx ρ := by
        rw [sIf_def, t1, fl_ok, hk]
        rfl
      rw [seq_nx q2]
      have t2 : (tAndB (eT (e2 dGt (.ev (eB (on1 dLen) [(.br 4)])) (.ev (eC (.int 0))))) (eT (e2 dLeT (.ev (eVar 6)) (.ev (e2 dIx (.br 4) (.ev (e1 dNeg (.ev (eC (.int 1)))))))))) ρ = .ok (!stepOk acc r) ρ := by
        have b1 : eB (on1 dLen) [(.br 4)] ρ = .ok (.int (acc.map rD).length) ρ := rfl
        have b2 : e2 dIx (.br 4) (.ev (e1 dNeg (.ev (eC (.int 1))))) ρ = Out.lift ρ (atI (acc.map rD) (-1)) := rfl
        rw [tAnd_def, eT_ok, e2_ev, b1, bind_ok, eC_go, bind_ok]
        show ((Out.lift ρ (some (D.bl (decide (((acc.map rD).length : Int) > 0))))).bind _ |>.bind _) = _
        rw [lift_some, bind_ok, asB_bl, lift_some, bind_ok]
        cases acc with
        | nil => rfl
        | cons a as =>
          rw [decide_eq_true (by simp), if_pos rfl, eT_ok, e2_ev, g6, bind_ok, b2, atI_last _ (by simp), List.getLast?_map]
          have hls : ((a :: as).getLast?) = some (lastD (a :: as)) := by
            unfold lastD
            rw [List.getLast?_eq_some_getLast (by simp)]
            rfl
          rw [hls]
          have hle : dLeT (rD r) (rD (lastD (a :: as))) = some (.bl (lexLeI r (lastD (a :: as)))) := by
            show (match asIs (r.map .int), asIs ((lastD (a :: as)).map .int) with
              | some ns, some ms => some (D.bl (lexLeI ns ms))
              | _, _ => none) = _
            rw [asIs_map, asIs_map]
          show ((Out.lift ρ (dLeT (rD r) (rD (lastD (a :: as))))).bind _) = _
          rw [hle]
          show Out.ok _ ρ = _
          unfold stepOk
          simp
      by_cases hs : stepOk acc r = true
      · rw [if_pos hs]
        have q3 : sIf (tAndB (eT (e2 dGt (.ev (eB (on1 dLen) [(.br 4)])) (.ev (eC (.int 0))))) (eT (e2 dLeT (.ev (eVar 6)) (.ev (e2 dIx (.br 4) (.ev (e1 dNeg (.ev (eC (.int 1)))))))))) (sRaise "InvalidText" (eVar 5)) sNx ρ = .nx ρ := by
          rw [sIf_def, t2, fl_ok, hs]
          rfl
        rw [seq_nx q3]
        unfold sApp
        show (if (ownL ρ 4).isSome = true then (eVar 6 ρ).fl fun d ρ1 => match ownL ρ1 4 with
          | some (b, xs) => if xs.length < 1000000 then Fl.nx (ρ1.set 4 (.ow b (.lst (xs ++ [d])))) else .stuck
          | none => .stuck else .stuck) = _
        rw [if_pos (show (ownL ρ 4).isSome = true from rfl), g6, fl_ok]
        show (if (acc.map rD).length < 1000000 then Fl.nx (ρ.set 4 (.ow false (.lst (acc.map rD ++ [rD r])))) else .stuck) = _
        rw [if_pos (by rw [List.length_map]; omega)]
        show Fl.nx [.va (.str text), .va (.lst (lines.map .str)), .va (.lst (h.map .str)), .va (rD zs), .ow false (.lst (acc.map rD ++ [rD r])), .va (.int (k : Int)), .va (rD r), .no, .no] = _
        unfold R4
        rw [List.map_append]
        rfl
      · rw [if_neg hs]
        have hs' : stepOk acc r = false := by simpa using hs
        refine ⟨_, seq_er (ρ1 := ρ) ?_⟩
        rw [sIf_def, t2, fl_ok, hs']
        rfl
end Ma
end

section
set_option maxRecDepth 100000
set_option linter.all false
set_option exponentiation.threshold 100000
namespace Ma
open PySem PySem.Spec PyProof.Rows L2 DL Wk
def headOk (h : List Str) : Bool := decide (2 ≤ h.length) && (decide (h[0]? = some ("store" : Str)) && (!((h.drop 1).any bw) && !decide (minI ((h.drop 1).map wv) = 0)))
def rdAll : List (List Str) → Except Nat (List Int × List (List Int))
  | [] => .error 0
  | h :: ws => if headOk h = true then
      match rdRows ((h.drop 1).map wv) ws 1 [] with
      | .error k => .error k
      | .ok [] => .error (ws.length + 1)
      | .ok (r :: rs) => .ok ((h.drop 1).map wv, r :: rs)
    else .error 0
theorem rows_loop {text : Str} {lines h : List Str} {zs : List Int} (hln : ∀ l ∈ lines, l.length ≤ 1000000 ∧ (wd l).length ≤ 1000 ∧ ∀ w ∈ wd l, w.length ≤ 1000) :
    ∀ (rest : List Str) (k : Nat) (acc : List (List Int)) (s5 s6 : Sl), Fre s5 → Fre s6 → rest = lines.drop k → acc.length + rest.length ≤ 1000 →
    match rdRows zs (rest.map wd) k acc with
    | .ok acc' => ∃ s5' s6', Fre s5' ∧ Fre s6' ∧ forL (gN 5) rowB ((rest.zipIdx k).map fun p : Str × Nat => D.int (p.2 : Int)) (R4 text lines h zs acc s5 s6) = .nx (R4 text lines h zs acc' s5' s6')
    | .error e => ∃ r, forL (gN 5) rowB ((rest.zipIdx k).map fun p : Str × Nat => D.int (p.2 : Int)) (R4 text lines h zs acc s5 s6) = .er "InvalidText" (.int (e : Int)) (.va (.str text) :: r)
  | [], k, acc, s5, s6, h5, h6, _, _ => ⟨s5, s6, h5, h6, rfl⟩
  | l :: rest, k, acc, s5, s6, h5, h6, hr, hn => by
    have hl : lines[k]? = some l := by
      have : (lines.drop k)[0]? = some l := by
        rw [← hr]
        rfl
      rw [List.getElem?_drop] at this
      exact this
    have hm : l ∈ lines := List.mem_of_getElem? hl
    obtain ⟨b1, b2, b3⟩ := hln l hm
    simp only [List.length_cons] at hn
    have row := row_ev (text := text) (lines := lines) (h := h) (zs := zs) (acc := acc) (s6 := s6) h6 hl b1 b2 b3 (by omega)
    have g : gN 5 (.int (k : Int)) (R4 text lines h zs acc s5 s6) = some (R4 text lines h zs acc (.va (.int (k : Int))) s6) := by
      rcases h5 with rfl | ⟨d, rfl⟩ <;> rfl
    have step : ∀ xs, forL (gN 5) rowB (D.int (k : Int) :: xs) (R4 text lines h zs acc s5 s6) = match rowB (R4 text lines h zs acc (.va (.int (k : Int))) s6) with
      | .nx ρ2 => forL (gN 5) rowB xs ρ2
      | .ct ρ2 => forL (gN 5) rowB xs ρ2
      | .bk ρ2 => .nx ρ2
      | r => r := fun xs => by
      show (match gN 5 (.int (k : Int)) (R4 text lines h zs acc s5 s6) with
        | none => Fl.stuck
        | some ρ1 => match rowB ρ1 with
          | .nx ρ2 => forL (gN 5) rowB xs ρ2
          | .ct ρ2 => forL (gN 5) rowB xs ρ2
          | .bk ρ2 => .nx ρ2
          | r => r) = _
      rw [g]
    have hrest : rest = lines.drop (k + 1) := by
      have : (lines.drop k).drop 1 = rest := by
        rw [← hr]
        rfl
      rw [← this, List.drop_drop]
    have ez : ((l :: rest).zipIdx k).map (fun p : Str × Nat => D.int (p.2 : Int)) = D.int (k : Int) :: ((rest.zipIdx (k + 1)).map fun p : Str × Nat => D.int (p.2 : Int)) := by
      rw [List.zipIdx_cons]
      rfl
    rw [ez]
    show (match (if (rowOk zs (wd l) && stepOk acc ((wd l).map wv)) = true then rdRows zs (rest.map wd) (k + 1) (acc ++ [(wd l).map wv]) else .error k) with
      | .ok acc' => ∃ s5' s6', Fre s5' ∧ Fre s6' ∧ forL (gN 5) rowB (D.int (k : Int) :: ((rest.zipIdx (k + 1)).map fun p : Str × Nat => D.int (p.2 : Int))) (R4 text lines h zs acc s5 s6) = .nx (R4 text lines h zs acc' s5' s6')
      | .error e => ∃ r, forL (gN 5) rowB (D.int (k : Int) :: ((rest.zipIdx (k + 1)).map fun p : Str × Nat => D.int (p.2 : Int))) (R4 text lines h zs acc s5 s6) = .er "InvalidText" (.int (e : Int)) (.va (.str text) :: r))
    rw [step]
    by_cases hc : (rowOk zs (wd l) && stepOk acc ((wd l).map wv)) = true
    · rw [if_pos hc] at row ⊢
      rw [row]
      exact rows_loop hln rest (k + 1) (acc ++ [(wd l).map wv]) _ _ (.va _) (.va _) hrest (by
        rw [List.length_append]
        simp
        omega)
    · rw [if_neg hc] at row ⊢
      obtain ⟨r, row⟩ := row
      rw [row]
      exact ⟨r, rfl⟩
structure Tx (text : Str) (W : List (List Str)) : Prop where
  len : text.length ≤ 1000000
  spl : (Txt.split text "\n").map wd = W
  lns : ∀ l ∈ Txt.split text "\n", l.length ≤ 1000000
  ne : W ≠ []
  many : W.length ≤ 60
  wds : ∀ w ∈ W, w.length ≤ 50 ∧ ∀ x ∈ w, x.length ≤ 1000 ∧ PyData.strOk x = true
theorem wv_nn {w : Str} (h : bw1 w = false) : 0 ≤ wv w ∧ wv w ≤ 99 := by
  have h0 := h
  unfold bw1 at h0
  simp only [Bool.or_eq_false_iff, Bool.not_eq_false', List.all_eq_true, decide_eq_true_eq, Bool.and_eq_true] at h0
  have hl : w.cps.toList.length = w.length := Array.length_toList
  have e := PySem.intText_digits (x := w) (fun c hc => by
    have := digs_lt c (h0.2 c hc)
    omega) (fun z => by
    rw [z] at hl
    have : w.length = 0 := hl.symm
    omega) (by
    have := h0.1.2
    omega)
  unfold wv
  rw [e]
  have hd : ∀ c ∈ w.cps.toList, 48 ≤ c ∧ c ≤ 57 := fun c hc => digs_lt c (h0.2 c hc)
  have hlen : w.cps.toList.length ≤ 2 := by omega
  generalize w.cps.toList = l at hd hlen
  refine ⟨Int.natCast_nonneg _, ?_⟩
  show ((PySem.NumText.digitsVal l : Nat) : Int) ≤ 99
  match l, hlen, hd with
  | [], _, _ => decide
  | [a], _, hd =>
    have := hd a (by simp)
    unfold PySem.NumText.digitsVal
    simp
    omega
  | [a, b], _, hd =>
    have h1 := hd a (by simp)
    have h2 := hd b (by simp)
    unfold PySem.NumText.digitsVal
    simp
    omega
theorem bw_bw1 {ws : List Str} (h : ws.any bw = false) : ∀ w ∈ ws, bw1 w = false := fun w hw => by
  have := List.any_eq_false.mp h w hw
  unfold bw at this
  simp at this
  exact this.1
theorem rdRows_ok {zs : List Int} : ∀ (W : List (List Str)) (k : Nat) (acc rows : List (List Int)), (∀ r ∈ acc, okR zs r = true) → rdRows zs W k acc = .ok rows → (∀ r ∈ rows, okR zs r = true) ∧ rows.length = acc.length + W.length
  | [], k, acc, rows, h, e => by
    cases e
    exact ⟨h, by simp⟩
  | w :: W, k, acc, rows, h, e => by
    unfold rdRows at e
    split at e
    · rename_i hc
      simp only [Bool.and_eq_true] at hc
      have hr := hc.1
      unfold rowOk at hr
      simp only [Bool.and_eq_true, Bool.not_eq_true', decide_eq_true_eq] at hr
      obtain ⟨h1, h2, h3⟩ := hr
      have hk : okR zs (w.map wv) = true := by
        unfold okR
        simp only [List.length_map, h2, decide_true, Bool.true_and, List.all_eq_true, Bool.and_eq_true, decide_eq_true_eq]
        intro p hp
        have hp3 := List.all_eq_true.mp h3 p hp
        simp only [decide_eq_true_eq] at hp3
        refine ⟨?_, hp3⟩
        obtain ⟨x, hx, e⟩ := List.mem_map.mp (List.of_mem_zip hp).1
        rw [← e]
        exact (wv_nn (bw_bw1 h1 x hx)).1
      have ih := rdRows_ok W (k + 1) (acc ++ [w.map wv]) rows (fun r hr => by
        rcases List.mem_append.mp hr with hr | hr
        · exact h r hr
        · rw [List.mem_singleton.mp hr]
          exact hk) e
      refine ⟨ih.1, ?_⟩
      rw [ih.2]
      simp
      omega
    · cases e
end Ma
end

section
set_option maxRecDepth 100000
set_option linter.all false
set_option exponentiation.threshold 100000
namespace Ma
open PySem PySem.Spec PyProof.Rows L2 DL Wk
theorem rdAll_cons (h : List Str) (ws : List (List Str)) : rdAll (h :: ws) = if headOk h = true then
      match rdRows ((h.drop 1).map wv) ws 1 [] with
      | .error k => .error k
      | .ok [] => .error (ws.length + 1)
      | .ok (r :: rs) => .ok ((h.drop 1).map wv, r :: rs)
    else .error 0 := rfl
theorem it_rng2 {f g : EM D} {ρ : Env'} {i j : Int} (hf : f ρ = .ok (.int i) ρ) (hg : g ρ = .ok (.int j) ρ) (h1 : -1000000 ≤ i) (h2 : i < 1000000) (h3 : -1000000 ≤ j) (h4 : j < 1000000) : iR2 (.ev f) (.ev g) ρ = .ok (rngD i (j - i).toNat) ρ := by
  have ha : argGo [.ev f, .ev g] ρ = .ok [.int i, .int j] ρ := by
    show (f ρ).bind _ = _
    rw [hf]
    show ((g ρ).bind _).bind _ = _
    rw [hg]
    rfl
  unfold iR2
  rw [ha]
  exact if_pos ⟨h1, h2, h3, h4⟩
theorem rd_ok {W : List (List Str)} {zs : List Int} {rows : List (List Int)} (hw : W.length ≤ 60) (hl : ∀ w ∈ W, w.length ≤ 50) (h : rdAll W = .ok (zs, rows)) : Ok zs rows := by
  cases W with
  | nil => cases h
  | cons hd ws =>
    rw [rdAll_cons] at h
    by_cases hh : headOk hd = true
    · rw [if_pos hh] at h
      unfold headOk at hh
      simp only [Bool.and_eq_true, decide_eq_true_eq, Bool.not_eq_true', decide_eq_false_iff_not] at hh
      obtain ⟨h1, h2, h3, h4⟩ := hh
      split at h
      · cases h
      · cases h
      · rename_i r rs e
        cases h
        have hz : ∀ z ∈ (hd.drop 1).map wv, 0 ≤ z ∧ z ≤ 99 := fun z hz => by
          obtain ⟨x, hx, e⟩ := List.mem_map.mp hz
          rw [← e]
          exact wv_nn (bw_bw1 h3 x hx)
        have hne : 0 < ((hd.drop 1).map wv).length := by
          rw [List.length_map, List.length_drop]
          omega
        have hmin := hz _ (minI_mem hne)
        obtain ⟨k1, k2⟩ := rdRows_ok ws 1 [] (r :: rs) (fun r hr => by cases hr) e
        refine ⟨List.length_pos_iff.mp hne, fun z hz' => ?_, ?_, by simp, ?_, k1⟩
        · have a := minI_le hz'
          have b := hz z hz'
          omega
        · have := hl hd List.mem_cons_self
          rw [List.length_map, List.length_drop]
          omega
        · rw [k2]
          simp at hw ⊢
          omega
    · rw [if_neg hh] at h
      cases h
theorem isi_str (x : Str) : dIsi "str" (.str x) = some (.bl true) := rfl
theorem min1_rD {zs : List Int} (h : zs ≠ []) : dMin1 (rD zs) = some (.int (minI zs)) := by
  show (match asIs (zs.map .int) with
    | some ns => if 0 < ns.length then some (D.int (minI ns)) else none
    | none => none) = _
  rw [asIs_map]
  simp only
  rw [if_pos (List.length_pos_iff.mpr h)]
theorem rng_zip (ls : List Str) : rngD 1 ls.length = (ls.zipIdx 1).map fun p : Str × Nat => D.int (p.2 : Int) := by
  apply List.ext_getElem?
  intro i
  unfold rngD
  rw [List.getElem?_map, List.getElem?_map, List.getElem?_zipIdx]
  by_cases h : i < ls.length
  · rw [List.getElem?_range h, List.getElem?_eq_getElem h]
    simp
  · rw [List.getElem?_eq_none (by simpa using h), List.getElem?_eq_none (by simpa using h)]
    rfl
theorem v_read {text : Str} {W : List (List Str)} (t : Tx text W) : s_read_store [.va (.str text)] = match rdAll W with
    | .error k => .err "InvalidText" (.int (k : Int)) [.no]
    | .ok (zs, rows) => .ok (stD zs (sortSet rows)) [.no] := by
  obtain ⟨l0, ls, hls⟩ : ∃ l0 ls, Txt.split text "\n" = l0 :: ls := by
    cases e : Txt.split text "\n" with
    | nil =>
      have := t.spl
      rw [e] at this
      exact absurd this.symm t.ne
    | cons a b => exact ⟨a, b, rfl⟩
  have hW : W = wd l0 :: ls.map wd := by
    rw [← t.spl, hls]
    rfl
  obtain ⟨w1, w2⟩ := t.wds (wd l0) (by rw [hW]; exact List.mem_cons_self)
  have hlen0 : l0.length ≤ 1000000 := t.lns l0 (by rw [hls]; exact List.mem_cons_self)
  have hmany : ls.length + 1 ≤ 60 := by
    have := t.many
    rw [hW] at this
    simpa using this
  generalize hlines : l0 :: ls = lines at hls
  generalize hh : wd l0 = h at w1 w2 hW
  let zs := (h.drop 1).map wv
  let X (a b c e : Sl) : Env' := [.va (.str text), a, b, c, e, .no, .no, .no, .no]
  suffices H : match rdAll W with
      | .error k => ∃ r, b_read_store (X .no .no .no .no) = .er "InvalidText" (.int (k : Int)) (.va (.str text) :: r)
      | .ok (zs, rows) => ∃ r, b_read_store (X .no .no .no .no) = .rt (stD zs (sortSet rows)) (.va (.str text) :: r) by
    unfold s_read_store runDef
    show (match b_read_store (X .no .no .no .no) with
      | .rt d ρ => Out.ok d (outIo 1 ρ)
      | .nx ρ => .ok .non (outIo 1 ρ)
      | .er c d ρ => .err c d (outIo 1 ρ)
      | _ => .stuck) = _
    cases e : rdAll W with
    | error k =>
      rw [e] at H
      obtain ⟨r, H⟩ := H
      rw [H]
      rfl
    | ok p =>
      rw [e] at H
      obtain ⟨zs, rows⟩ := p
      obtain ⟨r, H⟩ := H
      rw [H]
      rfl
  unfold b_read_store
  have q1 : sIf (tNotB (eT (e1 (dIsi "str") (.ev (eVar 0))))) (sRaise "InvalidText" (eC (.int 0))) sNx (X .no .no .no .no) = .nx (X .no .no .no .no) := by
    simp [X, isi_str]
  rw [seq_nx q1]
  let E1 : Env' := X (.va (.lst (lines.map .str))) .no .no .no
  have q2 : sSet 1 (eM1 dSplit (eVar 0) (.ev (eC (.str "\n")))) (X .no .no .no .no) = .nx E1 := by
    rw [sSet_def, split_ev (f := eVar 0) (l := text) (s := "\n") rfl rfl t.len, hls]
    rfl
  rw [seq_nx q2]
  let E2 : Env' := X (.va (.lst (lines.map .str))) (.va (.lst (h.map .str))) .no .no
  have q3 : sSet 2 (eM1 dSplit (e2 dIx (.ev (eVar 1)) (.ev (eC (.int 0)))) (.ev (eC (.str " ")))) E1 = .nx E2 := by
    have hi : e2 dIx (.ev (eVar 1)) (.ev (eC (.int 0))) E1 = .ok (.str l0) E1 := by
      rw [e2_ev, show eVar 1 E1 = .ok (.lst (lines.map .str)) E1 from rfl, bind_ok, eC_go, bind_ok]
      rw [show dIx (.lst (lines.map .str)) (.int 0) = some (.str l0) from by rw [← hlines]; exact ix_items (i := 0) rfl rfl]
      rfl
    rw [sSet_def, split_ev (s := " ") hi rfl hlen0]
    show Fl.nx (X (.va (.lst (lines.map .str))) (.va (.lst ((wd l0).map .str))) .no .no) = Fl.nx (X (.va (.lst (lines.map .str))) (.va (.lst (h.map .str))) .no .no)
    rw [hh]
  rw [seq_nx q3]
  have g2 : eVar 2 E2 = .ok (.lst (h.map .str)) E2 := rfl
  have t4 : (tOrB (eT (e2 dLt (.ev (eB (on1 dLen) [(.ev (eVar 2))])) (.ev (eC (.int 2))))) (eT (e2 dNe (.ev (e2 dIx (.ev (eVar 2)) (.ev (eC (.int 0))))) (.ev (eC (.str "store")))))) E2 = .ok (!(decide (2 ≤ h.length) && decide (h[0]? = some ("store" : Str)))) E2 := by
    rw [tOr_def, eT_ok, e2_ev, eB_1, g2, bind_ok, dLen_lst, lift_some, bind_ok, eC_go, bind_ok]
    show ((Out.lift E2 (some (D.bl (decide (((h.map D.str).length : Int) < 2))))).bind _ |>.bind _) = _
    rw [lift_some, bind_ok, asB_bl, lift_some, bind_ok, List.length_map]
    by_cases hl : 2 ≤ h.length
    · rw [decide_eq_false (by omega), if_neg Bool.false_ne_true, decide_eq_true hl, Bool.true_and]
      obtain ⟨x, r, hx⟩ : ∃ x r, h = x :: r := by
        cases h with
        | nil => cases hl
        | cons x r => exact ⟨x, r, rfl⟩
      rw [eT_ok, e2_ev, e2_ev, g2, bind_ok, eC_go, bind_ok, show dIx (.lst (h.map .str)) (.int 0) = some (.str x) from by rw [hx]; exact ix_items (i := 0) rfl rfl, lift_some, bind_ok, eC_go, bind_ok,
        dNe_strs (w2 x (by rw [hx]; exact List.mem_cons_self)).2 (strOk_of "store"), lift_some, bind_ok, asB_bl, hx]
      simp
    · rw [decide_eq_true (by omega), if_pos rfl, decide_eq_false hl]
      rfl
  have bad : headOk h = false → rdAll W = .error 0 := fun e => by
    rw [hW, rdAll_cons, if_neg (by rw [e]; exact Bool.false_ne_true)]
  by_cases h12 : (decide (2 ≤ h.length) && decide (h[0]? = some ("store" : Str))) = false
  · have hk : headOk h = false := by
      unfold headOk
      rw [← Bool.and_assoc, h12]
      rfl
    rw [bad hk]
    refine ⟨_, seq_er (ρ1 := E2) ?_⟩
    rw [sIf_def, t4, h12]
    rfl
  have h12' : (decide (2 ≤ h.length) && decide (h[0]? = some ("store" : Str))) = true := by simpa using h12
  have q4 : sIf (tOrB (eT (e2 dLt (.ev (eB (on1 dLen) [(.ev (eVar 2))])) (.ev (eC (.int 2))))) (eT (e2 dNe (.ev (e2 dIx (.ev (eVar 2)) (.ev (eC (.int 0))))) (.ev (eC (.str "store")))))) (sRaise "InvalidText" (eC (.int 0))) sNx E2 = .nx E2 := by
    rw [sIf_def, t4, h12']
    rfl
  rw [seq_nx q4]
  have h2 : 2 ≤ h.length := by
    simp only [Bool.and_eq_true, decide_eq_true_eq] at h12'
    exact h12'.1
  have no := v_numbers_of (d := .lst ((h.drop 1).map .str)) (ws := h.drop 1) (k := 0) rfl (by rw [List.length_drop]; omega) fun w hw => (w2 w (List.mem_of_mem_drop hw)).1
  have c5 : eCall s_numbers_of [(.ev (eSl (.ev (eVar 2)) (some (eC (.int 1))) none)), (.ev (eC (.int 0)))] E2 = outR 2 (s_numbers_of [.va (.lst ((h.drop 1).map .str)), .va (.int 0)]) E2 := by
    have s5 : eSl (.ev (eVar 2)) (some (eC (.int 1))) none E2 = .ok (.lst ((h.drop 1).map .str)) E2 := by
      show Out.lift E2 (some (D.lst (DL.cutD (h.map .str) (some ((1 : Nat) : Int)) none))) = _
      rw [cut_from, ← List.map_drop]
      rfl
    rw [call_2, s5, bind_ok, eC_go, bind_ok]
  by_cases hb : (h.drop 1).any bw = true
  · have hk : headOk h = false := by
      unfold headOk
      rw [← Bool.and_assoc, h12', hb]
      rfl
    rw [bad hk]
    rw [if_pos hb] at no
    refine ⟨_, seq_er (ρ1 := E2) ?_⟩
    rw [sSet_def, c5, no]
    rfl
  have hb' : (h.drop 1).any bw = false := by simpa using hb
  rw [if_neg hb] at no
  have hr : (h.drop 1).map (fun w => D.int (wv w)) = zs.map D.int := by
    show _ = ((h.drop 1).map wv).map D.int
    rw [List.map_map]
    rfl
  rw [hr] at no
  let E3 : Env' := X (.va (.lst (lines.map .str))) (.va (.lst (h.map .str))) (.va (rD zs)) .no
  have q5 : sSet 3 (eCall s_numbers_of [(.ev (eSl (.ev (eVar 2)) (some (eC (.int 1))) none)), (.ev (eC (.int 0)))]) E2 = .nx E3 := by
    rw [sSet_def, c5, outR2 _ no]
    rfl
  rw [seq_nx q5]
  have hz0 : zs ≠ [] := List.length_pos_iff.mp (by
    show 0 < ((h.drop 1).map wv).length
    rw [List.length_map, List.length_drop]
    omega)
  have t6 : eT (e2 dEq (.ev (eB (on1 dMin1) [(.ev (eVar 3))])) (.ev (eC (.int 0)))) E3 = .ok (decide (minI zs = 0)) E3 := by
    rw [eT_ok, e2_ev, eB_1, show eVar 3 E3 = .ok (rD zs) E3 from rfl, bind_ok, min1_rD hz0, lift_some, bind_ok, eC_go, bind_ok, dEq_int, lift_some, bind_ok, asB_bl, lift_some]
  by_cases hm : minI zs = 0
  · have hk : headOk h = false := by
      unfold headOk
      rw [← Bool.and_assoc, h12', hb', show ((h.drop 1).map wv) = zs from rfl, decide_eq_true hm]
      rfl
    rw [bad hk]
    refine ⟨_, seq_er (ρ1 := E3) ?_⟩
    rw [sIf_def, t6, decide_eq_true hm]
    rfl
  have hk : headOk h = true := by
    unfold headOk
    rw [← Bool.and_assoc, h12', hb', show ((h.drop 1).map wv) = zs from rfl, decide_eq_false hm]
    rfl
  have q6 : sIf (eT (e2 dEq (.ev (eB (on1 dMin1) [(.ev (eVar 3))])) (.ev (eC (.int 0))))) (sRaise "InvalidText" (eC (.int 0))) sNx E3 = .nx E3 := by
    rw [sIf_def, t6, decide_eq_false hm]
    rfl
  rw [seq_nx q6]
  have q7 : sOwn 4 (argGo (([] : List (EM D)).map Opd.ev)) E3 = .nx (R4 text lines h zs [] .no .no) := rfl
  rw [seq_nx q7]
  have hrest : ls = lines.drop 1 := by
    rw [← hlines]
    rfl
  have loop := rows_loop (text := text) (lines := lines) (h := h) (zs := zs) (fun l hl => by
    have hl' : wd l ∈ W := by
      rw [← t.spl, hls]
      exact List.mem_map_of_mem hl
    obtain ⟨a, b⟩ := t.wds _ hl'
    exact ⟨t.lns l (by rw [hls]; exact hl), by omega, fun w hw => (b w hw).1⟩) ls 1 [] .no .no .no .no hrest (by
    simp
    omega)
  have hit : iR2 (.ev (eC (.int 1))) (.ev (eB (on1 dLen) [(.ev (eVar 1))])) (R4 text lines h zs [] .no .no) = .ok ((ls.zipIdx 1).map fun p : Str × Nat => D.int (p.2 : Int)) (R4 text lines h zs [] .no .no) := by
    have hl : (lines.map D.str).length = ls.length + 1 := by
      rw [List.length_map, ← hlines]
      rfl
    have h3 : (((ls.length + 1 : Nat) : Int) - 1).toNat = ls.length := by omega
    have z := it_rng2 (f := eC (.int 1)) (g := eB (on1 dLen) [(.ev (eVar 1))]) (ρ := R4 text lines h zs [] .no .no) (i := 1) (j := ((lines.map D.str).length : Int)) rfl rfl (by omega) (by omega) (by omega) (by omega)
    rw [z, hl, h3, rng_zip]
  have hall : rdAll W = match rdRows zs (ls.map wd) 1 [] with
      | .error k => .error k
      | .ok [] => .error ((ls.map wd).length + 1)
      | .ok (r :: rs) => .ok (zs, r :: rs) := by
    rw [hW, rdAll_cons, if_pos hk]
  cases er : rdRows zs (ls.map wd) 1 [] with
  | error e =>
    rw [er] at loop hall
    rw [hall]
    obtain ⟨r, loop⟩ := loop
    refine ⟨r, seq_er ?_⟩
    rw [sFor_def, hit, fl_ok]
    exact loop
  | ok rows =>
    rw [er] at loop
    obtain ⟨s5, s6, h5, h6, loop⟩ := loop
    have q8 : sFor (iR2 (.ev (eC (.int 1))) (.ev (eB (on1 dLen) [(.ev (eVar 1))]))) (gN 5) rowB (R4 text lines h zs [] .no .no) = .nx (R4 text lines h zs rows s5 s6) := by
      rw [sFor_def, hit, fl_ok]
      exact loop
    rw [seq_nx q8]
    have t9 : eT (e2 dEq (.ev (eB (on1 dLen) [(.br 4)])) (.ev (eC (.int 0)))) (R4 text lines h zs rows s5 s6) = .ok (decide (((rows.map rD).length : Int) = 0)) (R4 text lines h zs rows s5 s6) := by
      have b1 : eB (on1 dLen) [(.br 4)] (R4 text lines h zs rows s5 s6) = .ok (.int (rows.map rD).length) (R4 text lines h zs rows s5 s6) := rfl
      rw [eT_ok, e2_ev, b1, bind_ok, eC_go, bind_ok, dEq_int, lift_some, bind_ok, asB_bl, lift_some]
    cases rows with
    | nil =>
      rw [er] at hall
      rw [hall]
      refine ⟨_, seq_er (ρ1 := R4 text lines h zs [] s5 s6) ?_⟩
      rw [sIf_def, t9, fl_ok]
      show (sRaise "InvalidText" (eB (on1 dLen) [(.ev (eVar 1))])) (R4 text lines h zs [] s5 s6) = _
      show Fl.er "InvalidText" (.int ((lines.map D.str).length : Int)) (R4 text lines h zs [] s5 s6) = _
      rw [List.length_map, List.length_map, ← hlines]
      rfl
    | cons r rs =>
      rw [er] at hall
      rw [hall]
      have ok : Ok zs (r :: rs) := rd_ok (W := W) t.many (fun w hw => (t.wds w hw).1) hall
      have q9 : sIf (eT (e2 dEq (.ev (eB (on1 dLen) [(.br 4)])) (.ev (eC (.int 0))))) (sRaise "InvalidText" (eB (on1 dLen) [(.ev (eVar 1))])) sNx (R4 text lines h zs (r :: rs) s5 s6) = .nx (R4 text lines h zs (r :: rs) s5 s6) := by
        rw [sIf_def, t9, fl_ok, decide_eq_false (by simp; omega)]
        rfl
      rw [seq_nx q9]
      refine ⟨[.va (.lst (lines.map .str)), .va (.lst (h.map .str)), .va (rD zs), .va (.lst ((r :: rs).map rD)), s5, s6, .no, .no], ?_⟩
      have mk : eMake "Store" s_Store___init__ [(eVar 3), (eVar 4)] (R4 text lines h zs (r :: rs) s5 s6) = eMakeK "Store" s_Store___init__ [rD zs, .lst ((r :: rs).map rD)] [.va (.str text), .va (.lst (lines.map .str)), .va (.lst (h.map .str)), .va (rD zs), .va (.lst ((r :: rs).map rD)), s5, s6, .no, .no] := rfl
      rw [sRet_def, mk, makeK (rD_sq zs) ok]
      rfl
end Ma
end

section
set_option maxRecDepth 100000
set_option linter.all false
set_option exponentiation.threshold 100000
namespace Ma
open PySem PySem.Spec PyProof.Rows L2 DL Wk
/-! texts of words -/
def ln (ws : List Str) : Str := Txt.join " " ws
def tx (W : List (List Str)) : Str := Txt.join "\n" (W.map ln)
structure Clean (W : List (List Str)) : Prop where
  ne : W ≠ []
  many : W.length ≤ 60
  w0 : ∀ w ∈ W, w ≠ [] ∧ w.length ≤ 50
  w1 : ∀ w ∈ W, ∀ x ∈ w, x.length ≤ 20 ∧ ∀ c ∈ TL.tl x, c < 128 ∧ c ≠ 32 ∧ c ≠ 10
theorem mem_joinL {S : List Nat} {s : Nat} : ∀ {ps : List (List Nat)}, s ∈ TL.joinL S ps → s ∈ S ∨ ∃ p ∈ ps, s ∈ p
  | [], h => by cases h
  | [p], h => .inr ⟨p, by simp, h⟩
  | p :: q :: r, h => by
    have h' : s ∈ p ++ (S ++ TL.joinL S (q :: r)) := h
    rcases List.mem_append.mp h' with h | h
    · exact .inr ⟨p, by simp, h⟩
    · rcases List.mem_append.mp h with h | h
      · exact .inl h
      · rcases mem_joinL h with h | ⟨p, hp, h⟩
        · exact .inl h
        · exact .inr ⟨p, List.mem_cons_of_mem _ hp, h⟩
theorem len_joinL {S : List Nat} {m : Nat} : ∀ {ps : List (List Nat)}, (∀ p ∈ ps, p.length ≤ m) → (TL.joinL S ps).length ≤ ps.length * (m + S.length)
  | [], _ => by simp [TL.joinL]
  | [p], h => by
    have := h p (by simp)
    show p.length ≤ _
    simp
    omega
  | p :: q :: r, h => by
    have h1 := h p (by simp)
    have h2 := len_joinL (S := S) (ps := q :: r) fun x hx => h x (List.mem_cons_of_mem _ hx)
    show (p ++ (S ++ TL.joinL S (q :: r))).length ≤ _
    rw [List.length_append, List.length_append]
    rw [show (p :: q :: r).length = (q :: r).length + 1 from rfl, Nat.add_mul]
    omega
theorem joinL_snoc {S : List Nat} : ∀ {ps : List (List Nat)} (x : List Nat), ps ≠ [] → TL.joinL S (ps ++ [x]) = TL.joinL S ps ++ (S ++ x)
  | [], x, h => absurd rfl h
  | [p], x, _ => rfl
  | p :: q :: r, x, _ => by
    show p ++ (S ++ TL.joinL S (q :: r ++ [x])) = (p ++ (S ++ TL.joinL S (q :: r))) ++ (S ++ x)
    rw [joinL_snoc (ps := q :: r) x (by simp)]
    simp
theorem tl_jn (y : Str) (ps : List Str) : TL.tl (Txt.join y ps) = TL.joinL (TL.tl y) (ps.map TL.tl) := by rw [TL.join_eq, TL.tl_join]
theorem tl_sp : TL.tl (" " : Str) = [32] := by decide +kernel
theorem tl_nl : TL.tl ("\n" : Str) = [10] := by decide +kernel
theorem ln_mem {w : List Str} {c : Nat} (h : c ∈ TL.tl (ln w)) : c = 32 ∨ ∃ x ∈ w, c ∈ TL.tl x := by
  unfold ln at h
  rw [tl_jn, tl_sp] at h
  rcases mem_joinL h with h | ⟨p, hp, h⟩
  · exact .inl (List.mem_singleton.mp h)
  · obtain ⟨x, hx, rfl⟩ := List.mem_map.mp hp
    exact .inr ⟨x, hx, h⟩
theorem ln_len {w : List Str} (h0 : w.length ≤ 50) (h : ∀ x ∈ w, x.length ≤ 20) : (ln w).length ≤ 1050 := by
  rw [TL.len_tl]
  unfold ln
  rw [tl_jn, tl_sp]
  have z := len_joinL (S := [32]) (m := 20) (ps := w.map TL.tl) fun p hp => by
    obtain ⟨x, hx, rfl⟩ := List.mem_map.mp hp
    rw [← TL.len_tl]
    exact h x hx
  rw [List.length_map] at z
  have : w.length * (20 + [32].length) ≤ 50 * 21 := Nat.mul_le_mul_right 21 h0
  omega
theorem ln_split {w : List Str} (h0 : w ≠ []) (h : ∀ x ∈ w, ∀ c ∈ TL.tl x, c ≠ 32) : wd (ln w) = w :=
  TL.split_join tl_sp (by decide +kernel) h0 fun p hp hc => h p hp 32 hc rfl
theorem Clean.tx_len {W : List (List Str)} (c : Clean W) : (tx W).length ≤ 70000 := by
  rw [TL.len_tl]
  unfold tx
  rw [tl_jn, tl_nl]
  have z := len_joinL (S := [10]) (m := 1050) (ps := (W.map ln).map TL.tl) fun p hp => by
    obtain ⟨l, hl, rfl⟩ := List.mem_map.mp hp
    obtain ⟨w, hw, rfl⟩ := List.mem_map.mp hl
    rw [← TL.len_tl]
    exact ln_len (c.w0 w hw).2 fun x hx => (c.w1 w hw x hx).1
  rw [List.length_map, List.length_map] at z
  have : W.length * (1050 + [10].length) ≤ 60 * 1051 := Nat.mul_le_mul_right 1051 c.many
  omega
theorem Clean.tx_split {W : List (List Str)} (c : Clean W) : Txt.split (tx W) "\n" = W.map ln :=
  TL.split_join tl_nl (by decide +kernel) (fun e => c.ne (List.map_eq_nil_iff.mp e)) fun p hp hc => by
    obtain ⟨w, hw, rfl⟩ := List.mem_map.mp hp
    rcases ln_mem hc with h | ⟨x, hx, h⟩
    · cases h
    · exact ((c.w1 w hw x hx).2 10 h).2.2 rfl
theorem Clean.asc {W : List (List Str)} (c : Clean W) : PyData.strOk (tx W) = true := strOk_asc fun x hx => by
  have hx' : x ∈ TL.tl (tx W) := hx
  unfold tx at hx'
  rw [tl_jn, tl_nl] at hx'
  rcases mem_joinL hx' with h | ⟨p, hp, h⟩
  · rw [List.mem_singleton.mp h]
    decide
  · obtain ⟨l, hl, rfl⟩ := List.mem_map.mp hp
    obtain ⟨w, hw, rfl⟩ := List.mem_map.mp hl
    rcases ln_mem h with h | ⟨y, hy, h⟩
    · rw [h]
      decide
    · exact ((c.w1 w hw y hy).2 x h).1
theorem Clean.tx {W : List (List Str)} (c : Clean W) : Tx (tx W) W where
  len := by
    have := c.tx_len
    omega
  spl := by
    rw [c.tx_split, List.map_map]
    refine (List.map_congr_left fun w hw => ?_).trans (List.map_id W)
    exact ln_split (c.w0 w hw).1 fun x hx d hd => ((c.w1 w hw x hx).2 d hd).2.1
  lns := fun l hl => by
    rw [c.tx_split] at hl
    obtain ⟨w, hw, rfl⟩ := List.mem_map.mp hl
    have := ln_len (c.w0 w hw).2 fun x hx => (c.w1 w hw x hx).1
    omega
  ne := c.ne
  many := c.many
  wds := fun w hw => ⟨(c.w0 w hw).2, fun x hx => ⟨by
    have := (c.w1 w hw x hx).1
    omega, strOk_asc fun d hd => ((c.w1 w hw x hx).2 d hd).1⟩⟩
theorem Clean.one {w : List Str} (h0 : w ≠ [] ∧ w.length ≤ 50) (h1 : ∀ x ∈ w, x.length ≤ 20 ∧ ∀ c ∈ TL.tl x, c < 128 ∧ c ≠ 32 ∧ c ≠ 10) : Clean [w] :=
  ⟨by simp, by simp, fun v hv => by rw [List.mem_singleton.mp hv]; exact h0, fun v hv => by rw [List.mem_singleton.mp hv]; exact h1⟩
theorem Clean.app {A B : List (List Str)} (a : Clean A) (hB : B = [] ∨ Clean B) (hn : A.length + B.length ≤ 60) : Clean (A ++ B) := by
  rcases hB with rfl | b
  · rw [List.append_nil]
    exact a
  · refine ⟨by simp [a.ne], by rw [List.length_append]; exact hn, fun w hw => ?_, fun w hw => ?_⟩
    · rcases List.mem_append.mp hw with h | h
      · exact a.w0 w h
      · exact b.w0 w h
    · rcases List.mem_append.mp hw with h | h
      · exact a.w1 w h
      · exact b.w1 w h
/-- every part of a clean list -/
theorem Clean.sub {A B : List (List Str)} (a : Clean A) (h : ∀ w ∈ B, w ∈ A) (h0 : B ≠ []) (hn : B.length ≤ 60) : Clean B :=
  ⟨h0, hn, fun w hw => a.w0 w (h w hw), fun w hw => a.w1 w (h w hw)⟩
theorem tx_one (w : List Str) : tx [w] = ln w := TL.ext_tl (by
  unfold tx
  rw [tl_jn]
  rfl)
theorem tx_snoc {W : List (List Str)} (h : W ≠ []) (w : List Str) : tx W ++ "\n" ++ ln w = tx (W ++ [w]) := TL.ext_tl (by
  unfold tx
  rw [TL.tl_append, TL.tl_append, tl_jn, tl_jn, List.map_append, List.map_append, List.map_cons, List.map_nil, List.map_cons, List.map_nil, joinL_snoc _ (by simp [h])]
  simp)
theorem ln_nil : ln [("" : Str)] = "" := TL.ext_tl (by
  unfold ln
  rw [tl_jn]
  rfl)
/-! joined by the program -/
theorem asStrs_map : ∀ ws : List Str, asStrs (ws.map .str) = some ws
  | [] => rfl
  | w :: ws => by
    show (asStrs (ws.map .str)).map (w :: ·) = _
    rw [asStrs_map ws]
    rfl
theorem sum_le {m : Nat} : ∀ {l : List Nat}, (∀ x ∈ l, x ≤ m) → l.sum ≤ l.length * m
  | [], _ => by simp
  | x :: l, h => by
    have h1 := h x (by simp)
    have h2 := sum_le (l := l) fun y hy => h y (List.mem_cons_of_mem _ hy)
    rw [List.sum_cons, List.length_cons, Nat.add_mul]
    omega
theorem join_ok {y : Str} {ws : List Str} {d : D} (hd : dItems d = some (ws.map .str)) (hy : y.length ≤ 20) (hn : ws.length ≤ 100) (hw : ∀ w ∈ ws, w.length ≤ 2000) : dJoin y d = some (.str (Txt.join y ws)) := by
  unfold dJoin
  rw [hd]
  simp only [asStrs_map]
  have h1 := sum_le (m := 2000) (l := ws.map (·.length)) fun n hn => by
    obtain ⟨w, hw', rfl⟩ := List.mem_map.mp hn
    exact hw w hw'
  rw [List.length_map] at h1
  have h2 : ws.length * 2000 ≤ 100 * 2000 := Nat.mul_le_mul_right _ hn
  have h3 : ws.length * y.length ≤ 100 * 20 := Nat.mul_le_mul hn hy
  rw [if_pos (by omega)]
theorem join_ev {f g : EM D} {ρ ρ1 ρ2 : Env'} {y : Str} {d : D} {ws : List Str} (hf : f ρ = .ok (.str y) ρ1) (hg : g ρ1 = .ok d ρ2) (hd : dItems d = some (ws.map .str)) (hy : y.length ≤ 20) (hn : ws.length ≤ 100) (hw : ∀ w ∈ ws, w.length ≤ 2000) : eM1 dJoin f (.ev g) ρ = .ok (.str (Txt.join y ws)) ρ2 := by
  unfold eM1
  rw [hf, bind_ok]
  show ((g ρ1).bind _) = _
  rw [hg, bind_ok]
  show Out.lift ρ2 (dJoin y d) = _
  rw [join_ok hd hy hn hw]
  rfl
end Ma
end

section
set_option maxRecDepth 100000
set_option linter.all false
set_option exponentiation.threshold 100000
namespace Ma
open PySem PySem.Spec PyProof.Rows L2 DL Wk
theorem set_self {ρ : Env'} {j : Nat} {s : Sl} (h : ρ[j]? = some s) : ρ.set j s = ρ := by
  apply List.ext_getElem?
  intro i
  rw [List.getElem?_set]
  split
  · rename_i e
    subst e
    have : j < ρ.length := (List.getElem?_eq_some_iff.mp h).1
    rw [if_pos this, h]
  · rfl
theorem get_set {ρ : Env'} {j : Nat} {s t : Sl} (h : ρ[j]? = some s) : (ρ.set j t)[j]? = some t := by
  have : j < ρ.length := (List.getElem?_eq_some_iff.mp h).1
  rw [List.getElem?_set, if_pos rfl, if_pos this]
theorem comp1 {α : Type} {it : EM (List D)} {j : Nat} {f : EM D} {ρ : Env'} {l : List α} (h : α → D) (F : α → D) (hi : it ρ = .ok (l.map h) ρ) (hj : ∃ s, ρ[j]? = some s ∧ Fre s) (hl : l.length < 1000000)
    (hs : ∀ a ∈ l, f (ρ.set j (.va (h a))) = .ok (F a) (ρ.set j (.va (h a)))) : eComp it [j] (gN j) cYes f ρ = .ok (l.map F) ρ := by
  obtain ⟨s, hj, hf⟩ := hj
  refine comp_map h F hi ?_ hl fun a ha => ?_
  · show (notOw ρ[j]? && true) = true
    rw [hj]
    rcases hf with rfl | ⟨d, rfl⟩ <;> rfl
  · refine step_of (b := true) (ρ1 := ρ.set j (.va (h a))) ?_ rfl (hs a ha) ?_ ?_
    · show (if isIo (ρ.set j .no)[j]? = true then none else some ((ρ.set j .no).set j (.va (h a)))) = _
      rw [get_set hj, if_neg (show ¬ isIo (some Sl.no) = true from Bool.false_ne_true), List.set_set]
    all_goals
      show (ρ.set j (.va (h a))).set j (ρ[j]?.getD .no) = ρ
      rw [List.set_set, hj]
      exact set_self hj
theorem comp1f {α : Type} {it : EM (List D)} {j : Nat} {c : EM Bool} {f : EM D} {ρ : Env'} {l : List α} (h : α → D) (p : α → Bool) (F : α → D) (hi : it ρ = .ok (l.map h) ρ) (hj : ∃ s, ρ[j]? = some s ∧ Fre s) (hl : l.length < 1000000)
    (hc : ∀ a ∈ l, c (ρ.set j (.va (h a))) = .ok (p a) (ρ.set j (.va (h a)))) (hs : ∀ a ∈ l, f (ρ.set j (.va (h a))) = .ok (F a) (ρ.set j (.va (h a)))) : eComp it [j] (gN j) c f ρ = .ok ((l.filter p).map F) ρ := by
  obtain ⟨s, hj, hf⟩ := hj
  refine comp_filt h p F hi ?_ hl fun a ha => ?_
  · show (notOw ρ[j]? && true) = true
    rw [hj]
    rcases hf with rfl | ⟨d, rfl⟩ <;> rfl
  · refine step_of (b := p a) (ρ1 := ρ.set j (.va (h a))) ?_ (hc a ha) (hs a ha) ?_ ?_
    · show (if isIo (ρ.set j .no)[j]? = true then none else some ((ρ.set j .no).set j (.va (h a)))) = _
      rw [get_set hj, if_neg (show ¬ isIo (some Sl.no) = true from Bool.false_ne_true), List.set_set]
    all_goals
      show (ρ.set j (.va (h a))).set j (ρ[j]?.getD .no) = ρ
      rw [List.set_set, hj]
      exact set_self hj
theorem var_set {ρ : Env'} {j : Nat} {s : Sl} {d : D} (h : ρ[j]? = some s) : eVar j (ρ.set j (.va d)) = .ok d (ρ.set j (.va d)) := eVar_va (get_set h)
/-! numbers as words -/
def nw (n : Int) : Str := (toString n : String)
def Dg (ns : List Int) : Prop := ∀ n ∈ ns, 0 ≤ n ∧ n < 10
theorem tl_nw {n : Int} (h : 0 ≤ n ∧ n < 10) : TL.tl (nw n) = [48 + n.toNat] := by
  have e : (n.toNat : Int) = n := by omega
  have z := TL.tl_num n.toNat
  rw [e, TL.numL_lt (by omega)] at z
  exact z
theorem nw_len {n : Int} (h : 0 ≤ n ∧ n < 10) : (nw n).length = 1 := by
  rw [TL.len_tl, tl_nw h]
  rfl
theorem nw_cl {n : Int} (h : 0 ≤ n ∧ n < 10) : (nw n).length ≤ 20 ∧ ∀ c ∈ TL.tl (nw n), c < 128 ∧ c ≠ 32 ∧ c ≠ 10 := by
  refine ⟨by rw [nw_len h]; decide, fun c hc => ?_⟩
  rw [tl_nw h] at hc
  rw [List.mem_singleton.mp hc]
  omega
theorem nw_bw {n : Int} (h : 0 ≤ n ∧ n < 10) : bw (nw n) = false := by
  have hl := nw_len h
  have ht : (nw n).cps.toList = [48 + n.toNat] := tl_nw h
  unfold bw bw1 bw2
  rw [hl, ht]
  have hm : 48 + n.toNat ∈ digs.cps.toList := by
    have h0 : n.toNat < 10 := by omega
    have : ∀ k < 10, 48 + k ∈ digs.cps.toList := by decide +kernel
    exact this _ h0
  have hm' : decide (48 + n.toNat ∈ digs.cps.toList) = true := decide_eq_true hm
  rw [List.all_cons, hm']
  rfl
theorem nw_wv {n : Int} (h : 0 ≤ n ∧ n < 10) : wv (nw n) = n := by
  have e : (n.toNat : Int) = n := by omega
  have z := TL.int_num (n := n.toNat) (by rw [TL.numL_lt (by omega)]; show 1 ≤ 4300; decide)
  rw [e] at z
  unfold wv
  show (PySem.intText? (Str.ofString (toString n))).getD 0 = n
  rw [z]
  rfl
theorem dStr_nw {n : Int} (h : 0 ≤ n ∧ n < 10) : dStr (.int n) = some (.str (nw n)) := by
  show (if n.natAbs.log2 < 1920 then some (D.str (toString n : String)) else none) = _
  rw [if_pos]
  · rfl
  · have : n.natAbs.log2 ≤ n.natAbs := Nat.log2_le_self _
    omega
theorem strs_ev {f : EM D} {ρ : Env'} {d : D} {ns : List Int} {j : Nat} (hf : f ρ = .ok d ρ) (hd : SqI d ns) (hj : ∃ s, ρ[j]? = some s ∧ Fre s) (hl : ns.length < 1000000) (hb : Dg ns) : eComp (iS f) [j] (gN j) cYes (eB (on1 dStr) [(.ev (eVar j))]) ρ = .ok ((ns.map nw).map .str) ρ := by
  have z := comp1 (it := iS f) (f := eB (on1 dStr) [(.ev (eVar j))]) (ρ := ρ) (l := ns) D.int (fun n => .str (nw n)) (it_seq hf hd) hj hl fun n hn => by
    obtain ⟨s, hj, _⟩ := hj
    rw [eB_1, var_set hj, bind_ok, dStr_nw (hb n hn)]
    rfl
  rw [z, List.map_map]
  rfl
/-! the texts of stores -/
def hdW (zs : List Int) : List Str := "store" :: zs.map nw
def rwW (r : List Int) : List Str := r.map nw
def stW (zs : List Int) (rows : List (List Int)) : List (List Str) := hdW zs :: rows.map rwW
theorem store_cl : (("store" : Str)).length ≤ 20 ∧ ∀ c ∈ TL.tl ("store" : Str), c < 128 ∧ c ≠ 32 ∧ c ≠ 10 := by decide +kernel
theorem hd_clean {zs : List Int} (h : Dg zs) (hl : zs.length < 50) : Clean [hdW zs] := Clean.one ⟨by simp [hdW], by simp [hdW]; omega⟩ fun x hx => by
  rcases List.mem_cons.mp hx with rfl | hx
  · exact store_cl
  · obtain ⟨n, hn, rfl⟩ := List.mem_map.mp hx
    exact nw_cl (h n hn)
theorem rw_clean {r : List Int} (h : Dg r) (h0 : r ≠ []) (hl : r.length < 50) : Clean [rwW r] := Clean.one ⟨by simp [rwW, h0], by simp [rwW]; omega⟩ fun x hx => by
  obtain ⟨n, hn, rfl⟩ := List.mem_map.mp hx
  exact nw_cl (h n hn)
/-- a small store -/
structure St (zs : List Int) (rows : List (List Int)) : Prop where
  ok : Ok zs rows
  zb : ∀ z ∈ zs, z ≤ 9
  zl : zs.length ≤ 9
  rl : rows.length ≤ 50
  asc : Asc rows
theorem St.dg {zs : List Int} {rows : List (List Int)} (s : St zs rows) : Dg zs := fun z hz => by
  have := s.ok.z1 z hz
  have := s.zb z hz
  omega
theorem okR_dg {zs r : List Int} (hz : ∀ z ∈ zs, z ≤ 9) (h : okR zs r = true) : Dg r := fun m hm => by
  have hl := okR_len h
  unfold okR at h
  simp only [Bool.and_eq_true, decide_eq_true_eq, List.all_eq_true] at h
  obtain ⟨i, hi, e⟩ := List.mem_iff_getElem.mp hm
  have hi2 : i < zs.length := by omega
  have := h.2 (r[i], zs[i]) (List.mem_iff_getElem.mpr ⟨i, by rw [List.length_zip]; omega, by simp⟩)
  have hz' := hz zs[i] (List.getElem_mem hi2)
  rw [e] at this
  simp only at this
  omega
theorem St.rdg {zs : List Int} {rows : List (List Int)} (s : St zs rows) {r : List Int} (h : r ∈ rows) : Dg r ∧ r ≠ [] ∧ r.length < 50 := by
  have hl := okR_len (s.ok.r2 r h)
  have := s.zl
  refine ⟨okR_dg s.zb (s.ok.r2 r h), fun e => s.ok.z0 (List.length_eq_zero_iff.mp ?_), by omega⟩
  rw [← hl, e]
  rfl
theorem rows_clean : ∀ {rows : List (List Int)}, rows ≠ [] → (∀ r ∈ rows, Dg r ∧ r ≠ [] ∧ r.length < 50) → rows.length ≤ 59 → Clean (rows.map rwW) := fun {rows} h0 h hl => by
  refine ⟨by simp [h0], by rw [List.length_map]; omega, fun w hw => ?_, fun w hw => ?_⟩
  · obtain ⟨r, hr, rfl⟩ := List.mem_map.mp hw
    obtain ⟨a, b, c⟩ := h r hr
    exact (rw_clean a b c).w0 _ (List.mem_singleton.mpr rfl)
  · obtain ⟨r, hr, rfl⟩ := List.mem_map.mp hw
    obtain ⟨a, b, c⟩ := h r hr
    exact (rw_clean a b c).w1 _ (List.mem_singleton.mpr rfl)
theorem St.clean {zs : List Int} {rows : List (List Int)} (s : St zs rows) : Clean (stW zs rows) := by
  have hz := s.zl
  have hr := s.rl
  exact (hd_clean s.dg (by omega)).app (.inr (rows_clean s.ok.r0 (fun r hr => s.rdg hr) (by omega))) (by simp; omega)
/-! reading what was written -/
theorem rdRows_app (zs : List Int) : ∀ (A B : List (List Str)) (k : Nat) (acc : List (List Int)), rdRows zs (A ++ B) k acc = match rdRows zs A k acc with
    | .error e => .error e
    | .ok acc' => rdRows zs B (k + A.length) acc'
  | [], B, k, acc => rfl
  | w :: A, B, k, acc => by
    show (if (rowOk zs w && stepOk acc (w.map wv)) = true then rdRows zs (A ++ B) (k + 1) (acc ++ [w.map wv]) else .error k) = (match (if (rowOk zs w && stepOk acc (w.map wv)) = true then rdRows zs A (k + 1) (acc ++ [w.map wv]) else .error k) with
      | .error e => .error e
      | .ok acc' => rdRows zs B (k + (A.length + 1)) acc')
    by_cases h : (rowOk zs w && stepOk acc (w.map wv)) = true
    · rw [if_pos h, if_pos h, rdRows_app zs A B (k + 1) (acc ++ [w.map wv])]
      rw [show k + 1 + A.length = k + (A.length + 1) by omega]
    · rw [if_neg h, if_neg h]
theorem map_wv {r : List Int} (h : Dg r) : (rwW r).map wv = r := by
  unfold rwW
  rw [List.map_map]
  refine (List.map_congr_left fun n hn => ?_).trans (List.map_id r)
  exact nw_wv (h n hn)
theorem any_bw {r : List Int} (h : Dg r) : (rwW r).any bw = false := by
  rw [List.any_eq_false]
  intro w hw
  obtain ⟨n, hn, rfl⟩ := List.mem_map.mp hw
  rw [nw_bw (h n hn)]
  exact Bool.false_ne_true
theorem rowOk_rw {zs r : List Int} (hz : ∀ z ∈ zs, z ≤ 9) (h : okR zs r = true) : rowOk zs (rwW r) = true := by
  have hd := okR_dg hz h
  unfold rowOk
  rw [any_bw hd, map_wv hd, show (rwW r).length = r.length from List.length_map ..]
  unfold okR at h
  simp only [Bool.and_eq_true, decide_eq_true_eq, List.all_eq_true] at h
  simp only [Bool.not_false, Bool.true_and, Bool.and_eq_true, decide_eq_true_eq, List.all_eq_true]
  exact ⟨h.1, fun p hp => (h.2 p hp).2⟩
theorem head_ok {zs : List Int} {rows : List (List Int)} (o : Ok zs rows) (hb : ∀ z ∈ zs, z ≤ 9) : headOk (hdW zs) = true := by
  have hd : Dg zs := fun z hz => by
    have := o.z1 z hz
    have := hb z hz
    omega
  have h0 : 0 < zs.length := List.length_pos_iff.mpr o.z0
  unfold headOk
  show (decide (2 ≤ ("store" :: zs.map nw : List Str).length) && (decide (("store" :: zs.map nw : List Str)[0]? = some ("store" : Str)) && (!((rwW zs).any bw) && !decide (minI ((rwW zs).map wv) = 0)))) = true
  rw [any_bw hd, map_wv hd]
  have hm := o.z1 _ (minI_mem h0)
  rw [decide_eq_true (show 2 ≤ ("store" :: zs.map nw : List Str).length by simp; omega), decide_eq_true (show ("store" :: zs.map nw : List Str)[0]? = some ("store" : Str) from rfl), decide_eq_false (show ¬ minI zs = 0 by omega)]
  rfl
theorem drop_hd {zs : List Int} (h : Dg zs) : ((hdW zs).drop 1).map wv = zs := map_wv h
/-- rows of growing code are read as they stand -/
theorem rdRows_good {zs : List Int} (hz : ∀ z ∈ zs, z ≤ 9) : ∀ (rows acc : List (List Int)) (k : Nat), (∀ r ∈ acc ++ rows, okR zs r = true) → Asc (acc ++ rows) → rdRows zs (rows.map rwW) k acc = .ok (acc ++ rows)
  | [], acc, k, _, _ => by
    rw [List.append_nil]
    rfl
  | r :: rows, acc, k, ho, ha => by
    have hr : okR zs r = true := ho r (by simp)
    have hd := okR_dg hz hr
    have hs : stepOk acc r = true := by
      unfold stepOk
      cases acc with
      | nil => rfl
      | cons a as =>
        have hm : lastD (a :: as) ∈ a :: as := by
          unfold lastD
          rw [List.getLast?_eq_some_getLast (by simp)]
          exact List.getLast_mem _
        have hlt := (List.pairwise_append.mp ha).2.2 _ hm r List.mem_cons_self
        have hx := ho _ (List.mem_append_left _ hm)
        rw [lexLe_cd ((okR_len hr).trans (okR_len hx).symm) (okR_bd hr fun z h => by have := hz z h; omega) (okR_bd hx fun z h => by have := hz z h; omega), decide_eq_false (by omega)]
        simp
    show (if (rowOk zs (rwW r) && stepOk acc ((rwW r).map wv)) = true then rdRows zs (rows.map rwW) (k + 1) (acc ++ [(rwW r).map wv]) else .error k) = _
    rw [rowOk_rw hz hr, map_wv hd, hs, if_pos (show (true && true) = true from rfl), rdRows_good hz rows (acc ++ [r]) (k + 1) (by simpa using ho) (by simpa using ha)]
    simp
end Ma
end

section
set_option maxRecDepth 100000
set_option linter.all false
set_option exponentiation.threshold 100000
namespace Ma
open PySem PySem.Spec PyProof.Rows L2 DL Wk
theorem rd_good {zs : List Int} {rows : List (List Int)} (o : Ok zs rows) (hz : ∀ z ∈ zs, z ≤ 9) (ha : Asc rows) : rdAll (stW zs rows) = .ok (zs, rows) := by
  have hd : Dg zs := fun z h => by
    have := o.z1 z h
    have := hz z h
    omega
  unfold stW
  rw [rdAll_cons, if_pos (head_ok o hz), drop_hd hd, rdRows_good hz rows [] 1 (by simpa using o.r2) (by simpa using ha)]
  rw [List.nil_append]
  have h0 := o.r0
  cases rows with
  | nil => exact absurd rfl h0
  | cons r rs => rfl
theorem rd_bad {zs : List Int} {rows A : List (List Int)} {b : List Str} {B : List (List Str)} (o : Ok zs rows) (hz : ∀ z ∈ zs, z ≤ 9) (hA : ∀ r ∈ A, okR zs r = true) (ha : Asc A) (hb : (rowOk zs b && stepOk A (b.map wv)) = false) : rdAll (hdW zs :: (A.map rwW ++ b :: B)) = .error (1 + A.length) := by
  have hd : Dg zs := fun z h => by
    have := o.z1 z h
    have := hz z h
    omega
  rw [rdAll_cons, if_pos (head_ok o hz), drop_hd hd, rdRows_app, rdRows_good hz A [] 1 (by simpa using hA) (by simpa using ha), List.nil_append, List.length_map]
  show (match (if (rowOk zs b && stepOk A (b.map wv)) = true then rdRows zs B (1 + A.length + 1) (A ++ [b.map wv]) else .error (1 + A.length)) with
    | .error k => Except.error k
    | .ok [] => .error ((A.map rwW ++ b :: B).length + 1)
    | .ok (r :: rs) => .ok (zs, r :: rs)) = _
  rw [hb, if_neg Bool.false_ne_true]
theorem rd_head {b : List Str} {B : List (List Str)} (h : headOk b = false) : rdAll (b :: B) = .error 0 := by
  rw [rdAll_cons, if_neg (by rw [h]; exact Bool.false_ne_true)]
theorem rd_none {zs : List Int} {rows : List (List Int)} (o : Ok zs rows) (hz : ∀ z ∈ zs, z ≤ 9) : rdAll [hdW zs] = .error 1 := by
  rw [rdAll_cons, if_pos (head_ok o hz)]
  rfl
/-! _law_read -/
theorem kw_1 (sem : Sem') (f : EM D) (ρ : Env') : eCallKw sem [0] [] [.ev f] ρ = (f ρ).bind fun a ρ1 => outR 1 (sem [.va a]) ρ1 := by
  show (argGo ([f].map Opd.ev) ρ).bind (fun es ρ2 => eCallK sem (permL [0] ([] ++ [.ev f])) (permL [0] ([] ++ es)) ρ2) = _
  rw [disp_1, bind_bind]
  congr 1
  funext a ρ1
  exact callK_ev sem [f] [a] ρ1 rfl
def rdD (W : List (List Str)) : D := match rdAll W with
  | .error k => .int (k : Int)
  | .ok (zs, rows) => stD zs (sortSet rows)
theorem v_law_read {text : Str} {W : List (List Str)} (t : Tx text W) : s__law_read [.va (.str text)] = .ok (rdD W) [.no] := by
  have z := v_read t
  have c : (sRet (eCallKw s_read_store [0] [] [(.ev (eVar 0))])) [.va (.str text), .no] = (outR 1 (s_read_store [.va (.str text)]) [.va (.str text), .no]).fl fun d ρ1 => .rt d ρ1 := by
    rw [sRet_def, kw_1, eVar_0, bind_ok]
  have e : b__law_read [.va (.str text), .no] = .rt (rdD W) [.va (.str text), .no] := by
    unfold b__law_read sTryAt rdD
    rw [c, z]
    cases h : rdAll W with
    | error k => rfl
    | ok p =>
      obtain ⟨zs, rows⟩ := p
      rfl
  refine run_rt (ρ := [.va (.str text), .no]) ?_
  exact e
theorem v_law_read_odd {d : D} (h : dIsi "str" d = some (.bl false)) : s__law_read [.va d] = .ok (.int 0) [.no] := by
  have z : s_read_store [.va d] = .err "InvalidText" (.int 0) [.no] := by
    unfold s_read_store runDef
    have e : b_read_store [.va d, .no, .no, .no, .no, .no, .no, .no, .no] = .er "InvalidText" (.int 0) [.va d, .no, .no, .no, .no, .no, .no, .no, .no] := by
      unfold b_read_store
      refine seq_er ?_
      simp only [sIf_def, tNot_def, eT_ok, e1_ev, eVar_0, bind_ok, h, lift_some, asB_bl, fl_ok]
      rfl
    show (match b_read_store [.va d, .no, .no, .no, .no, .no, .no, .no, .no] with
      | .rt d ρ => Out.ok d (outIo 1 ρ)
      | .nx ρ => .ok .non (outIo 1 ρ)
      | .er c d ρ => .err c d (outIo 1 ρ)
      | _ => .stuck) = _
    rw [e]
    rfl
  have c : (sRet (eCallKw s_read_store [0] [] [(.ev (eVar 0))])) [.va d, .no] = (outR 1 (s_read_store [.va d]) [.va d, .no]).fl fun d ρ1 => .rt d ρ1 := by
    rw [sRet_def, kw_1, eVar_0, bind_ok]
  have e : b__law_read [.va d, .no] = .rt (.int 0) [.va d, .no] := by
    unfold b__law_read sTryAt
    rw [c, z]
    rfl
  refine run_rt (ρ := [.va d, .no]) ?_
  exact e
/-! store_text -/
theorem hd_ev {e : EM (List D)} {ρ : Env'} {zs : List Int} (he : e ρ = .ok ((zs.map nw).map .str) ρ) (hl : zs.length ≤ 40) (hd : Dg zs) : eM1 dJoin (eC (.str " ")) (.ev (e2 dAdd (.ev (eL (argGo (([(eC (.str "store"))] : List (EM D)).map Opd.ev)))) (.ev (eL e)))) ρ = .ok (.str (ln (hdW zs))) ρ := by
  have h2 : e2 dAdd (.ev (eL (argGo (([(eC (.str "store"))] : List (EM D)).map Opd.ev)))) (.ev (eL e)) ρ = .ok (.lst ((hdW zs).map .str)) ρ := by
    rw [e2_ev, eL_def, disp_1, eC_go, bind_ok, bind_ok, bind_ok, eL_def, he, bind_ok, bind_ok, dAdd_lst (by simp; omega)]
    rfl
  exact join_ev (y := " ") rfl h2 rfl (by decide) (by simp [hdW]; omega) fun w hw => by
    have := ((hd_clean hd (by omega)).w1 _ (List.mem_singleton.mpr rfl) w hw).1
    omega
theorem rw_ev {e : EM (List D)} {ρ : Env'} {r : List Int} (he : e ρ = .ok ((r.map nw).map .str) ρ) (hl : r.length ≤ 40) (hd : Dg r) : eM1 dJoin (eC (.str " ")) (.ev (eL e)) ρ = .ok (.str (ln (rwW r))) ρ := by
  have h2 : eL e ρ = .ok (.lst ((rwW r).map .str)) ρ := by
    rw [eL_def, he, bind_ok]
    rfl
  exact join_ev (y := " ") rfl h2 rfl (by decide) (by simp [rwW]; omega) fun w hw => by
    obtain ⟨n, hn, rfl⟩ := List.mem_map.mp hw
    have := (nw_cl (hd n hn)).1
    omega
theorem ln_le {W : List (List Str)} (c : Clean W) : ∀ l ∈ W.map ln, l.length ≤ 2000 := fun l hl => by
  obtain ⟨w, hw, rfl⟩ := List.mem_map.mp hl
  have := ln_len (c.w0 w hw).2 fun x hx => (c.w1 w hw x hx).1
  omega
theorem v_text {zs : List Int} {rows : List (List Int)} (s : St zs rows) : s_store_text [.va (stD zs rows)] = .ok (.str (tx (stW zs rows))) [.no] := by
  refine run_rt (ρ := [.va (stD zs rows), .va (.lst [.str (ln (hdW zs))]), .no, .no, .no]) ?_
  show b_store_text [.va (stD zs rows), .no, .no, .no, .no] = _
  unfold b_store_text
  have hzl := s.zl
  have hrl := s.rl
  have q1 : sSet 1 (eL (argGo (([(eM1 dJoin (eC (.str " ")) (.ev (e2 dAdd (.ev (eL (argGo (([(eC (.str "store"))] : List (EM D)).map Opd.ev)))) (.ev (eL (eComp (iS (e1 (dFld "Store" "sizes") (.ev (eVar 0)))) [2] (gN 2) cYes (eB (on1 dStr) [(.ev (eVar 2))])))))))] : List (EM D)).map Opd.ev))) [.va (stD zs rows), .no, .no, .no, .no] = .nx [.va (stD zs rows), .va (.lst [.str (ln (hdW zs))]), .no, .no, .no] := by
    have hs : e1 (dFld "Store" "sizes") (.ev (eVar 0)) [.va (stD zs rows), .no, .no, .no, .no] = .ok (rD zs) [.va (stD zs rows), .no, .no, .no, .no] := by
      rw [e1_ev, eVar_0, bind_ok, sizes_st]
      rfl
    have hc := strs_ev (j := 2) hs (rD_sq zs) ⟨.no, rfl, .no⟩ (by omega) s.dg
    rw [sSet_def, eL_def, disp_1, hd_ev hc (by omega) s.dg]
    rfl
  rw [seq_nx q1]
  let ρ : Env' := [.va (stD zs rows), .va (.lst [.str (ln (hdW zs))]), .no, .no, .no]
  have hs : e1 (dFld "Store" "states") (.ev (eVar 0)) ρ = .ok (.tup (rows.map rD)) ρ := by
    rw [e1_ev, show eVar 0 ρ = .ok (stD zs rows) ρ from rfl, bind_ok, states_st]
    rfl
  have hc := comp1 (it := iS (e1 (dFld "Store" "states") (.ev (eVar 0)))) (j := 3) (f := eM1 dJoin (eC (.str " ")) (.ev (eL (eComp (iS (eVar 3)) [4] (gN 4) cYes (eB (on1 dStr) [(.ev (eVar 4))]))))) (ρ := ρ) (l := rows) rD (fun r => .str (ln (rwW r))) (it_seq hs rfl) ⟨.no, rfl, .no⟩ (by omega) fun r hr => by
    obtain ⟨d1, _, d3⟩ := s.rdg hr
    have hl := okR_len (s.ok.r2 r hr)
    exact rw_ev (strs_ev (j := 4) (f := eVar 3) (ρ := ρ.set 3 (.va (rD r))) rfl (rD_sq r) ⟨.no, rfl, .no⟩ (by omega) d1) (by omega) d1
  have ha : e2 dAdd (.ev (eVar 1)) (.ev (eL (eComp (iS (e1 (dFld "Store" "states") (.ev (eVar 0)))) [3] (gN 3) cYes (eM1 dJoin (eC (.str " ")) (.ev (eL (eComp (iS (eVar 3)) [4] (gN 4) cYes (eB (on1 dStr) [(.ev (eVar 4))])))))))) ρ = .ok (.lst (((stW zs rows).map ln).map .str)) ρ := by
    rw [e2_ev, show eVar 1 ρ = .ok (.lst [.str (ln (hdW zs))]) ρ from rfl, bind_ok, eL_def, hc, bind_ok, bind_ok, dAdd_lst (by simp; omega)]
    unfold stW
    rw [List.map_cons, List.map_cons, List.map_map, List.map_map]
    rfl
  show (sRet _) ρ = _
  rw [sRet_def, join_ev (f := eC (.str "\n")) (y := "\n") rfl ha rfl (by decide) (by simp [stW]; omega) (ln_le s.clean)]
  rfl
end Ma
end

section
set_option maxRecDepth 100000
set_option linter.all false
set_option exponentiation.threshold 100000
namespace Ma
open PySem PySem.Spec PyProof.Rows L2 DL Wk
/-! every row -/
def ext (F : List (List Int)) (s : Int) : List (List Int) := (F.map fun r => (List.range s.toNat).map fun v : Nat => r ++ [(v : Int)]).flatten
def allR (zs : List Int) : List (List Int) := zs.foldl ext [[]]
def pr (zs : List Int) : Int := zs.foldl (· * ·) 1
theorem ext_cons (r : List Int) (F : List (List Int)) (s : Int) : ext (r :: F) s = ((List.range s.toNat).map fun v : Nat => r ++ [(v : Int)]) ++ ext F s := rfl
theorem ext_len (F : List (List Int)) (s : Int) : (ext F s).length = F.length * s.toNat := by
  induction F with
  | nil => simp [ext]
  | cons r F ih =>
    rw [ext_cons, List.length_append, ih, List.length_map, List.length_range, List.length_cons, Nat.add_mul]
    omega
theorem mem_ext {F : List (List Int)} {s : Int} {x : List Int} : x ∈ ext F s ↔ ∃ r ∈ F, ∃ v : Nat, v < s.toNat ∧ x = r ++ [(v : Int)] := by
  unfold ext
  simp only [List.mem_flatten, List.mem_map]
  constructor
  · rintro ⟨l, ⟨r, hr, rfl⟩, h⟩
    obtain ⟨v, hv, rfl⟩ := List.mem_map.mp h
    exact ⟨r, hr, v, List.mem_range.mp hv, rfl⟩
  · rintro ⟨r, hr, v, hv, rfl⟩
    exact ⟨_, ⟨r, hr, rfl⟩, List.mem_map.mpr ⟨v, List.mem_range.mpr hv, rfl⟩⟩
theorem cd_snoc (v : Int) : ∀ r : List Int, cd (r ++ [v]) = cd r * 1000 + v
  | [] => by
    show v * 1000 ^ 0 + 0 = 0 * 1000 + v
    omega
  | d :: r => by
    have ih : TS.code 1000 (r ++ [v]) = TS.code 1000 r * 1000 + v := cd_snoc v r
    show d * 1000 ^ (r ++ [v]).length + TS.code 1000 (r ++ [v]) = (d * 1000 ^ r.length + TS.code 1000 r) * 1000 + v
    rw [ih, List.length_append, List.length_singleton, Int.pow_succ, Int.add_mul, Int.mul_assoc, Int.add_assoc]
structure Sp (pre : List Int) (F : List (List Int)) : Prop where
  asc : Asc F
  ok : ∀ r ∈ F, okR pre r = true
  len : (F.length : Int) = pr pre
theorem okR_snoc {pre r : List Int} {s : Int} {v : Nat} (h : okR pre r = true) (hv : v < s.toNat) : okR (pre ++ [s]) (r ++ [(v : Int)]) = true := by
  have hl := okR_len h
  unfold okR at h ⊢
  simp only [Bool.and_eq_true, decide_eq_true_eq, List.all_eq_true] at h ⊢
  refine ⟨by simp [hl], fun p hp => ?_⟩
  rw [List.zip_append hl] at hp
  rcases List.mem_append.mp hp with hp | hp
  · exact h.2 p hp
  · have : p = ((v : Int), s) := by simpa using hp
    subst this
    simp only
    omega
theorem Sp.step {pre : List Int} {F : List (List Int)} (h : Sp pre F) (hz : ∀ z ∈ pre, z ≤ 100) {s : Int} (h0 : 0 < s) (h1 : s ≤ 100) : Sp (pre ++ [s]) (ext F s) where
  asc := by
    unfold ext
    refine List.pairwise_flatten.mpr ⟨fun l hl => ?_, ?_⟩
    · obtain ⟨r, hr, rfl⟩ := List.mem_map.mp hl
      refine List.pairwise_map.mpr (List.pairwise_lt_range.imp fun {a b} hab => ?_)
      rw [cd_snoc, cd_snoc]
      omega
    · refine List.pairwise_map.mpr (h.asc.imp fun {x y} hxy a ha b hb => ?_)
      obtain ⟨u, hu, rfl⟩ := List.mem_map.mp ha
      obtain ⟨v, hv, rfl⟩ := List.mem_map.mp hb
      have hu' := List.mem_range.mp hu
      have hv' := List.mem_range.mp hv
      rw [cd_snoc, cd_snoc]
      have hxy' : cd x < cd y := hxy
      omega
  ok := fun x hx => by
    obtain ⟨r, hr, v, hv, rfl⟩ := mem_ext.mp hx
    exact okR_snoc (h.ok r hr) hv
  len := by
    rw [ext_len]
    unfold pr
    rw [List.foldl_append]
    show ((F.length * s.toNat : Nat) : Int) = pr pre * s
    rw [← h.len, Int.natCast_mul]
    congr 1
    omega
theorem sp_nil : Sp [] [[]] := ⟨List.pairwise_singleton _ _, fun r hr => by
  rw [List.mem_singleton.mp hr]
  rfl, rfl⟩
theorem sp_fold : ∀ (rest pre : List Int) (F : List (List Int)), Sp pre F → (∀ z ∈ pre ++ rest, 0 < z ∧ z ≤ 100) → Sp (pre ++ rest) (rest.foldl ext F)
  | [], pre, F, h, _ => by
    rw [List.append_nil]
    exact h
  | s :: rest, pre, F, h, hz => by
    have z := sp_fold rest (pre ++ [s]) (ext F s) (h.step (fun z hz' => (hz z (List.mem_append_left _ hz')).2) (hz s (by simp)).1 (hz s (by simp)).2) (by simpa using hz)
    simpa using z
theorem sp_all {zs : List Int} (hz : ∀ z ∈ zs, 0 < z ∧ z ≤ 100) : Sp zs (allR zs) := by
  have z := sp_fold zs [] [[]] sp_nil (by simpa using hz)
  rw [List.nil_append] at z
  exact z
theorem pr_pos {zs : List Int} (hz : ∀ z ∈ zs, 0 < z) : 0 < pr zs := by
  have : ∀ (zs : List Int) (a : Int), 0 < a → (∀ z ∈ zs, 0 < z) → 0 < zs.foldl (· * ·) a := by
    intro zs
    induction zs with
    | nil => intro a h _; exact h
    | cons z zs ih =>
      intro a h hz
      exact ih (a * z) (Int.mul_pos h (hz z (by simp))) fun y hy => hz y (List.mem_cons_of_mem _ hy)
  exact this zs 1 (by decide) hz
/-! _law_all -/
abbrev inB : SM := sSet 3 (e2 dAdd (.ev (eVar 3)) (.ev (eL (eComp (iR1 (.ev (eVar 2))) [5] (gN 5) cYes (e2 dAdd (.ev (eVar 4)) (.ev (eTup [(eVar 5)])))))))
def A6 (d x : D) (s2 : Sl) (y : D) (s4 : Sl) : Env' := [.va d, .va x, s2, .va y, s4, .no]
theorem in_loop {d x : D} {s : Int} (h0 : 0 ≤ s) (h4 : s ≤ 100) : ∀ (rows G : List (List Int)) (s4 : Sl), Fre s4 → G.length + rows.length * s.toNat ≤ 1000 → (∀ r ∈ rows, r.length ≤ 100) →
    ∃ s4', Fre s4' ∧ forL (gN 4) inB (rows.map rD) (A6 d x (.va (.int s)) (.lst (G.map rD)) s4) = .nx (A6 d x (.va (.int s)) (.lst ((G ++ ext rows s).map rD)) s4')
  | [], G, s4, hf, _, _ => ⟨s4, hf, by
    show Fl.nx _ = _
    unfold ext
    simp⟩
  | r :: rows, G, s4, hf, hn, hr => by
    rw [List.length_cons, Nat.add_mul] at hn
    have hrl := hr r (by simp)
    let ρ : Env' := A6 d x (.va (.int s)) (.lst (G.map rD)) (.va (rD r))
    have g : gN 4 (rD r) (A6 d x (.va (.int s)) (.lst (G.map rD)) s4) = some ρ := by
      rcases hf with rfl | ⟨z, rfl⟩ <;> rfl
    have c := comp1 (it := iR1 (.ev (eVar 2))) (j := 5) (f := e2 dAdd (.ev (eVar 4)) (.ev (eTup [(eVar 5)]))) (ρ := ρ) (l := List.range s.toNat) (fun i : Nat => D.int (0 + (i : Int))) (fun i : Nat => rD (r ++ [(i : Int)])) (it_rng (f := eVar 2) (j := s) rfl (by omega) (by omega)) ⟨.no, rfl, .no⟩ (by rw [List.length_range]; omega) fun i hi => by
      rw [e2_ev, show eVar 4 (ρ.set 5 (.va (.int (0 + (i : Int))))) = .ok (rD r) (ρ.set 5 (.va (.int (0 + (i : Int))))) from rfl, bind_ok, eTup_1, show eVar 5 (ρ.set 5 (.va (.int (0 + (i : Int))))) = .ok (.int (0 + (i : Int))) (ρ.set 5 (.va (.int (0 + (i : Int))))) from rfl, bind_ok, bind_ok]
      show Out.lift _ (dAdd (.tup (r.map .int)) (.tup [.int (0 + (i : Int))])) = _
      rw [dAdd_tup (by simp; omega), lift_some, Int.zero_add]
      unfold rD
      rw [List.map_append]
      rfl
    have b : inB ρ = .nx (A6 d x (.va (.int s)) (.lst ((G ++ (List.range s.toNat).map fun v : Nat => r ++ [(v : Int)]).map rD)) (.va (rD r))) := by
      rw [show inB ρ = _ from sSet_def .., e2_ev, show eVar 3 ρ = .ok (.lst (G.map rD)) ρ from rfl, bind_ok, eL_def, c, bind_ok, bind_ok, dAdd_lst (by simp; omega), lift_some, fl_ok, List.map_append, List.map_map]
      rfl
    obtain ⟨s4', hf', ih⟩ := in_loop (d := d) (x := x) h0 h4 rows (G ++ (List.range s.toNat).map fun v : Nat => r ++ [(v : Int)]) (.va (rD r)) (.va _) (by
      rw [List.length_append, List.length_map, List.length_range]
      omega) fun q hq => hr q (List.mem_cons_of_mem _ hq)
    refine ⟨s4', hf', ?_⟩
    show (match gN 4 (rD r) (A6 d x (.va (.int s)) (.lst (G.map rD)) s4) with
      | none => Fl.stuck
      | some ρ1 => match inB ρ1 with
        | .nx ρ2 => forL (gN 4) inB (rows.map rD) ρ2
        | .ct ρ2 => forL (gN 4) inB (rows.map rD) ρ2
        | .bk ρ2 => .nx ρ2
        | r => r) = _
    rw [g]
    simp only [b]
    rw [ih, ext_cons, List.append_assoc]
abbrev outB : SM := sSeq (sSet 3 (eL (argGo (([] : List (EM D)).map Opd.ev))))
  (sSeq (sFor (iS (eVar 1)) (gN 4) inB)
  (sSet 1 (eVar 3)))
theorem out_loop {d : D} : ∀ (rest : List Int) (F : List (List Int)) (s2 s3 s4 : Sl) (m : Nat), Fre s2 → Fre s3 → Fre s4 → (∀ s ∈ rest, 0 ≤ s ∧ s ≤ 4) → F.length * 4 ^ rest.length ≤ 1000 → m + rest.length ≤ 50 → (∀ r ∈ F, r.length ≤ m) →
    ∃ s2' s3' s4', Fre s2' ∧ Fre s3' ∧ Fre s4' ∧ forL (gN 2) outB (rest.map .int) [.va d, .va (.lst (F.map rD)), s2, s3, s4, .no] = .nx [.va d, .va (.lst ((rest.foldl ext F).map rD)), s2', s3', s4', .no]
  | [], F, s2, s3, s4, m, h2, h3, h4, _, _, _, _ => ⟨s2, s3, s4, h2, h3, h4, rfl⟩
  | s :: rest, F, s2, s3, s4, m, h2, h3, h4, hs, hn, hm, hF => by
    obtain ⟨a0, a4⟩ := hs s (by simp)
    have hn' : F.length * 4 * 4 ^ rest.length ≤ 1000 := by
      rw [List.length_cons, Nat.pow_succ] at hn
      rw [Nat.mul_assoc, Nat.mul_comm 4]
      exact hn
    have hp : 0 < 4 ^ rest.length := Nat.pow_pos (by decide)
    have hF4 : F.length * 4 ≤ 1000 := Nat.le_trans (Nat.le_mul_of_pos_right _ hp) hn'
    have hFs : F.length * s.toNat ≤ F.length * 4 := Nat.mul_le_mul_left _ (by omega)
    have g : gN 2 (.int s) [.va d, .va (.lst (F.map rD)), s2, s3, s4, .no] = some [.va d, .va (.lst (F.map rD)), .va (.int s), s3, s4, .no] := by
      rcases h2 with rfl | ⟨z, rfl⟩ <;> rfl
    obtain ⟨s4', h4', lp⟩ := in_loop (d := d) (x := .lst (F.map rD)) a0 (Int.le_trans a4 (by decide)) F [] s4 h4 (by simp; omega) fun r hr => by
      have := hF r hr
      omega
    have b : outB [.va d, .va (.lst (F.map rD)), .va (.int s), s3, s4, .no] = .nx [.va d, .va (.lst ((ext F s).map rD)), .va (.int s), .va (.lst ((ext F s).map rD)), s4', .no] := by
      have q1 : sSet 3 (eL (argGo (([] : List (EM D)).map Opd.ev))) [.va d, .va (.lst (F.map rD)), .va (.int s), s3, s4, .no] = .nx (A6 d (.lst (F.map rD)) (.va (.int s)) (.lst (([] : List (List Int)).map rD)) s4) := by
        rcases h3 with rfl | ⟨z, rfl⟩ <;> rfl
      rw [show outB _ = _ from seq_nx q1]
      have q2 : sFor (iS (eVar 1)) (gN 4) inB (A6 d (.lst (F.map rD)) (.va (.int s)) (.lst (([] : List (List Int)).map rD)) s4) = .nx (A6 d (.lst (F.map rD)) (.va (.int s)) (.lst ((ext F s).map rD)) s4') := by
        rw [sFor_def, it_seq (f := eVar 1) (x := .lst (F.map rD)) (xs := F.map rD) rfl rfl, fl_ok]
        rw [List.nil_append] at lp
        exact lp
      rw [seq_nx q2]
      rfl
    obtain ⟨t2, t3, t4, k2, k3, k4, ih⟩ := out_loop (d := d) rest (ext F s) (.va (.int s)) (.va (.lst ((ext F s).map rD))) s4' (m + 1) (.va _) (.va _) h4' (fun q hq => hs q (List.mem_cons_of_mem _ hq)) (by
      rw [ext_len]
      exact Nat.le_trans (Nat.mul_le_mul_right _ hFs) hn') (by simp at hm; omega) fun x hx => by
        obtain ⟨r, hr, v, _, rfl⟩ := mem_ext.mp hx
        have := hF r hr
        simp
        omega
    refine ⟨t2, t3, t4, k2, k3, k4, ?_⟩
    show (match gN 2 (.int s) [.va d, .va (.lst (F.map rD)), s2, s3, s4, .no] with
      | none => Fl.stuck
      | some ρ1 => match outB ρ1 with
        | .nx ρ2 => forL (gN 2) outB (rest.map .int) ρ2
        | .ct ρ2 => forL (gN 2) outB (rest.map .int) ρ2
        | .bk ρ2 => .nx ρ2
        | r => r) = _
    rw [g]
    simp only [b]
    exact ih
theorem v_law_all {d : D} {zs : List Int} (hd : SqI d zs) (hz : ∀ z ∈ zs, 0 ≤ z ∧ z ≤ 4) (hl : zs.length ≤ 4) : s__law_all [.va d] = .ok (.lst ((allR zs).map rD)) [.no] := by
  have hp : 4 ^ zs.length ≤ 4 ^ 4 := Nat.pow_le_pow_right (by decide) hl
  obtain ⟨t2, t3, t4, k2, k3, k4, lp⟩ := out_loop (d := d) zs [[]] .no .no .no 0 .no .no .no hz (by simp; omega) (by omega) (by simp)
  refine run_rt (ρ := [.va d, .va (.lst ((allR zs).map rD)), t2, t3, t4, .no]) ?_
  show b__law_all [.va d, .no, .no, .no, .no, .no] = _
  unfold b__law_all
  have q1 : sSet 1 (eL (argGo (([(eTup [])] : List (EM D)).map Opd.ev))) [.va d, .no, .no, .no, .no, .no] = .nx [.va d, .va (.lst (([[]] : List (List Int)).map rD)), .no, .no, .no, .no] := rfl
  rw [seq_nx q1]
  have q2 : sFor (iS (eVar 0)) (gN 2) outB [.va d, .va (.lst (([[]] : List (List Int)).map rD)), .no, .no, .no, .no] = .nx [.va d, .va (.lst ((allR zs).map rD)), t2, t3, t4, .no] := by
    rw [sFor_def, it_seq (f := eVar 0) (x := d) (xs := zs.map .int) rfl hd, fl_ok]
    exact lp
  rw [seq_nx q2]
  rfl
end Ma
end

section
set_option maxRecDepth 100000
set_option linter.all false
set_option exponentiation.threshold 100000
namespace Ma
open PySem PySem.Spec PyProof.Rows L2 DL Wk
/-! _law_sizes -/
structure Zs (zs : List Int) : Prop where
  b : ∀ z ∈ zs, 1 ≤ z ∧ z ≤ 4
  l : zs.length ≤ 4
  p : pr zs ≤ 36
abbrev szB : SM := sSeq (sSet 5 (eCall s__law_of [(.io 0), (.ev (eL (argGo (([(eC (.int 1)), (eC (.int 2)), (eC (.int 2)), (eC (.int 2)), (eC (.int 3)), (eC (.int 3)), (eC (.int 4))] : List (EM D)).map Opd.ev))))]))
  (sIf (eT (e2 dLe (.ev (e2 dMul (.ev (eVar 3)) (.ev (eVar 5)))) (.ev (eVar 1)))) (sSeq (sApp 2 (eVar 5))
  (sSet 3 (e2 dMul (.ev (eVar 3)) (.ev (eVar 5))))) sNx)
def Z6 (L : List Int) (b : Int) (zs : List Int) (s4 s5 : Sl) : Env' := [.ow true (.deal L b), .va (.int 36), .ow false (.lst (zs.map .int)), .va (.int (pr zs)), s4, s5]
theorem pr_snoc (zs : List Int) (s : Int) : pr (zs ++ [s]) = pr zs * s := by
  unfold pr
  rw [List.foldl_append]
  rfl
theorem sz_loop : ∀ (items : List D) (L : List Int) (b : Int) (zs : List Int) (s4 s5 : Sl), Good L b → Fre s4 → Fre s5 → (∀ z ∈ zs, 1 ≤ z ∧ z ≤ 4) → pr zs ≤ 36 → zs.length + items.length ≤ 4 →
    ∃ L' b' zs' s4' s5', Good L' b' ∧ Fre s4' ∧ Fre s5' ∧ Zs zs' ∧ forL (gN 4) szB items (Z6 L b zs s4 s5) = .nx (Z6 L' b' zs' s4' s5')
  | [], L, b, zs, s4, s5, g, h4, h5, hz, hp, hn => ⟨L, b, zs, s4, s5, g, h4, h5, ⟨hz, by simpa using hn, hp⟩, rfl⟩
  | x :: items, L, b, zs, s4, s5, g, h4, h5, hz, hp, hn => by
    rw [List.length_cons] at hn
    have gg : gN 4 x (Z6 L b zs s4 s5) = some (Z6 L b zs (.va x) s5) := by
      rcases h4 with rfl | ⟨z, rfl⟩ <;> rfl
    obtain ⟨L1, b1, y, g1, hy, e⟩ := of_ev (f := eL (argGo (([(eC (.int 1)), (eC (.int 2)), (eC (.int 2)), (eC (.int 2)), (eC (.int 3)), (eC (.int 3)), (eC (.int 4))] : List (EM D)).map Opd.ev))) (ρ0 := Z6 L b zs (.va x) s5) (io := true) (L := L) (b := b) (x := .lst (([1, 2, 2, 2, 3, 3, 4] : List Int).map .int)) (xs := ([1, 2, 2, 2, 3, 3, 4] : List Int).map .int) (rest := [.va (.int 36), .ow false (.lst (zs.map .int)), .va (.int (pr zs)), .va x, s5]) ⟨_, _, _, _, rfl⟩ rfl g rfl (by simp) (by simp)
    obtain ⟨s, hs, rfl⟩ := List.mem_map.mp hy
    have hs14 : 1 ≤ s ∧ s ≤ 4 := by
      simp at hs
      omega
    have q1 : sSet 5 (eCall s__law_of [(.io 0), (.ev (eL (argGo (([(eC (.int 1)), (eC (.int 2)), (eC (.int 2)), (eC (.int 2)), (eC (.int 3)), (eC (.int 3)), (eC (.int 4))] : List (EM D)).map Opd.ev))))]) (Z6 L b zs (.va x) s5) = .nx (Z6 L1 b1 zs (.va x) (.va (.int s))) := by
      rw [sSet_def, e, fl_ok]
      rcases h5 with rfl | ⟨z, rfl⟩ <;> rfl
    have hp0 : 0 < pr zs := pr_pos fun z h => by
      have := hz z h
      omega
    let ρ : Env' := Z6 L1 b1 zs (.va x) (.va (.int s))
    have hm : e2 dMul (.ev (eVar 3)) (.ev (eVar 5)) ρ = .ok (.int (pr zs * s)) ρ := by
      rw [e2_ev, show eVar 3 ρ = .ok (.int (pr zs)) ρ from rfl, bind_ok, show eVar 5 ρ = .ok (.int s) ρ from rfl, bind_ok, dMul_sm (k := 40) (sm_lt (by omega) (by omega)) (sm_lt (by omega) (by omega)) (by decide) (by decide)]
      rfl
    have hc : eT (e2 dLe (.ev (e2 dMul (.ev (eVar 3)) (.ev (eVar 5)))) (.ev (eVar 1))) ρ = .ok (decide (pr zs * s ≤ 36)) ρ := by
      rw [eT_ok, e2_ev, hm, bind_ok, show eVar 1 ρ = .ok (.int 36) ρ from rfl, bind_ok, dLe_int]
      rfl
    have step : ∀ r, szB (Z6 L b zs (.va x) s5) = r → forL (gN 4) szB (x :: items) (Z6 L b zs s4 s5) = match r with
        | .nx ρ2 => forL (gN 4) szB items ρ2
        | .ct ρ2 => forL (gN 4) szB items ρ2
        | .bk ρ2 => .nx ρ2
        | r => r := fun r hr => by
      show (match gN 4 x (Z6 L b zs s4 s5) with
        | none => Fl.stuck
        | some ρ1 => match szB ρ1 with
          | .nx ρ2 => forL (gN 4) szB items ρ2
          | .ct ρ2 => forL (gN 4) szB items ρ2
          | .bk ρ2 => .nx ρ2
          | r => r) = _
      rw [gg]
      simp only [hr]
    by_cases hle : pr zs * s ≤ 36
    · have b0 : szB (Z6 L b zs (.va x) s5) = .nx (Z6 L1 b1 (zs ++ [s]) (.va x) (.va (.int s))) := by
        rw [show szB _ = _ from seq_nx q1, sIf_def, show Z6 L1 b1 zs (.va x) (.va (.int s)) = ρ from rfl, hc, fl_ok, decide_eq_true hle, if_pos rfl]
        have q2 : sApp 2 (eVar 5) ρ = .nx [.ow true (.deal L1 b1), .va (.int 36), .ow false (.lst ((zs ++ [s]).map .int)), .va (.int (pr zs)), .va x, .va (.int s)] := by
          unfold sApp
          rw [if_pos (show (ownL ρ 2).isSome = true from rfl), show eVar 5 ρ = .ok (.int s) ρ from rfl, fl_ok]
          show (if (zs.map D.int).length < 1000000 then Fl.nx (ρ.set 2 (.ow false (.lst (zs.map .int ++ [.int s])))) else .stuck) = _
          rw [if_pos (by rw [List.length_map]; omega), List.map_append]
          rfl
        rw [seq_nx q2, sSet_def]
        rw [show e2 dMul (.ev (eVar 3)) (.ev (eVar 5)) [.ow true (.deal L1 b1), .va (.int 36), .ow false (.lst ((zs ++ [s]).map .int)), .va (.int (pr zs)), .va x, .va (.int s)] = .ok (.int (pr zs * s)) [.ow true (.deal L1 b1), .va (.int 36), .ow false (.lst ((zs ++ [s]).map .int)), .va (.int (pr zs)), .va x, .va (.int s)] by
          rw [e2_ev, show eVar 3 [.ow true (.deal L1 b1), .va (.int 36), .ow false (.lst ((zs ++ [s]).map .int)), .va (.int (pr zs)), .va x, .va (.int s)] = .ok (.int (pr zs)) _ from rfl, bind_ok, show eVar 5 [.ow true (.deal L1 b1), .va (.int 36), .ow false (.lst ((zs ++ [s]).map .int)), .va (.int (pr zs)), .va x, .va (.int s)] = .ok (.int s) _ from rfl, bind_ok, dMul_sm (k := 40) (sm_lt (by omega) (by omega)) (sm_lt (by omega) (by omega)) (by decide) (by decide)]
          rfl]
        unfold Z6
        rw [pr_snoc]
        rfl
      obtain ⟨L', b', zs', t4, t5, g', k4, k5, hz', ih⟩ := sz_loop items L1 b1 (zs ++ [s]) (.va x) (.va (.int s)) g1 (.va _) (.va _) (fun z h => by
        rcases List.mem_append.mp h with h | h
        · exact hz z h
        · rw [List.mem_singleton.mp h]
          exact hs14) (by rw [pr_snoc]; exact hle) (by simp; omega)
      exact ⟨L', b', zs', t4, t5, g', k4, k5, hz', (step _ b0).trans ih⟩
    · have b0 : szB (Z6 L b zs (.va x) s5) = .nx (Z6 L1 b1 zs (.va x) (.va (.int s))) := by
        rw [show szB _ = _ from seq_nx q1, sIf_def, show Z6 L1 b1 zs (.va x) (.va (.int s)) = ρ from rfl, hc, fl_ok, decide_eq_false hle, if_neg Bool.false_ne_true]
        rfl
      obtain ⟨L', b', zs', t4, t5, g', k4, k5, hz', ih⟩ := sz_loop items L1 b1 zs (.va x) (.va (.int s)) g1 (.va _) (.va _) hz hp (by omega)
      exact ⟨L', b', zs', t4, t5, g', k4, k5, hz', (step _ b0).trans ih⟩
theorem v_law_sizes {L : List Int} {b : Int} (g : Good L b) : ∃ L' b' zs, Good L' b' ∧ Zs zs ∧ zs ≠ [] ∧ s__law_sizes [.ow true (.deal L b), .va (.int 36)] = .ok (.lst (zs.map .int)) [.ow true (.deal L' b'), .no] := by
  obtain ⟨L1, b1, y, g1, hy, e⟩ := of_ev (f := eL (argGo (([(eC (.int 1)), (eC (.int 2)), (eC (.int 2)), (eC (.int 3)), (eC (.int 3)), (eC (.int 3)), (eC (.int 4))] : List (EM D)).map Opd.ev))) (ρ0 := Z6 L b [] .no .no) (io := true) (L := L) (b := b) (x := .lst (([1, 2, 2, 3, 3, 3, 4] : List Int).map .int)) (xs := ([1, 2, 2, 3, 3, 3, 4] : List Int).map .int) (rest := [.va (.int 36), .ow false (.lst (([] : List Int).map .int)), .va (.int (pr [])), .no, .no]) ⟨_, _, _, _, rfl⟩ rfl g rfl (by simp) (by simp)
  obtain ⟨n, hn, rfl⟩ := List.mem_map.mp hy
  have hn14 : 1 ≤ n ∧ n ≤ 4 := by
    simp at hn
    omega
  obtain ⟨L', b', zs, s4, s5, g', h4, h5, hz, lp⟩ := sz_loop (rngD 0 n.toNat) L1 b1 [] .no .no g1 .no .no (by simp) (by decide) (by simp [rngD]; omega)
  have q1 : sPar 2 3 (.nw (argGo (([] : List (EM D)).map Opd.ev))) (.fz (eC (.int 1))) [.ow true (.deal L b), .va (.int 36), .no, .no, .no, .no] = .nx (Z6 L b [] .no .no) := rfl
  have hit : iR1 (.ev (eCall s__law_of [(.io 0), (.ev (eL (argGo (([(eC (.int 1)), (eC (.int 2)), (eC (.int 2)), (eC (.int 3)), (eC (.int 3)), (eC (.int 3)), (eC (.int 4))] : List (EM D)).map Opd.ev))))])) (Z6 L b [] .no .no) = .ok (rngD 0 n.toNat) (Z6 L1 b1 [] .no .no) := by
    show ((eCall s__law_of _ _).bind fun d ρ1 => (Out.ok [] ρ1).bind fun ds ρ2 => Out.ok (d :: ds) ρ2).bind _ = _
    rw [e, bind_ok, bind_ok, bind_ok]
    show (if -1000000 ≤ n ∧ n < 1000000 then Out.ok (rngD 0 n.toNat) _ else Out.stuck) = _
    rw [if_pos ⟨by omega, by omega⟩]
    rfl
  have q2 : sFor (iR1 (.ev (eCall s__law_of [(.io 0), (.ev (eL (argGo (([(eC (.int 1)), (eC (.int 2)), (eC (.int 2)), (eC (.int 3)), (eC (.int 3)), (eC (.int 3)), (eC (.int 4))] : List (EM D)).map Opd.ev))))]))) (gN 4) szB (Z6 L b [] .no .no) = .nx (Z6 L' b' zs s4 s5) := by
    rw [sFor_def, hit, fl_ok]
    exact lp
  have hq : eT (e2 dNe (.br 2) (.ev (eL (argGo (([] : List (EM D)).map Opd.ev))))) (Z6 L' b' zs s4 s5) = .ok (!zs.isEmpty) (Z6 L' b' zs s4 s5) := by
    show (Out.lift (Z6 L' b' zs s4 s5) (dNe (.lst (zs.map .int)) (.lst []))).bind _ = _
    rw [dNe_ints_nil]
    rfl
  cases hzs : zs with
  | nil =>
    refine ⟨L', b', [2], g', ⟨by simp, by simp, by decide⟩, by simp, ?_⟩
    refine run_rt (ρ := Z6 L' b' zs s4 s5) ?_
    show b__law_sizes [.ow true (.deal L b), .va (.int 36), .no, .no, .no, .no] = _
    unfold b__law_sizes
    rw [seq_nx q1, seq_nx q2, sRet_def, eIf_def, hq, bind_ok, hzs]
    rfl
  | cons z zr =>
    refine ⟨L', b', z :: zr, g', hzs ▸ hz, by simp, ?_⟩
    refine run_rt (ρ := [.ow true (.deal L' b'), .va (.int 36), .va (.lst (zs.map .int)), .va (.int (pr zs)), s4, s5]) ?_
    show b__law_sizes [.ow true (.deal L b), .va (.int 36), .no, .no, .no, .no] = _
    unfold b__law_sizes
    rw [seq_nx q1, seq_nx q2, sRet_def, eIf_def, hq, bind_ok, hzs]
    rfl
end Ma
end

section
set_option maxRecDepth 100000
set_option linter.all false
set_option exponentiation.threshold 100000
namespace Ma
open PySem PySem.Spec PyProof.Rows L2 DL Wk
/-! comprehensions that draw -/
inductive Fam (Q : D → Option D → Prop) : List D → List D → Prop
  | nil : Fam Q [] []
  | cons {x : D} {o : Option D} {xs ys : List D} : Q x o → Fam Q xs ys → Fam Q (x :: xs) (o.toList ++ ys)
theorem compG {it : EM (List D)} {ws : List Nat} {g : Tgt} {c : EM Bool} {f : EM D} {items : List D} {E : List Int → Int → Env'} (Q : D → Option D → Prop) {L0 : List Int} {b0 : Int} {ρ0 : Env'} (hi : it ρ0 = .ok items (E L0 b0)) (hw : (ws.all fun w => notOw (E L0 b0)[w]?) = true) (hl : items.length < 1000000) (g0 : Good L0 b0)
    (hs : ∀ L b x, Good L b → x ∈ items → ∃ L' b' o, Good L' b' ∧ Q x o ∧ stepC ws g c f x (E L b) = .ok o (E L' b')) : ∃ L' b' ys, Good L' b' ∧ Fam Q items ys ∧ eComp it ws g c f ρ0 = .ok ys (E L' b') := by
  have key : ∀ (xs : List D) (L : List Int) (b : Int), Good L b → (∀ x ∈ xs, x ∈ items) → ∃ L' b' ys, Good L' b' ∧ Fam Q xs ys ∧ compL ws g c f xs (E L b) = .ok ys (E L' b') := by
    intro xs
    induction xs with
    | nil => intro L b g _; exact ⟨L, b, [], g, .nil, rfl⟩
    | cons x xs ih =>
      intro L b g0 hx
      obtain ⟨L1, b1, o, g1, q, e⟩ := hs L b x g0 (hx x (by simp))
      obtain ⟨L2, b2, ys, g2, fm, e2⟩ := ih L1 b1 g1 fun y hy => hx y (List.mem_cons_of_mem _ hy)
      refine ⟨L2, b2, o.toList ++ ys, g2, .cons q fm, ?_⟩
      rw [compL_cons, e, bind_ok, e2, bind_ok]
  obtain ⟨L', b', ys, g', fm, e⟩ := key items L0 b0 g0 fun x h => h
  refine ⟨L', b', ys, g', fm, ?_⟩
  unfold eComp
  rw [hi, bind_ok, if_pos ⟨hw, hl⟩]
  exact e
theorem fam_sub {Q : D → Option D → Prop} (hQ : ∀ x o, Q x o → o = none ∨ o = some x) : ∀ {xs ys : List D}, Fam Q xs ys → ys.Sublist xs
  | _, _, .nil => .slnil
  | _, _, .cons (x := x) q h => by
    rcases hQ _ _ q with rfl | rfl
    · exact .cons _ (fam_sub hQ h)
    · exact .cons₂ _ (fam_sub hQ h)
theorem fam_ints {P : Int → Prop} {Q : D → Option D → Prop} (hQ : ∀ x o, Q x o → ∃ v, o = some (.int v) ∧ P v) : ∀ {xs ys : List D}, Fam Q xs ys → ∃ vs : List Int, ys = vs.map .int ∧ vs.length = xs.length ∧ ∀ v ∈ vs, P v
  | _, _, .nil => ⟨[], rfl, rfl, by simp⟩
  | _, _, .cons q h => by
    obtain ⟨v, rfl, p⟩ := hQ _ _ q
    obtain ⟨vs, rfl, h2, h3⟩ := fam_ints hQ h
    refine ⟨v :: vs, rfl, by simp [h2], fun u hu => ?_⟩
    rcases List.mem_cons.mp hu with rfl | hu
    · exact p
    · exact h3 u hu
theorem fam_rows {Q : D → Option D → Prop} (hQ : ∀ x o, Q x o → o = none ∨ ∃ k, o = some (rD k)) : ∀ {xs ys : List D}, Fam Q xs ys → ∃ ks : List (List Int), ys = ks.map rD ∧ ks.length ≤ xs.length
  | _, _, .nil => ⟨[], rfl, by simp⟩
  | _, _, .cons q h => by
    obtain ⟨ks, rfl, h2⟩ := fam_rows hQ h
    rcases hQ _ _ q with rfl | ⟨k, rfl⟩
    · exact ⟨ks, rfl, by simp; omega⟩
    · exact ⟨k :: ks, rfl, by simp; omega⟩
def EE (rest : Env') (L : List Int) (b : Int) : Env' := .ow true (.deal L b) :: rest
theorem st1 {rest : Env'} {j : Nat} {c : EM Bool} {f : EM D} {x y : D} {p : Bool} {L L1 : List Int} {b b1 : Int} (hj : rest[j]? = some .no) (hc : c (EE (rest.set j (.va x)) L b) = .ok p (EE (rest.set j (.va x)) L1 b1)) (hf : f (EE (rest.set j (.va x)) L1 b1) = .ok y (EE (rest.set j (.va x)) L1 b1)) :
    stepC [j + 1] (gN (j + 1)) c f x (EE rest L b) = .ok (if p = true then some y else none) (EE rest L1 b1) := by
  have hg : gN (j + 1) x (wipeR (EE rest L b) [j + 1]) = some (EE (rest.set j (.va x)) L b) := by
    show (if isIo (rest.set j .no)[j]? = true then none else some (Sl.ow true (.deal L b) :: (rest.set j .no).set j (.va x))) = _
    rw [get_set hj, if_neg (show ¬ isIo (some Sl.no) = true from Bool.false_ne_true), List.set_set]
    rfl
  have hr : restore (EE rest L b) (EE (rest.set j (.va x)) L1 b1) [j + 1] = EE rest L1 b1 := by
    show (Sl.ow true (.deal L1 b1) :: (rest.set j (.va x)).set j (rest[j]?.getD .no)) = _
    rw [List.set_set, hj]
    show Sl.ow true (.deal L1 b1) :: rest.set j .no = _
    rw [set_self hj]
    rfl
  unfold stepC
  rw [hg]
  simp only [hc]
  cases p with
  | true =>
    simp only [hf, hr]
    rfl
  | false =>
    simp only [hr]
    rfl
theorem st2 {rest : Env'} {j : Nat} {f : EM D} {x y : D} {L L1 : List Int} {b b1 : Int} (hj : rest[j]? = some .no) (hf : f (EE (rest.set j (.va x)) L b) = .ok y (EE (rest.set j (.va x)) L1 b1)) :
    stepC [j + 1] (gN (j + 1)) cYes f x (EE rest L b) = .ok (some y) (EE rest L1 b1) := by
  have hg : gN (j + 1) x (wipeR (EE rest L b) [j + 1]) = some (EE (rest.set j (.va x)) L b) := by
    show (if isIo (rest.set j .no)[j]? = true then none else some (Sl.ow true (.deal L b) :: (rest.set j .no).set j (.va x))) = _
    rw [get_set hj, if_neg (show ¬ isIo (some Sl.no) = true from Bool.false_ne_true), List.set_set]
    rfl
  have hr : restore (EE rest L b) (EE (rest.set j (.va x)) L1 b1) [j + 1] = EE rest L1 b1 := by
    show (Sl.ow true (.deal L1 b1) :: (rest.set j (.va x)).set j (rest[j]?.getD .no)) = _
    rw [List.set_set, hj]
    show Sl.ow true (.deal L1 b1) :: rest.set j .no = _
    rw [set_self hj]
    rfl
  unfold stepC
  rw [hg]
  simp only [cYes_def, hf, hr]
/-- the rows that a test lets through -/
theorem filt {rest : Env'} {c : EM Bool} {rows : List (List Int)} {L : List Int} {b : Int} (g : Good L b) (h3 : rest[2]? = some (.va (.lst (rows.map rD)))) (h19 : rest[18]? = some .no) (hl : rows.length < 1000000)
    (hc : ∀ L b, Good L b → ∀ r ∈ rows, ∃ L' b' p, Good L' b' ∧ c (EE (rest.set 18 (.va (rD r))) L b) = .ok p (EE (rest.set 18 (.va (rD r))) L' b')) :
    ∃ L' b', ∃ ss : List (List Int), Good L' b' ∧ ss.Sublist rows ∧ eComp (iS (eVar 3)) [19] (gN 19) c (eVar 19) (EE rest L b) = .ok (ss.map rD) (EE rest L' b') := by
  obtain ⟨L', b', ys, g', fm, e⟩ := compG (E := EE rest) (it := iS (eVar 3)) (ws := [19]) (g := gN 19) (c := c) (f := eVar 19) (items := rows.map rD) (fun x o => o = none ∨ o = some x) (L0 := L) (b0 := b) (ρ0 := EE rest L b) (it_seq (x := .lst (rows.map rD)) (eVar_va h3) rfl) (by
    show (notOw rest[18]? && true) = true
    rw [h19]
    rfl) (by rw [List.length_map]; exact hl) g fun L b x g hx => by
      obtain ⟨r, hr, rfl⟩ := List.mem_map.mp hx
      obtain ⟨L1, b1, p, g1, e⟩ := hc L b g r hr
      refine ⟨L1, b1, _, g1, ?_, st1 (j := 18) h19 e (eVar_va (i := 19) (get_set h19))⟩
      cases p
      · exact .inl rfl
      · exact .inr rfl
  obtain ⟨ss, h1, h2⟩ := List.sublist_map_iff.mp (fam_sub (fun x o h => h) fm)
  exact ⟨L', b', ss, g', h1, e.trans (by rw [h2])⟩
/-! values and tests that change nothing -/
def Iv (f : EM D) (ρ : Env') : Prop := ∃ x : Int, f ρ = .ok (.int x) ρ
def Bv (c : EM Bool) (ρ : Env') : Prop := ∃ p, c ρ = .ok p ρ
theorem Iv.var {ρ : Env'} {i : Nat} {x : Int} (h : ρ[i]? = some (.va (.int x))) : Iv (eVar i) ρ := ⟨x, eVar_va h⟩
theorem Iv.sub {f g : EM D} {ρ : Env'} (hf : Iv f ρ) (hg : Iv g ρ) : Iv (e2 dSub (.ev f) (.ev g)) ρ := by
  obtain ⟨x, hf⟩ := hf
  obtain ⟨y, hg⟩ := hg
  exact ⟨x - y, by rw [e2_ev, hf, bind_ok, hg, bind_ok, dSub_int]; rfl⟩
theorem Iv.min2 {f g : EM D} {ρ : Env'} (hf : Iv f ρ) (hg : Iv g ρ) : Iv (eB (on2 dMin2) [(.ev f), (.ev g)]) ρ := by
  obtain ⟨x, hf⟩ := hf
  obtain ⟨y, hg⟩ := hg
  exact ⟨_, by rw [eB_2, hf, bind_ok, hg, bind_ok]; rfl⟩
theorem Iv.int {f : EM D} {ρ : Env'} (hf : Iv f ρ) : Iv (eB (on1 dInt) [(.ev f)]) ρ := by
  obtain ⟨x, hf⟩ := hf
  exact ⟨x, by rw [eB_1, hf, bind_ok]; rfl⟩
theorem Iv.mod {f g : EM D} {ρ : Env'} {m : Int} (hf : Iv f ρ) (hg : g ρ = .ok (.int m) ρ) (h : 0 < m) : Iv (e2 dMod (.ev f) (.ev g)) ρ := by
  obtain ⟨x, hf⟩ := hf
  exact ⟨x % m, by rw [e2_ev, hf, bind_ok, hg, bind_ok, dMod_pos h]; rfl⟩
theorem sumX_ints {d : D} {ns : List Int} (h : SqI d ns) : dSumX d = some (.int ns.sum) := by
  have h' : dItems d = some (ns.map .int) := h
  unfold dSumX
  rw [h']
  simp only [asIs_map]
  rfl
theorem Iv.sum {f : EM D} {ρ : Env'} {d : D} {ns : List Int} (hf : f ρ = .ok d ρ) (h : SqI d ns) : Iv (eB (on1 dSumX) [(.ev f)]) ρ := ⟨ns.sum, by rw [eB_1, hf, bind_ok, sumX_ints h]; rfl⟩
theorem Iv.ix {f g : EM D} {ρ : Env'} {d : D} {ns : List Int} {j : Nat} (hf : f ρ = .ok d ρ) (h : SqI d ns) (hg : g ρ = .ok (.int (j : Int)) ρ) (hj : j < ns.length) : Iv (e2 dIx (.ev f) (.ev g)) ρ := by
  have h' : dItems d = some (ns.map .int) := h
  refine ⟨ns[j], ?_⟩
  rw [e2_ev, hf, bind_ok, hg, bind_ok, ix_items h' (y := .int ns[j]) (by rw [List.getElem?_map, List.getElem?_eq_getElem hj]; rfl)]
  rfl
theorem Bv.cmp {q : Int → Int → Bool} {f g : EM D} {ρ : Env'} (hf : Iv f ρ) (hg : Iv g ρ) : Bv (eT (e2 (dCmp q) (.ev f) (.ev g))) ρ := by
  obtain ⟨x, hf⟩ := hf
  obtain ⟨y, hg⟩ := hg
  exact ⟨q x y, by rw [eT_ok, e2_ev, hf, bind_ok, hg, bind_ok]; rfl⟩
theorem Bv.eq {f g : EM D} {ρ : Env'} (hf : Iv f ρ) (hg : Iv g ρ) : Bv (eT (e2 dEq (.ev f) (.ev g))) ρ := by
  obtain ⟨x, hf⟩ := hf
  obtain ⟨y, hg⟩ := hg
  exact ⟨_, by rw [eT_ok, e2_ev, hf, bind_ok, hg, bind_ok, dEq_int]; rfl⟩
theorem Bv.or {c d : EM Bool} {ρ : Env'} (hc : Bv c ρ) (hd : Bv d ρ) : Bv (tOrB c d) ρ := by
  obtain ⟨p, hc⟩ := hc
  obtain ⟨q, hd⟩ := hd
  refine ⟨p || q, ?_⟩
  rw [tOr_def, hc, bind_ok]
  cases p
  · exact hd
  · rfl
theorem Bv.le2 {f g h : EM D} {ρ : Env'} (hf : Iv f ρ) (hg : Iv g ρ) (hh : Iv h ρ) : Bv (eT (eChain dLe dLe f g h)) ρ := by
  obtain ⟨x, hf⟩ := hf
  obtain ⟨y, hg⟩ := hg
  obtain ⟨z, hh⟩ := hh
  rw [Bv, eT_ok]
  unfold eChain
  rw [hf, bind_ok, hg, bind_ok, dLe_int, lift_some, bind_ok]
  cases decide (x ≤ y)
  · exact ⟨_, rfl⟩
  · simp only [hh, bind_ok, dLe_int, lift_some]
    exact ⟨_, rfl⟩
end Ma
end

section
set_option maxRecDepth 100000
set_option linter.all false
set_option exponentiation.threshold 100000
namespace Ma
open PySem PySem.Spec PyProof.Rows L2 DL Wk
/-! _law_store: its forms -/
def Res (zs : List Int) (rows : List (List Int)) (o : Fl) : Prop := ∃ L b rest, ∃ ss : List (List Int), Good L b ∧ ss.Sublist rows ∧ o = .nx (EE rest L b) ∧ rest[0]? = some (.va (.int 36)) ∧ rest[1]? = some (.va (.lst (zs.map .int))) ∧ rest[2]? = some (.va (.lst (rows.map rD))) ∧ rest[7]? = some (.va (.lst (ss.map rD)))
theorem res8 {zs : List Int} {rest : Env'} {c : EM Bool} {rows : List (List Int)} {L : List Int} {b : Int} (g : Good L b) (h0 : rest[0]? = some (.va (.int 36))) (h1 : rest[1]? = some (.va (.lst (zs.map .int)))) (h3 : rest[2]? = some (.va (.lst (rows.map rD)))) (h7 : rest[7]? = some .no) (h19 : rest[18]? = some .no) (hl : rows.length < 1000000)
    (hc : ∀ L b, Good L b → ∀ r ∈ rows, ∃ L' b' p, Good L' b' ∧ c (EE (rest.set 18 (.va (rD r))) L b) = .ok p (EE (rest.set 18 (.va (rD r))) L' b')) :
    Res zs rows (sSet 8 (eL (eComp (iS (eVar 3)) [19] (gN 19) c (eVar 19))) (EE rest L b)) := by
  obtain ⟨L', b', ss, g', hs, e⟩ := filt g h3 h19 hl hc
  refine ⟨L', b', rest.set 7 (.va (.lst (ss.map rD))), ss, g', hs, ?_, ?_, ?_, ?_, get_set h7⟩
  · rw [sSet_def, eL_def, e, bind_ok, fl_ok]
    show (if isIo rest[7]? = true then Fl.stuck else Fl.nx (Sl.ow true (.deal L' b') :: rest.set 7 (.va (.lst (ss.map rD))))) = _
    rw [h7, if_neg (show ¬ isIo (some Sl.no) = true from Bool.false_ne_true)]
    rfl
  · rw [List.getElem?_set_ne (by decide)]
    exact h0
  · rw [List.getElem?_set_ne (by decide)]
    exact h1
  · rw [List.getElem?_set_ne (by decide)]
    exact h3
def Rr (zs : List Int) (rows : List (List Int)) (form : Int) (s7 s8 s9 s10 s11 s12 s13 s14 s15 s16 s17 s18 : Sl) : Env' := [.va (.int 36), .va (.lst (zs.map .int)), .va (.lst (rows.map rD)), .va (.int form), .va (.int (zs.length : Int)), .va (.lst (rngD 0 zs.length)), s7, s8, s9, s10, s11, s12, s13, s14, s15, s16, s17, s18, .no, .no, .no, .no, .no]
theorem anyK {rest : Env'} {L : List Int} {b m : Int} (g : Good L b) (h0 : 0 < m) (h1 : m < 1000) : ∃ L' b' v, Good L' b' ∧ 0 ≤ v ∧ v < m ∧ eCall s__law_any [.io 0, .ev (eC (.int m))] (EE rest L b) = .ok (.int v) (EE rest L' b') :=
  any_ev (rest := rest) ⟨_, _, _, _, rfl⟩ rfl g h0 (Int.lt_trans h1 (by decide +kernel))
theorem keyK {rest : Env'} {L : List Int} {b : Int} {n : Nat} (h : rest[5]? = some (.va (.lst (rngD 0 n)))) (g : Good L b) (h0 : 0 < n) (h1 : n ≤ 4) : ∃ L' b', ∃ j : Nat, Good L' b' ∧ j < n ∧ eCall s__law_of [.io 0, .ev (eVar 6)] (EE rest L b) = .ok (.int (j : Int)) (EE rest L' b') := by
  have hl : (rngD 0 n).length = n := by simp [rngD]
  obtain ⟨L', b', y, g', hy, e⟩ := of_ev (rest := rest) (f := eVar 6) (ρ0 := EE rest L b) (x := .lst (rngD 0 n)) (xs := rngD 0 n) ⟨_, _, _, _, rfl⟩ (eVar_va h) g rfl (List.length_pos_iff.mp (by omega)) (by omega)
  unfold rngD at hy
  obtain ⟨j, hj, rfl⟩ := List.mem_map.mp hy
  rw [Int.zero_add] at e
  exact ⟨L', b', j, g', List.mem_range.mp hj, e⟩
theorem sum_lo : ∀ {zs : List Int}, (∀ z ∈ zs, 1 ≤ z ∧ z ≤ 4) → (zs.length : Int) ≤ zs.sum ∧ zs.sum ≤ 4 * zs.length
  | [], _ => by simp
  | z :: zs, h => by
    have h1 := h z (by simp)
    have h2 := sum_lo (zs := zs) fun y hy => h y (List.mem_cons_of_mem _ hy)
    simp only [List.sum_cons, List.length_cons]
    omega
section
variable {zs : List Int} {rows : List (List Int)} {L : List Int} {b : Int}
theorem tot_ev {rest : Env'} (h1 : rest[1]? = some (.va (.lst (zs.map .int)))) (h5 : rest[4]? = some (.va (.int (zs.length : Int)))) (hz : Zs zs) (g : Good L b) :
    ∃ L' b' v, Good L' b' ∧ 0 ≤ v ∧ eCall s__law_any [(.io 0), (.ev (e2 dAdd (.ev (e2 dSub (.ev (eB (on1 dSumX) [(.ev (eVar 2))])) (.ev (eVar 5)))) (.ev (eC (.int 1)))))] (EE rest L b) = .ok (.int v) (EE rest L' b') := by
  obtain ⟨a1, a2⟩ := sum_lo hz.b
  have hl := hz.l
  obtain ⟨L', b', v, g', v0, v1, e⟩ := any_ev (rest := rest) (L := L) (b := b) (f := e2 dAdd (.ev (e2 dSub (.ev (eB (on1 dSumX) [(.ev (eVar 2))])) (.ev (eVar 5)))) (.ev (eC (.int 1)))) (ρ0 := EE rest L b) (m := zs.sum - zs.length + 1) ⟨_, _, _, _, rfl⟩ (by
    rw [e2_ev, e2_ev, eB_1, show eVar 2 (EE rest L b) = .ok (.lst (zs.map .int)) (EE rest L b) from eVar_va h1, bind_ok, sumX_ints (sqI_lst zs), lift_some, bind_ok, show eVar 5 (EE rest L b) = .ok (.int (zs.length : Int)) (EE rest L b) from eVar_va h5, bind_ok, dSub_int, lift_some, bind_ok, eC_go, bind_ok, dAdd_int]
    rfl) g (by omega) (Int.lt_trans (show zs.sum - zs.length + 1 < 1000 by omega) (by decide +kernel))
  exact ⟨L', b', v, g', v0, e⟩
abbrev fl8 (c : EM Bool) : SM := sSet 8 (eL (eComp (iS (eVar 3)) [19] (gN 19) c (eVar 19)))
theorem br1 (form : Int) (hz : Zs zs) (hl : rows.length ≤ 36) (g : Good L b) : Res zs rows (sSeq (sSet 7 (eCall s__law_any [(.io 0), (.ev (e2 dAdd (.ev (e2 dSub (.ev (eB (on1 dSumX) [(.ev (eVar 2))])) (.ev (eVar 5)))) (.ev (eC (.int 1)))))]))
  (fl8 (eT (e2 dEq (.ev (eB (on1 dSumX) [(.ev (eVar 19))])) (.ev (eVar 7))))) (EE (Rr zs rows form .no .no .no .no .no .no .no .no .no .no .no .no) L b)) := by
  obtain ⟨L1, b1, v, g1, _, e⟩ := tot_ev (rest := Rr zs rows form .no .no .no .no .no .no .no .no .no .no .no .no) rfl rfl hz g
  have q1 : sSet 7 (eCall s__law_any [(.io 0), (.ev (e2 dAdd (.ev (e2 dSub (.ev (eB (on1 dSumX) [(.ev (eVar 2))])) (.ev (eVar 5)))) (.ev (eC (.int 1)))))]) (EE (Rr zs rows form .no .no .no .no .no .no .no .no .no .no .no .no) L b) = .nx (EE (Rr zs rows form (.va (.int v)) .no .no .no .no .no .no .no .no .no .no .no) L1 b1) := by
    rw [sSet_def, e, fl_ok]
    rfl
  rw [seq_nx q1]
  refine res8 g1 rfl rfl rfl rfl rfl (by omega) fun L b g r hr => ?_
  obtain ⟨p, hp⟩ : Bv (eT (e2 dEq (.ev (eB (on1 dSumX) [(.ev (eVar 19))])) (.ev (eVar 7)))) (EE ((Rr zs rows form (.va (.int v)) .no .no .no .no .no .no .no .no .no .no .no).set 18 (.va (rD r))) L b) := .eq (.sum rfl (rD_sq r)) (.var rfl)
  exact ⟨L, b, p, g, hp⟩
theorem br2 (form : Int) (hz : Zs zs) (hl : rows.length ≤ 36) (g : Good L b) : Res zs rows (sSeq (sSet 9 (eCall s__law_any [(.io 0), (.ev (e2 dAdd (.ev (e2 dSub (.ev (eB (on1 dSumX) [(.ev (eVar 2))])) (.ev (eVar 5)))) (.ev (eC (.int 1)))))]))
  (sSeq (sSet 10 (e2 dAdd (.ev (e2 dAdd (.ev (eVar 9)) (.ev (eC (.int 1))))) (.ev (eCall s__law_any [(.io 0), (.ev (eC (.int 2)))]))))
  (fl8 (eT (eChain dLe dLe (eVar 9) (eB (on1 dSumX) [(.ev (eVar 19))]) (eVar 10))))) (EE (Rr zs rows form .no .no .no .no .no .no .no .no .no .no .no .no) L b)) := by
  obtain ⟨L1, b1, v, g1, _, e⟩ := tot_ev (rest := Rr zs rows form .no .no .no .no .no .no .no .no .no .no .no .no) rfl rfl hz g
  have q1 : sSet 9 (eCall s__law_any [(.io 0), (.ev (e2 dAdd (.ev (e2 dSub (.ev (eB (on1 dSumX) [(.ev (eVar 2))])) (.ev (eVar 5)))) (.ev (eC (.int 1)))))]) (EE (Rr zs rows form .no .no .no .no .no .no .no .no .no .no .no .no) L b) = .nx (EE (Rr zs rows form .no .no (.va (.int v)) .no .no .no .no .no .no .no .no .no) L1 b1) := by
    rw [sSet_def, e, fl_ok]
    rfl
  rw [seq_nx q1]
  obtain ⟨L2, b2, u, g2, _, _, e2'⟩ := anyK (rest := Rr zs rows form .no .no (.va (.int v)) .no .no .no .no .no .no .no .no .no) (m := 2) g1 (by decide) (by decide)
  have q2 : sSet 10 (e2 dAdd (.ev (e2 dAdd (.ev (eVar 9)) (.ev (eC (.int 1))))) (.ev (eCall s__law_any [(.io 0), (.ev (eC (.int 2)))]))) (EE (Rr zs rows form .no .no (.va (.int v)) .no .no .no .no .no .no .no .no .no) L1 b1) = .nx (EE (Rr zs rows form .no .no (.va (.int v)) (.va (.int (v + 1 + u))) .no .no .no .no .no .no .no .no) L2 b2) := by
    rw [sSet_def, e2_ev, e2_ev, show eVar 9 (EE (Rr zs rows form .no .no (.va (.int v)) .no .no .no .no .no .no .no .no .no) L1 b1) = .ok (.int v) _ from rfl, bind_ok, eC_go, bind_ok, dAdd_int, lift_some, bind_ok, e2', bind_ok, dAdd_int]
    rfl
  rw [seq_nx q2]
  refine res8 g2 rfl rfl rfl rfl rfl (by omega) fun L b g r hr => ?_
  obtain ⟨p, hp⟩ : Bv (eT (eChain dLe dLe (eVar 9) (eB (on1 dSumX) [(.ev (eVar 19))]) (eVar 10))) (EE ((Rr zs rows form .no .no (.va (.int v)) (.va (.int (v + 1 + u))) .no .no .no .no .no .no .no .no).set 18 (.va (rD r))) L b) := .le2 (.var rfl) (.sum rfl (rD_sq r)) (.var rfl)
  exact ⟨L, b, p, g, hp⟩
theorem tup4 {f g h k : EM D} {ρ0 ρ1 ρ2 ρ3 ρ4 : Env'} {x y z w : D} (hf : f ρ0 = .ok x ρ1) (hg : g ρ1 = .ok y ρ2) (hh : h ρ2 = .ok z ρ3) (hk : k ρ3 = .ok w ρ4) : eTup [f, g, h, k] ρ0 = .ok (.tup [x, y, z, w]) ρ4 := by
  show (argGo [.ev f, .ev g, .ev h, .ev k] ρ0).bind _ = _
  rw [argGo_cons, hf, bind_ok, argGo_cons, hg, bind_ok, argGo_cons, hh, bind_ok, argGo_cons, hk, bind_ok]
  rfl
theorem one_any {rest : Env'} {L L1 : List Int} {b b1 v : Int} (e : eCall s__law_any [.io 0, .ev (eC (.int 2))] (EE rest L b) = .ok (.int v) (EE rest L1 b1)) : e2 dAdd (.ev (eC (.int 1))) (.ev (eCall s__law_any [(.io 0), (.ev (eC (.int 2)))])) (EE rest L b) = .ok (.int (1 + v)) (EE rest L1 b1) := by
  rw [e2_ev, eC_go, bind_ok, e, bind_ok, dAdd_int]
  rfl
theorem br3 (form : Int) (hz : Zs zs) (hz0 : zs ≠ []) (hr0 : ∀ r ∈ rows, r.length = zs.length) (hl : rows.length ≤ 36) (g : Good L b) : Res zs rows (sSeq (sAsg (eTup [(eCall s__law_of [(.io 0), (.ev (eVar 6))]), (eCall s__law_of [(.io 0), (.ev (eVar 6))]), (e2 dAdd (.ev (eC (.int 1))) (.ev (eCall s__law_any [(.io 0), (.ev (eC (.int 2)))]))), (e2 dAdd (.ev (eC (.int 1))) (.ev (eCall s__law_any [(.io 0), (.ev (eC (.int 2)))])))]) (gS 4 (gsCons (gN 11) (gsCons (gN 12) (gsCons (gN 13) (gsCons (gN 14) gsNil))))))
  (fl8 (tOrB (eT (e2 dLt (.ev (e2 dIx (.ev (eVar 19)) (.ev (eVar 11)))) (.ev (eVar 13)))) (eT (e2 dGe (.ev (e2 dIx (.ev (eVar 19)) (.ev (eVar 12)))) (.ev (eB (on2 dMin2) [(.ev (eVar 14)), (.ev (e2 dSub (.ev (e2 dIx (.ev (eVar 2)) (.ev (eVar 12)))) (.ev (eC (.int 1)))))])))))) (EE (Rr zs rows form .no .no .no .no .no .no .no .no .no .no .no .no) L b)) := by
  have hn : 0 < zs.length := List.length_pos_iff.mpr hz0
  obtain ⟨L1, b1, i, g1, hi, t1⟩ := keyK (rest := Rr zs rows form .no .no .no .no .no .no .no .no .no .no .no .no) rfl g hn hz.l
  obtain ⟨L2, b2, j, g2, hj, t2⟩ := keyK (rest := Rr zs rows form .no .no .no .no .no .no .no .no .no .no .no .no) rfl g1 hn hz.l
  obtain ⟨L3, b3, u, g3, _, _, t3⟩ := anyK (rest := Rr zs rows form .no .no .no .no .no .no .no .no .no .no .no .no) (m := 2) g2 (by decide) (by decide)
  obtain ⟨L4, b4, v, g4, _, _, t4⟩ := anyK (rest := Rr zs rows form .no .no .no .no .no .no .no .no .no .no .no .no) (m := 2) g3 (by decide) (by decide)
  have q1 : sAsg (eTup [(eCall s__law_of [(.io 0), (.ev (eVar 6))]), (eCall s__law_of [(.io 0), (.ev (eVar 6))]), (e2 dAdd (.ev (eC (.int 1))) (.ev (eCall s__law_any [(.io 0), (.ev (eC (.int 2)))]))), (e2 dAdd (.ev (eC (.int 1))) (.ev (eCall s__law_any [(.io 0), (.ev (eC (.int 2)))])))]) (gS 4 (gsCons (gN 11) (gsCons (gN 12) (gsCons (gN 13) (gsCons (gN 14) gsNil))))) (EE (Rr zs rows form .no .no .no .no .no .no .no .no .no .no .no .no) L b) = .nx (EE (Rr zs rows form .no .no .no .no (.va (.int (i : Int))) (.va (.int (j : Int))) (.va (.int (1 + u))) (.va (.int (1 + v))) .no .no .no .no) L4 b4) := by
    unfold sAsg
    rw [tup4 t1 t2 (one_any t3) (one_any t4), fl_ok]
    rfl
  rw [seq_nx q1]
  refine res8 g4 rfl rfl rfl rfl rfl (by omega) fun L b g r hr => ?_
  have hrl := hr0 r hr
  obtain ⟨p, hp⟩ : Bv (tOrB (eT (e2 dLt (.ev (e2 dIx (.ev (eVar 19)) (.ev (eVar 11)))) (.ev (eVar 13)))) (eT (e2 dGe (.ev (e2 dIx (.ev (eVar 19)) (.ev (eVar 12)))) (.ev (eB (on2 dMin2) [(.ev (eVar 14)), (.ev (e2 dSub (.ev (e2 dIx (.ev (eVar 2)) (.ev (eVar 12)))) (.ev (eC (.int 1)))))]))))) (EE ((Rr zs rows form .no .no .no .no (.va (.int (i : Int))) (.va (.int (j : Int))) (.va (.int (1 + u))) (.va (.int (1 + v))) .no .no .no .no).set 18 (.va (rD r))) L b) :=
    .or (.cmp (.ix (j := i) rfl (rD_sq r) rfl (by omega)) (.var rfl)) (.cmp (.ix (j := j) rfl (rD_sq r) rfl (by omega)) (.min2 (.var rfl) (.sub (.ix (j := j) rfl (sqI_lst zs) rfl hj) ⟨1, rfl⟩)))
  exact ⟨L, b, p, g, hp⟩
theorem br5 (form : Int) (hz : Zs zs) (hz0 : zs ≠ []) (hr0 : ∀ r ∈ rows, r.length = zs.length) (hl : rows.length ≤ 36) (g : Good L b) : Res zs rows (sSeq (sAsg (eTup [(eCall s__law_of [(.io 0), (.ev (eVar 6))]), (eCall s__law_of [(.io 0), (.ev (eVar 6))])]) (gS 2 (gsCons (gN 11) (gsCons (gN 12) gsNil))))
  (fl8 (eT (e2 dEq (.ev (e2 dMod (.ev (eB (on1 dInt) [(.ev (e2 dSub (.ev (e2 dIx (.ev (eVar 19)) (.ev (eVar 11)))) (.ev (e2 dIx (.ev (eVar 19)) (.ev (eVar 12))))))])) (.ev (eC (.int 2))))) (.ev (eC (.int 0)))))) (EE (Rr zs rows form .no .no .no .no .no .no .no .no .no .no .no .no) L b)) := by
  have hn : 0 < zs.length := List.length_pos_iff.mpr hz0
  obtain ⟨L1, b1, i, g1, hi, t1⟩ := keyK (rest := Rr zs rows form .no .no .no .no .no .no .no .no .no .no .no .no) rfl g hn hz.l
  obtain ⟨L2, b2, j, g2, hj, t2⟩ := keyK (rest := Rr zs rows form .no .no .no .no .no .no .no .no .no .no .no .no) rfl g1 hn hz.l
  have q1 : sAsg (eTup [(eCall s__law_of [(.io 0), (.ev (eVar 6))]), (eCall s__law_of [(.io 0), (.ev (eVar 6))])]) (gS 2 (gsCons (gN 11) (gsCons (gN 12) gsNil))) (EE (Rr zs rows form .no .no .no .no .no .no .no .no .no .no .no .no) L b) = .nx (EE (Rr zs rows form .no .no .no .no (.va (.int (i : Int))) (.va (.int (j : Int))) .no .no .no .no .no .no) L2 b2) := by
    unfold sAsg
    rw [eTup_2, t1, bind_ok, t2, bind_ok, fl_ok]
    rfl
  rw [seq_nx q1]
  refine res8 g2 rfl rfl rfl rfl rfl (by omega) fun L b g r hr => ?_
  have hrl := hr0 r hr
  obtain ⟨p, hp⟩ : Bv (eT (e2 dEq (.ev (e2 dMod (.ev (eB (on1 dInt) [(.ev (e2 dSub (.ev (e2 dIx (.ev (eVar 19)) (.ev (eVar 11)))) (.ev (e2 dIx (.ev (eVar 19)) (.ev (eVar 12))))))])) (.ev (eC (.int 2))))) (.ev (eC (.int 0))))) (EE ((Rr zs rows form .no .no .no .no (.va (.int (i : Int))) (.va (.int (j : Int))) .no .no .no .no .no .no).set 18 (.va (rD r))) L b) :=
    .eq (.mod (.int (.sub (.ix (j := i) rfl (rD_sq r) rfl (by omega)) (.ix (j := j) rfl (rD_sq r) rfl (by omega)))) rfl (by decide)) ⟨0, rfl⟩
  exact ⟨L, b, p, g, hp⟩
theorem brA {m form : Int} (h0 : 0 < m) (h1 : m < 1000) (hl : rows.length ≤ 36) (g : Good L b) : Res zs rows (fl8 (eT (e2 dEq (.ev (eCall s__law_any [(.io 0), (.ev (eC (.int m)))])) (.ev (eC (.int 0))))) (EE (Rr zs rows form .no .no .no .no .no .no .no .no .no .no .no .no) L b)) := by
  refine res8 g rfl rfl rfl rfl rfl (by omega) fun L b g r hr => ?_
  obtain ⟨L1, b1, v, g1, _, _, e⟩ := anyK (rest := (Rr zs rows form .no .no .no .no .no .no .no .no .no .no .no .no).set 18 (.va (rD r))) (m := m) g h0 h1
  refine ⟨L1, b1, decide (v = 0), g1, ?_⟩
  rw [eT_ok, e2_ev, e, bind_ok, eC_go, bind_ok, dEq_int]
  rfl
theorem brB {m form : Int} (h0 : 0 < m) (h1 : m < 1000) (hl : rows.length ≤ 36) (g : Good L b) : Res zs rows (fl8 (eT (e2 dGt (.ev (eCall s__law_any [(.io 0), (.ev (eC (.int m)))])) (.ev (eC (.int 0))))) (EE (Rr zs rows form .no .no .no .no .no .no .no .no .no .no .no .no) L b)) := by
  refine res8 g rfl rfl rfl rfl rfl (by omega) fun L b g r hr => ?_
  obtain ⟨L1, b1, v, g1, _, _, e⟩ := anyK (rest := (Rr zs rows form .no .no .no .no .no .no .no .no .no .no .no .no).set 18 (.va (rD r))) (m := m) g h0 h1
  refine ⟨L1, b1, decide (v > 0), g1, ?_⟩
  rw [eT_ok, e2_ev, e, bind_ok, eC_go, bind_ok]
  rfl
end
end Ma
end

section
set_option maxRecDepth 100000
set_option linter.all false
set_option exponentiation.threshold 100000
namespace Ma
open PySem PySem.Spec PyProof.Rows L2 DL Wk
section
variable {zs : List Int} {rows : List (List Int)} {L : List Int} {b : Int}
theorem zip_prod {form pm : Int} {ws r : List Int} {L : List Int} {b : Int} (hw : ∀ v ∈ ws, 0 ≤ v ∧ v < 3) (hr : ∀ x ∈ r, 0 ≤ x ∧ x ≤ 100) (hl : r.length ≤ 1000) :
    let ρ := EE ((Rr zs rows form .no .no .no .no .no .no .no .no (.va (.int pm)) (.va (.lst (ws.map .int))) .no .no).set 18 (.va (rD r))) L b
    eComp (iZp (eVar 16) (eVar 19)) [21, 22] (gS 2 (gsCons (gN 21) (gsCons (gN 22) gsNil))) cYes (e2 dMul (.ev (eVar 21)) (.ev (eVar 22))) ρ = .ok (((ws.zip r).map fun p => p.1 * p.2).map .int) ρ := by
  intro ρ
  rw [comp_map (it := iZp (eVar 16) (eVar 19)) (ws := [21, 22]) (g := gS 2 (gsCons (gN 21) (gsCons (gN 22) gsNil))) (c := cYes) (f := e2 dMul (.ev (eVar 21)) (.ev (eVar 22))) (ρ := ρ) (l := ws.zip r) (fun p => .tup [.int p.1, .int p.2]) (fun p => .int (p.1 * p.2)) (by rw [it_zip (f := eVar 16) (g := eVar 19) (ρ := ρ) (x := .lst (ws.map .int)) (y := rD r) (xs := ws.map .int) (ys := r.map .int) rfl rfl rfl rfl, zipD_ints]) rfl (by rw [List.length_zip]; omega) fun p hp => ?_, List.map_map]
  · rfl
  · have h1 := hw p.1 (List.of_mem_zip hp).1
    have h2 := hr p.2 (List.of_mem_zip hp).2
    have hm : dMul (.int p.1) (.int p.2) = some (.int (p.1 * p.2)) := dMul_sm (k := 40) (sm_lt (by omega) (by omega)) (sm_lt (by omega) (by omega)) (by decide) (by decide)
    refine step_of (b := true) (ρ1 := (ρ.set 21 (.va (.int p.1))).set 22 (.va (.int p.2))) rfl rfl (ρ3 := (ρ.set 21 (.va (.int p.1))).set 22 (.va (.int p.2))) ?_ rfl rfl
    rw [e2_ev, show eVar 21 ((ρ.set 21 (.va (.int p.1))).set 22 (.va (.int p.2))) = .ok (.int p.1) _ from rfl, bind_ok, show eVar 22 ((ρ.set 21 (.va (.int p.1))).set 22 (.va (.int p.2))) = .ok (.int p.2) _ from rfl, bind_ok, hm]
    rfl
theorem br4 (form : Int) (hz : Zs zs) (hr0 : ∀ r ∈ rows, r.length = zs.length) (hr1 : ∀ r ∈ rows, ∀ x ∈ r, 0 ≤ x ∧ x ≤ 100) (hl : rows.length ≤ 36) (g : Good L b) : Res zs rows (sSeq (sAsg (eTup [(eCall s__law_of [(.io 0), (.ev (eL (argGo (([(eC (.int 2)), (eC (.int 2)), (eC (.int 3))] : List (EM D)).map Opd.ev))))]), (eL (eComp (iS (eVar 6)) [20] (gN 20) cYes (eCall s__law_any [(.io 0), (.ev (eC (.int 3)))])))]) (gS 2 (gsCons (gN 15) (gsCons (gN 16) gsNil))))
  (fl8 (eT (e2 dEq (.ev (e2 dMod (.ev (eB (on1 dInt) [(.ev (eB (on1 dSumX) [(.ev (eL (eComp (iZp (eVar 16) (eVar 19)) [21, 22] (gS 2 (gsCons (gN 21) (gsCons (gN 22) gsNil))) cYes (e2 dMul (.ev (eVar 21)) (.ev (eVar 22))))))]))])) (.ev (eVar 15)))) (.ev (eC (.int 0)))))) (EE (Rr zs rows form .no .no .no .no .no .no .no .no .no .no .no .no) L b)) := by
  let R := Rr zs rows form .no .no .no .no .no .no .no .no .no .no .no .no
  have hzl := hz.l
  obtain ⟨L1, b1, y, g1, hy, t1⟩ := of_ev (f := eL (argGo (([(eC (.int 2)), (eC (.int 2)), (eC (.int 3))] : List (EM D)).map Opd.ev))) (ρ0 := EE R L b) (io := true) (L := L) (b := b) (x := .lst (([2, 2, 3] : List Int).map .int)) (xs := ([2, 2, 3] : List Int).map .int) (rest := R) ⟨_, _, _, _, rfl⟩ rfl g rfl (by simp) (by simp)
  obtain ⟨pm, hpm, rfl⟩ := List.mem_map.mp hy
  have hpm0 : 0 < pm := by
    simp at hpm
    omega
  obtain ⟨L2, b2, ys, g2, fm, t2⟩ := compG (E := EE R) (it := iS (eVar 6)) (ws := [20]) (g := gN 20) (c := cYes) (f := eCall s__law_any [(.io 0), (.ev (eC (.int 3)))]) (items := rngD 0 zs.length) (fun x o => ∃ v, o = some (.int v) ∧ (0 ≤ v ∧ v < 3)) (L0 := L1) (b0 := b1) (ρ0 := EE R L1 b1) (it_seq (x := .lst (rngD 0 zs.length)) rfl rfl) rfl (by simp [rngD]; omega) g1 fun L b x g hx => by
    obtain ⟨L', b', v, g', v0, v1, e⟩ := anyK (rest := R.set 19 (.va x)) (m := 3) g (by decide) (by decide)
    exact ⟨L', b', _, g', ⟨v, rfl, v0, v1⟩, st2 (rest := R) (j := 19) rfl e⟩
  obtain ⟨ws, rfl, hwl, hw⟩ := fam_ints (P := fun v => 0 ≤ v ∧ v < 3) (fun _ _ h => h) fm
  have q1 : sAsg (eTup [(eCall s__law_of [(.io 0), (.ev (eL (argGo (([(eC (.int 2)), (eC (.int 2)), (eC (.int 3))] : List (EM D)).map Opd.ev))))]), (eL (eComp (iS (eVar 6)) [20] (gN 20) cYes (eCall s__law_any [(.io 0), (.ev (eC (.int 3)))])))]) (gS 2 (gsCons (gN 15) (gsCons (gN 16) gsNil))) (EE R L b) = .nx (EE (Rr zs rows form .no .no .no .no .no .no .no .no (.va (.int pm)) (.va (.lst (ws.map .int))) .no .no) L2 b2) := by
    unfold sAsg
    rw [eTup_2, t1, bind_ok, eL_def]
    have t2' : eComp (iS (eVar 6)) [20] (gN 20) cYes (eCall s__law_any [(.io 0), (.ev (eC (.int 3)))]) (.ow true (.deal L1 b1) :: R) = .ok (ws.map .int) (EE R L2 b2) := t2
    rw [t2', bind_ok, bind_ok, fl_ok]
    rfl
  rw [seq_nx q1]
  refine res8 g2 rfl rfl rfl rfl rfl (by omega) fun L b g r hr => ?_
  have hrl := hr0 r hr
  have zp := zip_prod (zs := zs) (rows := rows) (form := form) (pm := pm) (L := L) (b := b) hw (hr1 r hr) (by omega)
  obtain ⟨p, hp⟩ : Bv (eT (e2 dEq (.ev (e2 dMod (.ev (eB (on1 dInt) [(.ev (eB (on1 dSumX) [(.ev (eL (eComp (iZp (eVar 16) (eVar 19)) [21, 22] (gS 2 (gsCons (gN 21) (gsCons (gN 22) gsNil))) cYes (e2 dMul (.ev (eVar 21)) (.ev (eVar 22))))))]))])) (.ev (eVar 15)))) (.ev (eC (.int 0))))) (EE ((Rr zs rows form .no .no .no .no .no .no .no .no (.va (.int pm)) (.va (.lst (ws.map .int))) .no .no).set 18 (.va (rD r))) L b) :=
    .eq (.mod (.int (.sum (by rw [eL_def, zp]; rfl) (sqI_lst ((ws.zip r).map fun p => p.1 * p.2)))) rfl hpm0) ⟨0, rfl⟩
  exact ⟨L, b, p, g, hp⟩
theorem half_ev {ρ : Env'} (h5 : ρ[5]? = some (.va (.int (zs.length : Int)))) : oBd (some (e2 dDivW (.ev (eVar 5)) (.ev (eC (.int 2))))) ρ = .ok (some ((zs.length / 2 : Nat) : Int)) ρ := by
  refine oBd_some ?_
  rw [e2_ev, show eVar 5 ρ = .ok (.int (zs.length : Int)) ρ from eVar_va h5, bind_ok, eC_go, bind_ok, dDivW_sm (k := 40) (by decide) (sm_lt (by decide) (by decide)) (by decide) (by decide)]
  rfl
theorem cut_ev {ρ : Env'} {r : List Int} (h5 : ρ[5]? = some (.va (.int (zs.length : Int)))) (h19 : ρ[19]? = some (.va (rD r))) : eSl (.ev (eVar 19)) none (some (e2 dDivW (.ev (eVar 5)) (.ev (eC (.int 2))))) ρ = .ok (rD (r.take (zs.length / 2))) ρ := by
  rw [eSl_ev, eVar_va h19, bind_ok, oBd_none, bind_ok, half_ev h5, bind_ok, take_rD]
  rfl
theorem br9 (hl : rows.length ≤ 36) (form : Int) (g : Good L b) : Res zs rows (sSeq (sSet 17 (eL (eComp (iS (eVar 3)) [19] (gN 19) cYes (eSl (.ev (eVar 19)) none (some (e2 dDivW (.ev (eVar 5)) (.ev (eC (.int 2)))))))))
  (sSeq (sSet 18 (eL (eComp (iEn (eVar 17)) [23, 11] (gS 2 (gsCons (gN 23) (gsCons (gN 11) gsNil))) (tAndB (eT (e2 dNotIn (.ev (eVar 11)) (.ev (eSl (.ev (eVar 17)) none (some (eVar 23)))))) (eT (e2 dGt (.ev (eCall s__law_any [(.io 0), (.ev (eC (.int 3)))])) (.ev (eC (.int 0)))))) (eVar 11))))
  (fl8 (eT (e2 dIn (.ev (eSl (.ev (eVar 19)) none (some (e2 dDivW (.ev (eVar 5)) (.ev (eC (.int 2))))))) (.ev (eVar 18)))))) (EE (Rr zs rows form .no .no .no .no .no .no .no .no .no .no .no .no) L b)) := by
  let h := zs.length / 2
  let part := rows.map fun r => r.take h
  let R := Rr zs rows form .no .no .no .no .no .no .no .no .no .no .no .no
  have q1 : sSet 17 (eL (eComp (iS (eVar 3)) [19] (gN 19) cYes (eSl (.ev (eVar 19)) none (some (e2 dDivW (.ev (eVar 5)) (.ev (eC (.int 2)))))))) (EE R L b) = .nx (EE (Rr zs rows form .no .no .no .no .no .no .no .no .no .no (.va (.lst (part.map rD))) .no) L b) := by
    rw [sSet_def, eL_def, comp1 (it := iS (eVar 3)) (j := 19) (l := rows) rD (fun r => rD (r.take h)) (it_seq (x := .lst (rows.map rD)) rfl rfl) ⟨.no, rfl, .no⟩ (by omega) fun r hr => cut_ev rfl rfl, bind_ok, fl_ok]
    have : part.map rD = rows.map fun r => rD (r.take h) := by
      show (rows.map fun r => r.take h).map rD = _
      rw [List.map_map]
      rfl
    rw [this]
    rfl
  rw [seq_nx q1]
  let R2 := Rr zs rows form .no .no .no .no .no .no .no .no .no .no (.va (.lst (part.map rD))) .no
  have hpl : part.length = rows.length := List.length_map ..
  obtain ⟨L2, b2, ys, g2, fm, t2⟩ := compG (E := EE R2) (it := iEn (eVar 17)) (ws := [23, 11]) (g := gS 2 (gsCons (gN 23) (gsCons (gN 11) gsNil))) (c := tAndB (eT (e2 dNotIn (.ev (eVar 11)) (.ev (eSl (.ev (eVar 17)) none (some (eVar 23)))))) (eT (e2 dGt (.ev (eCall s__law_any [(.io 0), (.ev (eC (.int 3)))])) (.ev (eC (.int 0)))))) (f := eVar 11) (items := (part.zipIdx 0).map fun p => D.tup [.int (p.2 : Int), rD p.1]) (fun x o => o = none ∨ ∃ k, o = some (rD k)) (L0 := L) (b0 := b) (ρ0 := EE R2 L b) (by rw [it_enum (f := eVar 17) (ρ := EE R2 L b) (x := .lst (part.map rD)) (xs := part.map rD) rfl rfl, numD_zip]) rfl (by rw [List.length_map, List.length_zipIdx]; omega) g fun L b x g hx => by
    obtain ⟨p, hp, rfl⟩ := List.mem_map.mp hx
    obtain ⟨k, i⟩ := p
    let ρ1 : Env' := ((EE R2 L b).set 23 (.va (.int (i : Int)))).set 11 (.va (rD k))
    have hg : gS 2 (gsCons (gN 23) (gsCons (gN 11) gsNil)) (.tup [.int (i : Int), rD k]) (wipeR (EE R2 L b) [23, 11]) = some ρ1 := rfl
    have hni : eT (e2 dNotIn (.ev (eVar 11)) (.ev (eSl (.ev (eVar 17)) none (some (eVar 23))))) ρ1 = .ok (!decide (k ∈ part.take i)) ρ1 := by
      have hs : eSl (.ev (eVar 17)) none (some (eVar 23)) ρ1 = .ok (.lst ((part.take i).map rD)) ρ1 := by
        show Out.lift ρ1 (some (D.lst (DL.cutD (part.map rD) none (some (i : Int))))) = _
        rw [cut_to, ← List.map_take]
        rfl
      rw [eT_ok, e2_ev, show eVar 11 ρ1 = .ok (rD k) ρ1 from rfl, bind_ok, hs, bind_ok, dNotIn_row]
      rfl
    by_cases hm : k ∈ part.take i
    · refine ⟨L, b, none, g, .inl rfl, ?_⟩
      unfold stepC
      rw [hg]
      simp only [tAnd_def, hni, bind_ok, decide_eq_true hm]
      rfl
    · obtain ⟨L1, b1, v, g1, _, _, e⟩ := anyK (rest := (R2.set 22 (.va (.int (i : Int)))).set 10 (.va (rD k))) (m := 3) g (by decide) (by decide)
      have hgt : (eT (e2 dGt (.ev (eCall s__law_any [(.io 0), (.ev (eC (.int 3)))])) (.ev (eC (.int 0))))) ρ1 = .ok (decide (v > 0)) (EE ((R2.set 22 (.va (.int (i : Int)))).set 10 (.va (rD k))) L1 b1) := by
        have e' : eCall s__law_any [(.io 0), (.ev (eC (.int 3)))] ρ1 = .ok (.int v) (EE ((R2.set 22 (.va (.int (i : Int)))).set 10 (.va (rD k))) L1 b1) := e
        rw [eT_ok, e2_ev, e', bind_ok, eC_go, bind_ok]
        rfl
      refine ⟨L1, b1, if decide (v > 0) = true then some (rD k) else none, g1, ?_, ?_⟩
      · split
        · exact .inr ⟨k, rfl⟩
        · exact .inl rfl
      · unfold stepC
        rw [hg]
        simp only [tAnd_def, hni, bind_ok, decide_eq_false hm, Bool.not_false, if_true, hgt]
        cases decide (v > 0) <;> rfl
  obtain ⟨ks, rfl, _⟩ := fam_rows (fun _ _ h => h) fm
  have q2 : sSet 18 (eL (eComp (iEn (eVar 17)) [23, 11] (gS 2 (gsCons (gN 23) (gsCons (gN 11) gsNil))) (tAndB (eT (e2 dNotIn (.ev (eVar 11)) (.ev (eSl (.ev (eVar 17)) none (some (eVar 23)))))) (eT (e2 dGt (.ev (eCall s__law_any [(.io 0), (.ev (eC (.int 3)))])) (.ev (eC (.int 0)))))) (eVar 11))) (EE R2 L b) = .nx (EE (Rr zs rows form .no .no .no .no .no .no .no .no .no .no (.va (.lst (part.map rD))) (.va (.lst (ks.map rD)))) L2 b2) := by
    rw [sSet_def, eL_def, t2, bind_ok, fl_ok]
    rfl
  rw [seq_nx q2]
  refine res8 g2 rfl rfl rfl rfl rfl (by omega) fun L b g r hr => ?_
  refine ⟨L, b, decide (r.take (zs.length / 2) ∈ ks), g, ?_⟩
  rw [eT_ok, e2_ev, cut_ev (r := r) rfl rfl, bind_ok]
  show (((Out.ok (D.lst (ks.map rD)) _).bind _).bind _) = _
  rw [bind_ok]
  show (Out.lift _ ((dInL (rD (r.take (zs.length / 2))) (.lst (ks.map rD))).map D.bl)).bind _ = _
  rw [dInL_row]
  rfl
end
end Ma
end

section
set_option maxRecDepth 100000
set_option linter.all false
set_option exponentiation.threshold 100000
namespace Ma
open PySem PySem.Spec PyProof.Rows L2 DL Wk
structure Dr (zs : List Int) (rows : List (List Int)) : Prop where
  z : Zs zs
  z0 : zs ≠ []
  r0 : rows ≠ []
  sub : rows.Sublist (allR zs)
theorem Zs.sp {zs : List Int} (h : Zs zs) : Sp zs (allR zs) := sp_all fun z hz => by
  have := h.b z hz
  omega
theorem Zs.all_len {zs : List Int} (h : Zs zs) : (allR zs).length ≤ 36 := by
  have := h.sp.len
  have := h.p
  omega
theorem Zs.all_ne {zs : List Int} (h : Zs zs) : allR zs ≠ [] := by
  have h1 := h.sp.len
  have h2 : 0 < pr zs := pr_pos fun z hz => by
    have := h.b z hz
    omega
  exact List.length_pos_iff.mp (by omega)
theorem Dr.st {zs : List Int} {rows : List (List Int)} (d : Dr zs rows) : St zs rows where
  ok := ⟨d.z0, fun z hz => by
    have := d.z.b z hz
    omega, by
    have := d.z.l
    omega, d.r0, by
    have := d.sub.length_le
    have := d.z.all_len
    omega, fun r hr => d.z.sp.ok r (d.sub.subset hr)⟩
  zb := fun z hz => by
    have := d.z.b z hz
    omega
  zl := by
    have := d.z.l
    omega
  rl := by
    have := d.sub.length_le
    have := d.z.all_len
    omega
  asc := d.z.sp.asc.sublist d.sub
theorem fin_ev {zs : List Int} {rows ss : List (List Int)} {rest : Env'} {L : List Int} {b : Int} (g : Good L b) (h0 : rest[0]? = some (.va (.int 36))) (h1 : rest[1]? = some (.va (.lst (zs.map .int)))) (h2 : rest[2]? = some (.va (.lst (rows.map rD)))) (h7 : rest[7]? = some (.va (.lst (ss.map rD)))) (hs : ss.Sublist rows) (hr : rows ≠ []) (hl : rows.length ≤ 1000) :
    ∃ L' b', ∃ rs : List (List Int), Good L' b' ∧ rs ≠ [] ∧ rs.Sublist rows ∧ sRet (eTup [(eVar 2), (eIf (eT (e2 dNe (.ev (eVar 8)) (.ev (eL (argGo (([] : List (EM D)).map Opd.ev)))))) (eVar 8) (eL (argGo (([(eCall s__law_of [(.io 0), (.ev (eVar 3))])] : List (EM D)).map Opd.ev))))]) (EE rest L b) = .rt (.tup [.lst (zs.map .int), .lst (rs.map rD)]) (EE rest L' b') := by
  have v2 : ∀ L b, eVar 2 (EE rest L b) = .ok (.lst (zs.map .int)) (EE rest L b) := fun L b => eVar_va (i := 2) h1
  have v3 : ∀ L b, eVar 3 (EE rest L b) = .ok (.lst (rows.map rD)) (EE rest L b) := fun L b => eVar_va (i := 3) h2
  have v8 : ∀ L b, eVar 8 (EE rest L b) = .ok (.lst (ss.map rD)) (EE rest L b) := fun L b => eVar_va (i := 8) h7
  have t : eT (e2 dNe (.ev (eVar 8)) (.ev (eL (argGo (([] : List (EM D)).map Opd.ev))))) (EE rest L b) = .ok (!ss.isEmpty) (EE rest L b) := by
    rw [eT_ok, e2_ev, v8, bind_ok, eL_def, disp_0, bind_ok, bind_ok, dNe_rows_nil]
    rfl
  cases e : ss with
  | nil =>
    obtain ⟨L1, b1, y, g1, hy, e1'⟩ := of_ev (rest := rest) (f := eVar 3) (ρ0 := EE rest L b) (x := .lst (rows.map rD)) (xs := rows.map rD) ⟨_, _, _, _, rfl⟩ (v3 L b) g rfl (fun z => hr (List.map_eq_nil_iff.mp z)) (by rw [List.length_map]; omega)
    obtain ⟨r, hm, rfl⟩ := List.mem_map.mp hy
    refine ⟨L1, b1, [r], g1, by simp, List.singleton_sublist.mpr hm, ?_⟩
    rw [sRet_def, eTup_2, v2, bind_ok, eIf_def, t, bind_ok, e, if_neg (show ¬ (![].isEmpty) = true from Bool.false_ne_true), eL_def, disp_1, e1', bind_ok, bind_ok, bind_ok, fl_ok]
    rfl
  | cons s sr =>
    refine ⟨L, b, s :: sr, g, by simp, e ▸ hs, ?_⟩
    rw [sRet_def, eTup_2, v2, bind_ok, eIf_def, t, bind_ok, e, if_pos (show (!(s :: sr).isEmpty) = true from rfl), v8, bind_ok, fl_ok, e]
theorem form_if {zs : List Int} {rows : List (List Int)} {form : Int} {L : List Int} {b : Int} (k : Int) (A B : SM) : sIf (eT (e2 dEq (.ev (eVar 4)) (.ev (eC (.int k))))) A B (EE (Rr zs rows form .no .no .no .no .no .no .no .no .no .no .no .no) L b) = if form = k then A (EE (Rr zs rows form .no .no .no .no .no .no .no .no .no .no .no .no) L b) else B (EE (Rr zs rows form .no .no .no .no .no .no .no .no .no .no .no .no) L b) := by
  rw [sIf_def, eT_ok, e2_ev, show eVar 4 (EE (Rr zs rows form .no .no .no .no .no .no .no .no .no .no .no .no) L b) = .ok (.int form) _ from rfl, bind_ok, eC_go, bind_ok, dEq_int, lift_some, bind_ok, asB_bl, lift_some, fl_ok]
  by_cases h : form = k
  · rw [if_pos h, decide_eq_true h, if_pos rfl]
  · rw [if_neg h, decide_eq_false h, if_neg Bool.false_ne_true]
theorem v_law_store {L : List Int} {b : Int} (g : Good L b) : ∃ L' b' zs rows, Good L' b' ∧ Dr zs rows ∧ s__law_store [.ow true (.deal L b), .va (.int 36)] = .ok (.tup [.lst (zs.map .int), .lst (rows.map rD)]) [.ow true (.deal L' b'), .no] := by
  obtain ⟨L1, b1, zs, g1, hz, hz0, t1⟩ := v_law_sizes g
  have hzl := hz.l
  let T : Env' := List.replicate 22 .no
  let N : Env' := List.replicate 21 .no
  let ρ0 : Env' := .ow true (.deal L b) :: .va (.int 36) :: T
  have q1 : sSet 2 (eCall s__law_sizes [(.io 0), (.ev (eVar 1))]) ρ0 = .nx (.ow true (.deal L1 b1) :: .va (.int 36) :: .va (.lst (zs.map .int)) :: N) := by
    rw [sSet_def, callIo (rest := .va (.int 36) :: T) (f := eVar 1) ⟨_, _, _, _, rfl⟩ rfl t1, fl_ok]
    rfl
  let rows := allR zs
  let M : Env' := .va (.int 36) :: .va (.lst (zs.map .int)) :: N
  obtain ⟨L2, b2, form, g2, f0, f1, t2⟩ := anyK (rest := M) (m := 10) g1 (by decide) (by decide)
  have all := v_law_all (d := .lst (zs.map .int)) (zs := zs) (sqI_lst zs) (fun z h => by
    have := hz.b z h
    omega) hz.l
  let N2 : Env' := List.replicate 19 .no
  have q2 : sPar 3 4 (.fz (eCall s__law_all [(.ev (eVar 2))])) (.fz (eCall s__law_any [(.io 0), (.ev (eC (.int 10)))])) (EE M L1 b1) = .nx (.ow true (.deal L2 b2) :: .va (.int 36) :: .va (.lst (zs.map .int)) :: .va (.lst (rows.map rD)) :: .va (.int form) :: N2) := by
    unfold sPar
    show ((eCall s__law_all [(.ev (eVar 2))]) (EE M L1 b1)).fl _ = _
    rw [call_1, show eVar 2 (EE M L1 b1) = .ok (.lst (zs.map .int)) (EE M L1 b1) from rfl, bind_ok, outR1 _ all, fl_ok]
    show ((eCall s__law_any [(.io 0), (.ev (eC (.int 10)))]) (EE M L1 b1)).fl _ = _
    rw [t2, fl_ok]
    rfl
  let R := Rr zs rows form .no .no .no .no .no .no .no .no .no .no .no .no
  have q3 : sAsg (eTup [(eB (on1 dLen) [(.ev (eVar 2))]), (eLstRg (eB (on1 dLen) [(.ev (eVar 2))]))]) (gS 2 (gsCons (gN 5) (gsCons (gN 6) gsNil))) (.ow true (.deal L2 b2) :: .va (.int 36) :: .va (.lst (zs.map .int)) :: .va (.lst (rows.map rD)) :: .va (.int form) :: N2) = .nx (EE R L2 b2) := by
    let ρ : Env' := .ow true (.deal L2 b2) :: .va (.int 36) :: .va (.lst (zs.map .int)) :: .va (.lst (rows.map rD)) :: .va (.int form) :: N2
    have hlen : eB (on1 dLen) [(.ev (eVar 2))] ρ = .ok (.int (zs.length : Int)) ρ := by
      rw [eB_1, show eVar 2 ρ = .ok (.lst (zs.map .int)) ρ from rfl, bind_ok, (sqI_lst zs).len]
      rfl
    have hrg : eLstRg (eB (on1 dLen) [(.ev (eVar 2))]) ρ = .ok (.lst (rngD 0 zs.length)) ρ := by
      unfold eLstRg
      rw [hlen, bind_ok]
      simp only
      rw [if_pos ⟨by omega, by omega⟩]
      rfl
    unfold sAsg
    rw [eTup_2, show eB (on1 dLen) [(.ev (eVar 2))] (.ow true (.deal L2 b2) :: .va (.int 36) :: .va (.lst (zs.map .int)) :: .va (.lst (rows.map rD)) :: .va (.int form) :: N2) = .ok (.int (zs.length : Int)) ρ from hlen, bind_ok, hrg, bind_ok, fl_ok]
    rfl
  have hrl : rows.length ≤ 36 := hz.all_len
  have hr0 : ∀ r ∈ rows, r.length = zs.length := fun r hr => okR_len (hz.sp.ok r hr)
  have hr1 : ∀ r ∈ rows, ∀ x ∈ r, 0 ≤ x ∧ x ≤ 100 := fun r hr x hx => by
    have := okR_dg (zs := zs) (fun z h => by
      have := hz.b z h
      omega) (hz.sp.ok r hr) x hx
    omega
  suffices h : ∃ L' b', ∃ rs : List (List Int), ∃ rest, Good L' b' ∧ rs ≠ [] ∧ rs.Sublist rows ∧ rest[0]? = some (.va (.int 36)) ∧ b__law_store ρ0 = .rt (.tup [.lst (zs.map .int), .lst (rs.map rD)]) (EE rest L' b') by
    obtain ⟨L', b', rs, rest, g', k0, ks, kr, e⟩ := h
    refine ⟨L', b', zs, rs, g', ⟨hz, hz0, k0, ks⟩, ?_⟩
    have z := run_rt (n := 2) (N := 24) (b := b__law_store) (ps := [.ow true (.deal L b), .va (.int 36)]) (ρ := EE rest L' b') (d := .tup [.lst (zs.map .int), .lst (rs.map rD)]) e
    refine z.trans ?_
    show Out.ok _ [ioS (some (.ow true (.deal L' b'))), ioS rest[0]?] = _
    rw [kr]
    rfl
  unfold b__law_store
  rw [seq_nx q1]
  rw [show (.ow true (.deal L1 b1) :: .va (.int 36) :: .va (.lst (zs.map .int)) :: N : Env') = EE M L1 b1 from rfl]
  rw [seq_nx q2, seq_nx q3]
  by_cases hf0 : form = 0
  · refine ⟨L2, b2, rows, R, g2, hz.all_ne, List.Sublist.refl _, rfl, ?_⟩
    refine seq_rt ?_
    rw [form_if, if_pos hf0, sRet_def, eTup_2, show eVar 2 (EE R L2 b2) = .ok (.lst (zs.map .int)) (EE R L2 b2) from rfl, bind_ok]
    rfl
  have q4 : ∀ A : SM, sIf (eT (e2 dEq (.ev (eVar 4)) (.ev (eC (.int 0))))) A sNx (EE R L2 b2) = .nx (EE R L2 b2) := fun A => by
    rw [form_if, if_neg hf0]
    rfl
  rw [seq_nx (q4 _)]
  have key : ∀ f : SM, Res zs rows (f (EE R L2 b2)) → ∃ L' b', ∃ rs : List (List Int), ∃ rest, Good L' b' ∧ rs ≠ [] ∧ rs.Sublist rows ∧ rest[0]? = some (.va (.int 36)) ∧ sSeq f (sRet (eTup [(eVar 2), (eIf (eT (e2 dNe (.ev (eVar 8)) (.ev (eL (argGo (([] : List (EM D)).map Opd.ev)))))) (eVar 8) (eL (argGo (([(eCall s__law_of [(.io 0), (.ev (eVar 3))])] : List (EM D)).map Opd.ev))))])) (EE R L2 b2) = .rt (.tup [.lst (zs.map .int), .lst (rs.map rD)]) (EE rest L' b') := fun f hf => by
    obtain ⟨L3, b3, rest, ss, g3, hs, e, k0, k1, k2, k7⟩ := hf
    obtain ⟨L4, b4, rs, g4, hne, hsub, e'⟩ := fin_ev g3 k0 k1 k2 k7 hs hz.all_ne (by show rows.length ≤ 1000; omega)
    exact ⟨L4, b4, rs, rest, g4, hne, hsub, k0, (seq_nx e).trans e'⟩
  refine key _ ?_
  rw [form_if]
  by_cases h1 : form = 1
  · rw [if_pos h1]
    exact br1 form hz hrl g2
  rw [if_neg h1, form_if]
  by_cases h2 : form = 2
  · rw [if_pos h2]
    exact br2 form hz hrl g2
  rw [if_neg h2, form_if]
  by_cases h3 : form = 3
  · rw [if_pos h3]
    exact br3 form hz hz0 hr0 hrl g2
  rw [if_neg h3, form_if]
  by_cases h4 : form = 4
  · rw [if_pos h4]
    exact br4 form hz hr0 hr1 hrl g2
  rw [if_neg h4, form_if]
  by_cases h5 : form = 5
  · rw [if_pos h5]
    exact br5 form hz hz0 hr0 hrl g2
  rw [if_neg h5, form_if]
  by_cases h6 : form = 6
  · rw [if_pos h6]
    exact brB (by decide) (by decide) hrl g2
  rw [if_neg h6, form_if]
  by_cases h7 : form = 7
  · rw [if_pos h7]
    exact brA (by decide) (by decide) hrl g2
  rw [if_neg h7, form_if]
  by_cases h8 : form = 8
  · rw [if_pos h8]
    exact brA (by decide) (by decide) hrl g2
  rw [if_neg h8]
  exact br9 hrl form g2
end Ma
end

section
set_option maxRecDepth 100000
set_option linter.all false
set_option exponentiation.threshold 100000
namespace Ma
open PySem PySem.Spec PyProof.Rows L2 DL Wk
/-! _law_mixed -/
def Mx (L : List Int) (b : Int) (rows left found : List (List Int)) : Env' := [.ow true (.deal L b), .va (.lst (rows.map rD)), .ow false (.lst (left.map rD)), .ow false (.lst (found.map rD))]
theorem map_erase {α β : Type} (f : α → β) : ∀ (l : List α) (i : Nat), (l.map f).eraseIdx i = (l.eraseIdx i).map f
  | [], _ => rfl
  | _ :: _, 0 => rfl
  | x :: l, i + 1 => by
    show f x :: (l.map f).eraseIdx i = f x :: (l.eraseIdx i).map f
    rw [map_erase f l i]
theorem erase_perm {α : Type} : ∀ (l : List α) (i : Nat) (h : i < l.length), (l[i] :: l.eraseIdx i).Perm l
  | x :: l, 0, _ => List.Perm.refl _
  | x :: l, i + 1, h => by
    have hi : i < l.length := by simpa using h
    have ih := erase_perm l i hi
    show (l[i] :: x :: l.eraseIdx i).Perm (x :: l)
    exact (List.Perm.swap x l[i] _).trans (ih.cons x)
abbrev mxC : EM Bool := eT (e2 dNe (.br 2) (.ev (eL (argGo (([] : List (EM D)).map Opd.ev)))))
abbrev mxB : SM := sApp 3 (ePopAt 2 (eCall s__law_any [(.io 0), (.ev (eB (on1 dLen) [(.br 2)]))]))
theorem mx_loop {rows : List (List Int)} : ∀ (k : Nat) (left found : List (List Int)) (L : List Int) (b : Int), Good L b → left.length < k → left.length + found.length ≤ 1000 → ∃ L' b', ∃ fs : List (List Int), Good L' b' ∧ fs.Perm (left ++ found) ∧ whileF mxC mxB k (Mx L b rows left found) = .nx (Mx L' b' rows [] fs)
  | 0, left, found, L, b, g, h, _ => absurd h (Nat.not_lt_zero _)
  | k + 1, left, found, L, b, g, h, hn => by
    have hc : mxC (Mx L b rows left found) = .ok (!left.isEmpty) (Mx L b rows left found) := by
      show (Out.lift (Mx L b rows left found) (dNe (.lst (left.map rD)) (.lst []))).bind _ = _
      rw [dNe_rows_nil]
      rfl
    have step : whileF mxC mxB (k + 1) (Mx L b rows left found) = if (!left.isEmpty) = true then (match mxB (Mx L b rows left found) with
        | .nx ρ2 => whileF mxC mxB k ρ2
        | .ct ρ2 => whileF mxC mxB k ρ2
        | .bk ρ2 => .nx ρ2
        | r => r) else .nx (Mx L b rows left found) := by
      show (mxC (Mx L b rows left found)).fl _ = _
      rw [hc, fl_ok]
      all_goals rfl
    cases e : left with
    | nil =>
      refine ⟨L, b, found, g, List.Perm.refl _, ?_⟩
      rw [← e, step, e]
      rfl
    | cons x xs =>
      have hl : 0 < left.length := by
        rw [e]
        simp
      obtain ⟨L1, b1, v, g1, v0, v1, t⟩ := any_ev (f := eB (on1 dLen) [(.br 2)]) (ρ0 := Mx L b rows left found) (io := true) (L := L) (b := b) (m := ((left.map rD).length : Int)) (rest := [.va (.lst (rows.map rD)), .ow false (.lst (left.map rD)), .ow false (.lst (found.map rD))]) ⟨_, _, _, _, rfl⟩ rfl g (by rw [List.length_map]; omega) (Int.lt_trans (show ((left.map rD).length : Int) < 100000 by rw [List.length_map]; omega) (by decide +kernel))
      rw [List.length_map] at v1
      have hv : v.toNat < left.length := by omega
      have hb : mxB (Mx L b rows left found) = .nx (Mx L1 b1 rows (left.eraseIdx v.toNat) (found ++ [left[v.toNat]])) := by
        have hp : ePopAt 2 (eCall s__law_any [(.io 0), (.ev (eB (on1 dLen) [(.br 2)]))]) (Mx L b rows left found) = .ok (rD left[v.toNat]) (Mx L1 b1 rows (left.eraseIdx v.toNat) found) := by
          unfold ePopAt
          rw [if_pos (show (ownL (Mx L b rows left found) 2).isSome = true from rfl), t, bind_ok]
          show (if 0 ≤ v ∧ v < 1000000 then (match (left.map rD)[v.toNat]? with
            | some d => Out.ok d [.ow true (.deal L1 b1), .va (.lst (rows.map rD)), .ow false (.lst ((left.map rD).eraseIdx v.toNat)), .ow false (.lst (found.map rD))]
            | none => .stuck) else .stuck) = _
          rw [if_pos ⟨v0, by omega⟩, List.getElem?_map, List.getElem?_eq_getElem hv, map_erase]
          rfl
        show sApp 3 _ _ = _
        unfold sApp
        rw [if_pos (show (ownL (Mx L b rows left found) 3).isSome = true from rfl), hp, fl_ok]
        show (if (found.map rD).length < 1000000 then Fl.nx [.ow true (.deal L1 b1), .va (.lst (rows.map rD)), .ow false (.lst ((left.eraseIdx v.toNat).map rD)), .ow false (.lst (found.map rD ++ [rD left[v.toNat]]))] else .stuck) = _
        rw [if_pos (by rw [List.length_map]; omega)]
        unfold Mx
        rw [List.map_append]
        rfl
      have hel : (left.eraseIdx v.toNat).length = left.length - 1 := List.length_eraseIdx_of_lt hv
      obtain ⟨L2, b2, fs, g2, hp, w⟩ := mx_loop k (left.eraseIdx v.toNat) (found ++ [left[v.toNat]]) L1 b1 g1 (by omega) (by rw [List.length_append]; simp; omega)
      refine ⟨L2, b2, fs, g2, ?_, ?_⟩
      · rw [← e]
        refine hp.trans ?_
        have h1 : (left[v.toNat] :: left.eraseIdx v.toNat).Perm left := erase_perm left v.toNat hv
        refine List.Perm.trans ?_ (h1.append_right found)
        rw [← List.append_assoc, List.cons_append]
        exact List.perm_append_singleton _ _
      · rw [← e, step, if_pos (by rw [e]; rfl), hb]
        exact w
theorem v_law_mixed {L : List Int} {b : Int} {rows : List (List Int)} (g : Good L b) (hl : rows.length ≤ 90) : ∃ L' b', ∃ ms : List (List Int), Good L' b' ∧ ms.Perm rows ∧ s__law_mixed [.ow true (.deal L b), .va (.lst (rows.map rD))] = .ok (.lst (ms.map rD)) [.ow true (.deal L' b'), .no] := by
  obtain ⟨L', b', ms, g', hp, w⟩ := mx_loop (rows := rows) 100 rows [] L b g (by omega) (by simp; omega)
  rw [List.append_nil] at hp
  refine ⟨L', b', ms, g', hp, ?_⟩
  refine run_rt (ρ := [.ow true (.deal L' b'), .va (.lst (rows.map rD)), .ow false (.lst []), .va (.lst (ms.map rD))]) ?_
  show b__law_mixed [.ow true (.deal L b), .va (.lst (rows.map rD)), .no, .no] = _
  unfold b__law_mixed
  have q1 : sPar 2 3 (.nw (lList (.ev (eVar 1)))) (.nw (argGo (([] : List (EM D)).map Opd.ev))) [.ow true (.deal L b), .va (.lst (rows.map rD)), .no, .no] = .nx (Mx L b rows rows []) := rfl
  rw [seq_nx q1, seq_nx w]
  rfl
end Ma
end

section
set_option maxRecDepth 100000
set_option linter.all false
set_option exponentiation.threshold 100000
namespace Ma
open PySem PySem.Spec PyProof.Rows L2 DL Wk
/-! _law_line -/
def Cw (x : Str) : Prop := x.length ≤ 20 ∧ ∀ c ∈ TL.tl x, c < 128 ∧ c ≠ 32 ∧ c ≠ 10
instance (x : Str) : Decidable (Cw x) := inferInstanceAs (Decidable (_ ∧ _))
def heads : List Str := ["", "store", "store 0", "store 01", "store x", "Store 2", "store  2", "store 100", "2 2", "store 2 ", "store -1", "store 2 0"]
def headW : List (List Str) := [[""], ["store"], ["store", "0"], ["store", "01"], ["store", "x"], ["Store", "2"], ["store", "", "2"], ["store", "100"], ["2", "2"], ["store", "2", ""], ["store", "-1"], ["store", "2", "0"]]
theorem heads_eq : heads = headW.map ln := by decide +kernel
theorem headW_bad : ∀ w ∈ headW, headOk w = false ∧ w ≠ [] ∧ w.length ≤ 50 ∧ ∀ x ∈ w, Cw x := by decide +kernel
/-- a line of words that is no row -/
def BadRow (zs : List Int) (s : Str) : Prop := ∃ w, s = ln w ∧ Clean [w] ∧ rowOk zs w = false
def zw : Str := "0"
theorem row_len {zs : List Int} {w : List Str} (h : w.length ≠ zs.length) : rowOk zs w = false := by
  unfold rowOk
  rw [decide_eq_false h]
  simp
theorem row_bw {zs : List Int} {w : List Str} (h : w.any bw = true) : rowOk zs w = false := by
  unfold rowOk
  rw [h]
  rfl
theorem bad_mk {zs : List Int} {w : List Str} (h0 : w ≠ []) (hl : w.length ≤ 50) (hc : ∀ x ∈ w, Cw x) (h : rowOk zs w = false) : BadRow zs (ln w) := ⟨w, rfl, .one ⟨h0, hl⟩ hc, h⟩
theorem cw_zw : Cw zw := by decide +kernel
theorem cw_em : Cw ("" : Str) := by decide +kernel
theorem bw_em : bw ("" : Str) = true := by decide +kernel
def reps (n : Nat) : List Str := List.replicate n zw
theorem cw_reps {n : Nat} {x : Str} (h : x ∈ reps n) : Cw x := by
  rw [List.eq_of_mem_replicate h]
  exact cw_zw
theorem ln_emp : ln [] = ln [("" : Str)] := TL.ext_tl (by
  unfold ln
  rw [tl_jn, tl_jn]
  rfl)
theorem joinL_mid {S x y : List Nat} : ∀ (A B : List (List Nat)), TL.joinL S (A ++ (x ++ (S ++ y)) :: B) = TL.joinL S (A ++ x :: y :: B)
  | [], [] => rfl
  | [], b :: B => by
    show (x ++ (S ++ y)) ++ (S ++ TL.joinL S (b :: B)) = x ++ (S ++ (y ++ (S ++ TL.joinL S (b :: B))))
    simp
  | [a], B => by
    show a ++ (S ++ TL.joinL S ([] ++ (x ++ (S ++ y)) :: B)) = a ++ (S ++ TL.joinL S ([] ++ x :: y :: B))
    rw [joinL_mid [] B]
  | a :: c :: A, B => by
    show a ++ (S ++ TL.joinL S ((c :: A) ++ (x ++ (S ++ y)) :: B)) = a ++ (S ++ TL.joinL S ((c :: A) ++ x :: y :: B))
    rw [joinL_mid (c :: A) B]
theorem tl_sp0 : TL.tl (" 0" : Str) = TL.tl ("" : Str) ++ (TL.tl (" " : Str) ++ TL.tl zw) := by decide +kernel
theorem ln_mid (A B : List Str) : ln (A ++ (" 0" : Str) :: B) = ln (A ++ ("" : Str) :: zw :: B) := TL.ext_tl (by
  unfold ln
  rw [tl_jn, tl_jn, List.map_append, List.map_append, List.map_cons, List.map_cons, List.map_cons, tl_sp0, joinL_mid])
/-- the odd words -/
def W8 : List Str := ["00", "01", "-1", "x", "", "100", "+0"]
theorem W8_bad : ∀ w ∈ W8, bw w = true ∧ Cw w := by decide +kernel
theorem odd4 {zs : List Int} {p : Nat} (hz : Zs zs) (hp : p < zs.length) {w : Str} (hw : w ∈ W8 ∨ w = nw zs[p] ∨ w = " 0") : BadRow zs (ln ((reps zs.length).take p ++ [w] ++ (reps zs.length).drop (p + 1))) := by
  have hl := hz.l
  have ht : (reps zs.length).take p = reps p := by
    unfold reps
    rw [List.take_replicate]
    congr 1
    omega
  have hd : (reps zs.length).drop (p + 1) = reps (zs.length - (p + 1)) := by
    unfold reps
    rw [List.drop_replicate]
  have e : ∀ w : Str, (reps zs.length).take p ++ [w] ++ (reps zs.length).drop (p + 1) = reps p ++ w :: reps (zs.length - (p + 1)) := fun w => by
    rw [ht, hd]
    simp
  have rl : ∀ n, (reps n).length = n := fun n => List.length_replicate ..
  have cl : ∀ w, Cw w → ∀ x ∈ reps p ++ w :: reps (zs.length - (p + 1)), Cw x := fun w hw x hx => by
    rcases List.mem_append.mp hx with h | h
    · exact cw_reps h
    · rcases List.mem_cons.mp h with rfl | h
      · exact hw
      · exact cw_reps h
  rw [e]
  rcases hw with hw | rfl | rfl
  · obtain ⟨b1, b2⟩ := W8_bad w hw
    exact bad_mk (by simp) (by simp [rl]; omega) (cl w b2) (row_bw (List.any_eq_true.mpr ⟨w, by simp, b1⟩))
  · have hb := hz.b zs[p] (List.getElem_mem hp)
    have hdg : 0 ≤ zs[p] ∧ zs[p] < 10 := by omega
    refine bad_mk (by simp) (by simp [rl]; omega) (cl _ (nw_cl hdg)) ?_
    unfold rowOk
    have hzs : zs = zs.take p ++ zs[p] :: zs.drop (p + 1) := by
      rw [List.getElem_cons_drop, List.take_append_drop]
    have hm : (zs[p], zs[p]) ∈ ((reps p ++ nw zs[p] :: reps (zs.length - (p + 1))).map wv).zip zs := by
      have hz2 : ((reps p ++ nw zs[p] :: reps (zs.length - (p + 1))).map wv).zip (zs.take p ++ zs[p] :: zs.drop (p + 1)) = ((reps p).map wv).zip (zs.take p) ++ (zs[p], zs[p]) :: ((reps (zs.length - (p + 1))).map wv).zip (zs.drop (p + 1)) := by
        rw [List.map_append, List.zip_append (by rw [List.length_map, rl, List.length_take]; omega), List.map_cons, nw_wv hdg]
        rfl
      rw [← hzs] at hz2
      rw [hz2]
      simp
    have ha : ((((reps p ++ nw zs[p] :: reps (zs.length - (p + 1))).map wv).zip zs).all fun q => decide (q.1 < q.2)) = false := by
      rw [List.all_eq_false]
      exact ⟨_, hm, by simp⟩
    rw [ha]
    simp
  · rw [ln_mid]
    refine bad_mk (by simp) (by simp [rl]; omega) (fun x hx => ?_) (row_bw (List.any_eq_true.mpr ⟨"", by simp, bw_em⟩))
    rcases List.mem_append.mp hx with h | h
    · exact cw_reps h
    · rcases List.mem_cons.mp h with rfl | h
      · exact cw_em
      · rcases List.mem_cons.mp h with rfl | h
        · exact cw_zw
        · exact cw_reps h
theorem odd1 {zs : List Int} (hz : Zs zs) : BadRow zs (ln (reps zs.length ++ [zw])) := by
  have hl := hz.l
  have rl : ∀ n, (reps n).length = n := fun n => List.length_replicate ..
  exact bad_mk (by simp) (by simp [rl]; omega) (fun x hx => by
    rcases List.mem_append.mp hx with h | h
    · exact cw_reps h
    · rw [List.mem_singleton.mp h]
      exact cw_zw) (row_len (by simp [rl]))
theorem odd3 {zs : List Int} (hz : Zs zs) : BadRow zs (ln (reps zs.length ++ [("" : Str)])) := by
  have hl := hz.l
  have rl : ∀ n, (reps n).length = n := fun n => List.length_replicate ..
  exact bad_mk (by simp) (by simp [rl]; omega) (fun x hx => by
    rcases List.mem_append.mp hx with h | h
    · exact cw_reps h
    · rw [List.mem_singleton.mp h]
      exact cw_em) (row_len (by simp [rl]))
theorem odd2 {zs : List Int} (hz : Zs zs) (h0 : zs ≠ []) : BadRow zs (ln ((reps zs.length).drop 1)) := by
  have hl := hz.l
  have hn : 0 < zs.length := List.length_pos_iff.mpr h0
  have rl : ∀ n, (reps n).length = n := fun n => List.length_replicate ..
  have hd : (reps zs.length).drop 1 = reps (zs.length - 1) := by
    unfold reps
    rw [List.drop_replicate]
  rw [hd]
  by_cases h1 : zs.length = 1
  · rw [h1]
    show BadRow zs (ln [])
    rw [ln_emp]
    exact bad_mk (by simp) (by simp) (fun x hx => by
      rw [List.mem_singleton.mp hx]
      exact cw_em) (row_bw (List.any_eq_true.mpr ⟨"", by simp, bw_em⟩))
  · exact bad_mk (fun z => by
      have := congrArg List.length z
      rw [rl] at this
      simp at this
      omega) (by rw [rl]; omega) (fun x hx => cw_reps hx) (row_len (by rw [rl]; omega))
end Ma
end

section
set_option maxRecDepth 100000
set_option linter.all false
set_option exponentiation.threshold 100000
namespace Ma
open PySem PySem.Spec PyProof.Rows L2 DL Wk
theorem rep_flat {α : Type} (x : α) : ∀ n : Nat, (List.replicate n [x]).flatten = List.replicate n x
  | 0 => rfl
  | n + 1 => by
    rw [List.replicate_succ, List.flatten_cons, rep_flat x n, List.replicate_succ]
    rfl
theorem rep_map (n : Nat) : (reps n).map D.str = List.replicate n (.str zw) := by
  unfold reps
  rw [List.map_replicate]
def LL (zs : List Int) (k : Nat) (s3 s4 s5 s6 : Sl) : Env' := [.va (.lst (zs.map .int)), .va (.int (k : Int)), s3, s4, s5, s6]
theorem v_line0 {L : List Int} {b : Int} {zs : List Int} (g : Good L b) : ∃ L' b', ∃ w ∈ headW, Good L' b' ∧ s__law_line [.ow true (.deal L b), .va (.lst (zs.map .int)), .va (.int 0)] = .ok (.str (ln w)) [.ow true (.deal L' b'), .no, .no] := by
  let ρ : Env' := EE (LL zs 0 .no .no .no .no) L b
  let ρ1 : Env' := EE (LL zs 0 (.va (.lst (heads.map .str))) .no .no .no) L b
  obtain ⟨L1, b1, y, g1, hy, e⟩ := of_ev (f := eVar 3) (ρ0 := ρ1) (rest := LL zs 0 (.va (.lst (heads.map .str))) .no .no .no) (x := .lst (heads.map .str)) (xs := heads.map .str) ⟨_, _, _, _, rfl⟩ rfl g rfl (by unfold heads; simp) (by rw [List.length_map]; show 12 < 2 ^ 20; decide)
  obtain ⟨s, hs, rfl⟩ := List.mem_map.mp hy
  rw [heads_eq] at hs
  obtain ⟨w, hw, rfl⟩ := List.mem_map.mp hs
  refine ⟨L1, b1, w, hw, g1, ?_⟩
  refine run_rt (ρ := EE (LL zs 0 (.va (.lst (heads.map .str))) .no .no .no) L1 b1) ?_
  show b__law_line ρ = _
  unfold b__law_line
  refine seq_rt ?_
  rw [sIf_def, eT_ok, e2_ev, show eVar 2 ρ = .ok (.int 0) ρ from rfl, bind_ok, eC_go, bind_ok, dEq_int, lift_some, bind_ok, asB_bl, lift_some, fl_ok, if_pos (show decide ((0 : Int) = 0) = true from rfl)]
  have q : sSet 3 (eL (argGo (([(eC (.str "")), (eC (.str "store")), (eC (.str "store 0")), (eC (.str "store 01")), (eC (.str "store x")), (eC (.str "Store 2")), (eC (.str "store  2")), (eC (.str "store 100")), (eC (.str "2 2")), (eC (.str "store 2 ")), (eC (.str "store -1")), (eC (.str "store 2 0"))] : List (EM D)).map Opd.ev))) ρ = .nx ρ1 := rfl
  rw [seq_nx q, sRet_def, e]
  rfl
theorem v_line1 {L : List Int} {b : Int} {zs : List Int} {k : Nat} (g : Good L b) (hz : Zs zs) (h0 : zs ≠ []) (hk : k ≠ 0) : ∃ L' b' s, Good L' b' ∧ BadRow zs s ∧ s__law_line [.ow true (.deal L b), .va (.lst (zs.map .int)), .va (.int (k : Int))] = .ok (.str s) [.ow true (.deal L' b'), .no, .no] := by
  have hl := hz.l
  have hn : 0 < zs.length := List.length_pos_iff.mpr h0
  have rl : ∀ n, (reps n).length = n := fun n => List.length_replicate ..
  let ρ : Env' := EE (LL zs k .no .no .no .no) L b
  have q1 : ∀ A : SM, sIf (eT (e2 dEq (.ev (eVar 2)) (.ev (eC (.int 0))))) A sNx ρ = .nx ρ := fun A => by
    rw [sIf_def, eT_ok, e2_ev, show eVar 2 ρ = .ok (.int (k : Int)) ρ from rfl, bind_ok, eC_go, bind_ok, dEq_int, lift_some, bind_ok, asB_bl, lift_some, fl_ok, decide_eq_false (by omega), if_neg Bool.false_ne_true]
    rfl
  have len : ∀ L b s3 s4 s5 s6, eB (on1 dLen) [(.ev (eVar 1))] (EE (LL zs k s3 s4 s5 s6) L b) = .ok (.int (zs.length : Int)) (EE (LL zs k s3 s4 s5 s6) L b) := fun L b s3 s4 s5 s6 => by
    rw [eB_1, show eVar 1 (EE (LL zs k s3 s4 s5 s6) L b) = .ok (.lst (zs.map .int)) (EE (LL zs k s3 s4 s5 s6) L b) from rfl, bind_ok, (sqI_lst zs).len]
    rfl
  obtain ⟨L1, b1, v, g1, v0, v1, t1⟩ := any_ev (f := eB (on1 dLen) [(.ev (eVar 1))]) (ρ0 := ρ) (rest := LL zs k .no .no .no .no) (m := (zs.length : Int)) ⟨_, _, _, _, rfl⟩ (len L b .no .no .no .no) g (by omega) (Int.lt_trans (show (zs.length : Int) < 1000 by omega) (by decide +kernel))
  obtain ⟨p, rfl⟩ : ∃ p : Nat, v = (p : Int) := ⟨v.toNat, by omega⟩
  have hp : p < zs.length := by omega
  let R := reps zs.length
  let ρ1 : Env' := EE (LL zs k .no (.va (.lst (R.map .str))) (.va (.int (p : Int))) .no) L1 b1
  have q2 : sPar 4 5 (.fz (e2 dMul (.ev (eL (argGo (([(eC (.str "0"))] : List (EM D)).map Opd.ev)))) (.ev (eB (on1 dLen) [(.ev (eVar 1))])))) (.fz (eCall s__law_any [(.io 0), (.ev (eB (on1 dLen) [(.ev (eVar 1))]))])) ρ = .nx ρ1 := by
    have hm : dMul (.lst [.str "0"]) (.int (zs.length : Int)) = some (.lst (R.map .str)) := by
      show (if 0 ≤ (zs.length : Int) ∧ (zs.length : Int) ≤ 1000 ∧ [D.str "0"].length ≤ 1000 then some (D.lst (List.replicate (zs.length : Int).toNat [D.str "0"]).flatten) else none) = _
      rw [if_pos ⟨by omega, by omega, by simp⟩, Int.toNat_natCast, rep_flat, rep_map]
      rfl
    unfold sPar
    show ((e2 dMul (.ev (eL (argGo (([(eC (.str "0"))] : List (EM D)).map Opd.ev)))) (.ev (eB (on1 dLen) [(.ev (eVar 1))]))) ρ).fl _ = _
    rw [e2_ev, eL_def, disp_1, eC_go, bind_ok, bind_ok, bind_ok, len, bind_ok, hm, lift_some, fl_ok]
    show ((eCall s__law_any [(.io 0), (.ev (eB (on1 dLen) [(.ev (eVar 1))]))]) ρ).fl _ = _
    rw [t1, fl_ok]
    rfl
  have hb := hz.b zs[p] (List.getElem_mem hp)
  have hdg : 0 ≤ zs[p] ∧ zs[p] < 10 := by omega
  let W9 : List Str := ["00", "01", "-1", "x", "", "100", nw zs[p], " 0", "+0"]
  have hW9 : eL (argGo (([(eC (.str "00")), (eC (.str "01")), (eC (.str "-1")), (eC (.str "x")), (eC (.str "")), (eC (.str "100")), (eB (on1 dStr) [(.ev (e2 dIx (.ev (eVar 1)) (.ev (eVar 5))))]), (eC (.str " 0")), (eC (.str "+0"))] : List (EM D)).map Opd.ev)) ρ1 = .ok (.lst (W9.map .str)) ρ1 := by
    have hs : eB (on1 dStr) [(.ev (e2 dIx (.ev (eVar 1)) (.ev (eVar 5))))] ρ1 = .ok (.str (nw zs[p])) ρ1 := by
      rw [eB_1, e2_ev, show eVar 1 ρ1 = .ok (.lst (zs.map .int)) ρ1 from rfl, bind_ok, show eVar 5 ρ1 = .ok (.int (p : Int)) ρ1 from rfl, bind_ok, ix_items (xs := zs.map .int) (y := .int zs[p]) rfl (by rw [List.getElem?_map, List.getElem?_eq_getElem hp]; rfl), lift_some, bind_ok, dStr_nw hdg]
      rfl
    rw [eL_def]
    simp only [List.map_cons, List.map_nil, argGo_cons, argGo_nil, eC_go, bind_ok, hs]
    rfl
  obtain ⟨L2, b2, y, g2, hy, t2⟩ := of_ev (f := eL (argGo (([(eC (.str "00")), (eC (.str "01")), (eC (.str "-1")), (eC (.str "x")), (eC (.str "")), (eC (.str "100")), (eB (on1 dStr) [(.ev (e2 dIx (.ev (eVar 1)) (.ev (eVar 5))))]), (eC (.str " 0")), (eC (.str "+0"))] : List (EM D)).map Opd.ev))) (ρ0 := ρ1) (rest := LL zs k .no (.va (.lst (R.map .str))) (.va (.int (p : Int))) .no) (x := .lst (W9.map .str)) (xs := W9.map .str) ⟨_, _, _, _, rfl⟩ hW9 g1 rfl (by simp [W9]) (by simp [W9])
  obtain ⟨w, hw, rfl⟩ := List.mem_map.mp hy
  have hw' : w ∈ W8 ∨ w = nw zs[p] ∨ w = " 0" := by
    simp only [W9, List.mem_cons, List.not_mem_nil, or_false] at hw
    unfold W8
    simp only [List.mem_cons, List.not_mem_nil, or_false]
    rcases hw with h | h | h | h | h | h | h | h | h <;> simp [h]
  let ρ2 : Env' := EE (LL zs k .no (.va (.lst (R.map .str))) (.va (.int (p : Int))) (.va (.str w))) L2 b2
  have q3 : sSet 6 (eCall s__law_of [(.io 0), (.ev (eL (argGo (([(eC (.str "00")), (eC (.str "01")), (eC (.str "-1")), (eC (.str "x")), (eC (.str "")), (eC (.str "100")), (eB (on1 dStr) [(.ev (e2 dIx (.ev (eVar 1)) (.ev (eVar 5))))]), (eC (.str " 0")), (eC (.str "+0"))] : List (EM D)).map Opd.ev))))]) ρ1 = .nx ρ2 := by
    rw [sSet_def, t2, fl_ok]
    rfl
  let O1 := R ++ [zw]
  let O2 := R.drop 1
  let O3 := R ++ [("" : Str)]
  let O4 := R.take p ++ [w] ++ R.drop (p + 1)
  let odd : List D := [.lst (O1.map .str), .lst (O2.map .str), .lst (O3.map .str), .lst (O4.map .str)]
  have hRl : R.length = zs.length := rl _
  have ho : eL (argGo (([(e2 dAdd (.ev (eVar 4)) (.ev (eL (argGo (([(eC (.str "0"))] : List (EM D)).map Opd.ev))))), (eSl (.ev (eVar 4)) (some (eC (.int 1))) none), (e2 dAdd (.ev (eVar 4)) (.ev (eL (argGo (([(eC (.str ""))] : List (EM D)).map Opd.ev))))), (e2 dAdd (.ev (e2 dAdd (.ev (eSl (.ev (eVar 4)) none (some (eVar 5)))) (.ev (eL (argGo (([(eVar 6)] : List (EM D)).map Opd.ev)))))) (.ev (eSl (.ev (eVar 4)) (some (e2 dAdd (.ev (eVar 5)) (.ev (eC (.int 1))))) none)))] : List (EM D)).map Opd.ev)) ρ2 = .ok (.lst odd) ρ2 := by
    have v4 : eVar 4 ρ2 = .ok (.lst (R.map .str)) ρ2 := rfl
    have a1 : e2 dAdd (.ev (eVar 4)) (.ev (eL (argGo (([(eC (.str "0"))] : List (EM D)).map Opd.ev)))) ρ2 = .ok (.lst (O1.map .str)) ρ2 := by
      rw [e2_ev, v4, bind_ok, eL_def, disp_1, eC_go, bind_ok, bind_ok, bind_ok, dAdd_lst (by simp; omega)]
      show Out.ok (D.lst (R.map .str ++ [.str "0"])) ρ2 = .ok (.lst ((R ++ [zw]).map .str)) ρ2
      rw [List.map_append]
      rfl
    have a2 : eSl (.ev (eVar 4)) (some (eC (.int 1))) none ρ2 = .ok (.lst (O2.map .str)) ρ2 := by
      show Out.lift ρ2 (some (D.lst (DL.cutD (R.map .str) (some ((1 : Nat) : Int)) none))) = _
      rw [cut_from, ← List.map_drop]
      rfl
    have a3 : e2 dAdd (.ev (eVar 4)) (.ev (eL (argGo (([(eC (.str ""))] : List (EM D)).map Opd.ev)))) ρ2 = .ok (.lst (O3.map .str)) ρ2 := by
      rw [e2_ev, v4, bind_ok, eL_def, disp_1, eC_go, bind_ok, bind_ok, bind_ok, dAdd_lst (by simp; omega)]
      show Out.ok (D.lst (R.map .str ++ [.str ""])) ρ2 = .ok (.lst ((R ++ [("" : Str)]).map .str)) ρ2
      rw [List.map_append]
      rfl
    have s1 : eSl (.ev (eVar 4)) none (some (eVar 5)) ρ2 = .ok (.lst ((R.take p).map .str)) ρ2 := by
      show Out.lift ρ2 (some (D.lst (DL.cutD (R.map .str) none (some (p : Int))))) = _
      rw [cut_to, ← List.map_take]
      rfl
    have s2 : eSl (.ev (eVar 4)) (some (e2 dAdd (.ev (eVar 5)) (.ev (eC (.int 1))))) none ρ2 = .ok (.lst ((R.drop (p + 1)).map .str)) ρ2 := by
      show Out.lift ρ2 (some (D.lst (DL.cutD (R.map .str) (some ((p : Int) + 1)) none))) = _
      rw [show ((p : Int) + 1) = ((p + 1 : Nat) : Int) from rfl, cut_from, ← List.map_drop]
      rfl
    have a4 : e2 dAdd (.ev (e2 dAdd (.ev (eSl (.ev (eVar 4)) none (some (eVar 5)))) (.ev (eL (argGo (([(eVar 6)] : List (EM D)).map Opd.ev)))))) (.ev (eSl (.ev (eVar 4)) (some (e2 dAdd (.ev (eVar 5)) (.ev (eC (.int 1))))) none)) ρ2 = .ok (.lst (O4.map .str)) ρ2 := by
      rw [e2_ev, e2_ev, s1, bind_ok, eL_def, disp_1, show eVar 6 ρ2 = .ok (.str w) ρ2 from rfl, bind_ok, bind_ok, bind_ok, dAdd_lst (by simp; omega), lift_some, bind_ok, s2, bind_ok, dAdd_lst (by simp; omega)]
      show Out.ok (D.lst ((R.take p).map .str ++ [.str w] ++ (R.drop (p + 1)).map .str)) ρ2 = .ok (.lst ((R.take p ++ [w] ++ R.drop (p + 1)).map .str)) ρ2
      rw [List.map_append, List.map_append]
      rfl
    rw [eL_def]
    show ((argGo [.ev _, .ev _, .ev _, .ev _] ρ2).bind _) = _
    rw [argGo_cons, a1, bind_ok, argGo_cons, a2, bind_ok, argGo_cons, a3, bind_ok, argGo_cons, a4, bind_ok]
    rfl
  let ρ3 : Env' := EE (LL zs k (.va (.lst odd)) (.va (.lst (R.map .str))) (.va (.int (p : Int))) (.va (.str w))) L2 b2
  have q4 : ∀ f : EM D, f ρ2 = .ok (.lst odd) ρ2 → sSet 3 f ρ2 = .nx ρ3 := fun f hf => by
    rw [sSet_def, hf, fl_ok]
    rfl
  let odds : List D := odd ++ [.lst (O4.map .str), .lst (O4.map .str), .lst (O4.map .str)]
  have hx : e2 dAdd (.ev (eVar 3)) (.ev (e2 dMul (.ev (eL (argGo (([(e2 dIx (.ev (eVar 3)) (.ev (eC (.int 3))))] : List (EM D)).map Opd.ev)))) (.ev (eC (.int 3))))) ρ3 = .ok (.lst odds) ρ3 := by
    have v3 : eVar 3 ρ3 = .ok (.lst odd) ρ3 := rfl
    rw [e2_ev, v3, bind_ok, e2_ev, eL_def, disp_1, e2_ev, v3, bind_ok, eC_go, bind_ok, show dIx (.lst odd) (.int 3) = some (.lst (O4.map .str)) from ix_items (i := 3) rfl rfl, lift_some, bind_ok, bind_ok, bind_ok, eC_go, bind_ok]
    rfl
  obtain ⟨L3, b3, y, g3, hy, t3⟩ := of_ev (f := e2 dAdd (.ev (eVar 3)) (.ev (e2 dMul (.ev (eL (argGo (([(e2 dIx (.ev (eVar 3)) (.ev (eC (.int 3))))] : List (EM D)).map Opd.ev)))) (.ev (eC (.int 3)))))) (ρ0 := ρ3) (rest := LL zs k (.va (.lst odd)) (.va (.lst (R.map .str))) (.va (.int (p : Int))) (.va (.str w))) (x := .lst odds) (xs := odds) ⟨_, _, _, _, rfl⟩ hx g2 rfl (by simp [odds, odd]) (by simp [odds, odd])
  have hO : ∃ O : List Str, y = .lst (O.map .str) ∧ BadRow zs (ln O) ∧ O.length ≤ 100 ∧ ∀ x ∈ O, x.length ≤ 2000 := by
    have hwl : w.length ≤ 20 := by
      rcases hw' with h | h | h
      · exact (W8_bad w h).2.1
      · rw [h]
        exact (nw_cl hdg).1
      · rw [h]
        decide +kernel
    have h1 : ∀ x ∈ R, x.length ≤ 2000 := fun x hx => by
      have := (cw_reps hx).1
      omega
    have hz1 : zw.length ≤ 2000 := by decide +kernel
    have hz2 : ("" : Str).length ≤ 2000 := by decide +kernel
    have c4 : BadRow zs (ln O4) ∧ O4.length ≤ 100 ∧ ∀ x ∈ O4, x.length ≤ 2000 := by
      refine ⟨odd4 hz hp hw', by simp [O4]; omega, fun x hx => ?_⟩
      rcases List.mem_append.mp hx with h | h
      · rcases List.mem_append.mp h with h | h
        · exact h1 x (List.mem_of_mem_take h)
        · rw [List.mem_singleton.mp h]
          omega
      · exact h1 x (List.mem_of_mem_drop h)
    simp only [odds, odd, List.cons_append, List.nil_append, List.mem_cons, List.not_mem_nil, or_false] at hy
    rcases hy with h | h | h | h | h | h | h
    · exact ⟨O1, h, odd1 hz, by simp [O1]; omega, fun x hx => by
        rcases List.mem_append.mp hx with h | h
        · exact h1 x h
        · rw [List.mem_singleton.mp h]
          exact hz1⟩
    · exact ⟨O2, h, odd2 hz h0, by simp [O2]; omega, fun x hx => h1 x (List.mem_of_mem_drop hx)⟩
    · exact ⟨O3, h, odd3 hz, by simp [O3]; omega, fun x hx => by
        rcases List.mem_append.mp hx with h | h
        · exact h1 x h
        · rw [List.mem_singleton.mp h]
          exact hz2⟩
    all_goals exact ⟨O4, h, c4.1, c4.2.1, c4.2.2⟩
  obtain ⟨O, rfl, hbad, ol, ow⟩ := hO
  refine ⟨L3, b3, ln O, g3, hbad, ?_⟩
  refine run_rt (ρ := EE (LL zs k (.va (.lst odd)) (.va (.lst (R.map .str))) (.va (.int (p : Int))) (.va (.str w))) L3 b3) ?_
  show b__law_line ρ = _
  unfold b__law_line
  rw [seq_nx (q1 _), seq_nx q2, seq_nx q3, seq_nx (q4 _ ho), sRet_def, join_ev (f := eC (.str " ")) (y := " ") rfl t3 rfl (by decide) ol ow]
  rfl
end Ma
end

section
set_option maxRecDepth 100000
set_option linter.all false
set_option exponentiation.threshold 100000
namespace Ma
open PySem PySem.Spec PyProof.Rows L2 DL Wk
/-! what the texts of the law are read as -/
section
variable {zs : List Int} {rows : List (List Int)}
theorem rd_self (s : St zs rows) : rdD (stW zs rows) = stD zs rows := by
  unfold rdD
  rw [rd_good s.ok s.zb s.asc]
  simp only
  rw [sorted_id s.ok.inj s.asc]
theorem rdD_err {W : List (List Str)} {k : Nat} (h : rdAll W = .error k) : rdD W = .int (k : Int) := by
  unfold rdD
  rw [h]
theorem rd_odd (s : St zs rows) {k : Nat} (hk : k < rows.length) {w : List Str} (hw : rowOk zs w = false) : rdD ((stW zs rows).take (k + 1) ++ [w] ++ (stW zs rows).drop (k + 2)) = .int ((k + 1 : Nat) : Int) := by
  have e : (stW zs rows).take (k + 1) ++ [w] ++ (stW zs rows).drop (k + 2) = hdW zs :: ((rows.take k).map rwW ++ w :: (stW zs rows).drop (k + 2)) := by
    unfold stW
    rw [List.take_succ_cons, ← List.map_take]
    simp
  rw [e, rdD_err (rd_bad (A := rows.take k) s.ok s.zb (fun r hr => s.ok.r2 r (List.mem_of_mem_take hr)) (s.asc.sublist (List.take_sublist _ _)) (by rw [hw]; rfl)), List.length_take]
  congr 2
  omega
theorem rd_odd0 (s : St zs rows) {w : List Str} (hw : headOk w = false) : rdD ((stW zs rows).take 0 ++ [w] ++ (stW zs rows).drop 1) = .int 0 := rdD_err (rd_head hw)
theorem rd_hd (s : St zs rows) : rdD [hdW zs] = .int 1 := rdD_err (rd_none s.ok s.zb)
theorem rd_more (s : St zs rows) {w : List Str} (hw : (rowOk zs w && stepOk rows (w.map wv)) = false) : rdD (stW zs rows ++ [w]) = .int ((rows.length + 1 : Nat) : Int) := by
  have e : stW zs rows ++ [w] = hdW zs :: (rows.map rwW ++ w :: []) := rfl
  rw [e, rdD_err (rd_bad (A := rows) (rows := rows) s.ok s.zb s.ok.r2 s.asc hw), Nat.add_comm]
theorem rd_empty (s : St zs rows) : rdD (stW zs rows ++ [[("" : Str)]]) = .int ((rows.length + 1 : Nat) : Int) := rd_more s (by
  rw [row_bw (List.any_eq_true.mpr ⟨"", by simp, bw_em⟩)]
  rfl)
theorem step_no (s : St zs rows) {A : List (List Int)} {x r : List Int} (hx : x ∈ rows) (hr : r ∈ rows) (h : cd r ≤ cd x) : stepOk (A ++ [x]) r = false := by
  have e : lastD (A ++ [x]) = x := by
    unfold lastD
    rw [List.getLast?_concat]
    rfl
  have l1 := okR_len (s.ok.r2 r hr)
  have l2 := okR_len (s.ok.r2 x hx)
  unfold stepOk
  rw [e, lexLe_cd (l1.trans l2.symm) (okR_bd (s.ok.r2 r hr) fun z h => by have := s.zb z h; omega) (okR_bd (s.ok.r2 x hx) fun z h => by have := s.zb z h; omega), decide_eq_true h]
  simp
theorem rd_again (s : St zs rows) {A : List (List Int)} {x : List Int} (e : rows = A ++ [x]) : rdD (stW zs rows ++ [rwW x]) = .int ((rows.length + 1 : Nat) : Int) := rd_more s (by
  have hx : x ∈ rows := by
    rw [e]
    simp
  have := step_no s (A := A) hx hx (Int.le_refl _)
  rw [map_wv (s.rdg hx).1, e, this]
  simp)
theorem rd_swap (s : St zs rows) {A B : List (List Int)} {x y : List Int} (e : rows = A ++ x :: y :: B) : rdD (hdW zs :: (A.map rwW ++ rwW y :: rwW x :: B.map rwW)) = .int ((A.length + 2 : Nat) : Int) := by
  have hx : x ∈ rows := by
    rw [e]
    simp
  have hy : y ∈ rows := by
    rw [e]
    simp
  have hxy : cd x < cd y := by
    have h := s.asc
    rw [e] at h
    exact (List.pairwise_cons.mp (List.pairwise_append.mp h).2.1).1 y (by simp)
  have e2 : hdW zs :: (A.map rwW ++ rwW y :: rwW x :: B.map rwW) = hdW zs :: ((A ++ [y]).map rwW ++ rwW x :: B.map rwW) := by simp
  have hsub : (A ++ [y]).Sublist rows := by
    rw [e]
    exact (List.Sublist.refl A).append (List.Sublist.cons x (List.singleton_sublist.mpr (by simp)))
  rw [e2, rdD_err (rd_bad (A := A ++ [y]) (rows := rows) s.ok s.zb (fun r hr => s.ok.r2 r (hsub.subset hr)) (s.asc.sublist hsub) (by
    rw [map_wv (s.rdg hx).1, step_no s hy hx (Int.le_of_lt hxy)]
    simp))]
  congr 2
  simp
  omega
theorem St.less (s : St zs rows) {rs : List (List Int)} (h : rs.Sublist rows) (h0 : rs ≠ []) : St zs rs where
  ok := ⟨s.ok.z0, s.ok.z1, s.ok.z2, h0, by
    have := h.length_le
    have := s.ok.r1
    omega, fun r hr => s.ok.r2 r (h.subset hr)⟩
  zb := s.zb
  zl := s.zl
  rl := by
    have := h.length_le
    have := s.rl
    omega
  asc := s.asc.sublist h
end
end Ma
end

section
set_option maxRecDepth 100000
set_option linter.all false
set_option exponentiation.threshold 100000
namespace Ma
open PySem PySem.Spec PyProof.Rows L2 DL Wk
/-! the law's own body -/
theorem io1 {sem : Sem'} {fs : List (EM D)} {ds : List D} {ρ : Env'} {io : Bool} {o o' : Ow} {d : D} {zs : List Sl} (h0 : ρ[1]? = some (.ow io o)) (hg : argGo (fs.map Opd.ev) ρ = .ok ds ρ) (hl : fs.length = ds.length) (hs : sem (.ow true o :: ds.map Sl.va) = .ok d (.ow true o' :: zs)) (hz : fs.length ≤ zs.length) :
    eCall sem (.io 1 :: fs.map Opd.ev) ρ = .ok d (ρ.set 1 (.ow io o')) := by
  have h := we_io (sem := sem) (i := 1) (fs := fs) (ρ := ρ) (P := fun d' ρ' => d' = d ∧ ρ' = ρ.set 1 (.ow io o')) h0 (by
    rw [hg, we_ok]
    refine ⟨hl, io, o, h0, ?_⟩
    rw [hs, we_ok]
    exact ⟨o', zs, rfl, hz, rfl, rfl⟩)
  obtain ⟨d', ρ', e, h1, h2⟩ := h.out
  rw [h1, h2] at e
  exact e
theorem read_ev {f : EM D} {ρ : Env'} {text : Str} {W : List (List Str)} (hf : f ρ = .ok (.str text) ρ) (t : Tx text W) : eCall s__law_read [(.ev f)] ρ = .ok (rdD W) ρ := by
  rw [call_1, hf, bind_ok, outR1 _ (v_law_read t)]
def Zv (ns L : List Int) (b : Int) (zs : List Int) (rows : List (List Int)) (ls : List Str) (s6 s7 s8 s9 s10 : Sl) : Env' := [.va (.scr ns), .ow false (.deal L b), .va (.lst (zs.map .int)), .va (.lst (rows.map rD)), .va (stD zs rows), .ow false (.lst (ls.map D.str)), s6, s7, s8, s9, s10, .no, .no]
abbrev lnB : SM := sApp 5 (eM1 dJoin (eC (.str " ")) (.ev (eL (eComp (iS (eVar 6)) [12] (gN 12) cYes (eB (on1 dStr) [(.ev (eVar 12))])))))
theorem ln_loop {ns L : List Int} {b : Int} {zs : List Int} {rows : List (List Int)} : ∀ (rs : List (List Int)) (ls : List Str) (s6 : Sl), Fre s6 → (∀ r ∈ rs, Dg r ∧ r.length ≤ 40) → ls.length + rs.length ≤ 1000 →
    ∃ s6', Fre s6' ∧ forL (gN 6) lnB (rs.map rD) (Zv ns L b zs rows ls s6 .no .no .no .no) = .nx (Zv ns L b zs rows (ls ++ (rs.map rwW).map ln) s6' .no .no .no .no)
  | [], ls, s6, h6, _, _ => ⟨s6, h6, by
    show Fl.nx _ = _
    simp⟩
  | r :: rs, ls, s6, h6, hr, hn => by
    simp only [List.length_cons] at hn
    obtain ⟨hd, hl⟩ := hr r (by simp)
    let ρ := Zv ns L b zs rows ls (.va (rD r)) .no .no .no .no
    have g : gN 6 (rD r) (Zv ns L b zs rows ls s6 .no .no .no .no) = some ρ := by
      rcases h6 with rfl | ⟨d, rfl⟩ <;> rfl
    have hj := rw_ev (strs_ev (j := 12) (f := eVar 6) (ρ := ρ) rfl (rD_sq r) ⟨.no, rfl, .no⟩ (by omega) hd) hl hd
    have hb : lnB ρ = .nx (Zv ns L b zs rows (ls ++ [ln (rwW r)]) (.va (rD r)) .no .no .no .no) := by
      show sApp 5 _ ρ = _
      unfold sApp
      rw [if_pos (show (ownL ρ 5).isSome = true from rfl), hj, fl_ok]
      show (if (ls.map D.str).length < 1000000 then Fl.nx (ρ.set 5 (.ow false (.lst (ls.map D.str ++ [.str (ln (rwW r))])))) else .stuck) = _
      rw [if_pos (by rw [List.length_map]; omega)]
      unfold Zv
      rw [List.map_append]
      rfl
    obtain ⟨s6', h6', ih⟩ := ln_loop (ns := ns) (L := L) (b := b) (zs := zs) (rows := rows) rs (ls ++ [ln (rwW r)]) (.va (rD r)) (.va _) (fun q hq => hr q (List.mem_cons_of_mem _ hq)) (by simp; omega)
    refine ⟨s6', h6', ?_⟩
    show (match gN 6 (rD r) (Zv ns L b zs rows ls s6 .no .no .no .no) with
      | none => Fl.stuck
      | some ρ1 => match lnB ρ1 with
        | .nx ρ2 => forL (gN 6) lnB (rs.map rD) ρ2
        | .ct ρ2 => forL (gN 6) lnB (rs.map rD) ρ2
        | .bk ρ2 => .nx ρ2
        | r => r) = _
    rw [g]
    simp only [hb]
    rw [ih]
    simp
theorem lines_eq (zs : List Int) (rows : List (List Int)) : [ln (hdW zs)] ++ (rows.map rwW).map ln = (stW zs rows).map ln := by
  unfold stW
  rfl
/-- the first steps: the store, its text -/
theorem start (ns : List Int) : ∃ L b zs rows s6, Good L b ∧ Dr zs rows ∧ Fre s6 ∧ ∀ g : SM,
    sSeq (sMkDl 1 s__law_draw [(eVar 0), (eC (.int 4))])
  (sSeq (sAsg (eCall s__law_store [(.io 1), (.ev (eC (.int 36)))]) (gS 2 (gsCons (gN 2) (gsCons (gN 3) gsNil))))
  (sSeq (sSet 4 (eMake "Store" s_Store___init__ [(eVar 2), (eCall s__law_mixed [(.io 1), (.ev (eVar 3))])]))
  (sSeq (sOwn 5 (argGo (([(eM1 dJoin (eC (.str " ")) (.ev (e2 dAdd (.ev (eL (argGo (([(eC (.str "store"))] : List (EM D)).map Opd.ev)))) (.ev (eL (eComp (iS (eVar 2)) [11] (gN 11) cYes (eB (on1 dStr) [(.ev (eVar 11))])))))))] : List (EM D)).map Opd.ev)))
  (sSeq (sFor (iS (eVar 3)) (gN 6) lnB)
  (sSeq (sSet 7 (eM1 dJoin (eC (.str "\n")) (.br 5))) g))))) [.va (.scr ns), .no, .no, .no, .no, .no, .no, .no, .no, .no, .no, .no, .no] = g (Zv ns L b zs rows ((stW zs rows).map ln) s6 (.va (.str (tx (stW zs rows)))) .no .no .no) := by
  obtain ⟨L, b, ps, g, ed⟩ := v_draw ns
  let N : Env' := List.replicate 11 .no
  have q1 : sMkDl 1 s__law_draw [(eVar 0), (eC (.int 4))] [.va (.scr ns), .no, .no, .no, .no, .no, .no, .no, .no, .no, .no, .no, .no] = .nx (.va (.scr ns) :: .ow false (.deal L b) :: N) := by
    unfold sMkDl
    show (match s__law_draw [.va (.scr ns), .va (.int 4)] with
      | .ok r _ => putSl [.va (.scr ns), .no, .no, .no, .no, .no, .no, .no, .no, .no, .no, .no, .no] 1 (.ow false (.deal r.1 r.2))
      | _ => .stuck) = _
    rw [ed]
    rfl
  obtain ⟨L1, b1, zs, rows, g1, dr, t1⟩ := v_law_store g
  have s := dr.st
  let N1 : Env' := List.replicate 9 .no
  let ρ1 : Env' := .va (.scr ns) :: .ow false (.deal L1 b1) :: .va (.lst (zs.map .int)) :: .va (.lst (rows.map rD)) :: N1
  have q2 : sAsg (eCall s__law_store [(.io 1), (.ev (eC (.int 36)))]) (gS 2 (gsCons (gN 2) (gsCons (gN 3) gsNil))) (.va (.scr ns) :: .ow false (.deal L b) :: N) = .nx ρ1 := by
    unfold sAsg
    rw [show eCall s__law_store [(.io 1), (.ev (eC (.int 36)))] (.va (.scr ns) :: .ow false (.deal L b) :: N) = _ from io1 (fs := [eC (.int 36)]) (ds := [.int 36]) (ρ := .va (.scr ns) :: .ow false (.deal L b) :: N) (io := false) (o := .deal L b) rfl rfl rfl t1 (by simp), fl_ok]
    rfl
  obtain ⟨L2, b2, ms, g2, hp, t2⟩ := v_law_mixed (rows := rows) g1 (by have := s.rl; omega)
  have om : Ok zs ms := ⟨s.ok.z0, s.ok.z1, s.ok.z2, fun e => s.ok.r0 (by
    rw [e] at hp
    exact List.nil_perm.mp hp), by
    rw [hp.length_eq]
    exact s.ok.r1, fun r hr => s.ok.r2 r (hp.mem_iff.mp hr)⟩
  let ρ2 : Env' := .va (.scr ns) :: .ow false (.deal L2 b2) :: .va (.lst (zs.map .int)) :: .va (.lst (rows.map rD)) :: .va (stD zs rows) :: List.replicate 8 .no
  have q3 : sSet 4 (eMake "Store" s_Store___init__ [(eVar 2), (eCall s__law_mixed [(.io 1), (.ev (eVar 3))])]) ρ1 = .nx ρ2 := by
    have hm : eCall s__law_mixed [(.io 1), (.ev (eVar 3))] ρ1 = .ok (.lst (ms.map rD)) (ρ1.set 1 (.ow false (.deal L2 b2))) := io1 (fs := [eVar 3]) (ds := [.lst (rows.map rD)]) (io := false) (o := .deal L1 b1) rfl rfl rfl t2 (by simp)
    have e : eMake "Store" s_Store___init__ [(eVar 2), (eCall s__law_mixed [(.io 1), (.ev (eVar 3))])] ρ1 = .ok (stD zs rows) (ρ1.set 1 (.ow false (.deal L2 b2))) := by
      unfold eMake
      show ((argGo [.ev (eVar 2), .ev (eCall s__law_mixed [(.io 1), (.ev (eVar 3))])] ρ1).bind _) = _
      rw [argGo_cons, show eVar 2 ρ1 = .ok (.lst (zs.map .int)) ρ1 from rfl, bind_ok, argGo_cons, hm, bind_ok, argGo_nil, bind_ok, bind_ok, bind_ok, makeK (sqI_lst zs) om, sorted_perm om.inj s.asc fun z => hp.mem_iff]
    rw [sSet_def, e, fl_ok]
    rfl
  have q4 : sOwn 5 (argGo (([(eM1 dJoin (eC (.str " ")) (.ev (e2 dAdd (.ev (eL (argGo (([(eC (.str "store"))] : List (EM D)).map Opd.ev)))) (.ev (eL (eComp (iS (eVar 2)) [11] (gN 11) cYes (eB (on1 dStr) [(.ev (eVar 11))])))))))] : List (EM D)).map Opd.ev)) ρ2 = .nx (Zv ns L2 b2 zs rows [ln (hdW zs)] .no .no .no .no .no) := by
    have hzl := s.zl
    have hc := strs_ev (j := 11) (f := eVar 2) (ρ := ρ2) (d := .lst (zs.map .int)) rfl (sqI_lst zs) ⟨.no, rfl, .no⟩ (by omega) s.dg
    unfold sOwn
    rw [disp_1, hd_ev hc (by omega) s.dg]
    rfl
  obtain ⟨s6, h6, lp⟩ := ln_loop (ns := ns) (L := L2) (b := b2) (zs := zs) (rows := rows) rows [ln (hdW zs)] .no .no (fun r hr => by
    obtain ⟨a1, _, a3⟩ := s.rdg hr
    have := okR_len (s.ok.r2 r hr)
    have := s.zl
    exact ⟨a1, by omega⟩) (by have := s.rl; simp; omega)
  rw [lines_eq] at lp
  have q5 : sFor (iS (eVar 3)) (gN 6) lnB (Zv ns L2 b2 zs rows [ln (hdW zs)] .no .no .no .no .no) = .nx (Zv ns L2 b2 zs rows ((stW zs rows).map ln) s6 .no .no .no .no) := by
    rw [sFor_def, it_seq (f := eVar 3) (x := .lst (rows.map rD)) (xs := rows.map rD) rfl rfl, fl_ok]
    exact lp
  have q6 : sSet 7 (eM1 dJoin (eC (.str "\n")) (.br 5)) (Zv ns L2 b2 zs rows ((stW zs rows).map ln) s6 .no .no .no .no) = .nx (Zv ns L2 b2 zs rows ((stW zs rows).map ln) s6 (.va (.str (tx (stW zs rows)))) .no .no .no) := by
    have e : eM1 dJoin (eC (.str "\n")) (.br 5) (Zv ns L2 b2 zs rows ((stW zs rows).map ln) s6 .no .no .no .no) = .ok (.str (tx (stW zs rows))) (Zv ns L2 b2 zs rows ((stW zs rows).map ln) s6 .no .no .no .no) := by
      show Out.lift _ (dJoin "\n" (.lst (((stW zs rows).map ln).map .str))) = _
      rw [join_ok (ws := (stW zs rows).map ln) rfl (by decide) (by have := s.rl; simp [stW]; omega) (ln_le s.clean)]
      rfl
    rw [sSet_def, e, fl_ok]
    rfl
  refine ⟨L2, b2, zs, rows, s6, g2, dr, h6, fun g => ?_⟩
  rw [seq_nx q1, seq_nx q2, seq_nx q3, seq_nx q4, seq_nx q5, seq_nx q6]
end Ma
end

section
set_option maxRecDepth 100000
set_option linter.all false
set_option exponentiation.threshold 100000
namespace Ma
open PySem PySem.Spec PyProof.Rows L2 DL Wk
theorem ne0 {f g : EM D} {ρ ρ1 ρ2 : Env'} {k : Int} (hf : f ρ = .ok (.int k) ρ1) (hg : g ρ1 = .ok (.int k) ρ2) : eT (e2 dNe (.ev f) (.ev g)) ρ = .ok false ρ2 := by
  rw [eT_ok, e2_ev, hf, bind_ok, hg, bind_ok, dNe_int]
  simp
theorem or0 {c d : EM Bool} {ρ ρ1 ρ2 : Env'} (hc : c ρ = .ok false ρ1) (hd : d ρ1 = .ok false ρ2) : tOrB c d ρ = .ok false ρ2 := by
  rw [tOr_def, hc, bind_ok, if_neg Bool.false_ne_true]
  exact hd
theorem if0 {c : EM Bool} {A : SM} {ρ ρ1 : Env'} (hc : c ρ = .ok false ρ1) : sIf c A sNx ρ = .nx ρ1 := by
  rw [sIf_def, hc, fl_ok, if_neg Bool.false_ne_true]
  rfl
theorem own0 {f g : EM D} {ρ ρ1 ρ2 : Env'} {zs : List Int} {rows : List (List Int)} (hf : f ρ = .ok (stD zs rows) ρ1) (hg : g ρ1 = .ok (stD zs rows) ρ2) : eT (e2 (dOwn "Store" true s_Store___eq__) (.ev f) (.ev g)) ρ = .ok false ρ2 := by
  rw [eT_ok, e2_ev, hf, bind_ok, hg, bind_ok, own_same]
  rfl
theorem nes0 {f g : EM D} {ρ ρ1 ρ2 : Env'} {x : Str} (hx : PyData.strOk x = true) (hf : f ρ = .ok (.str x) ρ1) (hg : g ρ1 = .ok (.str x) ρ2) : eT (e2 dNe (.ev f) (.ev g)) ρ = .ok false ρ2 := by
  rw [eT_ok, e2_ev, hf, bind_ok, hg, bind_ok, dNe_strs hx hx]
  simp
section
variable {ns L : List Int} {b : Int} {zs : List Int} {rows : List (List Int)} {s6 s8 s9 s10 : Sl}
theorem same_text (s : St zs rows) (g : SM) : sSeq (sIf (tOrB (eT (e2 dNe (.ev (eCallKw s_store_text [0] [] [(.ev (eVar 4))])) (.ev (eVar 7)))) (tOrB (eT (e2 dNe (.ev (eCall s_store_text [(.ev (eVar 4))])) (.ev (eVar 7)))) (eT (e2 (dOwn "Store" true s_Store___eq__) (.ev (eCall s__law_read [(.ev (eVar 7))])) (.ev (eVar 4)))))) (sRet (eC (.bl false))) sNx) g (Zv ns L b zs rows ((stW zs rows).map ln) s6 (.va (.str (tx (stW zs rows)))) .no .no .no) = g (Zv ns L b zs rows ((stW zs rows).map ln) s6 (.va (.str (tx (stW zs rows)))) .no .no .no) := by
  let ρ := Zv ns L b zs rows ((stW zs rows).map ln) s6 (.va (.str (tx (stW zs rows)))) .no .no .no
  have v4 : eVar 4 ρ = .ok (stD zs rows) ρ := rfl
  have v7 : eVar 7 ρ = .ok (.str (tx (stW zs rows))) ρ := rfl
  have t := v_text s
  have r := read_ev v7 s.clean.tx
  rw [rd_self s] at r
  refine seq_nx (if0 (or0 (nes0 s.clean.asc ?_ v7) (or0 (nes0 s.clean.asc ?_ v7) (own0 r v4))))
  · rw [kw_1, show eVar 4 (Zv ns L b zs rows ((stW zs rows).map ln) s6 (.va (.str (tx (stW zs rows)))) .no .no .no) = _ from v4, bind_ok, outR1 _ t]
  · rw [call_1, v4, bind_ok, outR1 _ t]
/-- a drawn place -/
theorem any1 {f : EM D} {ρ : Env'} {m : Int} (h0 : ρ[1]? = some (.ow false (.deal L b))) (hf : f ρ = .ok (.int m) ρ) (g : Good L b) (h1 : 0 < m) (h2 : m < 1000) : ∃ L' b' v, Good L' b' ∧ 0 ≤ v ∧ v < m ∧ eCall s__law_any [.io 1, .ev f] ρ = .ok (.int v) (ρ.set 1 (.ow false (.deal L' b'))) := by
  obtain ⟨L', b', v, g', v0, v1, e⟩ := v__law_any (io := false) g h1 (Int.lt_trans h2 (by decide +kernel))
  exact ⟨L', b', v, g', v0, v1, io1 (fs := [f]) (ds := [.int m]) h0 (by rw [disp_1, hf, bind_ok]) rfl e (by simp)⟩
/-- an odd line, and what the text with it is read as -/
theorem odd_line (s : St zs rows) (hz : Zs zs) (g : Good L b) {k : Nat} (hk : k ≤ rows.length) : ∃ L' b' w, Good L' b' ∧ Clean ((stW zs rows).take k ++ [w] ++ (stW zs rows).drop (k + 1)) ∧ rdD ((stW zs rows).take k ++ [w] ++ (stW zs rows).drop (k + 1)) = .int (k : Int) ∧ Clean [w] ∧
    s__law_line [.ow true (.deal L b), .va (.lst (zs.map .int)), .va (.int (k : Int))] = .ok (.str (ln w)) [.ow true (.deal L' b'), .no, .no] := by
  have hlen : (stW zs rows).length = rows.length + 1 := by simp [stW]
  have hrl := s.rl
  have cl : ∀ w, Clean [w] → Clean ((stW zs rows).take k ++ [w] ++ (stW zs rows).drop (k + 1)) := fun w cw => by
    refine ⟨by simp, by simp; omega, fun v hv => ?_, fun v hv => ?_⟩
    all_goals
      simp only [List.mem_append, List.mem_singleton] at hv
      rcases hv with (h | h) | h
    · exact s.clean.w0 v (List.mem_of_mem_take h)
    · exact cw.w0 v (by simp [h])
    · exact s.clean.w0 v (List.mem_of_mem_drop h)
    · exact s.clean.w1 v (List.mem_of_mem_take h)
    · exact cw.w1 v (by simp [h])
    · exact s.clean.w1 v (List.mem_of_mem_drop h)
  cases k with
  | zero =>
    obtain ⟨L', b', w, hw, g', e⟩ := v_line0 (zs := zs) g
    obtain ⟨h1, h2, h3, h4⟩ := headW_bad w hw
    have cw : Clean [w] := .one ⟨h2, h3⟩ h4
    exact ⟨L', b', w, g', cl w cw, rd_odd0 s h1, cw, e⟩
  | succ k =>
    obtain ⟨L', b', t, g', ⟨w, rfl, cw, hb⟩, e⟩ := v_line1 (zs := zs) (k := k + 1) g hz s.ok.z0 (by omega)
    exact ⟨L', b', w, g', cl w cw, rd_odd s (by omega) hb, cw, e⟩
end
end Ma
end

section
set_option maxRecDepth 100000
set_option linter.all false
set_option exponentiation.threshold 100000
namespace Ma
open PySem PySem.Spec PyProof.Rows L2 DL Wk
section
variable {ns L : List Int} {b : Int} {zs : List Int} {rows : List (List Int)} {s6 s8 s9 s10 : Sl}
abbrev Zw (ns L : List Int) (b : Int) (zs : List Int) (rows : List (List Int)) (s6 s8 s9 s10 : Sl) : Env' := Zv ns L b zs rows ((stW zs rows).map ln) s6 (.va (.str (tx (stW zs rows)))) s8 s9 s10
theorem len5 : eB (on1 dLen) [(.br 5)] (Zw ns L b zs rows s6 s8 s9 s10) = .ok (.int ((rows.length + 1 : Nat) : Int)) (Zw ns L b zs rows s6 s8 s9 s10) := by
  show Out.ok (D.int ((((stW zs rows).map ln).map D.str).length : Int)) _ = _
  rw [List.length_map, List.length_map]
  unfold stW
  rw [List.length_cons, List.length_map]
theorem to5 {f : EM D} {k : Nat} (hf : f (Zw ns L b zs rows s6 s8 s9 s10) = .ok (.int (k : Int)) (Zw ns L b zs rows s6 s8 s9 s10)) : eSl (.br 5) none (some f) (Zw ns L b zs rows s6 s8 s9 s10) = .ok (.lst ((((stW zs rows).take k).map ln).map .str)) (Zw ns L b zs rows s6 s8 s9 s10) := by
  show ((Out.ok none _).bind fun l ρ2 => (oBd (some f) ρ2).bind fun h ρ3 => (Out.lift ρ3 (peek ρ3 5)).bind fun x ρ4 => Out.lift ρ4 (dSlice x l h)) = _
  rw [bind_ok, oBd_some hf, bind_ok]
  show Out.lift _ (some (D.lst (DL.cutD (((stW zs rows).map ln).map .str) none (some (k : Int))))) = _
  rw [cut_to, ← List.map_take, ← List.map_take]
  rfl
theorem from5 {f : EM D} {k : Nat} (hf : f (Zw ns L b zs rows s6 s8 s9 s10) = .ok (.int (k : Int)) (Zw ns L b zs rows s6 s8 s9 s10)) : eSl (.br 5) (some f) none (Zw ns L b zs rows s6 s8 s9 s10) = .ok (.lst ((((stW zs rows).drop k).map ln).map .str)) (Zw ns L b zs rows s6 s8 s9 s10) := by
  show ((oBd (some f) (Zw ns L b zs rows s6 s8 s9 s10)).bind fun l ρ2 => (Out.ok none ρ2).bind fun h ρ3 => (Out.lift ρ3 (peek ρ3 5)).bind fun x ρ4 => Out.lift ρ4 (dSlice x l h)) = _
  rw [oBd_some hf, bind_ok, bind_ok]
  show Out.lift _ (some (D.lst (DL.cutD (((stW zs rows).map ln).map .str) (some (k : Int)) none))) = _
  rw [cut_from, ← List.map_drop, ← List.map_drop]
  rfl
theorem ix5 {f : EM D} {k : Nat} {w : List Str} (hf : f (Zw ns L b zs rows s6 s8 s9 s10) = .ok (.int (k : Int)) (Zw ns L b zs rows s6 s8 s9 s10)) (hw : (stW zs rows)[k]? = some w) : e2 dIx (.br 5) (.ev f) (Zw ns L b zs rows s6 s8 s9 s10) = .ok (.str (ln w)) (Zw ns L b zs rows s6 s8 s9 s10) := by
  show ((f (Zw ns L b zs rows s6 s8 s9 s10)).bind fun y ρ2 => (Out.lift ρ2 (peek ρ2 5)).bind fun x ρ2 => (Out.lift ρ2 (some y)).bind fun y ρ2 => Out.lift ρ2 (dIx x y)) = _
  rw [hf, bind_ok]
  show Out.lift _ (dIx (.lst (((stW zs rows).map ln).map .str)) (.int (k : Int))) = _
  rw [ix_items (y := .str (ln w)) rfl (by rw [List.getElem?_map, List.getElem?_map, hw]; rfl)]
  rfl
theorem join_W {f : EM D} {ρ : Env'} {V : List (List Str)} (hf : f ρ = .ok (.lst ((V.map ln).map .str)) ρ) (c : Clean V) : eM1 dJoin (eC (.str "\n")) (.ev f) ρ = .ok (.str (tx V)) ρ :=
  join_ev (f := eC (.str "\n")) (y := "\n") rfl hf rfl (by decide) (by have := c.many; rw [List.length_map]; omega) (ln_le c)
theorem add_str {x y : Str} (h : x.length + y.length ≤ 1000000) : dAdd (.str x) (.str y) = some (.str (x ++ y)) := if_pos h
theorem app_emp (x : Str) : x ++ ("" : Str) = x := TL.ext_tl (by
  rw [TL.tl_append]
  have : TL.tl ("" : Str) = [] := by decide +kernel
  rw [this, List.append_nil])
theorem nl_ev (s : St zs rows) : e2 dAdd (.ev (eVar 7)) (.ev (eC (.str "\n"))) (Zw ns L b zs rows s6 s8 s9 s10) = .ok (.str (tx (stW zs rows) ++ "\n")) (Zw ns L b zs rows s6 s8 s9 s10) := by
  have hl := s.clean.tx_len
  have h1 : ("\n" : Str).length ≤ 10 := by decide +kernel
  rw [e2_ev, show eVar 7 (Zw ns L b zs rows s6 s8 s9 s10) = .ok (.str (tx (stW zs rows))) _ from rfl, bind_ok, eC_go, bind_ok, add_str (by omega)]
  rfl
theorem clean_snoc {V : List (List Str)} {w : List Str} (c : Clean V) (cw : Clean [w]) (h : V.length ≤ 59) : Clean (V ++ [w]) := c.app (.inr cw) (by simpa using h)
theorem em_clean : Clean [[("" : Str)]] := .one ⟨by simp, by simp⟩ fun x hx => by
  rw [List.mem_singleton.mp hx]
  exact cw_em
theorem Wlen (s : St zs rows) : (stW zs rows).length ≤ 51 := by
  have := s.rl
  simp [stW]
  omega
theorem read_nl (s : St zs rows) : eT (e2 dNe (.ev (eCall s__law_read [(.ev (e2 dAdd (.ev (eVar 7)) (.ev (eC (.str "\n")))))])) (.ev (eB (on1 dLen) [(.br 5)]))) (Zw ns L b zs rows s6 s8 s9 s10) = .ok false (Zw ns L b zs rows s6 s8 s9 s10) := by
  have e : tx (stW zs rows) ++ "\n" = tx (stW zs rows ++ [[("" : Str)]]) := by
    rw [← tx_snoc s.clean.ne, ln_nil, app_emp]
  have h := nl_ev (ns := ns) (L := L) (b := b) (s6 := s6) (s8 := s8) (s9 := s9) (s10 := s10) s
  rw [e] at h
  have r := read_ev h (clean_snoc s.clean em_clean (by have := Wlen s; omega)).tx
  rw [rd_empty s] at r
  exact ne0 r len5
end
end Ma
end

section
set_option maxRecDepth 100000
set_option linter.all false
set_option exponentiation.threshold 100000
namespace Ma
open PySem PySem.Spec PyProof.Rows L2 DL Wk
section
variable {ns L : List Int} {b : Int} {zs : List Int} {rows : List (List Int)} {s6 s8 s9 s10 : Sl}
theorem read_0 (s : St zs rows) : eT (e2 dNe (.ev (eCall s__law_read [(.ev (e2 dIx (.br 5) (.ev (eC (.int 0)))))])) (.ev (eC (.int 1)))) (Zw ns L b zs rows s6 s8 s9 s10) = .ok false (Zw ns L b zs rows s6 s8 s9 s10) := by
  have h := ix5 (ns := ns) (L := L) (b := b) (zs := zs) (rows := rows) (s6 := s6) (s8 := s8) (s9 := s9) (s10 := s10) (f := eC (.int 0)) (k := 0) (w := hdW zs) rfl rfl
  rw [← tx_one] at h
  have hz := s.zl
  have r := read_ev h (hd_clean s.dg (by omega)).tx
  rw [rd_hd s] at r
  exact ne0 r rfl
theorem read_again (s : St zs rows) : eT (e2 dNe (.ev (eCall s__law_read [(.ev (e2 dAdd (.ev (e2 dAdd (.ev (eVar 7)) (.ev (eC (.str "\n"))))) (.ev (e2 dIx (.br 5) (.ev (e1 dNeg (.ev (eC (.int 1)))))))))])) (.ev (eB (on1 dLen) [(.br 5)]))) (Zw ns L b zs rows s6 s8 s9 s10) = .ok false (Zw ns L b zs rows s6 s8 s9 s10) := by
  obtain ⟨A, x, e⟩ : ∃ A x, rows = A ++ [x] := ⟨rows.dropLast, rows.getLast s.ok.r0, (List.dropLast_concat_getLast s.ok.r0).symm⟩
  have hx : x ∈ rows := by
    rw [e]
    simp
  obtain ⟨d1, d2, d3⟩ := s.rdg hx
  have hl : e2 dIx (.br 5) (.ev (e1 dNeg (.ev (eC (.int 1))))) (Zw ns L b zs rows s6 s8 s9 s10) = .ok (.str (ln (rwW x))) (Zw ns L b zs rows s6 s8 s9 s10) := by
    show Out.lift _ (atI (((stW zs rows).map ln).map D.str) (-1)) = _
    rw [atI_last _ (by simp [stW]), List.getLast?_map, List.getLast?_map]
    have : (stW zs rows).getLast? = some (rwW x) := by
      rw [e]
      unfold stW
      rw [List.map_append, ← List.cons_append]
      exact List.getLast?_concat
    rw [this]
    rfl
  have cx : Clean [rwW x] := rw_clean d1 d2 d3
  have cW := clean_snoc s.clean cx (by have := Wlen s; omega)
  have hll : (ln (rwW x)).length ≤ 2000 := ln_le cx _ (by simp)
  have htl := s.clean.tx_len
  have hnl : ("\n" : Str).length ≤ 10 := by decide +kernel
  have hap : (tx (stW zs rows) ++ "\n").length ≤ 100000 := by
    rw [TL.len_tl, TL.tl_append, List.length_append, ← TL.len_tl, ← TL.len_tl]
    omega
  have h : e2 dAdd (.ev (e2 dAdd (.ev (eVar 7)) (.ev (eC (.str "\n"))))) (.ev (e2 dIx (.br 5) (.ev (e1 dNeg (.ev (eC (.int 1))))))) (Zw ns L b zs rows s6 s8 s9 s10) = .ok (.str (tx (stW zs rows ++ [rwW x]))) (Zw ns L b zs rows s6 s8 s9 s10) := by
    rw [e2_ev, nl_ev s, bind_ok, hl, bind_ok, add_str (by omega), tx_snoc s.clean.ne]
    rfl
  have r := read_ev h cW.tx
  rw [rd_again s e] at r
  exact ne0 r len5
theorem read_odd (g : Good L b) : ∃ L' b', Good L' b' ∧ eT (e2 dNe (.ev (eCall s__law_read [(.ev (eCall s__law_of [(.io 1), (.ev (eL (argGo (([(eC .non), (eC (.int 7)), (eL (argGo (([(eVar 7)] : List (EM D)).map Opd.ev))), (eTup [(eVar 7)])] : List (EM D)).map Opd.ev))))]))])) (.ev (eC (.int 0)))) (Zw ns L b zs rows s6 s8 s9 s10) = .ok false (Zw ns L' b' zs rows s6 s8 s9 s10) := by
  let t := tx (stW zs rows)
  obtain ⟨L', b', y, g', hy, e⟩ := v__law_of (x := .lst [.non, .int 7, .lst [.str t], .tup [.str t]]) (xs := [.non, .int 7, .lst [.str t], .tup [.str t]]) g rfl (by simp) (by simp)
  have hi : dIsi "str" y = some (.bl false) := by
    simp only [List.mem_cons, List.not_mem_nil, or_false] at hy
    rcases hy with rfl | rfl | rfl | rfl <;> rfl
  have hc : eCall s__law_of [(.io 1), (.ev (eL (argGo (([(eC .non), (eC (.int 7)), (eL (argGo (([(eVar 7)] : List (EM D)).map Opd.ev))), (eTup [(eVar 7)])] : List (EM D)).map Opd.ev))))] (Zw ns L b zs rows s6 s8 s9 s10) = .ok y (Zw ns L' b' zs rows s6 s8 s9 s10) := io1 (fs := [eL (argGo (([(eC .non), (eC (.int 7)), (eL (argGo (([(eVar 7)] : List (EM D)).map Opd.ev))), (eTup [(eVar 7)])] : List (EM D)).map Opd.ev))]) (ds := [.lst [.non, .int 7, .lst [.str t], .tup [.str t]]]) (io := false) (o := .deal L b) rfl rfl rfl e (by simp)
  refine ⟨L', b', g', ne0 (k := 0) ?_ rfl⟩
  rw [call_1, hc, bind_ok, outR1 _ (v_law_read_odd hi)]
/-- a line is spoilt -/
theorem spoil (s : St zs rows) (hz : Zs zs) (g : Good L b) (k : Nat) (hk : k ≤ rows.length) : ∃ L' b' s9', Good L' b' ∧ sSet 9 (e2 dAdd (.ev (e2 dAdd (.ev (eSl (.br 5) none (some (eVar 8)))) (.ev (eL (argGo (([(eCall s__law_line [(.io 1), (.ev (eVar 2)), (.ev (eVar 8))])] : List (EM D)).map Opd.ev)))))) (.ev (eSl (.br 5) (some (e2 dAdd (.ev (eVar 8)) (.ev (eC (.int 1))))) none))) (Zw ns L b zs rows s6 (.va (.int (k : Int))) .no .no) = .nx (Zw ns L' b' zs rows s6 (.va (.int (k : Int))) s9' .no) ∧
    eT (e2 dNe (.ev (eCall s__law_read [(.ev (eM1 dJoin (eC (.str "\n")) (.ev (eVar 9))))])) (.ev (eVar 8))) (Zw ns L' b' zs rows s6 (.va (.int (k : Int))) s9' .no) = .ok false (Zw ns L' b' zs rows s6 (.va (.int (k : Int))) s9' .no) := by
  obtain ⟨L', b', w, g', cW, hr, cw, e⟩ := odd_line (L := L) (b := b) s hz g hk
  let V := (stW zs rows).take k ++ [w] ++ (stW zs rows).drop (k + 1)
  have hwl := Wlen s
  refine ⟨L', b', .va (.lst ((V.map ln).map .str)), g', ?_, ?_⟩
  · have hc : eCall s__law_line [(.io 1), (.ev (eVar 2)), (.ev (eVar 8))] (Zw ns L b zs rows s6 (.va (.int (k : Int))) .no .no) = .ok (.str (ln w)) (Zw ns L' b' zs rows s6 (.va (.int (k : Int))) .no .no) := io1 (fs := [eVar 2, eVar 8]) (ds := [.lst (zs.map .int), .int (k : Int)]) (io := false) (o := .deal L b) rfl rfl rfl e (by simp)
    have a1 := to5 (ns := ns) (L := L) (b := b) (zs := zs) (rows := rows) (s6 := s6) (s8 := .va (.int (k : Int))) (s9 := .no) (s10 := .no) (f := eVar 8) (k := k) rfl
    have a2 := from5 (ns := ns) (L := L') (b := b') (zs := zs) (rows := rows) (s6 := s6) (s8 := .va (.int (k : Int))) (s9 := .no) (s10 := .no) (f := e2 dAdd (.ev (eVar 8)) (.ev (eC (.int 1)))) (k := k + 1) rfl
    rw [sSet_def, e2_ev, e2_ev, a1, bind_ok, eL_def, disp_1, hc, bind_ok, bind_ok, bind_ok, dAdd_lst (by simp; omega), lift_some, bind_ok, a2, bind_ok, dAdd_lst (by simp; omega), lift_some, fl_ok]
    show Fl.nx (Zw ns L' b' zs rows s6 (.va (.int (k : Int))) (.va (.lst ((((stW zs rows).take k).map ln).map .str ++ [.str (ln w)] ++ (((stW zs rows).drop (k + 1)).map ln).map .str))) .no) = _
    have : (V.map ln).map D.str = (((stW zs rows).take k).map ln).map .str ++ [.str (ln w)] ++ (((stW zs rows).drop (k + 1)).map ln).map .str := by
      show (((stW zs rows).take k ++ [w] ++ (stW zs rows).drop (k + 1)).map ln).map D.str = _
      simp only [List.map_append, List.map_cons, List.map_nil]
    rw [this]
  · have h := join_W (f := eVar 9) (ρ := Zw ns L' b' zs rows s6 (.va (.int (k : Int))) (.va (.lst ((V.map ln).map .str))) .no) (V := V) rfl cW
    have r := read_ev h cW.tx
    rw [hr] at r
    exact ne0 r rfl
end
end Ma
end

section
set_option maxRecDepth 100000
set_option linter.all false
set_option exponentiation.threshold 100000
namespace Ma
open PySem PySem.Spec PyProof.Rows L2 DL Wk
section
variable {ns L : List Int} {b : Int} {zs : List Int} {A B : List (List Int)} {x y : List Int} {s6 s8 s9 : Sl}
theorem len3 {rows : List (List Int)} {s10 : Sl} : eB (on1 dLen) [(.ev (eVar 3))] (Zw ns L b zs rows s6 s8 s9 s10) = .ok (.int (rows.length : Int)) (Zw ns L b zs rows s6 s8 s9 s10) := by
  rw [eB_1, show eVar 3 (Zw ns L b zs rows s6 s8 s9 s10) = .ok (.lst (rows.map rD)) _ from rfl, bind_ok, dLen_lst, List.length_map]
  rfl
theorem stW_cut : stW zs (A ++ x :: y :: B) = (hdW zs :: A.map rwW) ++ rwW x :: rwW y :: B.map rwW := by
  unfold stW
  simp
theorem Pl : (hdW zs :: A.map rwW).length = A.length + 1 := by simp
theorem t_take : (stW zs (A ++ x :: y :: B)).take (A.length + 1) = hdW zs :: A.map rwW := by
  rw [stW_cut]
  exact List.take_left' Pl
theorem t_drop1 : (stW zs (A ++ x :: y :: B)).drop (A.length + 2) = rwW y :: B.map rwW := by
  rw [stW_cut, show A.length + 2 = (A.length + 1) + 1 from rfl, ← List.drop_drop, List.drop_left' Pl]
  rfl
theorem t_drop2 : (stW zs (A ++ x :: y :: B)).drop (A.length + 3) = B.map rwW := by
  rw [stW_cut, show A.length + 3 = (A.length + 1) + 2 from rfl, ← List.drop_drop, List.drop_left' Pl]
  rfl
theorem t_x : (stW zs (A ++ x :: y :: B))[A.length + 1]? = some (rwW x) := by
  rw [stW_cut, List.getElem?_append_right (by rw [Pl]; omega), Pl]
  simp
theorem t_y : (stW zs (A ++ x :: y :: B))[A.length + 2]? = some (rwW y) := by
  rw [stW_cut, List.getElem?_append_right (by rw [Pl]; omega), Pl, show A.length + 2 - (A.length + 1) = 1 by omega]
  rfl
theorem swap_ev (s : St zs (A ++ x :: y :: B)) : eT (e2 dNe (.ev (eCall s__law_read [(.ev (eM1 dJoin (eC (.str "\n")) (.ev (e2 dAdd (.ev (e2 dAdd (.ev (eSl (.br 5) none (some (eVar 10)))) (.ev (eL (argGo (([(e2 dIx (.br 5) (.ev (e2 dAdd (.ev (eVar 10)) (.ev (eC (.int 1)))))), (e2 dIx (.br 5) (.ev (eVar 10)))] : List (EM D)).map Opd.ev)))))) (.ev (eSl (.br 5) (some (e2 dAdd (.ev (eVar 10)) (.ev (eC (.int 2))))) none))))))])) (.ev (e2 dAdd (.ev (eVar 10)) (.ev (eC (.int 1)))))) (Zw ns L b zs (A ++ x :: y :: B) s6 s8 s9 (.va (.int ((A.length + 1 : Nat) : Int)))) = .ok false (Zw ns L b zs (A ++ x :: y :: B) s6 s8 s9 (.va (.int ((A.length + 1 : Nat) : Int)))) := by
  let ρ := Zw ns L b zs (A ++ x :: y :: B) s6 s8 s9 (.va (.int ((A.length + 1 : Nat) : Int)))
  let V := hdW zs :: (A.map rwW ++ rwW y :: rwW x :: B.map rwW)
  have hwl := Wlen s
  have hWl : (stW zs (A ++ x :: y :: B)).length = A.length + B.length + 3 := by
    simp [stW]
    omega
  have cV : Clean V := s.clean.sub (fun w hw => by
    rw [stW_cut]
    simp only [V, List.mem_cons, List.mem_append, List.cons_append] at hw ⊢
    rcases hw with h | h | h | h | h <;> simp [h]) (by simp [V]) (by simp [V]; omega)
  have a1 := to5 (ns := ns) (L := L) (b := b) (zs := zs) (rows := A ++ x :: y :: B) (s6 := s6) (s8 := s8) (s9 := s9) (s10 := .va (.int ((A.length + 1 : Nat) : Int))) (f := eVar 10) (k := A.length + 1) rfl
  have a2 := from5 (ns := ns) (L := L) (b := b) (zs := zs) (rows := A ++ x :: y :: B) (s6 := s6) (s8 := s8) (s9 := s9) (s10 := .va (.int ((A.length + 1 : Nat) : Int))) (f := e2 dAdd (.ev (eVar 10)) (.ev (eC (.int 2)))) (k := A.length + 3) rfl
  have a3 := ix5 (ns := ns) (L := L) (b := b) (zs := zs) (rows := A ++ x :: y :: B) (s6 := s6) (s8 := s8) (s9 := s9) (s10 := .va (.int ((A.length + 1 : Nat) : Int))) (f := e2 dAdd (.ev (eVar 10)) (.ev (eC (.int 1)))) (k := A.length + 2) rfl t_y
  have a4 := ix5 (ns := ns) (L := L) (b := b) (zs := zs) (rows := A ++ x :: y :: B) (s6 := s6) (s8 := s8) (s9 := s9) (s10 := .va (.int ((A.length + 1 : Nat) : Int))) (f := eVar 10) (k := A.length + 1) rfl t_x
  rw [t_take] at a1
  rw [t_drop2] at a2
  have h : e2 dAdd (.ev (e2 dAdd (.ev (eSl (.br 5) none (some (eVar 10)))) (.ev (eL (argGo (([(e2 dIx (.br 5) (.ev (e2 dAdd (.ev (eVar 10)) (.ev (eC (.int 1)))))), (e2 dIx (.br 5) (.ev (eVar 10)))] : List (EM D)).map Opd.ev)))))) (.ev (eSl (.br 5) (some (e2 dAdd (.ev (eVar 10)) (.ev (eC (.int 2))))) none)) ρ = .ok (.lst ((V.map ln).map .str)) ρ := by
    rw [e2_ev, e2_ev, a1, bind_ok, eL_def, disp_2, a3, bind_ok, a4, bind_ok, bind_ok, bind_ok, dAdd_lst (by simp; omega), lift_some, bind_ok, a2, bind_ok, dAdd_lst (by simp; omega)]
    simp [V]
    rfl
  have r := read_ev (join_W h cV) cV.tx
  rw [rd_swap (A := A) (B := B) s rfl] at r
  exact ne0 r rfl
theorem less_ev (s : St zs (A ++ x :: y :: B)) : eT (e2 (dOwn "Store" true s_Store___eq__) (.ev (eCall s__law_read [(.ev (eM1 dJoin (eC (.str "\n")) (.ev (e2 dAdd (.ev (eSl (.br 5) none (some (eVar 10)))) (.ev (eSl (.br 5) (some (e2 dAdd (.ev (eVar 10)) (.ev (eC (.int 1))))) none))))))])) (.ev (eMake "Store" s_Store___init__ [(eVar 2), (e2 dAdd (.ev (eSl (.ev (eVar 3)) none (some (e2 dSub (.ev (eVar 10)) (.ev (eC (.int 1))))))) (.ev (eSl (.ev (eVar 3)) (some (eVar 10)) none)))]))) (Zw ns L b zs (A ++ x :: y :: B) s6 s8 s9 (.va (.int ((A.length + 1 : Nat) : Int)))) = .ok false (Zw ns L b zs (A ++ x :: y :: B) s6 s8 s9 (.va (.int ((A.length + 1 : Nat) : Int)))) := by
  let ρ := Zw ns L b zs (A ++ x :: y :: B) s6 s8 s9 (.va (.int ((A.length + 1 : Nat) : Int)))
  have hwl := Wlen s
  have hWl : (stW zs (A ++ x :: y :: B)).length = A.length + B.length + 3 := by
    simp [stW]
    omega
  have s2 : St zs (A ++ y :: B) := s.less ((List.Sublist.refl A).append (List.Sublist.cons x (List.Sublist.refl _))) (by simp)
  have a1 := to5 (ns := ns) (L := L) (b := b) (zs := zs) (rows := A ++ x :: y :: B) (s6 := s6) (s8 := s8) (s9 := s9) (s10 := .va (.int ((A.length + 1 : Nat) : Int))) (f := eVar 10) (k := A.length + 1) rfl
  have a2 := from5 (ns := ns) (L := L) (b := b) (zs := zs) (rows := A ++ x :: y :: B) (s6 := s6) (s8 := s8) (s9 := s9) (s10 := .va (.int ((A.length + 1 : Nat) : Int))) (f := e2 dAdd (.ev (eVar 10)) (.ev (eC (.int 1)))) (k := A.length + 2) rfl
  rw [t_take] at a1
  rw [t_drop1] at a2
  have h : e2 dAdd (.ev (eSl (.br 5) none (some (eVar 10)))) (.ev (eSl (.br 5) (some (e2 dAdd (.ev (eVar 10)) (.ev (eC (.int 1))))) none)) ρ = .ok (.lst (((stW zs (A ++ y :: B)).map ln).map .str)) ρ := by
    rw [e2_ev, a1, bind_ok, a2, bind_ok, dAdd_lst (by simp; omega)]
    simp [stW]
    rfl
  have r := read_ev (join_W h s2.clean) s2.clean.tx
  rw [rd_self s2] at r
  refine own0 r ?_
  have b1 : eSl (.ev (eVar 3)) none (some (e2 dSub (.ev (eVar 10)) (.ev (eC (.int 1))))) ρ = .ok (.lst (A.map rD)) ρ := by
    have hk : e2 dSub (.ev (eVar 10)) (.ev (eC (.int 1))) ρ = .ok (.int (A.length : Int)) ρ := by
      rw [e2_ev, show eVar 10 ρ = .ok (.int ((A.length + 1 : Nat) : Int)) ρ from rfl, bind_ok, eC_go, bind_ok, dSub_int, show (((A.length + 1 : Nat) : Int) - 1) = (A.length : Int) by omega]
      rfl
    rw [eSl_ev, show eVar 3 ρ = .ok (.lst ((A ++ x :: y :: B).map rD)) ρ from rfl, bind_ok, oBd_none, bind_ok, oBd_some hk, bind_ok]
    show Out.lift ρ (some (D.lst (DL.cutD ((A ++ x :: y :: B).map rD) none (some (A.length : Int))))) = _
    rw [cut_to, ← List.map_take, List.take_left' rfl]
    rfl
  have b2 : eSl (.ev (eVar 3)) (some (eVar 10)) none ρ = .ok (.lst ((y :: B).map rD)) ρ := by
    show Out.lift ρ (some (D.lst (DL.cutD ((A ++ x :: y :: B).map rD) (some ((A.length + 1 : Nat) : Int)) none))) = _
    rw [cut_from, ← List.map_drop, ← List.drop_drop, List.drop_left' rfl]
    rfl
  have e : eMake "Store" s_Store___init__ [(eVar 2), (e2 dAdd (.ev (eSl (.ev (eVar 3)) none (some (e2 dSub (.ev (eVar 10)) (.ev (eC (.int 1))))))) (.ev (eSl (.ev (eVar 3)) (some (eVar 10)) none)))] ρ = .ok (stD zs (A ++ y :: B)) ρ := by
    have hrl := s.rl
    have hadd : e2 dAdd (.ev (eSl (.ev (eVar 3)) none (some (e2 dSub (.ev (eVar 10)) (.ev (eC (.int 1))))))) (.ev (eSl (.ev (eVar 3)) (some (eVar 10)) none)) ρ = .ok (.lst ((A ++ y :: B).map rD)) ρ := by
      rw [e2_ev, b1, bind_ok, b2, bind_ok, dAdd_lst (by simp at hrl ⊢; omega), List.map_append]
      rfl
    unfold eMake
    show ((argGo [.ev (eVar 2), .ev _] ρ).bind _) = _
    rw [argGo_cons, show eVar 2 ρ = .ok (.lst (zs.map .int)) ρ from rfl, bind_ok, argGo_cons, hadd, bind_ok, argGo_nil, bind_ok, bind_ok, bind_ok, makeK (sqI_lst zs) s2.ok, sorted_id s2.ok.inj s2.asc]
  exact e
end
end Ma
end

section
set_option maxRecDepth 100000
set_option linter.all false
set_option exponentiation.threshold 100000
namespace Ma
open PySem PySem.Spec PyProof.Rows L2 DL Wk
theorem law_true (ns : List Int) (hl : ns.length ≤ 63) (hb : ∀ z ∈ ns, Builtin.Int.intBits z ≤ 1048576) : ∃ ps, s_law [.va (.scr ns)] = .ok (.bl true) ps := by
  obtain ⟨L, b, zs, rows, s6, g, dr, h6, st⟩ := start ns
  have s := dr.st
  have hz := dr.z
  have hrl := s.rl
  suffices h : ∃ ρ, b_law [.va (.scr ns), .no, .no, .no, .no, .no, .no, .no, .no, .no, .no, .no, .no] = .rt (.bl true) ρ by
    obtain ⟨ρ, e⟩ := h
    exact ⟨outIo 1 ρ, run_rt (n := 1) (N := 13) (ps := [.va (.scr ns)]) e⟩
  unfold b_law
  rw [st, same_text s]
  obtain ⟨L1, b1, v, g1, v0, v1, t1⟩ := any1 (f := eB (on1 dLen) [(.br 5)]) (ρ := Zw ns L b zs rows s6 .no .no .no) rfl len5 g (by omega) (by omega)
  obtain ⟨k, rfl⟩ : ∃ k : Nat, v = (k : Int) := ⟨v.toNat, by omega⟩
  have q8 : sSet 8 (eCall s__law_any [(.io 1), (.ev (eB (on1 dLen) [(.br 5)]))]) (Zw ns L b zs rows s6 .no .no .no) = .nx (Zw ns L1 b1 zs rows s6 (.va (.int (k : Int))) .no .no) := by
    rw [sSet_def, t1, fl_ok]
    rfl
  rw [seq_nx q8]
  obtain ⟨L2, b2, s9, g2, q9, r9⟩ := spoil (ns := ns) (s6 := s6) s hz g1 k (by omega)
  rw [seq_nx q9]
  rw [seq_nx (if0 (or0 r9 (or0 (read_0 s) (read_nl s))))]
  obtain ⟨L3, b3, g3, r10⟩ := read_odd (ns := ns) (zs := zs) (rows := rows) (s6 := s6) (s8 := .va (.int (k : Int))) (s9 := s9) (s10 := .no) g2
  rw [seq_nx (if0 (or0 (read_again s) r10))]
  have hgt : eT (e2 dGt (.ev (eB (on1 dLen) [(.ev (eVar 3))])) (.ev (eC (.int 1)))) (Zw ns L3 b3 zs rows s6 (.va (.int (k : Int))) s9 .no) = .ok (decide ((rows.length : Int) > 1)) (Zw ns L3 b3 zs rows s6 (.va (.int (k : Int))) s9 .no) := by
    rw [eT_ok, e2_ev, len3, bind_ok, eC_go, bind_ok]
    rfl
  by_cases h1 : (rows.length : Int) > 1
  · obtain ⟨L4, b4, v, g4, w0, w1, t4⟩ := any1 (f := e2 dSub (.ev (eB (on1 dLen) [(.ev (eVar 3))])) (.ev (eC (.int 1)))) (m := (rows.length : Int) - 1) (ρ := Zw ns L3 b3 zs rows s6 (.va (.int (k : Int))) s9 .no) rfl (by rw [e2_ev, len3, bind_ok, eC_go, bind_ok, dSub_int]; rfl) g3 (by omega) (by omega)
    obtain ⟨j, rfl⟩ : ∃ j : Nat, v = (j : Int) := ⟨v.toNat, by omega⟩
    have hj : j + 1 < rows.length := by omega
    obtain ⟨A, x, y, B, e, hA⟩ : ∃ A x y B, rows = A ++ x :: y :: B ∧ A.length = j := by
      refine ⟨rows.take j, rows[j], rows[j + 1], rows.drop (j + 2), ?_, by rw [List.length_take]; omega⟩
      rw [List.getElem_cons_drop, List.getElem_cons_drop, List.take_append_drop]
    subst hA
    subst e
    have q10 : sSet 10 (e2 dAdd (.ev (eC (.int 1))) (.ev (eCall s__law_any [(.io 1), (.ev (e2 dSub (.ev (eB (on1 dLen) [(.ev (eVar 3))])) (.ev (eC (.int 1)))))]))) (Zw ns L3 b3 zs (A ++ x :: y :: B) s6 (.va (.int (k : Int))) s9 .no) = .nx (Zw ns L4 b4 zs (A ++ x :: y :: B) s6 (.va (.int (k : Int))) s9 (.va (.int ((A.length + 1 : Nat) : Int)))) := by
      rw [sSet_def, e2_ev, eC_go, bind_ok, t4, bind_ok, dAdd_int, show (1 : Int) + (A.length : Int) = ((A.length + 1 : Nat) : Int) by omega]
      rfl
    refine ⟨Zw ns L4 b4 zs (A ++ x :: y :: B) s6 (.va (.int (k : Int))) s9 (.va (.int ((A.length + 1 : Nat) : Int))), ?_⟩
    refine (seq_nx (ρ1 := Zw ns L4 b4 zs (A ++ x :: y :: B) s6 (.va (.int (k : Int))) s9 (.va (.int ((A.length + 1 : Nat) : Int)))) ?_).trans rfl
    rw [sIf_def, hgt, fl_ok, decide_eq_true h1, if_pos rfl, seq_nx q10, seq_nx (if0 (swap_ev s))]
    exact if0 (less_ev s)
  · refine ⟨Zw ns L3 b3 zs rows s6 (.va (.int (k : Int))) s9 .no, ?_⟩
    refine (seq_nx (ρ1 := Zw ns L3 b3 zs rows s6 (.va (.int (k : Int))) s9 .no) ?_).trans rfl
    rw [sIf_def, hgt, fl_ok, decide_eq_false h1, if_neg Bool.false_ne_true]
    rfl
end Ma
end

section
set_option Elab.async false
set_option linter.all false
set_option maxRecDepth 100000
set_option maxHeartbeats 0
namespace Hd
open PySem PySem.Spec PyProof.Rows L2 DL Wk Hy
def dD (at_ : Str × Option Str) (x qn : Str) (s : Stmt) : He.DefD := ⟨at_, x, qn, defArgs s, defBody s, defScope s, [], []⟩
def fn : List He.DefD := [dD ("Store", some "__eq__") "__eq__" "Store.__eq__" (mtop 12 1), dD ("is_integer", none) "is_integer" "is_integer" (top 6), dD ("is_number", none) "is_number" "is_number" (top 7), dD ("is_sequence", none) "is_sequence" "is_sequence" (top 9), dD ("is_index", none) "is_index" "is_index" (top 8), dD ("is_state_of", none) "is_state_of" "is_state_of" (top 11), dD ("Store", some "__init__") "__init__" "Store.__init__" (mtop 12 0), dD ("_law_any", none) "_law_any" "_law_any" (top 19), dD ("_law_draw", none) "_law_draw" "_law_draw" (top 18), dD ("_law_of", none) "_law_of" "_law_of" (top 20), dD ("_law_line", none) "_law_line" "_law_line" (top 26), dD ("_law_mixed", none) "_law_mixed" "_law_mixed" (top 21), dD ("numbers_of", none) "numbers_of" "numbers_of" (top 15), dD ("read_store", none) "read_store" "read_store" (top 16), dD ("_law_read", none) "_law_read" "_law_read" (top 25), dD ("_law_all", none) "_law_all" "_law_all" (top 22), dD ("_law_sizes", none) "_law_sizes" "_law_sizes" (top 23), dD ("_law_store", none) "_law_store" "_law_store" (top 24), dD ("store_text", none) "store_text" "store_text" (top 14), dD ("law", none) "law" "law" (top 27)]
def fa : List He.Fa := [.glo "is_integer", .glo "is_number", .glo "is_sequence", .glo "is_index", .glo "is_state_of", .glo "_law_any", .glo "_law_draw", .glo "_law_of", .glo "_law_line", .glo "_law_mixed", .glo "numbers_of", .glo "read_store", .glo "_law_read", .glo "_law_all", .glo "_law_sizes", .glo "_law_store", .glo "store_text", .glo "law", .free "abs", .free "all", .free "bool", .free "enumerate", .free "int", .free "isinstance", .free "len", .free "list", .free "min", .free "range", .free "set", .free "sorted", .free "str", .free "sum", .free "tuple", .free "zip", .glo "InvalidStore", .glo "InvalidText", .glo "Store", .cls "Store", .noat "Store" "sizes", .noat "Store" "states", .noat "Store" "key_count", .noat "Store" "_index", .noat "Store" "_found", .mkr "Store", .exm "InvalidStore" "InvalidText" false, .exm "InvalidText" "InvalidText" true]
def er : List ErD := [⟨"InvalidStore", "InvalidStore.__init__", defArgs (mtop 3 0), defBody (mtop 3 0), defScope (mtop 3 0)⟩, ⟨"InvalidText", "InvalidText.__init__", defArgs (mtop 4 0), defBody (mtop 4 0), defScope (mtop 4 0)⟩]
def ex (K : PySem.W.Frag) : Bool := errB pg.main.file K "InvalidStore" "InvalidStore.__init__" && (errB pg.main.file K "InvalidText" "InvalidText.__init__" && (eqB K "Store" && (inB K "Store" && (true))))
abbrev R : PySem.W.OpenRow := PySem.W.OpenLaw.row PySem.Challenge.rw_bothplans_k04_texts_of_stores
abbrev hk : PySem.W.Hook := hookY 6 fa fn er ex
def ob (s : PySem.W.SharedT) : AlY := obsYG 6 fa fn er ex (HandSHeadRun.getT s)
theorem ob_eq (s : PySem.W.SharedT) : ob s = hk.obs s.abs := obsYG_eq (HandSHeadRun.getT_eq s)
def loose : List PySem.Str := ["_wall", "PlanError", "InvalidStore", "InvalidText", "is_integer", "is_number", "is_index", "is_sequence", "is_state_of", "Store", "store_text", "numbers_of", "read_store", "_law_draw", "_law_any", "_law_of", "_law_mixed", "_law_all", "_law_sizes", "_law_store", "_law_read", "_law_line"]
theorem run (w : World) : HandSHeadRun.RunEq R (PySem.W.view R.prog [27]) hk ob 4000 loose w := by
  intro os
  kernel_rfl
end Hd
end

section
set_option Elab.async false
set_option linter.all false
set_option maxRecDepth 100000
set_option maxHeartbeats 0
namespace Hd
open PySem PySem.Spec PyProof.Rows L2 DL Wk Hy
theorem facts {K : PySem.W.Frag} {h : Heap} {mg : Str → Option Value} (X : K.In h) (G : h.Ns mainGlobals mg) (c : SaysY fa fn er ex K) : ∃ C : Fx pg K mg, C.f_law = (He.ga K "law") := by
  have cd := c.d
  have cm := c.more
  obtain ⟨x0, m0⟩ := He.ba (show (_ && _) = true from cm)
  obtain ⟨x1, m1⟩ := He.ba (show (_ && _) = true from m0)
  obtain ⟨x2, m2⟩ := He.ba (show (_ && _) = true from m1)
  obtain ⟨x3, m3⟩ := He.ba (show (_ && _) = true from m2)
  obtain ⟨fd0, F0⟩ := cd.def_ 0 (d := dD ("Store", some "__eq__") "__eq__" "Store.__eq__" (mtop 12 1)) rfl
  obtain ⟨fd1, F1⟩ := cd.def_ 1 (d := dD ("is_integer", none) "is_integer" "is_integer" (top 6)) rfl
  obtain ⟨fd2, F2⟩ := cd.def_ 2 (d := dD ("is_number", none) "is_number" "is_number" (top 7)) rfl
  obtain ⟨fd3, F3⟩ := cd.def_ 3 (d := dD ("is_sequence", none) "is_sequence" "is_sequence" (top 9)) rfl
  obtain ⟨fd4, F4⟩ := cd.def_ 4 (d := dD ("is_index", none) "is_index" "is_index" (top 8)) rfl
  obtain ⟨fd5, F5⟩ := cd.def_ 5 (d := dD ("is_state_of", none) "is_state_of" "is_state_of" (top 11)) rfl
  obtain ⟨fd6, F6⟩ := cd.def_ 6 (d := dD ("Store", some "__init__") "__init__" "Store.__init__" (mtop 12 0)) rfl
  obtain ⟨fd7, F7⟩ := cd.def_ 7 (d := dD ("_law_any", none) "_law_any" "_law_any" (top 19)) rfl
  obtain ⟨fd8, F8⟩ := cd.def_ 8 (d := dD ("_law_draw", none) "_law_draw" "_law_draw" (top 18)) rfl
  obtain ⟨fd9, F9⟩ := cd.def_ 9 (d := dD ("_law_of", none) "_law_of" "_law_of" (top 20)) rfl
  obtain ⟨fd10, F10⟩ := cd.def_ 10 (d := dD ("_law_line", none) "_law_line" "_law_line" (top 26)) rfl
  obtain ⟨fd11, F11⟩ := cd.def_ 11 (d := dD ("_law_mixed", none) "_law_mixed" "_law_mixed" (top 21)) rfl
  obtain ⟨fd12, F12⟩ := cd.def_ 12 (d := dD ("numbers_of", none) "numbers_of" "numbers_of" (top 15)) rfl
  obtain ⟨fd13, F13⟩ := cd.def_ 13 (d := dD ("read_store", none) "read_store" "read_store" (top 16)) rfl
  obtain ⟨fd14, F14⟩ := cd.def_ 14 (d := dD ("_law_read", none) "_law_read" "_law_read" (top 25)) rfl
  obtain ⟨fd15, F15⟩ := cd.def_ 15 (d := dD ("_law_all", none) "_law_all" "_law_all" (top 22)) rfl
  obtain ⟨fd16, F16⟩ := cd.def_ 16 (d := dD ("_law_sizes", none) "_law_sizes" "_law_sizes" (top 23)) rfl
  obtain ⟨fd17, F17⟩ := cd.def_ 17 (d := dD ("_law_store", none) "_law_store" "_law_store" (top 24)) rfl
  obtain ⟨fd18, F18⟩ := cd.def_ 18 (d := dD ("store_text", none) "store_text" "store_text" (top 14)) rfl
  obtain ⟨fd19, F19⟩ := cd.def_ 19 (d := dD ("law", none) "law" "law" (top 27)) rfl
  obtain ⟨t_InvalidStore, xf_InvalidStore, na_InvalidStore⟩ := err_ok (P := pg) x0 (c.erd 0 rfl) (by first | rfl | decide +kernel) (fun cda cc L => ⟨_, rfl⟩)
  obtain ⟨t_InvalidText, xf_InvalidText, na_InvalidText⟩ := err_ok (P := pg) x1 (c.erd 1 rfl) (by first | rfl | decide +kernel) (fun cda cc L => ⟨_, rfl⟩)
  have he_InvalidText : Hears K mg ers "InvalidText" (He.ga K "InvalidText") := by
    intro c hc Ca gc
    simp only [ers, List.mem_cons, List.mem_nil_iff, or_false] at hc
    rcases hc with e0 | e1
    · subst e0
      have z := (He.glo_ok X G (cd.fact 34 (f := .glo "InvalidStore") rfl)).symm.trans gc
      have z2 := Value.ref.inj (Option.some.inj z)
      rw [← z2, He.exm_ok (cd.fact 44 (f := .exm "InvalidStore" "InvalidText" false) rfl)]
      rfl
    · subst e1
      have z := (He.glo_ok X G (cd.fact 35 (f := .glo "InvalidText") rfl)).symm.trans gc
      have z2 := Value.ref.inj (Option.some.inj z)
      rw [← z2, He.exm_ok (cd.fact 45 (f := .exm "InvalidText" "InvalidText" true) rfl)]
      rfl
  exact ⟨⟨_, fd0, F0, _, fd1, F1, He.glo_ok X G (cd.fact 0 (f := .glo "is_integer") rfl), _, fd2, F2, He.glo_ok X G (cd.fact 1 (f := .glo "is_number") rfl), _, fd3, F3, He.glo_ok X G (cd.fact 2 (f := .glo "is_sequence") rfl), _, fd4, F4, He.glo_ok X G (cd.fact 3 (f := .glo "is_index") rfl), _, fd5, F5, He.glo_ok X G (cd.fact 4 (f := .glo "is_state_of") rfl), _, fd6, F6, _, fd7, F7, He.glo_ok X G (cd.fact 5 (f := .glo "_law_any") rfl), _, fd8, F8, He.glo_ok X G (cd.fact 6 (f := .glo "_law_draw") rfl), _, fd9, F9, He.glo_ok X G (cd.fact 7 (f := .glo "_law_of") rfl), _, fd10, F10, He.glo_ok X G (cd.fact 8 (f := .glo "_law_line") rfl), _, fd11, F11, He.glo_ok X G (cd.fact 9 (f := .glo "_law_mixed") rfl), _, fd12, F12, He.glo_ok X G (cd.fact 10 (f := .glo "numbers_of") rfl), _, fd13, F13, He.glo_ok X G (cd.fact 11 (f := .glo "read_store") rfl), _, fd14, F14, He.glo_ok X G (cd.fact 12 (f := .glo "_law_read") rfl), _, fd15, F15, He.glo_ok X G (cd.fact 13 (f := .glo "_law_all") rfl), _, fd16, F16, He.glo_ok X G (cd.fact 14 (f := .glo "_law_sizes") rfl), _, fd17, F17, He.glo_ok X G (cd.fact 15 (f := .glo "_law_store") rfl), _, fd18, F18, He.glo_ok X G (cd.fact 16 (f := .glo "store_text") rfl), _, fd19, F19, He.glo_ok X G (cd.fact 17 (f := .glo "law") rfl), _, _, _, _, He.glo_ok X G (cd.fact 34 (f := .glo "InvalidStore") rfl), t_InvalidStore, xf_InvalidStore, na_InvalidStore, _, _, _, _, He.glo_ok X G (cd.fact 35 (f := .glo "InvalidText") rfl), t_InvalidText, xf_InvalidText, na_InvalidText, he_InvalidText, _, He.glo_ok X G (cd.fact 36 (f := .glo "Store") rfl), He.cls_ok (cd.fact 37 (f := .cls "Store") rfl), He.noat_ok (cd.fact 38 (f := .noat "Store" "sizes") rfl), He.noat_ok (cd.fact 39 (f := .noat "Store" "states") rfl), He.noat_ok (cd.fact 40 (f := .noat "Store" "key_count") rfl), He.noat_ok (cd.fact 41 (f := .noat "Store" "_index") rfl), He.noat_ok (cd.fact 42 (f := .noat "Store" "_found") rfl), He.mkr_ok (cd.fact 43 (f := .mkr "Store") rfl), eq_ok x2, in_ok x3, He.free_ok X G (cd.fact 18 (f := .free "abs") rfl), He.free_ok X G (cd.fact 19 (f := .free "all") rfl), He.free_ok X G (cd.fact 20 (f := .free "bool") rfl), He.free_ok X G (cd.fact 21 (f := .free "enumerate") rfl), He.free_ok X G (cd.fact 22 (f := .free "int") rfl), He.free_ok X G (cd.fact 23 (f := .free "isinstance") rfl), He.free_ok X G (cd.fact 24 (f := .free "len") rfl), He.free_ok X G (cd.fact 25 (f := .free "list") rfl), He.free_ok X G (cd.fact 26 (f := .free "min") rfl), He.free_ok X G (cd.fact 27 (f := .free "range") rfl), He.free_ok X G (cd.fact 28 (f := .free "set") rfl), He.free_ok X G (cd.fact 29 (f := .free "sorted") rfl), He.free_ok X G (cd.fact 30 (f := .free "str") rfl), He.free_ok X G (cd.fact 31 (f := .free "sum") rfl), He.free_ok X G (cd.fact 32 (f := .free "tuple") rfl), He.free_ok X G (cd.fact 33 (f := .free "zip") rfl)⟩, rfl⟩
end Hd
end

set_option Elab.async false
set_option linter.all false
set_option maxRecDepth 100000
set_option maxHeartbeats 0
namespace Fin
open PySem PySem.Spec PyProof.Rows L2 DL Wk
theorem start_script {K : PySem.W.Frag} {mg : Str → Option Value} {H : Hp} {a : Addr} {ns : List Int} (h : SqL K H a (ns.map V.int)) : Sat K mg [.ref a] ⟨H, H, fun _ => False⟩ [some (.ref a)] [.va (.scr ns)] := by
  refine ⟨fun _ _ e => e, fun _ h => h.elim, fun _ h => h.elim, rfl, ⟨fun _ _ => False, fun i sl e => ?_, fun _ _ h => h, fun _ _ _ h => h.elim⟩, fun i o e => ?_⟩
  · cases i with
    | zero =>
      cases e
      exact ⟨some (.ref a), rfl, .ref a, rfl, a, rfl, h⟩
    | succ i => simp at e
  · cases i with
    | zero => cases e
    | succ i => simp at e
theorem law_sp {K : PySem.W.Frag} {mg : Str → Option Value} {H : Hp} {a : Addr} {ns : List Int} (h : SqL K H a (ns.map V.int)) {sem : Sem'} (hl : ∃ ps, sem [.va (.scr ns)] = .ok (.bl true) ps) : spD K mg 1 sem [.ref a] H (fun v _ => v = .bl true) fun _ _ _ => False := by
  obtain ⟨ps, e⟩ := hl
  refine ⟨rfl, ⟨H, H, fun _ => False⟩, [.va (.scr ns)], rfl, start_script h, ?_⟩
  rw [e]
  exact fun S' v _ _ r => r
end Fin
open PySem PySem.W PySem.Calls PyProof.Rows
theorem PySem.Challenge.cw_bothplans_k04_texts_of_stores_holds : PySem.Challenge.rw_bothplans_k04_texts_of_stores.Holds := by
  w_on; o_law
  refine HandSHeadRun.head_any (r := OpenLaw.row PySem.Challenge.rw_bothplans_k04_texts_of_stores) (q := view (OpenLaw.row PySem.Challenge.rw_bothplans_k04_texts_of_stores).prog [27]) (H := Hd.hk) (ob := Hd.ob) (M := 4000) (loose := Hd.loose) (d := HandSHeadRun.topDef (OpenLaw.row PySem.Challenge.rw_bothplans_k04_texts_of_stores).prog 27) (kwd := []) Hd.ob_eq
    (by kernel_rfl) (fun s => by kernel_rfl) Hd.run (by kernel_rfl) (by kernel_rfl) (by kernel_rfl) (by rfl) (by first | assumption | decide +kernel) (by decide +kernel) ⟨rfl, rfl, rfl, rfl, rfl, by decide +kernel⟩ ?hw ?hc
  case hw => w_witness2
  case hc =>
    refine DL.walkG (l := PySem.Challenge.rw_bothplans_k04_texts_of_stores) (n := 63) (k := 9) (x := "_law_script") rfl (by decide) (by kernel_rfl) ⟨rfl, by decide, by decide⟩ ?F
    intro w mg fa h Y G hmg0
    obtain ⟨K, KX, c⟩ := Y
    have hmg : mg ("law" : PySem.Str) = some (.ref fa) := by
      have e : (HandSHeadRun.topDef (OpenLaw.row PySem.Challenge.rw_bothplans_k04_texts_of_stores).prog 27).name = ("law" : PySem.Str) := by kernel_rfl
      rw [← e]
      exact hmg0
    obtain ⟨C, eC⟩ := Hd.facts KX G c
    have e := hmg.symm.trans C.g_law
    have e2 : fa = C.f_law := by
      have := Option.some.inj e
      cases this
      rfl
    subst e2
    refine ⟨K, C.fd_law, DL.spD K mg 1 Wk.s_law, KX, ?_, fun H a ns hl hb _ hS => Fin.law_sp hS (Ma.law_true ns hl hb), fun base _ _ => Wk.ok_law C⟩
    have b := L2.FunD.bindsA (ps := ["_law_script"]) C.F_law fun _ _ _ _ _ _ us hl => match us, hl with | [_], _ => rfl
    exact fun s v => b s [v] rfl
