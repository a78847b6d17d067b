import PyProof.Rows.All
import Wide.All
import OpenK.AllK
import Wide.FinOn
import HandS.ForMost
import HandS.Exc
import HandS.ExcOwn
import HandS.TryOnly
import HandS.TryMany
import HandS.WordsExc
import HandS.Walk
import HandS.Star
import HandS.Slots
import HandS.SlotsOwn
import HandS.ClsMeth
import HandS.ExcInit
import HandS.ExcField
import HandS.ExcIs
import HandS.IsInst
import HandS.Style
import HandS.Wide
import HandS.HeadHook1
import HandS.Deep
import HandS.Defaults
import HandS.HeadHook2
import KE.KExcSuper
import KE.KExcIs
import HandS.Small
import HandS.HeadEnd
import HandS.EndBits
import HandS.Head0
import HandS.Head1
import HandS.Head2
import PySem.Challenge.RW_steadykept_k07_bounds_made_and_refused
set_option Elab.async false
set_option linter.all false
set_option maxRecDepth 100000
set_option maxHeartbeats 2000000
/-! D layer, the core: data without a heap -/
namespace DL
open PySem L2

/-- deep data; ref a: a mutable thing (a cell) -/
inductive D where
  | non | bl (b : Bool) | int (i : Int) | str (x : Str)
  | tup (xs : List D) | lst (xs : List D) | rol (xs : List D)
  | slt (c : Str) (xs : List D)
  | cls (c : Str) | ty (n : String) | ref (a : Addr)
  /-- a caught exception, held by its suite: its address, its dict, its class, its fields -/
  | exc (a : Addr) (d : Option Addr) (c : Str) (ns : List Str) (xs : List D)

section
variable (K : PySem.W.Frag) (Z : Hp)
mutual
inductive IsD : D → V → Prop
  | non : IsD .non .non
  | bl (b : Bool) : IsD (.bl b) (.bl b)
  | int (i : Int) : IsD (.int i) (.int i)
  | str (x : Str) : IsD (.str x) (.str x)
  | tup {a : Addr} {vs : List V} {ds : List D} : SqT K Z a vs → IsDs ds vs → IsD (.tup ds) (.ref a)
  | lst {a : Addr} {vs : List V} {ds : List D} : Z a = some (.lst vs) → IsDs ds vs → IsD (.lst ds) (.ref a)
  | rol {a : Addr} {vs : List V} {ds : List D} : SqL K Z a vs → IsDs ds vs → IsD (.rol ds) (.ref a)
  | slt {a dx : Addr} {c : Str} {os : List (Option V)} {vs : List V} {ds : List D} : Z a = some (SlX.SlO a (He.ga K c) dx os) → Z dx = some (.xd []) →
      (∀ (i : Nat) (v : V), vs[i]? = some v → os[i]? = some (some v)) → IsDs ds vs → IsD (.slt c ds) (.ref a)
  | cls (c : Str) : IsD (.cls c) (.ref (He.ga K c))
  | ty (n : String) : IsD (.ty n) (.ty n)
  | ref (a : Addr) : IsD (.ref a) (.ref a)
  | exc0 (a : Addr) (c : Str) : IsD (.exc a none c [] []) (.ref a)
  | exc1 {a dx : Addr} {c : Str} {vs : List (Str × V)} {ns : List Str} {ws : List V} {ds : List D} : Z dx = some (.xd vs) → ns = vs.map (·.1) → ws = vs.map (·.2) → IsDs ds ws → IsD (.exc a (some dx) c ns ds) (.ref a)
inductive IsDs : List D → List V → Prop
  | nil : IsDs [] []
  | cons {d : D} {v : V} {ds : List D} {vs : List V} : IsD d v → IsDs ds vs → IsDs (d :: ds) (v :: vs)
end
end

section
variable {K : PySem.W.Frag} {Z Z' Z2 : Hp}
theorem Same.sqT {a : Addr} {xs : List V} (e : Same Z Z') (h : SqT K Z a xs) : SqT K Z' a xs := by
  rcases h with (h | ⟨o, h⟩) | h
  · exact .inl (.inl (e _ _ h))
  · exact .inl (.inr ⟨o, e _ _ h⟩)
  · exact .inr h
mutual
theorem IsD.mono (e : Same Z Z') : ∀ {d : D} {v : V}, IsD K Z d v → IsD K Z' d v
  | _, _, .non => .non
  | _, _, .bl b => .bl b
  | _, _, .int i => .int i
  | _, _, .str x => .str x
  | _, _, .tup h r => .tup (Same.sqT e h) (IsDs.mono e r)
  | _, _, .lst h r => .lst (e _ _ h) (IsDs.mono e r)
  | _, _, .rol h r => .rol (e.seq h) (IsDs.mono e r)
  | _, _, .slt h1 h2 h3 r => .slt (e _ _ h1) (e _ _ h2) h3 (IsDs.mono e r)
  | _, _, .cls c => .cls c
  | _, _, .ty n => .ty n
  | _, _, .ref a => .ref a
  | _, _, .exc0 a c => .exc0 a c
  | _, _, .exc1 h1 h2 h3 r => .exc1 (e _ _ h1) h2 h3 (IsDs.mono e r)
theorem IsDs.mono (e : Same Z Z') : ∀ {ds : List D} {vs : List V}, IsDs K Z ds vs → IsDs K Z' ds vs
  | _, _, .nil => .nil
  | _, _, .cons h r => .cons (IsD.mono e h) (IsDs.mono e r)
end
theorem IsDs.length : ∀ {ds : List D} {vs : List V}, IsDs K Z ds vs → ds.length = vs.length
  | _, _, .nil => rfl
  | _, _, .cons _ r => congrArg (· + 1) r.length
theorem IsDs.get : ∀ {ds : List D} {vs : List V} {i : Nat} {d : D}, IsDs K Z ds vs → ds[i]? = some d → ∃ v, vs[i]? = some v ∧ IsD K Z d v
  | _, _, i, _, .nil, e => by simp at e
  | _, _, 0, _, .cons h _, e => by simp at e; subst e; exact ⟨_, rfl, h⟩
  | _, _, i + 1, d, .cons _ r, e => by
    obtain ⟨v, h1, h2⟩ := r.get (i := i) (d := d) (by simpa using e)
    exact ⟨v, by simpa using h1, h2⟩
theorem IsDs.got : ∀ {ds : List D} {vs : List V} {i : Nat} {v : V}, IsDs K Z ds vs → vs[i]? = some v → ∃ d, ds[i]? = some d ∧ IsD K Z d v
  | _, _, i, _, .nil, e => by simp at e
  | _, _, 0, _, .cons h _, e => by simp at e; subst e; exact ⟨_, rfl, h⟩
  | _, _, i + 1, d, .cons _ r, e => by
    obtain ⟨v, h1, h2⟩ := r.got (i := i) (v := d) (by simpa using e)
    exact ⟨v, by simpa using h1, h2⟩
theorem IsDs.append : ∀ {ds es : List D} {vs ws : List V}, IsDs K Z ds vs → IsDs K Z es ws → IsDs K Z (ds ++ es) (vs ++ ws)
  | _, _, _, _, .nil, s => s
  | _, _, _, _, .cons h r, s => .cons h (r.append s)
theorem IsDs.one {d : D} {v : V} (h : IsD K Z d v) : IsDs K Z [d] [v] := .cons h .nil
theorem IsDs.take : ∀ {ds : List D} {vs : List V} (n : Nat), IsDs K Z ds vs → IsDs K Z (ds.take n) (vs.take n)
  | _, _, 0, _ => .nil
  | _, _, _ + 1, .nil => .nil
  | _, _, n + 1, .cons h r => .cons h (r.take n)
theorem IsDs.drop : ∀ {ds : List D} {vs : List V} (n : Nat), IsDs K Z ds vs → IsDs K Z (ds.drop n) (vs.drop n)
  | _, _, 0, r => r
  | _, _, _ + 1, .nil => .nil
  | _, _, n + 1, .cons _ r => r.drop n
theorem IsDs.set : ∀ {ds : List D} {vs : List V} {d : D} {v : V} (i : Nat), IsDs K Z ds vs → IsD K Z d v → IsDs K Z (ds.set i d) (vs.set i v)
  | _, _, _, _, _, .nil, _ => .nil
  | _, _, _, _, 0, .cons _ r, h => .cons h r
  | _, _, _, _, i + 1, .cons q r, h => .cons q (r.set i h)
theorem IsDs.inv_nil {vs : List V} (h : IsDs K Z [] vs) : vs = [] := by cases h; rfl
theorem IsDs.inv_cons {d : D} {ds : List D} {vs : List V} (h : IsDs K Z (d :: ds) vs) : ∃ v r, vs = v :: r ∧ IsD K Z d v ∧ IsDs K Z ds r := by
  cases h with | cons h r => exact ⟨_, _, rfl, h, r⟩
end

/-! ### cells: what changes -/
inductive Cell where
  | lst (xs : List D)
  /-- an instance with slots, as far as it is made -/
  | slt (c : Str) (dx : Addr) (xs : List (Option D))
abbrev Mu := Addr → Option Cell
def mset (μ : Mu) (a : Addr) (c : Cell) : Mu := fun b => if b = a then some c else μ b
def mdel (μ : Mu) (a : Addr) : Mu := fun b => if b = a then none else μ b
@[simp] theorem mset_same {μ : Mu} {a : Addr} {c : Cell} : mset μ a c a = some c := if_pos rfl
theorem mset_ne {μ : Mu} {a b : Addr} {c : Cell} (h : b ≠ a) : mset μ a c b = μ b := if_neg h
@[simp] theorem mset_mset {μ : Mu} {a : Addr} {c c' : Cell} : mset (mset μ a c) a c' = mset μ a c' := by funext b; unfold mset; split <;> rfl
theorem mdel_mset {μ : Mu} {a : Addr} {c : Cell} (h : μ a = none) : mdel (mset μ a c) a = μ := by
  funext b
  unfold mdel mset
  split
  · rename_i e; rw [e, h]
  · rfl

/-- the further addresses of a cell -/
def Cell.more : Cell → List Addr
  | .lst _ => []
  | .slt _ dx _ => [dx]
section
variable (K : PySem.W.Frag)
def CellAt (H Z : Hp) (a : Addr) : Cell → Prop
  | .lst ds => ∃ vs, H a = some (.lst vs) ∧ IsDs K Z ds vs
  | .slt c dx xs => ∃ os : List (Option V), dx ≠ a ∧ SlX.Slt H a (He.ga K c) dx os ∧ H dx ≠ none ∧ ∀ (i : Nat) (d : D), xs[i]? = some (some d) → ∃ v, os[i]? = some (some v) ∧ IsD K Z d v
/-- the frozen part Z and the cells μ stand in H -/
structure Rep (H Z : Hp) (μ : Mu) : Prop where
  sub : Same Z H
  cel : ∀ a c, μ a = some c → Z a = none ∧ (∀ x ∈ c.more, Z x = none) ∧ CellAt K H Z a c
  apart : ∀ a b c c', μ a = some c → μ b = some c' → (∀ x ∈ c'.more, x ≠ a) ∧ (a ≠ b → ∀ x ∈ c.more, ∀ y ∈ c'.more, x ≠ y)
/-- the slots hold these data -/
structure SlD (Z : Hp) (σ : St) (δ : List (Option D)) : Prop where
  len : σ.length = δ.length
  at_ : ∀ (i : Nat) (d : D), δ[i]? = some (some d) → ∃ v, σ[i]? = some (some v) ∧ IsD K Z d v
/-- an exception's own dict -/
def XAt (Z : Hp) : Option Addr → List (Str × D) → Prop
  | none, fs => fs = []
  | some a, fs => ∃ vs, Z a = some (.xd vs) ∧ fs.map (·.1) = vs.map (·.1) ∧ IsDs K Z (fs.map (·.2)) (vs.map (·.2))
end

abbrev Dl := List (Option D)
/-- what is wanted of an exception: the slots where it is met, its class, its fields -/
abbrev RD := Dl → Str → List (Str × D) → Mu → Prop
abbrev QD := D → Mu → Prop
abbrev TED := Dl → Mu → QD → RD → Prop
abbrev TTD := Dl → Mu → (Bool → Mu → Prop) → RD → Prop
abbrev TAD := Dl → Mu → (List D → Mu → Prop) → RD → Prop
structure EndD where
  nx : Dl → Mu → Prop
  rt : QD
  bk : Dl → Mu → Prop := fun _ _ => False
  ct : Dl → Mu → Prop := fun _ _ => False
abbrev TSD := EndD → Dl → Mu → RD → Prop
/-- a promise, by data -/
abbrev DSp := List D → Mu → QD → (Str → List (Str × D) → Mu → Prop) → Prop

section
variable {K : PySem.W.Frag} {H Z Z' Z2 : Hp} {μ : Mu} {σ : St} {δ : Dl}
theorem SlD.mono (e : Same Z Z') (s : SlD K Z σ δ) : SlD K Z' σ δ :=
  ⟨s.len, fun i d h => let ⟨v, h1, h2⟩ := s.at_ i d h; ⟨v, h1, h2.mono e⟩⟩
theorem SlD.set (s : SlD K Z σ δ) (i : Nat) {d : D} {v : V} (h : IsD K Z d v) : SlD K Z (σ.set i (some v)) (δ.set i (some d)) := by
  refine ⟨by simp [s.len], fun j e hj => ?_⟩
  by_cases hij : i = j
  · subst hij
    by_cases hl : i < δ.length
    · rw [List.getElem?_set_self hl] at hj
      injection hj with hj; injection hj with hj; subst hj
      exact ⟨v, List.getElem?_set_self (by rw [s.len]; exact hl), h⟩
    · rw [List.getElem?_eq_none_iff.mpr (by simpa using hl)] at hj; cases hj
  · rw [List.getElem?_set_ne hij] at hj
    obtain ⟨w, h1, h2⟩ := s.at_ j e hj
    exact ⟨w, by rw [List.getElem?_set_ne hij]; exact h1, h2⟩
theorem SlD.unset (s : SlD K Z σ δ) (i : Nat) : SlD K Z (σ.set i none) (δ.set i none) := by
  refine ⟨by simp [s.len], fun j e hj => ?_⟩
  by_cases hij : i = j
  · subst hij
    by_cases hl : i < δ.length
    · rw [List.getElem?_set_self hl] at hj; cases hj
    · rw [List.getElem?_eq_none_iff.mpr (by simpa using hl)] at hj; cases hj
  · rw [List.getElem?_set_ne hij] at hj
    obtain ⟨w, h1, h2⟩ := s.at_ j e hj
    exact ⟨w, by rw [List.getElem?_set_ne hij]; exact h1, h2⟩
theorem SlD.same {ρ : St} (s : SlD K Z σ δ) (h : ρ = σ) : SlD K Z ρ δ := h ▸ s
/-- a frozen object is new -/
theorem Rep.fresh (r : Rep K H Z μ) {p : Addr} (h : H p = none) : Z p = none ∧ μ p = none ∧ ∀ a c, μ a = some c → p ∉ c.more := by
  refine ⟨r.sub.free h, ?_, fun a c ha hp => ?_⟩
  · cases e : μ p with
    | none => rfl
    | some c =>
      obtain ⟨_, _, q⟩ := r.cel p c e
      cases c with
      | lst ds => obtain ⟨vs, q, _⟩ := q; rw [h] at q; cases q
      | slt c dx xs => obtain ⟨os, _, q, _⟩ := q; rcases q with ⟨q, _⟩ | ⟨q, _⟩ <;> (rw [h] at q; cases q)
  · obtain ⟨_, _, q⟩ := r.cel a c ha
    cases c with
    | lst ds => cases hp
    | slt c dx xs =>
      obtain ⟨os, _, _, q, _⟩ := q
      rw [Cell.more, List.mem_singleton] at hp
      rw [hp] at h
      exact q h
theorem CellAt.stay {c : Cell} {a : Addr} {H' : Hp} (h : CellAt K H Z a c) (e : Same Z Z') (k : ∀ b o, (b = a ∨ b ∈ c.more) → H b = some o → H' b = some o) : CellAt K H' Z' a c := by
  cases c with
  | lst ds => obtain ⟨vs, q, r⟩ := h; exact ⟨vs, k _ _ (.inl rfl) q, r.mono e⟩
  | slt c dx xs =>
    obtain ⟨os, n, q, y, r⟩ := h
    refine ⟨os, n, ?_, ?_, fun i d hi => let ⟨v, h1, h2⟩ := r i d hi; ⟨v, h1, h2.mono e⟩⟩
    · rcases q with ⟨q, z⟩ | ⟨q, z⟩
      · exact .inl ⟨k _ _ (.inl rfl) q, z⟩
      · exact .inr ⟨k _ _ (.inl rfl) q, k _ _ (.inr (by simp [Cell.more])) z⟩
    · cases q2 : H dx with
      | none => exact absurd q2 y
      | some o => rw [k dx o (.inr (by simp [Cell.more])) q2]; exact fun z => nomatch z
/-- a new object goes to the frozen part -/
theorem Rep.new (r : Rep K H Z μ) {p : Addr} (h : H p = none) (o : HO) : Rep K (upd H p o) (upd Z p o) μ ∧ Same Z (upd Z p o) := by
  obtain ⟨f1, f2, f3⟩ := r.fresh h
  have e : Same Z (upd Z p o) := fun b u hb => by rw [upd_ne (ne_of_none hb f1)]; exact hb
  refine ⟨⟨fun b u hb => ?_, fun a c ha => ?_, r.apart⟩, e⟩
  · by_cases q : b = p
    · subst q; rw [upd_same] at hb ⊢; exact hb
    · rw [upd_ne q] at hb ⊢; exact r.sub _ _ hb
  · obtain ⟨c1, c2, c3⟩ := r.cel a c ha
    have np : a ≠ p := fun q => by rw [q, f2] at ha; cases ha
    refine ⟨by rw [upd_ne np]; exact c1, fun x hx => by rw [upd_ne fun q => f3 a c ha (by rw [← q]; exact hx)]; exact c2 x hx, c3.stay e fun b u hb hu => ?_⟩
    rw [upd_ne ?_]; exact hu
    rcases hb with rfl | hb
    · exact np
    · exact fun q => f3 a c ha (q ▸ hb)
/-- a new object is a cell -/
theorem Rep.cell (r : Rep K H Z μ) {p : Addr} (h : H p = none) {vs : List V} {ds : List D} (q : IsDs K Z ds vs) : Rep K (upd H p (.lst vs)) Z (mset μ p (.lst ds)) := by
  obtain ⟨f1, f2, f3⟩ := r.fresh h
  refine ⟨fun b u hb => by rw [upd_ne (ne_of_none hb f1)]; exact r.sub _ _ hb, fun a c ha => ?_, fun a b c c' ha hb => ?_⟩
  · by_cases e : a = p
    · subst e
      rw [mset_same] at ha; cases ha
      exact ⟨f1, (fun x hx => nomatch hx), vs, upd_same, q⟩
    · rw [mset_ne e] at ha
      obtain ⟨c1, c2, c3⟩ := r.cel a c ha
      refine ⟨c1, c2, c3.stay (Same.refl _) fun b u hb hu => ?_⟩
      rw [upd_ne ?_]; exact hu
      rcases hb with rfl | hb
      · exact e
      · exact fun z => f3 a c ha (z ▸ hb)
  · by_cases e : a = p
    · by_cases e' : b = p
      · subst e; subst e'
        rw [mset_same] at ha hb; cases ha; cases hb
        exact ⟨fun x hx => (nomatch hx), fun n => absurd rfl n⟩
      · subst e
        rw [mset_same] at ha; cases ha
        rw [mset_ne e'] at hb
        exact ⟨fun x hx z => f3 b c' hb (z ▸ hx), fun _ x hx => (nomatch hx)⟩
    · by_cases e' : b = p
      · subst e'
        rw [mset_same] at hb; cases hb
        exact ⟨fun x hx => (nomatch hx), fun _ _ _ y hy => (nomatch hy)⟩
      · rw [mset_ne e] at ha
        rw [mset_ne e'] at hb
        exact r.apart a b c c' ha hb
/-- a cell's list changes -/
theorem Rep.put (r : Rep K H Z μ) {p : Addr} {ds es : List D} {vs : List V} (h : μ p = some (.lst ds)) (q : IsDs K Z es vs) : Rep K (upd H p (.lst vs)) Z (mset μ p (.lst es)) := by
  obtain ⟨z0, _, _⟩ := r.cel p _ h
  have f3 : ∀ a c, μ a = some c → p ∉ c.more := fun a c ha hp => (r.apart p a _ c h ha).1 p hp rfl
  refine ⟨fun b u hb => by rw [upd_ne (ne_of_none hb z0)]; exact r.sub _ _ hb, fun a c ha => ?_, fun a b c c' ha hb => ?_⟩
  · by_cases e : a = p
    · subst e
      rw [mset_same] at ha; cases ha
      exact ⟨z0, (fun x hx => nomatch hx), vs, upd_same, q⟩
    · rw [mset_ne e] at ha
      obtain ⟨c1, c2, c3⟩ := r.cel a c ha
      refine ⟨c1, c2, c3.stay (Same.refl _) fun b u hb hu => ?_⟩
      rw [upd_ne ?_]; exact hu
      rcases hb with rfl | hb
      · exact e
      · exact fun z => f3 a c ha (z ▸ hb)
  · by_cases e : a = p
    · by_cases e' : b = p
      · subst e; subst e'
        rw [mset_same] at ha hb; cases ha; cases hb
        exact ⟨fun x hx => (nomatch hx), fun n => absurd rfl n⟩
      · subst e
        rw [mset_same] at ha; cases ha
        rw [mset_ne e'] at hb
        exact ⟨fun x hx z => f3 b c' hb (z ▸ hx), fun _ x hx => (nomatch hx)⟩
    · by_cases e' : b = p
      · subst e'
        rw [mset_same] at hb; cases hb
        exact ⟨fun x hx => (nomatch hx), fun _ _ _ y hy => (nomatch hy)⟩
      · rw [mset_ne e] at ha
        rw [mset_ne e'] at hb
        exact r.apart a b c c' ha hb
end

/-! ### how a state grows: what is frozen stays, what is no cell stays, new cells are new -/
def Area (μ : Mu) (a : Addr) : Prop := ∃ b c, μ b = some c ∧ (a = b ∨ a ∈ c.more)
structure Gr (Z H : Hp) (μ : Mu) (Z' H' : Hp) (μ' : Mu) : Prop where
  same : Same Z Z'
  keep : ∀ a o, H a = some o → ¬ Area μ a → H' a = some o
  area : ∀ a, Area μ' a → Area μ a ∨ H a = none
  zone : ∀ a o, Z' a = some o → Z a = some o ∨ Area μ a ∨ H a = none
section
variable {K : PySem.W.Frag} {H Z Z' Z2 H' H2 : Hp} {μ μ' μ2 : Mu}
theorem Gr.refl (Z H : Hp) (μ : Mu) : Gr Z H μ Z H μ := ⟨Same.refl _, fun _ _ h _ => h, fun _ h => .inl h, fun _ _ h => .inl h⟩
theorem Gr.gone (a : Gr Z H μ Z' H' μ') {x : Addr} (h : H' x = none) : Area μ x ∨ H x = none := by
  cases e : H x with
  | none => exact .inr rfl
  | some o =>
    by_cases n : Area μ x
    · exact .inl n
    · rw [a.keep x o e n] at h; cases h
theorem Gr.trans (a : Gr Z H μ Z' H' μ') (b : Gr Z' H' μ' Z2 H2 μ2) : Gr Z H μ Z2 H2 μ2 := by
  refine ⟨a.same.trans b.same, fun x o h n => b.keep x o (a.keep x o h n) fun y => ?_, fun x h => ?_, fun x o h => ?_⟩
  · rcases a.area x y with y | y
    · exact n y
    · rw [h] at y; cases y
  · rcases b.area x h with y | y
    · exact a.area x y
    · exact a.gone y
  · rcases b.zone x o h with y | y | y
    · exact a.zone x o y
    · exact .inr (a.area x y)
    · exact .inr (a.gone y)
theorem Rep.gr_new (r : Rep K H Z μ) {p : Addr} (h : H p = none) (o : HO) : Gr Z H μ (upd Z p o) (upd H p o) μ :=
  ⟨(r.new h o).2, fun a u e _ => by rw [upd_ne (ne_of_none e h)]; exact e, fun _ h => .inl h, fun a u e => by
    by_cases q : a = p
    · subst q; exact .inr (.inr h)
    · rw [upd_ne q] at e; exact .inl e⟩
theorem area_set {p a : Addr} {c : Cell} (h : Area (mset μ p c) a) : Area μ a ∨ a = p ∨ a ∈ c.more := by
  obtain ⟨b, c', hb, ha⟩ := h
  by_cases e : b = p
  · subst e; rw [mset_same] at hb; cases hb; exact .inr ha
  · rw [mset_ne e] at hb; exact .inl ⟨b, c', hb, ha⟩
theorem Gr.cell {p : Addr} (h : H p = none) (o : HO) (ds : List D) : Gr Z H μ Z (upd H p o) (mset μ p (.lst ds)) :=
  ⟨Same.refl _, fun a u e _ => by rw [upd_ne (ne_of_none e h)]; exact e, (fun a ha => by
    rcases area_set ha with z | rfl | z
    · exact .inl z
    · exact .inr h
    · cases z), fun _ _ h => .inl h⟩
theorem Gr.put {p : Addr} {c : Cell} (h : μ p = some c) (o : HO) (ds : List D) : Gr Z H μ Z (upd H p o) (mset μ p (.lst ds)) :=
  ⟨Same.refl _, fun a u e n => by rw [upd_ne fun z => n ⟨p, c, h, .inl z⟩]; exact e, (fun a ha => by
    rcases area_set ha with z | rfl | z
    · exact .inl z
    · exact .inl ⟨a, c, h, .inl rfl⟩
    · cases z), fun _ _ h => .inl h⟩
theorem area_del {p a : Addr} (h : Area (mdel μ p) a) : Area μ a := by
  obtain ⟨b, c, hb, ha⟩ := h
  unfold mdel at hb
  split at hb
  · cases hb
  · exact ⟨b, c, hb, ha⟩
theorem Gr.del {p : Addr} {c : Cell} {o : HO} (h : μ p = some c) (s : Same Z (upd Z p o)) : Gr Z H μ (upd Z p o) H (mdel μ p) := ⟨s, fun _ _ h _ => h, fun _ h => .inl (area_del h), fun a u e => by
  by_cases q : a = p
  · subst q; exact .inr (.inl ⟨a, c, h, .inl rfl⟩)
  · rw [upd_ne q] at e; exact .inl e⟩
/-- an address without any part in μ, Z: its object is laid or changed -/
theorem CellAt.other {c : Cell} {a b : Addr} {o : HO} (h : CellAt K H Z a c) (n : b ≠ a) (m : b ∉ c.more) : CellAt K (upd H b o) Z a c :=
  h.stay (Same.refl _) fun x u hx hu => by
    rw [upd_ne ?_]; exact hu
    rcases hx with rfl | hx
    · exact n.symm
    · exact fun z => m (z ▸ hx)
theorem Rep.other (r : Rep K H Z μ) {b : Addr} {o : HO} (n : ¬ Area μ b) (z : Z b = none) : Rep K (upd H b o) Z μ :=
  ⟨fun a u h => by rw [upd_ne (ne_of_none h z)]; exact r.sub _ _ h, fun a c ha => let ⟨c1, c2, c3⟩ := r.cel a c ha; ⟨c1, c2, c3.other (fun e => n ⟨a, c, ha, .inl e⟩) fun e => n ⟨a, c, ha, .inr e⟩⟩, r.apart⟩
theorem Rep.no_area (r : Rep K H Z μ) {p : Addr} (h : H p = none) : ¬ Area μ p := fun ⟨b, c, hb, hp⟩ => by
  obtain ⟨f1, f2, f3⟩ := r.fresh h
  rcases hp with rfl | hp
  · rw [f2] at hb; cases hb
  · exact f3 b c hb hp
/-- such an object is frozen, or becomes a cell -/
theorem Rep.freeze (r : Rep K H Z μ) {b : Addr} {o : HO} (h : H b = some o) (n : ¬ Area μ b) (z : Z b = none) : Rep K H (upd Z b o) μ ∧ Same Z (upd Z b o) := by
  have s : Same Z (upd Z b o) := fun a u ha => by rw [upd_ne (ne_of_none ha z)]; exact ha
  refine ⟨⟨fun a u ha => ?_, fun a c ha => ?_, r.apart⟩, s⟩
  · by_cases q : a = b
    · subst q; rw [upd_same] at ha; rw [← ha]; exact h
    · rw [upd_ne q] at ha; exact r.sub _ _ ha
  · obtain ⟨c1, c2, c3⟩ := r.cel a c ha
    refine ⟨by rw [upd_ne fun e => n ⟨a, c, ha, .inl e.symm⟩]; exact c1, fun x hx => by rw [upd_ne fun e => n ⟨a, c, ha, .inr (by rw [← e]; exact hx)⟩]; exact c2 x hx, c3.stay s fun _ _ _ q => q⟩
theorem Rep.become (r : Rep K H Z μ) {b : Addr} {vs : List V} {ds : List D} (h : H b = some (.lst vs)) (n : ¬ Area μ b) (z : Z b = none) (q : IsDs K Z ds vs) : Rep K H Z (mset μ b (.lst ds)) := by
  have f3 : ∀ a c, μ a = some c → b ∉ c.more := fun a c ha hb => n ⟨a, c, ha, .inr hb⟩
  refine ⟨r.sub, fun a c ha => ?_, fun x y c c' hx hy => ?_⟩
  · by_cases e : a = b
    · subst e
      rw [mset_same] at ha; cases ha
      exact ⟨z, (fun x hx => nomatch hx), vs, h, q⟩
    · rw [mset_ne e] at ha; exact r.cel a c ha
  · by_cases e : x = b
    · by_cases e' : y = b
      · subst e; subst e'
        rw [mset_same] at hx hy; cases hx; cases hy
        exact ⟨fun x hx => (nomatch hx), fun n => absurd rfl n⟩
      · subst e
        rw [mset_same] at hx; cases hx
        rw [mset_ne e'] at hy
        exact ⟨fun x hx z => f3 y c' hy (z ▸ hx), fun _ x hx => (nomatch hx)⟩
    · by_cases e' : y = b
      · subst e'
        rw [mset_same] at hy; cases hy
        exact ⟨fun x hx => (nomatch hx), fun _ _ _ y hy => (nomatch hy)⟩
      · rw [mset_ne e] at hx
        rw [mset_ne e'] at hy
        exact r.apart x y c c' hx hy
end
end DL

set_option Elab.async false
set_option linter.all false
set_option maxRecDepth 100000
set_option maxHeartbeats 2000000
/-! D layer: the judgements and the expressions -/
namespace DL
open PySem L2

theorem pe_weak {X : Cx} {e : Expr} {t t' : TE} (p : PE X e t) (w : ∀ σ H Q, t' σ H Q → t σ H Q) : PE X e t' := ⟨fun pins s σ H Q I h => p.run pins s σ H Q I (w σ H Q h)⟩
theorem pt_weak {X : Cx} {e : Expr} {t t' : TT} (p : PT X e t) (w : ∀ σ H Q, t' σ H Q → t σ H Q) : PT X e t' := ⟨fun pins s σ H Q I h => p.run pins s σ H Q I (w σ H Q h)⟩
theorem pw_weak {X : Cx} {e : Expr} {t t' : TT} (p : PW X e t) (w : ∀ σ H Q, t' σ H Q → t σ H Q) : PW X e t' := ⟨fun wh pins s σ H Q I h => p.run wh pins s σ H Q I (w σ H Q h)⟩
theorem pa_weak {X : Cx} {es : List Expr} {t t' : TA} (p : PA X es t) (w : ∀ σ H Q, t' σ H Q → t σ H Q) : PA X es t' := ⟨fun pos pins s σ H Q I h => p.run pos pins s σ H Q I (w σ H Q h)⟩
theorem ps_weak {X : Cx} {st : Stmt} {t t' : TS} (p : PS X st t) (w : ∀ D σ H, t' D σ H → t D σ H) : PS X st t' := ⟨fun pins s σ H D I h => p.run pins s σ H D I (w D σ H h)⟩
theorem pss_weak {X : Cx} {st : List Stmt} {t t' : TS} (p : PSs X st t) (w : ∀ D σ H, t' D σ H → t D σ H) : PSs X st t' := ⟨fun pins s σ H D I h => p.run pins s σ H D I (w D σ H h)⟩

section
variable (K : PySem.W.Frag) (W : WX)
/-- what is wanted of a value reaches what is wanted of its data -/
def Fin (Z H : Hp) (μ : Mu) (Q : QD) (Q0 : VK) : Prop := ∀ v H' Z' d μ', Gr Z H μ Z' H' μ' → Rep K H' Z' μ' → IsD K Z' d v → Q d μ' → Q0 v H'
def FinT (Z H : Hp) (μ : Mu) (Q : Bool → Mu → Prop) (Q0 : Bool → Hp → Prop) : Prop := ∀ b H' Z' μ', Gr Z H μ Z' H' μ' → Rep K H' Z' μ' → Q b μ' → Q0 b H'
def FinA (Z H : Hp) (μ : Mu) (Q : List D → Mu → Prop) (Q0 : List V → Hp → Prop) : Prop := ∀ vs H' Z' ds μ', Gr Z H μ Z' H' μ' → Rep K H' Z' μ' → IsDs K Z' ds vs → Q ds μ' → Q0 vs H'
def FinS (Z H : Hp) (μ : Mu) (N : Dl → Mu → Prop) (N0 : St → Hp → Prop) : Prop := ∀ σ' H' Z' δ' μ', Gr Z H μ Z' H' μ' → Rep K H' Z' μ' → SlD K Z' σ' δ' → N δ' μ' → N0 σ' H'
/-- .. of an exception -/
def FinR (Z H : Hp) (μ : Mu) (R : RD) : Prop := ∀ σ' δ' c dd H' Z' fs μ', Gr Z H μ Z' H' μ' → SlD K Z' σ' δ' → Rep K H' Z' μ' → XAt K Z' dd fs → R δ' c fs μ' → W (.ref (He.ga K c)) dd σ' H'
def up (t : TED) : TE := fun σ H Q0 => ∃ Z δ μ Q R, SlD K Z σ δ ∧ Rep K H Z μ ∧ t δ μ Q R ∧ Fin K Z H μ Q Q0 ∧ FinR K W Z H μ R
def upT (t : TTD) : TT := fun σ H Q0 => ∃ Z δ μ Q R, SlD K Z σ δ ∧ Rep K H Z μ ∧ t δ μ Q R ∧ FinT K Z H μ Q Q0 ∧ FinR K W Z H μ R
def upA (t : TAD) : TA := fun σ H Q0 => ∃ Z δ μ Q R, SlD K Z σ δ ∧ Rep K H Z μ ∧ t δ μ Q R ∧ FinA K Z H μ Q Q0 ∧ FinR K W Z H μ R
def upS (t : TSD) : TS := fun D σ H => ∃ Z δ μ E R, SlD K Z σ δ ∧ Rep K H Z μ ∧ t E δ μ R ∧ FinS K Z H μ E.nx D.nx ∧ Fin K Z H μ E.rt D.rt ∧ FinS K Z H μ E.bk D.bk ∧ FinS K Z H μ E.ct D.ct ∧ FinR K W Z H μ R
end
section
variable {K : PySem.W.Frag} {W : WX} {Z Z' : Hp}
theorem Fin.mono {Q : QD} {Q0 : VK} {H H1 : Hp} {μ μ1 : Mu} (e : Gr Z H μ Z' H1 μ1) (f : Fin K Z H μ Q Q0) : Fin K Z' H1 μ1 Q Q0 := fun v H' Z2 d μ' s => f v H' Z2 d μ' (e.trans s)
theorem FinT.mono {Q : Bool → Mu → Prop} {Q0 : Bool → Hp → Prop} {H H1 : Hp} {μ μ1 : Mu} (e : Gr Z H μ Z' H1 μ1) (f : FinT K Z H μ Q Q0) : FinT K Z' H1 μ1 Q Q0 := fun v H' Z2 μ' s => f v H' Z2 μ' (e.trans s)
theorem FinA.mono {Q : List D → Mu → Prop} {Q0 : List V → Hp → Prop} {H H1 : Hp} {μ μ1 : Mu} (e : Gr Z H μ Z' H1 μ1) (f : FinA K Z H μ Q Q0) : FinA K Z' H1 μ1 Q Q0 := fun v H' Z2 d μ' s => f v H' Z2 d μ' (e.trans s)
theorem FinS.mono {N : Dl → Mu → Prop} {N0 : St → Hp → Prop} {H H1 : Hp} {μ μ1 : Mu} (e : Gr Z H μ Z' H1 μ1) (f : FinS K Z H μ N N0) : FinS K Z' H1 μ1 N N0 := fun v H' Z2 d μ' s => f v H' Z2 d μ' (e.trans s)
theorem FinR.mono {R : RD} {H H1 : Hp} {μ μ1 : Mu} (e : Gr Z H μ Z' H1 μ1) (f : FinR K W Z H μ R) : FinR K W Z' H1 μ1 R := fun σ' δ' c dd H' Z2 fs μ' s => f σ' δ' c dd H' Z2 fs μ' (e.trans s)
end

abbrev DE (X : Cx) (W : WX) (e : Expr) (t : TED) : Prop := PE X e (up X.K W t)
abbrev DT (X : Cx) (W : WX) (e : Expr) (t : TTD) : Prop := PT X e (upT X.K W t)
abbrev DW (X : Cx) (W : WX) (e : Expr) (t : TTD) : Prop := PW X e (upT X.K W t)
abbrev DA (X : Cx) (W : WX) (es : List Expr) (t : TAD) : Prop := PA X es (upA X.K W t)
abbrev DS (X : Cx) (W : WX) (st : Stmt) (t : TSD) : Prop := PS X st (upS X.K W t)
abbrev DSs (X : Cx) (W : WX) (st : List Stmt) (t : TSD) : Prop := PSs X st (upS X.K W t)

/-! ### names and constants -/
def dV (i : Nat) : TED := fun δ μ Q _ => ∃ d, δ[i]? = some (some d) ∧ Q d μ
def dC (d : D) : TED := fun _ μ Q _ => Q d μ
section
variable {X : Cx} {W : WX} {a b c : Expr} {pos : Pos} {ta tb tc : TED}
theorem de_v (i : Nat) {x : Str} (hN : X.N[i]? = some x := by rfl) (hv : Vis X.env.scope x := by first | exact Or.inl rfl | exact Or.inr (Or.inl rfl) | exact Or.inr (Or.inr rfl)) (hd : (x == ("__debug__" : Str)) = false := by decide)
    (hcd : (x == ("__classdict__" : Str)) = false := by decide) : DE X W (.Name x pos) (dV i) :=
  pe_weak (pv i hN hv hd hcd) fun σ H Q0 ⟨Z, δ, μ, Q, R, sl, rp, ⟨d, hd, q⟩, f, _⟩ => let ⟨v, h1, h2⟩ := sl.at_ i d hd; ⟨v, h1, f v H Z d μ (Gr.refl _ _ _) rp h2 q⟩
theorem up_c {K : PySem.W.Frag} {d : D} {v : V} (h : ∀ Z, IsD K Z d v) (σ : St) (H : Hp) (Q0 : VK) (u : up K W (dC d) σ H Q0) : tC v σ H Q0 :=
  let ⟨Z, _, μ, _, _, _, rp, q, f, _⟩ := u; f v H Z d μ (Gr.refl _ _ _) rp (h Z) q
theorem de_int {i : Int} {j} : DE X W (.Constant (.int i) j pos) (dC (.int i)) := pe_weak pe_int (up_c fun _ => .int i)
theorem de_bl {i : Bool} {j} : DE X W (.Constant (.bool i) j pos) (dC (.bl i)) := pe_weak pe_bl (up_c fun _ => .bl i)
theorem de_non {j} : DE X W (.Constant .none j pos) (dC .non) := pe_weak pe_non (up_c fun _ => .non)
theorem de_str {x : Str} {j} : DE X W (.Constant (.str x) j pos) (dC (.str x)) := pe_weak pe_str (up_c fun _ => .str x)
/-- a module's constant -/
theorem de_gi {x : Str} {i : Int} (hg : Gl X x) (hm : ∃ t, X.mg x = some (.int i t)) (hd : (x == ("__debug__" : Str)) = false := by decide) : DE X W (.Name x pos) (dC (.int i)) :=
  let ⟨t, h⟩ := hm; pe_weak (pe_glob (v := .int i) hg h ⟨t, rfl⟩ hd) (up_c fun _ => .int i)
theorem de_gs {x z : Str} (hg : Gl X x) (hm : ∃ t, X.mg x = some (.str z t)) (hd : (x == ("__debug__" : Str)) = false := by decide) : DE X W (.Name x pos) (dC (.str z)) :=
  let ⟨t, h⟩ := hm; pe_weak (pe_glob (v := .str z) hg h ⟨t, rfl⟩ hd) (up_c fun _ => .str z)
/-- a class, a def of the module as a value -/
theorem de_gc {x : Str} (hg : Gl X x) (hm : X.mg x = some (.ref (He.ga X.K x))) (hd : (x == ("__debug__" : Str)) = false := by decide) : DE X W (.Name x pos) (dC (.cls x)) :=
  pe_weak (pe_glob (v := .ref (He.ga X.K x)) hg hm rfl hd) (up_c fun _ => .cls x)
/-- a built-in type as a value -/
theorem de_bty {x : Str} {n : String} (hg : Gl X x) (hm : X.mg x = none) (hv : bootBuiltins x = some (.type n)) (hn : x ≠ "__name__" := by decide) (hd : (x == ("__debug__" : Str)) = false := by decide) : DE X W (.Name x pos) (dC (.ty n)) :=
  pe_weak (pe_bltn (v := .ty n) hg hm hv rfl hn hd) (up_c fun _ => .ty n)
end

/-! ### operators -/
abbrev RD2 := D → D → Mu → QD → Prop
abbrev RD1 := D → Mu → QD → Prop
abbrev RDs := List D → Mu → QD → Prop
section
variable (K : PySem.W.Frag)
def Comp1 (r : V → Hp → VK → Prop) (rd : RD1) : Prop := ∀ H Z μ x vx Q Q0, Rep K H Z μ → IsD K Z x vx → rd x μ Q → Fin K Z H μ Q Q0 → r vx H Q0
def Comp2 (r : R2) (rd : RD2) : Prop := ∀ H Z μ x y vx vy Q Q0, Rep K H Z μ → IsD K Z x vx → IsD K Z y vy → rd x y μ Q → Fin K Z H μ Q Q0 → r vx vy H Q0
def CompS (r : List V → Hp → VK → Prop) (rd : RDs) : Prop := ∀ H Z μ xs vs Q Q0, Rep K H Z μ → IsDs K Z xs vs → rd xs μ Q → Fin K Z H μ Q Q0 → r vs H Q0
end
def dOp (rd : RD2) (ta tb : TED) : TED := fun δ μ Q R => ta δ μ (fun x μ1 => tb δ μ1 (fun y μ2 => rd x y μ2 Q) R) R
def dUn (rd : RD1) (ta : TED) : TED := fun δ μ Q R => ta δ μ (fun x μ1 => rd x μ1 Q) R
def dCall1 (rd : RDs) (t : TAD) : TED := fun δ μ Q R => t δ μ (fun xs μ1 => rd xs μ1 Q) R
section
variable {K : PySem.W.Frag} {W : WX} {σ : St} {H : Hp} {Q0 : VK} {ta tb : TED}
theorem up_op {r : R2} {rd : RD2} (c : Comp2 K r rd) (u : up K W (dOp rd ta tb) σ H Q0) : tOp r (up K W ta) (up K W tb) σ H Q0 := by
  obtain ⟨Z, δ, μ, Q, R, sl, rp, h, f, fr⟩ := u
  exact ⟨Z, δ, μ, _, R, sl, rp, h, fun v H1 Z1 x μ1 s1 r1 i1 h1 => ⟨Z1, δ, μ1, _, R, sl.mono s1.same, r1, h1, fun v2 H2 Z2 y μ2 s2 r2 i2 h2 =>
    c H2 Z2 μ2 x y v v2 Q Q0 r2 (i1.mono s2.same) i2 h2 ((f.mono s1).mono s2), fr.mono s1⟩, fr⟩
theorem up_un {r : V → Hp → VK → Prop} {rd : RD1} (c : Comp1 K r rd) (u : up K W (dUn rd ta) σ H Q0) : tUn r (up K W ta) σ H Q0 := by
  obtain ⟨Z, δ, μ, Q, R, sl, rp, h, f, fr⟩ := u
  exact ⟨Z, δ, μ, _, R, sl, rp, h, fun v H1 Z1 x μ1 s1 r1 i1 h1 => c H1 Z1 μ1 x v Q Q0 r1 i1 h1 (f.mono s1), fr⟩
theorem up_cb {r : List V → Hp → VK → Prop} {rd : RDs} {t : TAD} (c : CompS K r rd) (u : up K W (dCall1 rd t) σ H Q0) : tCB r (upA K W t) σ H Q0 := by
  obtain ⟨Z, δ, μ, Q, R, sl, rp, h, f, fr⟩ := u
  exact ⟨Z, δ, μ, _, R, sl, rp, h, fun v H1 Z1 x μ1 s1 r1 i1 h1 => c H1 Z1 μ1 x v Q Q0 r1 i1 h1 (f.mono s1), fr⟩
end
section
variable {X : Cx} {W : WX} {a b : Expr} {pos : Pos} {ta tb : TED}
theorem de_op {op : Operator} {r : R2} {rd : RD2} (ho : OpR X (binaryOp op) r) (c : Comp2 X.K r rd) (ha : DE X W a ta) (hb : DE X W b tb) : DE X W (.BinOp a op b pos) (dOp rd ta tb) :=
  pe_weak (pe_op ho ha hb) fun _ _ _ => up_op c
theorem de_un {op : UnaryOp} {r : V → Hp → VK → Prop} {rd : RD1} (ho : UnR X (unaryOp op) r) (c : Comp1 X.K r rd) (ha : DE X W a ta) : DE X W (.UnaryOp op a pos) (dUn rd ta) :=
  pe_weak (pe_un ho ha) fun _ _ _ => up_un c
theorem de_cmp {op : CmpOp} {r : R2} {rd : RD2} (ho : OpR X (compareOp op) r) (c : Comp2 X.K r rd) (ha : DE X W a ta) (hb : DE X W b tb) (hm : behindInMarks op b = false) : DE X W (.Compare a [op] [b] pos) (dOp rd ta tb) :=
  pe_weak (pe_cmpR ho ha hb hm) fun _ _ _ => up_op c
/-- a value that is a bool, as a test -/
def dTest (t : TED) : TTD := fun δ μ Q R => t δ μ (fun x μ1 => ∃ k, x = .bl k ∧ Q k μ1) R
theorem up_test {K : PySem.W.Frag} {σ : St} {H : Hp} {Q0 : Bool → Hp → Prop} {t : TED} {t0 : TE} (h : ∀ Q, up K W t σ H Q → t0 σ H Q) (u : upT K W (dTest t) σ H Q0) : tTest t0 σ H Q0 := by
  obtain ⟨Z, δ, μ, Q, R, sl, rp, q, f, fr⟩ := u
  refine h _ ⟨Z, δ, μ, _, R, sl, rp, q, fun v H1 Z1 x μ1 s1 r1 i1 h1 => ?_, fr⟩
  obtain ⟨k, rfl, h1⟩ := h1
  cases i1
  exact ⟨k, rfl, f k H1 Z1 μ1 s1 r1 h1⟩
theorem dt_cmp {op : CmpOp} {r : R2} {rd : RD2} (ho : OpR X (compareOp op) r) (c : Comp2 X.K r rd) (ha : DE X W a ta) (hb : DE X W b tb) (hm : behindInMarks op b = false) : DT X W (.Compare a [op] [b] pos) (dTest (dOp rd ta tb)) :=
  pt_weak (pt_cmpR ho ha hb hm) fun _ _ _ u => up_test (fun _ => up_op c) u
/-- an expression whose value is a bool -/
theorem dt_val (ha : DE X W a ta) (he : ∀ whole, isTrue a X.env whole = (do let v ← whole; standAt a.pos; holding [v] (truthy v)) := by intro _; rfl) : DT X W a (dTest ta) :=
  pt_weak (pt_val ha he) fun _ _ _ u => up_test (fun _ h => h) u
end

/-! ### and, or, not, a if t else b -/
section
variable {X : Cx} {W : WX} {a b : Expr} {rest : List Expr} {pos : Pos} {ta tb : TTD} {va vb : TED}
def dAnd (t u : TTD) : TTD := fun δ μ Q R => t δ μ (fun c μ1 => if c = true then u δ μ1 Q R else Q false μ1) R
def dOr (t u : TTD) : TTD := fun δ μ Q R => t δ μ (fun c μ1 => if c = true then Q true μ1 else u δ μ1 Q R) R
def dNot (t : TTD) : TTD := fun δ μ Q R => t δ μ (fun c μ1 => Q (!c) μ1) R
theorem dw_and1 (h : DT X W a ta) : DW X W (.BoolOp .And [a] pos) ta := pw_and1 h
theorem dw_or1 (h : DT X W a ta) : DW X W (.BoolOp .Or [a] pos) ta := pw_or1 h
theorem dw_and (ha : DT X W a ta) (hb : DW X W (.BoolOp .And (b :: rest) pos) tb) : DW X W (.BoolOp .And (a :: b :: rest) pos) (dAnd ta tb) :=
  pw_weak (pw_and ha hb) fun σ H Q0 ⟨Z, δ, μ, Q, R, sl, rp, h, f, fr⟩ => ⟨Z, δ, μ, _, R, sl, rp, h, fun c H1 Z1 μ1 s1 r1 h1 => by
    cases c with
    | true => exact ⟨Z1, δ, μ1, Q, R, sl.mono s1.same, r1, h1, f.mono s1, fr.mono s1⟩
    | false => exact f false H1 Z1 μ1 s1 r1 h1, fr⟩
theorem dw_or (ha : DT X W a ta) (hb : DW X W (.BoolOp .Or (b :: rest) pos) tb) : DW X W (.BoolOp .Or (a :: b :: rest) pos) (dOr ta tb) :=
  pw_weak (pw_or ha hb) fun σ H Q0 ⟨Z, δ, μ, Q, R, sl, rp, h, f, fr⟩ => ⟨Z, δ, μ, _, R, sl, rp, h, fun c H1 Z1 μ1 s1 r1 h1 => by
    cases c with
    | false => exact ⟨Z1, δ, μ1, Q, R, sl.mono s1.same, r1, h1, f.mono s1, fr.mono s1⟩
    | true => exact f true H1 Z1 μ1 s1 r1 h1, fr⟩
theorem dt_bool {op : BoolOp} {es : List Expr} (h : DW X W (.BoolOp op es pos) ta) : DT X W (.BoolOp op es pos) ta := h.pt
theorem dt_not (ha : DT X W a ta) : DT X W (.UnaryOp .Not a pos) (dNot ta) :=
  pt_weak (pt_not ha) fun σ H Q0 ⟨Z, δ, μ, Q, R, sl, rp, h, f, fr⟩ => ⟨Z, δ, μ, _, R, sl, rp, h, fun c H1 Z1 μ1 s1 r1 h1 => f (!c) H1 Z1 μ1 s1 r1 h1, fr⟩
/-- as values: bools -/
def dAndV (t u : TED) : TED := fun δ μ Q R => t δ μ (fun x μ1 => ∃ c, x = .bl c ∧ if c = true then u δ μ1 Q R else Q (.bl false) μ1) R
def dOrV (t u : TED) : TED := fun δ μ Q R => t δ μ (fun x μ1 => ∃ c, x = .bl c ∧ if c = true then Q (.bl true) μ1 else u δ μ1 Q R) R
def dNotV (t : TED) : TED := fun δ μ Q R => t δ μ (fun x μ1 => ∃ c, x = .bl c ∧ Q (.bl (!c)) μ1) R
theorem de_one {op : BoolOp} (h : DE X W a va) : DE X W (.BoolOp op [a] pos) va := pe_one h
theorem de_and (ha : DE X W a va) (hb : DE X W (.BoolOp .And (b :: rest) pos) vb) : DE X W (.BoolOp .And (a :: b :: rest) pos) (dAndV va vb) :=
  pe_weak (pe_and ha hb) fun σ H Q0 ⟨Z, δ, μ, Q, R, sl, rp, h, f, fr⟩ => ⟨Z, δ, μ, _, R, sl, rp, h, fun v H1 Z1 x μ1 s1 r1 i1 h1 => by
    obtain ⟨c, rfl, h1⟩ := h1
    cases i1
    refine ⟨c, rfl, ?_⟩
    cases c with
    | true => exact ⟨Z1, δ, μ1, Q, R, sl.mono s1.same, r1, h1, f.mono s1, fr.mono s1⟩
    | false => exact f _ H1 Z1 _ μ1 s1 r1 (.bl false) h1, fr⟩
theorem de_or (ha : DE X W a va) (hb : DE X W (.BoolOp .Or (b :: rest) pos) vb) : DE X W (.BoolOp .Or (a :: b :: rest) pos) (dOrV va vb) :=
  pe_weak (pe_or ha hb) fun σ H Q0 ⟨Z, δ, μ, Q, R, sl, rp, h, f, fr⟩ => ⟨Z, δ, μ, _, R, sl, rp, h, fun v H1 Z1 x μ1 s1 r1 i1 h1 => by
    obtain ⟨c, rfl, h1⟩ := h1
    cases i1
    refine ⟨c, rfl, ?_⟩
    cases c with
    | false => exact ⟨Z1, δ, μ1, Q, R, sl.mono s1.same, r1, h1, f.mono s1, fr.mono s1⟩
    | true => exact f _ H1 Z1 _ μ1 s1 r1 (.bl true) h1, fr⟩
theorem de_not (ha : DE X W a va) : DE X W (.UnaryOp .Not a pos) (dNotV va) :=
  pe_weak (pe_not ha) fun σ H Q0 ⟨Z, δ, μ, Q, R, sl, rp, h, f, fr⟩ => ⟨Z, δ, μ, _, R, sl, rp, h, fun v H1 Z1 x μ1 s1 r1 i1 h1 => by
    obtain ⟨c, rfl, h1⟩ := h1
    cases i1
    exact ⟨c, rfl, f _ H1 Z1 _ μ1 s1 r1 (.bl _) h1⟩, fr⟩
def dIfE (t : TTD) (u v : TED) : TED := fun δ μ Q R => t δ μ (fun c μ1 => if c = true then u δ μ1 Q R else v δ μ1 Q R) R
theorem de_if {c : Expr} (hc : DT X W c ta) (ha : DE X W a va) (hb : DE X W b vb) : DE X W (.IfExp c a b pos) (dIfE ta va vb) :=
  pe_weak (pe_ifExp hc ha hb) fun σ H Q0 ⟨Z, δ, μ, Q, R, sl, rp, h, f, fr⟩ => ⟨Z, δ, μ, _, R, sl, rp, h, fun c H1 Z1 μ1 s1 r1 h1 => by
    cases c with
    | true => exact ⟨Z1, δ, μ1, Q, R, sl.mono s1.same, r1, h1, f.mono s1, fr.mono s1⟩
    | false => exact ⟨Z1, δ, μ1, Q, R, sl.mono s1.same, r1, h1, f.mono s1, fr.mono s1⟩, fr⟩
/-! ### arguments -/
def dNil : TAD := fun _ μ Q _ => Q [] μ
def dCons (t : TED) (u : TAD) : TAD := fun δ μ Q R => t δ μ (fun x μ1 => u δ μ1 (fun xs μ2 => Q (x :: xs) μ2) R) R
theorem da_nil : DA X W [] dNil := pa_weak pa_nil fun σ H Q0 ⟨Z, δ, μ, Q, R, sl, rp, h, f, fr⟩ => f [] H Z [] μ (Gr.refl _ _ _) rp .nil h
theorem da_cons {es : List Expr} {t : TAD} (ha : DE X W a va) (hr : DA X W es t) (he : starEach (a :: es) X.env = (false, eval a X.env) :: starEach es X.env := by rfl) : DA X W (a :: es) (dCons va t) :=
  pa_weak (pa_cons ha hr he) fun σ H Q0 ⟨Z, δ, μ, Q, R, sl, rp, h, f, fr⟩ => ⟨Z, δ, μ, _, R, sl, rp, h, fun v H1 Z1 x μ1 s1 r1 i1 h1 => ⟨Z1, δ, μ1, _, R, sl.mono s1.same, r1, h1, fun vs H2 Z2 xs μ2 s2 r2 i2 h2 =>
    f (v :: vs) H2 Z2 (x :: xs) μ2 (s1.trans s2) r2 (.cons (i1.mono s2.same) i2) h2, fr.mono s1⟩, fr⟩
end
end DL

set_option Elab.async false
set_option linter.all false
set_option maxRecDepth 100000
set_option maxHeartbeats 2000000
/-! D layer: operators, subscripts, built-ins, by data -/
namespace DL
open PySem L2

section
variable {K : PySem.W.Frag} {Z H : Hp} {μ : Mu} {Q : QD} {Q0 : VK}
theorem fin_now (rp : Rep K H Z μ) (f : Fin K Z H μ Q Q0) {d : D} {v : V} (i : IsD K Z d v) (q : Q d μ) : Q0 v H := f v H Z d μ (Gr.refl _ _ _) rp i q
theorem fin_new (rp : Rep K H Z μ) (f : Fin K Z H μ Q Q0) {p : Addr} (hp : H p = none) {o : HO} {d : D} (i : IsD K (upd Z p o) d (.ref p)) (q : Q d μ) : Q0 (.ref p) (upd H p o) :=
  f _ _ _ d μ (rp.gr_new hp o) (rp.new hp o).1 i q
theorem Rep.same_new (rp : Rep K H Z μ) {p : Addr} (hp : H p = none) (o : HO) : Same Z (upd Z p o) := (rp.new hp o).2
theorem new_lst (rp : Rep K H Z μ) {p : Addr} (hp : H p = none) {vs : List V} {ds : List D} (r : IsDs K Z ds vs) : IsD K (upd Z p (.lst vs)) (.lst ds) (.ref p) := .lst upd_same (r.mono (rp.same_new hp _))
theorem new_tup (rp : Rep K H Z μ) {p : Addr} (hp : H p = none) {vs : List V} {ds : List D} (r : IsDs K Z ds vs) : IsD K (upd Z p (.tup vs)) (.tup ds) (.ref p) := .tup (SqT.of upd_same) (r.mono (rp.same_new hp _))
theorem Rep.lst (rp : Rep K H Z μ) {a : Addr} {vs : List V} (h : Z a = some (.lst vs)) : SqL K H a vs := SqL.of (rp.sub _ _ h)
theorem Rep.sqT (rp : Rep K H Z μ) {a : Addr} {vs : List V} (h : SqT K Z a vs) : SqT K H a vs := Same.sqT rp.sub h
theorem Rep.sqL (rp : Rep K H Z μ) {a : Addr} {vs : List V} (h : SqL K Z a vs) : SqL K H a vs := rp.sub.seq h
theorem Rep.cl (rp : Rep K H Z μ) {a : Addr} {ds : List D} (h : μ a = some (.lst ds)) : ∃ vs, H a = some (.lst vs) ∧ IsDs K Z ds vs := (rp.cel a _ h).2.2
end

/-! ### arithmetic -/
def dAdd : RD2
  | .int i, .int j, μ, Q => Q (.int (i + j)) μ
  | .str a, .str b, μ, Q => a.length + b.length ≤ sizeLine ∧ Q (.str (a ++ b)) μ
  | .lst a, .lst b, μ, Q => a.length + b.length ≤ sizeLine ∧ Q (.lst (a ++ b)) μ
  | .tup a, .tup b, μ, Q => a ≠ [] ∧ a.length + b.length ≤ sizeLine ∧ Q (.tup (a ++ b)) μ
  | _, _, _, _ => False
def rAddD (K : PySem.W.Frag) : R2 := fun x y H Q => (rI0 (fun i j => .int (i + j)) x y H Q ∨ (∃ i j, x = .str i ∧ y = .str j ∧ i.length + j.length ≤ sizeLine ∧ Q (.str (i ++ j)) H)) ∨ rCat x y H Q ∨ rCatT K x y H Q
def dSub : RD2
  | .int i, .int j, μ, Q => Q (.int (i - j)) μ
  | _, _, _, _ => False
/-- one factor within 2^64 -/
def dMul : RD2
  | .int i, .int j, μ, Q => CMul i j ∧ Q (.int (i * j)) μ
  | _, _, _, _ => False
def dFdiv : RD2
  | .int i, .int j, μ, Q => CDiv i j ∧ Q (.int (i / j)) μ
  | _, _, _, _ => False
def dMod : RD2
  | .int i, .int j, μ, Q => 0 < j ∧ Q (.int (i % j)) μ
  | _, _, _, _ => False
def dPow : RD2
  | .int i, .int j, μ, Q => CPow i j ∧ Q (.int (i ^ j.toNat)) μ
  | _, _, _, _ => False
def dNeg : RD1
  | .int i, μ, Q => Q (.int (-i)) μ
  | _, _, _ => False
section
variable {X : Cx} {K : PySem.W.Frag}
theorem o_add : OpR X (binaryOp .Add) (rAddD X.K) := (op_add.or op_add_str).or (op_cat.or op_catT)
theorem c_add : Comp2 K (rAddD K) dAdd := by
  intro H Z μ x y vx vy Q Q0 rp ix iy h f
  unfold dAdd at h
  split at h
  · cases ix; cases iy; exact .inl (.inl ⟨_, _, rfl, rfl, fin_now rp f (.int _) h⟩)
  · cases ix; cases iy; exact .inl (.inr ⟨_, _, rfl, rfl, h.1, fin_now rp f (.str _) h.2⟩)
  · cases ix with
    | lst h1 r1 =>
    cases iy with
    | lst h2 r2 =>
    refine .inr (.inl ⟨_, _, _, _, rfl, rfl, rp.sub _ _ h1, rp.sub _ _ h2, by rw [← r1.length, ← r2.length]; exact h.1, fun p hp => fin_new rp f hp (new_lst rp hp (r1.append r2)) h.2⟩)
  · cases ix with
    | tup h1 r1 =>
    cases iy with
    | tup h2 r2 =>
    rename_i as bs _ _ a vs b ws
    have nv : vs ≠ [] := fun e => by
      subst e
      cases r1
      exact h.1 rfl
    refine .inr (.inr ⟨_, _, _, _, rfl, rfl, rp.sqT h1, rp.sqT h2, nv, by rw [← r1.length, ← r2.length]; exact h.2.1, fun e => ?_, fun e p hp => fin_new rp f hp (new_tup rp hp (r1.append r2)) h.2.2⟩)
    subst e
    cases r2
    have q := h.2.2
    rw [List.append_nil] at q
    exact fin_now rp f (.tup h1 r1) q
  · exact h.elim
theorem c_sub : Comp2 K (rI0 fun i j => .int (i - j)) dSub := by
  intro H Z μ x y vx vy Q Q0 rp ix iy h f
  unfold dSub at h
  split at h
  · cases ix; cases iy; exact ⟨_, _, rfl, rfl, fin_now rp f (.int _) h⟩
  · exact h.elim
theorem c_mul : Comp2 K (rI CMul fun i j => .int (i * j)) dMul := by
  intro H Z μ x y vx vy Q Q0 rp ix iy h f
  unfold dMul at h
  split at h
  · cases ix; cases iy; exact ⟨_, _, rfl, rfl, h.1, fin_now rp f (.int _) h.2⟩
  · exact h.elim
theorem c_fdiv : Comp2 K (rI CDiv fun i j => .int (i / j)) dFdiv := by
  intro H Z μ x y vx vy Q Q0 rp ix iy h f
  unfold dFdiv at h
  split at h
  · cases ix; cases iy; exact ⟨_, _, rfl, rfl, h.1, fin_now rp f (.int _) h.2⟩
  · exact h.elim
theorem c_mod : Comp2 K (rI (fun _ j => 0 < j) fun i j => .int (i % j)) dMod := by
  intro H Z μ x y vx vy Q Q0 rp ix iy h f
  unfold dMod at h
  split at h
  · cases ix; cases iy; exact ⟨_, _, rfl, rfl, h.1, fin_now rp f (.int _) h.2⟩
  · exact h.elim
theorem c_pow : Comp2 K (rI CPow fun i j => .int (i ^ j.toNat)) dPow := by
  intro H Z μ x y vx vy Q Q0 rp ix iy h f
  unfold dPow at h
  split at h
  · cases ix; cases iy; exact ⟨_, _, rfl, rfl, h.1, fin_now rp f (.int _) h.2⟩
  · exact h.elim
theorem c_neg : Comp1 K (rU fun i => .int (-i)) dNeg := by
  intro H Z μ x vx Q Q0 rp ix h f
  unfold dNeg at h
  split at h
  · cases ix; exact ⟨_, rfl, fin_now rp f (.int _) h⟩
  · exact h.elim
end

/-! ### comparisons -/
def dLt : RD2
  | .int i, .int j, μ, Q => Q (.bl (decide (i < j))) μ
  | .str a, .str b, μ, Q => Q (.bl (decide (a.cps.toList < b.cps.toList))) μ
  | _, _, _, _ => False
def rLtD : R2 := fun x y H Q => rI0 (fun i j => .bl (decide (i < j))) x y H Q ∨ ∃ i j, x = .str i ∧ y = .str j ∧ Q (.bl (decide (i.cps.toList < j.cps.toList))) H
def dLe : RD2
  | .int i, .int j, μ, Q => Q (.bl (decide (i ≤ j))) μ
  | _, _, _, _ => False
def dGt : RD2
  | .int i, .int j, μ, Q => Q (.bl (decide (j < i))) μ
  | _, _, _, _ => False
def dGe : RD2
  | .int i, .int j, μ, Q => Q (.bl (decide (j ≤ i))) μ
  | _, _, _, _ => False
section
variable {X : Cx} {K : PySem.W.Frag}
theorem o_lt : OpR X (compareOp .Lt) rLtD := op_lt.or op_lt_str
theorem c_lt : Comp2 K rLtD dLt := by
  intro H Z μ x y vx vy Q Q0 rp ix iy h f
  unfold dLt at h
  split at h
  · cases ix; cases iy; exact .inl ⟨_, _, rfl, rfl, fin_now rp f (.bl _) h⟩
  · cases ix; cases iy; exact .inr ⟨_, _, rfl, rfl, fin_now rp f (.bl _) h⟩
  · exact h.elim
theorem c_le : Comp2 K (rI0 fun i j => .bl (decide (i ≤ j))) dLe := by
  intro H Z μ x y vx vy Q Q0 rp ix iy h f
  unfold dLe at h
  split at h
  · cases ix; cases iy; exact ⟨_, _, rfl, rfl, fin_now rp f (.bl _) h⟩
  · exact h.elim
theorem c_gt : Comp2 K (rI0 fun i j => .bl (decide (j < i))) dGt := by
  intro H Z μ x y vx vy Q Q0 rp ix iy h f
  unfold dGt at h
  split at h
  · cases ix; cases iy; exact ⟨_, _, rfl, rfl, fin_now rp f (.bl _) h⟩
  · exact h.elim
theorem c_ge : Comp2 K (rI0 fun i j => .bl (decide (j ≤ i))) dGe := by
  intro H Z μ x y vx vy Q Q0 rp ix iy h f
  unfold dGe at h
  split at h
  · cases ix; cases iy; exact ⟨_, _, rfl, rfl, fin_now rp f (.bl _) h⟩
  · exact h.elim
end

/-! ### == : scalars, nested data -/
mutual
def D.py : D → Option PyData
  | .non => some .none
  | .bl b => some (.bool b)
  | .int i => some (.int i)
  | .str x => some (.str x)
  | .tup xs => (D.pys xs).map .tuple
  | .lst xs => (D.pys xs).map .list
  | .rol xs => (D.pys xs).map .list
  | _ => none
def D.pys : List D → Option (List PyData)
  | [] => some []
  | x :: xs => (D.py x).bind fun p => (D.pys xs).map (p :: ·)
end
section
variable {K : PySem.W.Frag} {Z H : Hp} {μ : Mu}
mutual
theorem IsD.dp (rp : Rep K H Z μ) : ∀ {d : D} {v : V} {p : PyData}, IsD K Z d v → d.py = some p → Dp K H v p
  | _, _, _, .non, e => by cases e; exact .non
  | _, _, _, .bl b, e => by cases e; exact .bl b
  | _, _, _, .int b, e => by cases e; exact .int b
  | _, _, _, .str b, e => by cases e; exact .str b
  | .tup xs, _, _, .tup h r, e => by
    rw [D.py] at e
    cases q : D.pys xs with
    | none => rw [q] at e; cases e
    | some ps => rw [q] at e; cases e; exact .tup (rp.sqT h) (IsDs.dp rp r q)
  | .lst xs, _, _, .lst h r, e => by
    rw [D.py] at e
    cases q : D.pys xs with
    | none => rw [q] at e; cases e
    | some ps => rw [q] at e; cases e; exact .lst (rp.lst h) (IsDs.dp rp r q)
  | .rol xs, _, _, .rol h r, e => by
    rw [D.py] at e
    cases q : D.pys xs with
    | none => rw [q] at e; cases e
    | some ps => rw [q] at e; cases e; exact .lst (rp.sqL h) (IsDs.dp rp r q)
  | _, _, _, .slt _ _ _ _, e => by cases e
  | _, _, _, .cls _, e => by cases e
  | _, _, _, .ty _, e => by cases e
  | _, _, _, .ref _, e => by cases e
theorem IsDs.dp (rp : Rep K H Z μ) : ∀ {ds : List D} {vs : List V} {ps : List PyData}, IsDs K Z ds vs → D.pys ds = some ps → DpAll K H vs ps
  | _, _, _, .nil, e => by rw [D.pys] at e; cases e; exact .nil
  | x :: xs, _, _, .cons h r, e => by
    rw [D.pys] at e
    cases q : D.py x with
    | none => rw [q] at e; cases e
    | some p =>
      rw [q] at e
      cases q2 : D.pys xs with
      | none => rw [q2] at e; cases e
      | some ps => rw [q2] at e; cases e; exact .cons (IsD.dp rp h q) (IsDs.dp rp r q2)
end
end
def dEq : RD2
  | .int i, .int j, μ, Q => Q (.bl (decide (i = j))) μ
  | .str i, .str j, μ, Q => Q (.bl (decide (i = j))) μ
  | .bl i, .bl j, μ, Q => Q (.bl (decide (i = j))) μ
  | x, y, μ, Q => ∃ p q, x.py = some p ∧ y.py = some q ∧ SeqAt.shaped p = true ∧ SeqAt.shaped q = true ∧ Q (.bl (PyData.eqv p q)) μ
def dNe : RD2
  | .int i, .int j, μ, Q => Q (.bl (!decide (i = j))) μ
  | .str i, .str j, μ, Q => Q (.bl (!decide (i = j))) μ
  | .bl i, .bl j, μ, Q => Q (.bl (!decide (i = j))) μ
  | x, y, μ, Q => ∃ p q, x.py = some p ∧ y.py = some q ∧ SeqAt.shaped p = true ∧ SeqAt.shaped q = true ∧ Q (.bl (!PyData.eqv p q)) μ
def rEqA (K : PySem.W.Frag) : R2 := fun x y H Q => rEq x y H Q ∨ rEqD K x y H Q
def rNeA (K : PySem.W.Frag) : R2 := fun x y H Q => rNe x y H Q ∨ rNeD K x y H Q
section
variable {X : Cx} {K : PySem.W.Frag}
theorem o_eq (hu : X.A.units + 64 < cLine) : OpR X (compareOp .Eq) (rEqA X.K) := op_eq.or (op_eqD hu)
theorem o_ne (hu : X.A.units + 64 < cLine) : OpR X (compareOp .NotEq) (rNeA X.K) := op_ne.or (op_neD hu)
theorem V_int_inj {i j : Int} : (V.int i = V.int j) = (i = j) := by simp
theorem c_eq : Comp2 K (rEqA K) dEq := by
  intro H Z μ x y vx vy Q Q0 rp ix iy h f
  unfold dEq at h
  split at h
  · cases ix; cases iy; exact .inl ⟨rfl, by simpa using fin_now rp f (.bl _) h⟩
  · cases ix; cases iy; exact .inl ⟨rfl, by simpa using fin_now rp f (.bl _) h⟩
  · cases ix; cases iy; exact .inl ⟨rfl, by simpa using fin_now rp f (.bl _) h⟩
  · obtain ⟨p, q, hp, hq, s1, s2, h⟩ := h
    exact .inr ⟨p, q, ix.dp rp hp, iy.dp rp hq, s1, s2, fin_now rp f (.bl _) h⟩
theorem c_ne : Comp2 K (rNeA K) dNe := by
  intro H Z μ x y vx vy Q Q0 rp ix iy h f
  unfold dNe at h
  split at h
  · cases ix; cases iy; exact .inl ⟨rfl, by simpa using fin_now rp f (.bl _) h⟩
  · cases ix; cases iy; exact .inl ⟨rfl, by simpa using fin_now rp f (.bl _) h⟩
  · cases ix; cases iy; exact .inl ⟨rfl, by simpa using fin_now rp f (.bl _) h⟩
  · obtain ⟨p, q, hp, hq, s1, s2, h⟩ := h
    exact .inr ⟨p, q, ix.dp rp hp, iy.dp rp hq, s1, s2, fin_now rp f (.bl _) h⟩
end
end DL

set_option Elab.async false
set_option linter.all false
set_option maxRecDepth 100000
set_option maxHeartbeats 2000000
/-! D layer: is, in, subscripts, slices, built-in calls, displays, methods of lists -/
namespace DL
open PySem L2

/-! ### is -/
def D.isNon : D → Bool
  | .non => true
  | _ => false
/-- x is None | True | False; x an object or a scalar -/
def dIs : RD2
  | .bl a, .bl b, μ, Q => Q (.bl (decide (a = b))) μ
  | x, .non, μ, Q => Q (.bl x.isNon) μ
  | _, .bl _, μ, Q => Q (.bl false) μ
  | _, _, _, _ => False
def dIsNot : RD2
  | .bl a, .bl b, μ, Q => Q (.bl (!decide (a = b))) μ
  | x, .non, μ, Q => Q (.bl (!x.isNon)) μ
  | _, .bl _, μ, Q => Q (.bl true) μ
  | _, _, _, _ => False
def rIsA : R2 := fun x y H Q => (y = .non ∧ Q (.bl (decide (x = .non))) H) ∨ ∃ b, y = .bl b ∧ Q (.bl (decide (x = .bl b))) H
def rIsNotA : R2 := fun x y H Q => (y = .non ∧ Q (.bl (!decide (x = .non))) H) ∨ ∃ b, y = .bl b ∧ Q (.bl (!decide (x = .bl b))) H
section
variable {X : Cx} {K : PySem.W.Frag}
theorem plainIs_bl {x : V} {v : Value} (r : RelV x v) (b : Bool) : plainIs v (.bool b) = true := by
  cases x with
  | non => cases r; rfl
  | bl _ => cases r; rfl
  | int _ => obtain ⟨t, rfl⟩ := r; rfl
  | str _ => obtain ⟨t, rfl⟩ := r; rfl
  | byt _ => obtain ⟨t, rfl⟩ := r; rfl
  | flt _ => obtain ⟨t, rfl⟩ := r; rfl
  | ref _ => cases r; rfl
  | ty _ => cases r; rfl
theorem relV_bl {x : V} {v : Value} {b : Bool} (r : RelV x v) : (v = Value.bool b) ↔ x = .bl b := by
  constructor
  · intro e; subst e; exact r.inj (show RelV (.bl b) (Value.bool b) from rfl)
  · intro e; subst e; exact r
theorem o_isB : OpR X (compareOp .Is) (fun x y H Q => ∃ b, y = .bl b ∧ Q (.bl (decide (x = .bl b))) H) := by
  intro pins s σ H x y v u Q I rx ry h
  obtain ⟨b, rfl, q⟩ := h
  cases (show u = Value.bool b from ry)
  by_cases e : v = Value.bool b
  · subst e
    have e2 := (relV_bl rx).mp rfl
    subst e2
    exact wpAny_is_self rfl ⟨.bl true, H, I, rfl, by simpa using q⟩
  · have e2 : ¬ x = .bl b := fun z => e ((relV_bl rx).mpr z)
    exact wpAny_is_other (plainIs_bl rx b) e ⟨.bl false, H, I, rfl, by simpa [e2] using q⟩
theorem o_isNotB : OpR X (compareOp .IsNot) (fun x y H Q => ∃ b, y = .bl b ∧ Q (.bl (!decide (x = .bl b))) H) := by
  intro pins s σ H x y v u Q I rx ry h
  obtain ⟨b, rfl, q⟩ := h
  cases (show u = Value.bool b from ry)
  by_cases e : v = Value.bool b
  · subst e
    have e2 := (relV_bl rx).mp rfl
    subst e2
    exact wpAny_isNot_self rfl ⟨.bl false, H, I, rfl, by simpa using q⟩
  · have e2 : ¬ x = .bl b := fun z => e ((relV_bl rx).mpr z)
    exact wpAny_isNot_other (plainIs_bl rx b) e ⟨.bl true, H, I, rfl, by simpa [e2] using q⟩
theorem o_is : OpR X (compareOp .Is) rIsA := op_isN.or o_isB
theorem o_isNot : OpR X (compareOp .IsNot) rIsNotA := op_notN.or o_isNotB
theorem isD_non {Z : Hp} {d : D} {v : V} (h : IsD K Z d v) : decide (v = .non) = d.isNon := by
  cases h <;> simp [D.isNon]
theorem isD_bl {Z : Hp} {d : D} {v : V} {b : Bool} (h : IsD K Z d v) (n : ∀ c, d = .bl c → c ≠ b) : decide (v = .bl b) = false := by
  cases h <;> simp
  rename_i c
  exact fun e => n c rfl e
theorem c_is : Comp2 K rIsA dIs := by
  intro H Z μ x y vx vy Q Q0 rp ix iy h f
  unfold dIs at h
  split at h
  · cases ix; cases iy; exact .inr ⟨_, rfl, by simpa using fin_now rp f (.bl _) h⟩
  · cases iy; exact .inl ⟨rfl, by rw [isD_non ix]; exact fin_now rp f (.bl _) h⟩
  · rename_i x b n
    cases iy
    exact .inr ⟨_, rfl, by rw [isD_bl ix fun c e => (n c e).elim]; exact fin_now rp f (.bl _) h⟩
  · exact h.elim
theorem c_isNot : Comp2 K rIsNotA dIsNot := by
  intro H Z μ x y vx vy Q Q0 rp ix iy h f
  unfold dIsNot at h
  split at h
  · cases ix; cases iy; exact .inr ⟨_, rfl, by simpa using fin_now rp f (.bl _) h⟩
  · cases iy; exact .inl ⟨rfl, by rw [isD_non ix]; exact fin_now rp f (.bl _) h⟩
  · rename_i x b n
    cases iy
    exact .inr ⟨_, rfl, by rw [isD_bl ix fun c e => (n c e).elim]; exact fin_now rp f (.bl _) h⟩
  · exact h.elim
end

/-! ### sequences -/
def seqD (μ : Mu) : D → Option (List D)
  | .lst ds => some ds
  | .rol ds => some ds
  | .tup ds => some ds
  | .ref a => match μ a with
    | some (.lst ds) => some ds
    | _ => none
  | _ => none
section
variable {K : PySem.W.Frag} {Z H : Hp} {μ : Mu} {d : D} {v : V} {ds : List D}
theorem seq_at (rp : Rep K H Z μ) (i : IsD K Z d v) (h : seqD μ d = some ds) : ∃ a vs, v = .ref a ∧ (SqL K H a vs ∨ SqT K H a vs) ∧ IsDs K Z ds vs := by
  unfold seqD at h
  split at h
  · cases i with | lst h1 r => cases h; exact ⟨_, _, rfl, .inl (rp.lst h1), r⟩
  · cases i with | rol h1 r => cases h; exact ⟨_, _, rfl, .inl (rp.sqL h1), r⟩
  · cases i with | tup h1 r => cases h; exact ⟨_, _, rfl, .inr (rp.sqT h1), r⟩
  · cases i
    rename_i a
    cases e : μ a with
    | none => rw [e] at h; cases h
    | some c =>
      rw [e] at h
      cases c with
      | lst es =>
        cases h
        obtain ⟨vs, q, r⟩ := rp.cl e
        exact ⟨_, _, rfl, .inl (SqL.of q), r⟩
      | slt c dx xs => cases h
  · cases h
theorem atI_isDs {vs : List V} {i : Int} {e : D} (r : IsDs K Z ds vs) (h : atI ds i = some e) : ∃ v, atI vs i = some v ∧ IsD K Z e v := by
  unfold atI at h ⊢
  rw [r.length] at h
  cases q : ixN vs.length i with
  | none => rw [q] at h; cases h
  | some j => rw [q] at h; exact r.get h
end
/-- a[b] -/
def dIx : RD2
  | .str z, .int i, μ, Q => z.length ≤ sizeLine ∧ ∃ c, atI z.cps.toList i = some c ∧ Q (.str ⟨#[c]⟩) μ
  | x, .int i, μ, Q => ∃ ds, seqD μ x = some ds ∧ ∃ d, atI ds i = some d ∧ Q d μ
  | _, _, _, _ => False
section
variable {X : Cx} {W : WX} {K : PySem.W.Frag} {a b : Expr} {pos : Pos} {ta tb : TED}
theorem c_ix : Comp2 K (rIx K) dIx := by
  intro H Z μ x y vx vy Q Q0 rp ix iy h f
  unfold dIx at h
  split at h
  · cases ix; cases iy
    obtain ⟨h1, c, h2, q⟩ := h
    exact .inr (.inr ⟨_, _, c, rfl, rfl, h1, h2, fin_now rp f (.str _) q⟩)
  · cases iy
    obtain ⟨ds, h1, d, h2, q⟩ := h
    obtain ⟨p, vs, rfl, hs, r⟩ := seq_at rp ix h1
    obtain ⟨v, h3, h4⟩ := atI_isDs r h2
    rcases hs with hs | hs
    · exact .inl ⟨_, _, _, _, rfl, rfl, hs, h3, fin_now rp f h4 q⟩
    · exact .inr (.inl ⟨_, _, _, _, rfl, rfl, hs, h3, fin_now rp f h4 q⟩)
  · exact h.elim
theorem de_ix (ha : DE X W a ta) (hb : DE X W b tb) (hs : PlainIx b := by exact fun _ _ => rfl) : DE X W (.Subscript a b pos) (dOp dIx ta tb) :=
  pe_weak (pe_ix ix_seq ha hb hs) fun _ _ _ => up_op c_ix
end
/-! ### in -/
def inS (i j : Str) : Bool := match i.cps.toList with
  | [c] => decide (c ∈ j.cps.toList)
  | _ => !(Builtin.Str.occurrences j i 0 j.length 1).isEmpty
theorem inS_sign (c : Nat) (j : Str) : inS ⟨#[c]⟩ j = decide (c ∈ j.cps.toList) := rfl
theorem inS_long {i j : Str} (h : ¬ ∃ c, i = ⟨#[c]⟩) : inS i j = !(Builtin.Str.occurrences j i 0 j.length 1).isEmpty := by
  unfold inS
  split
  · rename_i c e
    refine absurd ⟨c, ?_⟩ h
    obtain ⟨⟨l⟩⟩ := i
    have e2 : l = [c] := e
    rw [e2]
  · rfl
def D.flat : D → Bool
  | .non => true
  | .bl _ => true
  | .int _ => true
  | .str _ => true
  | _ => false
def D.feq : D → D → Bool
  | .non, .non => true
  | .bl a, .bl b => a == b
  | .bl a, .int b => (if a then 1 else 0) == b
  | .int a, .bl b => a == (if b then 1 else 0)
  | .int a, .int b => a == b
  | .str a, .str b => a == b
  | _, _ => false
/-- x in y: text in text; x flat in a sequence of flat ones; deep data in a list -/
def dInB (neg : Bool) : RD2
  | .str i, .str j, μ, Q => Q (.bl (if neg then !inS i j else inS i j)) μ
  | x, y, μ, Q => (∃ ds, seqD μ y = some ds ∧ x.flat = true ∧ ds.all D.flat = true ∧ Q (.bl (if neg then !ds.any (D.feq · x) else ds.any (D.feq · x))) μ) ∨
      ∃ ds p ps, seqD μ y = some ds ∧ (∀ es, y ≠ .tup es) ∧ x.py = some p ∧ D.pys ds = some ps ∧ SeqAt.shaped p = true ∧ SeqAt.shaped (.list ps) = true ∧ Q (.bl (if neg then !ps.any (PyData.eqv · p) else ps.any (PyData.eqv · p))) μ
section
variable {X : Cx} {K : PySem.W.Frag} {Z H : Hp} {μ : Mu}
theorem flat_is {d : D} {v : V} (h : IsD K Z d v) (f : d.flat = true) : flatV v = true := by cases h <;> first | rfl | cases f
theorem feq_is {d e : D} {v w : V} (h : IsD K Z d v) (h' : IsD K Z e w) (f : d.flat = true) (g : e.flat = true) : eqV v w = D.feq d e := by
  cases h <;> cases f <;> cases h' <;> first | rfl | cases g
theorem flats_is : ∀ {ds : List D} {vs : List V}, IsDs K Z ds vs → ds.all D.flat = true → vs.all flatV = true
  | _, _, .nil, _ => rfl
  | _, _, .cons h r, e => by
    rw [List.all_cons, Bool.and_eq_true] at e
    rw [List.all_cons, flat_is h e.1, flats_is r e.2]; rfl
theorem inV_is {x : D} {vx : V} (hx : IsD K Z x vx) (fx : x.flat = true) : ∀ {ds : List D} {vs : List V}, IsDs K Z ds vs → ds.all D.flat = true → inV vx vs = ds.any (D.feq · x)
  | _, _, .nil, _ => rfl
  | _, _, .cons h r, e => by
    rw [List.all_cons, Bool.and_eq_true] at e
    have ih := inV_is hx fx r e.2
    unfold inV at ih ⊢
    rw [List.any_cons, List.any_cons, feq_is h hx e.1 fx, ih]
def rInA (K : PySem.W.Frag) (neg : Bool) : R2 := fun x y H Q =>
  ((∃ (c : Nat) (z : Str), x = .str ⟨#[c]⟩ ∧ y = .str z ∧ Q (.bl (if neg then !decide (c ∈ z.cps.toList) else decide (c ∈ z.cps.toList))) H) ∨
    ∃ i j, x = .str i ∧ y = .str j ∧ Q (.bl (if neg then !(!(Builtin.Str.occurrences j i 0 j.length 1).isEmpty) else !(Builtin.Str.occurrences j i 0 j.length 1).isEmpty)) H) ∨
  (rIn K neg x y H Q ∨ ∃ d ds, Dp K H x d ∧ Dp K H y (.list ds) ∧ SeqAt.shaped d = true ∧ SeqAt.shaped (.list ds) = true ∧ Q (.bl (if neg then !ds.any fun z => PyData.eqv z d else ds.any fun z => PyData.eqv z d)) H)
theorem o_in (hu : X.A.units + 65 < cLine) : OpR X (compareOp .In) (rInA X.K false) :=
  OpR.or (OpR.or (fun pins s σ H x y v u Q I rx ry ⟨c, z, h1, h2, q⟩ => op_in_sign pins s σ H x y v u Q I rx ry ⟨c, z, h1, h2, q⟩) (fun pins s σ H x y v u Q I rx ry ⟨c, z, h1, h2, q⟩ => op_in_str pins s σ H x y v u Q I rx ry ⟨c, z, h1, h2, q⟩))
    (OpR.or op_in_seq (fun pins s σ H x y v u Q I rx ry ⟨c, z, h1, h2, h3, h4, q⟩ => op_inD hu pins s σ H x y v u Q I rx ry ⟨c, z, h1, h2, h3, h4, q⟩))
theorem o_notIn (hu : X.A.units + 65 < cLine) : OpR X (compareOp .NotIn) (rInA X.K true) :=
  OpR.or (OpR.or (fun pins s σ H x y v u Q I rx ry ⟨c, z, h1, h2, q⟩ => op_notIn_sign pins s σ H x y v u Q I rx ry ⟨c, z, h1, h2, q⟩) (fun pins s σ H x y v u Q I rx ry ⟨c, z, h1, h2, q⟩ => op_notin_str pins s σ H x y v u Q I rx ry ⟨c, z, h1, h2, q⟩))
    (OpR.or op_notIn_seq (fun pins s σ H x y v u Q I rx ry ⟨c, z, h1, h2, h3, h4, q⟩ => op_notInD hu pins s σ H x y v u Q I rx ry ⟨c, z, h1, h2, h3, h4, q⟩))
theorem seq_dp (rp : Rep K H Z μ) {y : D} {vy : V} {ds : List D} {ps : List PyData} (iy : IsD K Z y vy) (h : seqD μ y = some ds) (nt : ∀ es, y ≠ .tup es) (hp : D.pys ds = some ps) : Dp K H vy (.list ps) := by
  unfold seqD at h
  split at h
  · cases iy with | lst h1 r => cases h; exact .lst (rp.lst h1) (IsDs.dp rp r hp)
  · cases iy with | rol h1 r => cases h; exact .lst (rp.sqL h1) (IsDs.dp rp r hp)
  · exact absurd rfl (nt _)
  · cases iy
    rename_i a
    cases e : μ a with
    | none => rw [e] at h; cases h
    | some c =>
      rw [e] at h
      cases c with
      | lst es =>
        cases h
        obtain ⟨vs, q, r⟩ := rp.cl e
        exact .lst (SqL.of q) (IsDs.dp rp r hp)
      | slt c dx xs => cases h
  · cases h
theorem c_in (neg : Bool) : Comp2 K (rInA K neg) (dInB neg) := by
  intro H Z μ x y vx vy Q Q0 rp ix iy h f
  unfold dInB at h
  split at h
  · rename_i i j
    cases ix; cases iy
    by_cases e : ∃ c, i = ⟨#[c]⟩
    · obtain ⟨c, rfl⟩ := e
      exact .inl (.inl ⟨c, j, rfl, rfl, fin_now rp f (.bl _) h⟩)
    · rw [inS_long e] at h
      exact .inl (.inr ⟨i, j, rfl, rfl, fin_now rp f (.bl _) h⟩)
  · rcases h with ⟨ds, h1, h2, h3, q⟩ | ⟨ds, p, ps, h1, h2, h3, h4, h5, h6, q⟩
    · obtain ⟨a, vs, rfl, hs, r⟩ := seq_at rp iy h1
      exact .inr (.inl ⟨a, vs, rfl, hs, flat_is ix h2, flats_is r h3, by rw [inV_is ix h2 r h3]; exact fin_now rp f (.bl _) q⟩)
    · exact .inr (.inr ⟨p, ps, ix.dp rp h3, seq_dp rp iy h1 h2 h4, h5, h6, fin_now rp f (.bl _) q⟩)
end
end DL

set_option Elab.async false
set_option linter.all false
set_option maxRecDepth 100000
set_option maxHeartbeats 2000000
/-! D layer: displays, cells, methods of lists, slices, built-in calls -/
namespace DL
open PySem L2

/-- a new list: frozen, or a cell -/
def mkL (c : Bool) (ds : List D) (μ : Mu) (Q : QD) : Prop := match c with
  | false => Q (.lst ds) μ
  | true => ∀ p, μ p = none → Q (.ref p) (mset μ p (.lst ds))
section
variable {K : PySem.W.Frag} {Z H : Hp} {μ : Mu} {Q : QD} {Q0 : VK}
theorem fin_mk {c : Bool} {ds : List D} {vs : List V} (rp : Rep K H Z μ) (f : Fin K Z H μ Q Q0) (r : IsDs K Z ds vs) (q : mkL c ds μ Q) (p : Addr) (hp : H p = none) : Q0 (.ref p) (upd H p (.lst vs)) := by
  cases c with
  | false => exact fin_new rp f hp (new_lst rp hp r) q
  | true => exact f _ _ _ _ _ (Gr.cell hp _ _) (rp.cell hp r) (.ref p) (q p (rp.fresh hp).2.1)
/-- a cell is frozen -/
theorem Rep.frz (rp : Rep K H Z μ) {a : Addr} {ds : List D} (h : μ a = some (.lst ds)) : ∃ vs, Rep K H (upd Z a (.lst vs)) (mdel μ a) ∧ Same Z (upd Z a (.lst vs)) ∧ IsD K (upd Z a (.lst vs)) (.lst ds) (.ref a) := by
  obtain ⟨z0, _, vs, e, r⟩ := rp.cel a _ h
  have s : Same Z (upd Z a (.lst vs)) := fun b u hb => by rw [upd_ne (ne_of_none hb z0)]; exact hb
  have old : ∀ b c, mdel μ a b = some c → b ≠ a ∧ μ b = some c := fun b c hb => by
    unfold mdel at hb
    split at hb
    · cases hb
    · rename_i n; exact ⟨n, hb⟩
  refine ⟨vs, ⟨fun b u hb => ?_, fun b c hb => ?_, fun b b' c c' hb hb' => rp.apart b b' c c' (old b c hb).2 (old b' c' hb').2⟩, s, .lst upd_same (r.mono s)⟩
  · by_cases n : b = a
    · subst n; rw [upd_same] at hb; rw [← hb]; exact e
    · rw [upd_ne n] at hb; exact rp.sub _ _ hb
  · obtain ⟨n, hb⟩ := old b c hb
    obtain ⟨c1, c2, c3⟩ := rp.cel b c hb
    refine ⟨by rw [upd_ne n]; exact c1, fun x hx => by rw [upd_ne ((rp.apart a b _ c h hb).1 x hx)]; exact c2 x hx, c3.stay s fun _ _ _ q => q⟩
end
section
variable {K : PySem.W.Frag} {Z H : Hp} {μ : Mu} {d : D} {v : V} {ds : List D}
theorem seq_at2 (rp : Rep K H Z μ) (i : IsD K Z d v) (h : seqD μ d = some ds) : (∃ a vs, v = .ref a ∧ SqL K H a vs ∧ IsDs K Z ds vs) ∨ ∃ a vs, d = .tup ds ∧ v = .ref a ∧ SqT K H a vs ∧ SqT K Z a vs ∧ IsDs K Z ds vs := by
  unfold seqD at h
  split at h
  · cases i with | lst h1 r => cases h; exact .inl ⟨_, _, rfl, rp.lst h1, r⟩
  · cases i with | rol h1 r => cases h; exact .inl ⟨_, _, rfl, rp.sqL h1, r⟩
  · cases i with | tup h1 r => cases h; exact .inr ⟨_, _, rfl, rfl, rp.sqT h1, h1, r⟩
  · cases i
    rename_i a
    cases e2 : μ a with
    | none => rw [e2] at h; cases h
    | some c =>
      rw [e2] at h
      cases c with
      | lst es => cases h; obtain ⟨vs, q2, r2⟩ := rp.cl e2; exact .inl ⟨_, _, rfl, SqL.of q2, r2⟩
      | slt c dx xs => cases h
  · cases h
end
def frzD (x : D) (μ : Mu) (Q : QD) : Prop := match x with
  | .ref a => (match μ a with
    | some (.lst ds) => Q (.lst ds) (mdel μ a)
    | _ => Q (.ref a) μ)
  | x => Q x μ
def dFrz (t : TED) : TED := fun δ μ Q R => t δ μ (fun x μ1 => frzD x μ1 Q) R
section
variable {X : Cx} {W : WX} {a b : Expr} {es : List Expr} {pos : Pos} {ta tb : TED} {t : TAD} {K : PySem.W.Frag}
theorem de_frz (h : DE X W a ta) : DE X W a (dFrz ta) :=
  pe_weak h fun σ H Q0 ⟨Z, δ, μ, Q, R, sl, rp, q, f, fr⟩ => ⟨Z, δ, μ, _, R, sl, rp, q, fun v H1 Z1 x μ1 s1 r1 i1 h1 => by
    have h1 : frzD x μ1 Q := h1
    unfold frzD at h1
    split at h1
    · rename_i a
      split at h1
      · rename_i ds e
        obtain ⟨vs, r2, s2, i2⟩ := r1.frz e
        cases i1
        exact f _ H1 _ _ _ (s1.trans (Gr.del e s2)) r2 i2 h1
      · exact f v H1 Z1 _ μ1 s1 r1 i1 h1
    · exact f v H1 Z1 x μ1 s1 r1 i1 h1, fr⟩
/-! ### displays -/
def dTup (t : TAD) : TED := fun δ μ Q R => t δ μ (fun ds μ1 => ds.length ≤ sizeLine ∧ Q (.tup ds) μ1) R
def dLst (c : Bool) (t : TAD) : TED := fun δ μ Q R => t δ μ (fun ds μ1 => ds.length ≤ sizeLine ∧ mkL c ds μ1 Q) R
theorem de_tup {x1} (h : DA X W es t) : DE X W (.Tuple es x1 pos) (dTup t) :=
  pe_weak (pe_tup h) fun σ H Q0 ⟨Z, δ, μ, Q, R, sl, rp, q, f, fr⟩ => ⟨Z, δ, μ, _, R, sl, rp, q, fun vs H1 Z1 ds μ1 s1 r1 i1 h1 =>
    ⟨by rw [← i1.length]; exact h1.1, fun p hp => fin_new r1 (f.mono s1) hp (new_tup r1 hp i1) h1.2⟩, fr⟩
theorem de_lst (c : Bool) (h : DA X W es t) : DE X W (.List es pos) (dLst c t) :=
  pe_weak (pe_lst h) fun σ H Q0 ⟨Z, δ, μ, Q, R, sl, rp, q, f, fr⟩ => ⟨Z, δ, μ, _, R, sl, rp, q, fun vs H1 Z1 ds μ1 s1 r1 i1 h1 =>
    ⟨by rw [← i1.length]; exact h1.1, fun p hp => fin_mk r1 (f.mono s1) i1 h1.2 p hp⟩, fr⟩

/-! ### built-in calls -/
theorem de_cb {x : Str} {id : String} {p : Pos} {r : List V → Hp → VK → Prop} {rd : RDs} (hc : CallR X (.builtin id) r) (c : CompS X.K r rd) (hg : Gl X x) (hm : X.mg x = none) (hv : bootBuiltins x = some (.builtin id)) (ha : DA X W (a :: es) t) (hn : x ≠ "__name__" := by decide) (hdb : (x == ("__debug__" : Str)) = false := by decide)
    (he : starEach (a :: es) X.env = (false, eval a X.env) :: starEach es X.env := by rfl) (hpl : (backTo pos (starEach es X.env)).any (·.1) = false := by rfl) : DE X W (.Call (.Name x p) (a :: es) [] pos) (dCall1 rd t) :=
  pe_weak (pe_callB hc hg hm hv ha hn hdb he hpl) fun _ _ _ => up_cb c
theorem de_ct {x : Str} {T : String} {p : Pos} {r : List V → Hp → VK → Prop} {rd : RDs} (hc : CallR X (.type T) r) (c : CompS X.K r rd) (hg : Gl X x) (hm : X.mg x = none) (hv : bootBuiltins x = some (.type T)) (ha : DA X W (a :: es) t) (hn : x ≠ "__name__" := by decide) (hdb : (x == ("__debug__" : Str)) = false := by decide)
    (he : starEach (a :: es) X.env = (false, eval a X.env) :: starEach es X.env := by rfl) (hpl : (backTo pos (starEach es X.env)).any (·.1) = false := by rfl) : DE X W (.Call (.Name x p) (a :: es) [] pos) (dCall1 rd t) :=
  pe_weak (pe_callTy hc hg hm hv ha hn hdb he hpl) fun _ _ _ => up_cb c
def dLen : RDs
  | [.str z], μ, Q => z.length ≤ sizeLine ∧ Q (.int z.length) μ
  | [x], μ, Q => ∃ ds, seqD μ x = some ds ∧ Q (.int ds.length) μ
  | _, _, _ => False
def rLenD (K : PySem.W.Frag) : List V → Hp → VK → Prop := fun xs H Q => (∃ z, xs = [.str z] ∧ z.length ≤ sizeLine ∧ Q (.int z.length) H) ∨ ∃ p ys, xs = [.ref p] ∧ (SqL K H p ys ∨ SqT K H p ys) ∧ Q (.int ys.length) H
theorem r_len : CallR X (.builtin "len") (rLenD X.K) := call_len_str.or call_len_seq
theorem c_len : CompS K (rLenD K) dLen := by
  intro H Z μ xs vs Q Q0 rp ix h f
  unfold dLen at h
  split at h
  · obtain ⟨v, r, rfl, i1, i2⟩ := ix.inv_cons
    cases i1; cases i2
    exact .inl ⟨_, rfl, h.1, fin_now rp f (.int _) h.2⟩
  · obtain ⟨v, r, rfl, i1, i2⟩ := ix.inv_cons
    cases i2
    obtain ⟨ds, h1, q⟩ := h
    obtain ⟨p, vs, rfl, hs, r⟩ := seq_at rp i1 h1
    exact .inr ⟨p, vs, rfl, hs, by rw [← r.length]; exact fin_now rp f (.int _) q⟩
  · exact h.elim
def dInt1 : RDs
  | [.int i], μ, Q => Q (.int i) μ
  | [.bl b], μ, Q => Q (.int (if b then 1 else 0)) μ
  | _, _, _ => False
theorem c_int1 : CompS K (fun xs H Q => (∃ i, xs = [.int i] ∧ Q (.int i) H) ∨ ∃ k, xs = [.bl k] ∧ Q (.int (if k then 1 else 0)) H) dInt1 := by
  intro H Z μ xs vs Q Q0 rp ix h f
  unfold dInt1 at h
  split at h
  · obtain ⟨v, r, rfl, i1, i2⟩ := ix.inv_cons
    cases i1; cases i2
    exact .inl ⟨_, rfl, fin_now rp f (.int _) h⟩
  · obtain ⟨v, r, rfl, i1, i2⟩ := ix.inv_cons
    cases i1; cases i2
    exact .inr ⟨_, rfl, fin_now rp f (.int _) h⟩
  · exact h.elim
def dAbs : RDs
  | [.int i], μ, Q => Q (.int (if i < 0 then -i else i)) μ
  | _, _, _ => False
theorem c_abs : CompS K (fun xs H Q => ∃ i, xs = [.int i] ∧ Q (.int (if i < 0 then -i else i)) H) dAbs := by
  intro H Z μ xs vs Q Q0 rp ix h f
  unfold dAbs at h
  split at h
  · obtain ⟨v, r, rfl, i1, i2⟩ := ix.inv_cons
    cases i1; cases i2
    exact ⟨_, rfl, fin_now rp f (.int _) h⟩
  · exact h.elim
def dStr1 : RDs
  | [.int i], μ, Q => i.natAbs.log2 < 1920 ∧ Q (.str (toString i)) μ
  | _, _, _ => False
theorem c_str1 : CompS K (fun xs H Q => ∃ i, xs = [.int i] ∧ i.natAbs.log2 < 1920 ∧ Q (.str (toString i)) H) dStr1 := by
  intro H Z μ xs vs Q Q0 rp ix h f
  unfold dStr1 at h
  split at h
  · obtain ⟨v, r, rfl, i1, i2⟩ := ix.inv_cons
    cases i1; cases i2
    exact ⟨_, rfl, h.1, fin_now rp f (.str _) h.2⟩
  · exact h.elim
/-- list(x), tuple(x) of a sequence -/
def dList1 (c : Bool) : RDs
  | [x], μ, Q => ∃ ds, seqD μ x = some ds ∧ mkL c ds μ Q
  | _, _, _ => False
theorem c_list1 (c : Bool) : CompS K (fun xs H Q => ∃ p ys, xs = [.ref p] ∧ (SqL K H p ys ∨ SqT K H p ys) ∧ ∀ l, H l = none → Q (.ref l) (upd H l (.lst ys))) (dList1 c) := by
  intro H Z μ xs vs Q Q0 rp ix h f
  unfold dList1 at h
  split at h
  · obtain ⟨v, r, rfl, i1, i2⟩ := ix.inv_cons
    cases i2
    obtain ⟨ds, h1, q⟩ := h
    obtain ⟨p, vs, rfl, hs, r⟩ := seq_at rp i1 h1
    exact ⟨p, vs, rfl, hs, fun l hl => fin_mk rp f r q l hl⟩
  · exact h.elim
def dTup1 : RDs
  | [x], μ, Q => ∃ ds, seqD μ x = some ds ∧ Q (.tup ds) μ
  | _, _, _ => False
theorem c_tup1 : CompS K (fun xs H Q => ∃ p ys, xs = [.ref p] ∧ ((SqL K H p ys ∧ ∀ l, H l = none → Q (.ref l) (upd H l (.tup ys))) ∨ (SqT K H p ys ∧ Q (.ref p) H))) dTup1 := by
  intro H Z μ xs vs Q Q0 rp ix h f
  unfold dTup1 at h
  split at h
  · obtain ⟨v, r, rfl, i1, i2⟩ := ix.inv_cons
    cases i2
    obtain ⟨ds, h1, q⟩ := h
    rcases seq_at2 rp i1 h1 with ⟨a, ws, rfl, hs, r⟩ | ⟨a, ws, rfl, rfl, hs, hz, r⟩
    · exact ⟨_, _, rfl, .inl ⟨hs, fun l hl => fin_new rp f hl (new_tup rp hl r) q⟩⟩
    · exact ⟨_, _, rfl, .inr ⟨hs, fin_now rp f (.tup hz r) q⟩⟩
  · exact h.elim
end

/-! ### slices -/
abbrev TOD := Dl → Mu → (Option Int → Mu → Prop) → RD → Prop
def upO (K : PySem.W.Frag) (W : WX) (t : TOD) : TO := fun σ H Q0 => ∃ Z δ μ Q R, SlD K Z σ δ ∧ Rep K H Z μ ∧ t δ μ Q R ∧ (∀ o H' Z' μ', Gr Z H μ Z' H' μ' → Rep K H' Z' μ' → Q o μ' → Q0 o H') ∧ FinR K W Z H μ R
abbrev DO (X : Cx) (W : WX) (e : Option Expr) (t : TOD) : Prop := PO X e (upO X.K W t)
def dNoPart : TOD := fun _ μ Q _ => Q none μ
def dPart (t : TED) : TOD := fun δ μ Q R => t δ μ (fun x μ1 => ∃ i, x = .int i ∧ Q (some i) μ1) R
theorem po_weak {X : Cx} {e : Option Expr} {t t' : TO} (p : PO X e t) (w : ∀ σ H Q, t' σ H Q → t σ H Q) : PO X e t' := ⟨fun pins s σ H Q I h => p.run pins s σ H Q I (w σ H Q h)⟩
def cutD (xs : List D) (lo hi : Option Int) : List D := (xs.drop (HT.sIx xs.length 0 lo)).take (HT.sIx xs.length xs.length hi - HT.sIx xs.length 0 lo)
/-- a slice: of a text, a list (a new one), a tuple (not the whole of it) -/
def sliceD (c : Bool) (x : D) (lo hi : Option Int) (μ : Mu) (Q : QD) : Prop := match x with
  | .str z => z.length ≤ sizeLine ∧ Q (.str (cutS z lo hi)) μ
  | .tup ds => ¬ (HT.sIx ds.length 0 lo = 0 ∧ HT.sIx ds.length ds.length hi = ds.length) ∧ Q (.tup (cutD ds lo hi)) μ
  | x => ∃ ds, seqD μ x = some ds ∧ mkL c (cutD ds lo hi) μ Q
def dSlice (c : Bool) (t : TED) (tl th : TOD) : TED := fun δ μ Q R => t δ μ (fun x μ1 => tl δ μ1 (fun l μ2 => th δ μ2 (fun u μ3 => sliceD c x l u μ3 Q) R) R) R
section
variable {X : Cx} {W : WX} {e : Expr} {lo hi : Option Expr} {te : TED} {tl th : TOD} {pos p2 : Pos} {K : PySem.W.Frag} {Z H : Hp} {μ : Mu} {Q : QD} {Q0 : VK}
theorem do_none : DO X W none dNoPart := po_weak po_none fun σ H Q0 ⟨Z, δ, μ, Q, R, sl, rp, q, f, fr⟩ => f none H Z μ (Gr.refl _ _ _) rp q
theorem do_some (h : DE X W e te) : DO X W (some e) (dPart te) := po_weak (po_some h) fun σ H Q0 ⟨Z, δ, μ, Q, R, sl, rp, q, f, fr⟩ => ⟨Z, δ, μ, _, R, sl, rp, q, fun v H1 Z1 x μ1 s1 r1 i1 ⟨i, hx, q1⟩ => by
  subst hx
  cases i1
  exact ⟨i, rfl, f _ H1 Z1 μ1 s1 r1 q1⟩, fr⟩
def rSlA (K : PySem.W.Frag) : V → Option Int → Option Int → Hp → VK → Prop := fun x lo hi H Q => rSlS x lo hi H Q ∨ rSlT K x lo hi H Q ∨ rSlL K x lo hi H Q
theorem sl_any : SlR X (rSlA X.K) := sl_str.or (sl_tup.or sl_list)
theorem cut_isDs {ds : List D} {vs : List V} (r : IsDs K Z ds vs) (lo hi : Option Int) : IsDs K Z (cutD ds lo hi) (cutV vs lo hi) := by
  unfold cutD cutV
  rw [r.length]
  exact (r.drop _).take _
theorem c_slice {c : Bool} {x : D} {vx : V} {l u : Option Int} (rp : Rep K H Z μ) (ix : IsD K Z x vx) (h : sliceD c x l u μ Q) (f : Fin K Z H μ Q Q0) : rSlA K vx l u H Q0 := by
  unfold sliceD at h
  split at h
  · cases ix; exact .inl ⟨_, rfl, h.1, fin_now rp f (.str _) h.2⟩
  · cases ix with
    | tup h1 r =>
      exact .inr (.inl ⟨_, _, rfl, rp.sqT h1, by rw [← r.length]; exact h.1, fun p hp => fin_new rp f hp (new_tup rp hp (cut_isDs r l u)) h.2⟩)
  · rename_i nt
    obtain ⟨ds, h1, q⟩ := h
    rcases seq_at2 rp ix h1 with ⟨a, ws, rfl, hs, r⟩ | ⟨a, ws, rfl, rfl, hs, hz, r⟩
    · exact .inr (.inr ⟨_, _, rfl, hs, fun p hp => fin_mk rp f (cut_isDs r l u) q p hp⟩)
    · exact (nt _ rfl).elim
theorem de_slice (c : Bool) (he : DE X W e te) (hl : DO X W lo tl) (hu : DO X W hi th) : DE X W (.Subscript e (.Slice lo hi none p2) pos) (dSlice c te tl th) :=
  pe_weak (pe_slice sl_any he hl hu) fun σ H Q0 ⟨Z, δ, μ, Q, R, sl, rp, q, f, fr⟩ => ⟨Z, δ, μ, _, R, sl, rp, q, fun v H1 Z1 x μ1 s1 r1 i1 h1 =>
    ⟨Z1, δ, μ1, _, R, sl.mono s1.same, r1, h1, fun l H2 Z2 μ2 s2 r2 h2 => ⟨Z2, δ, μ2, _, R, (sl.mono s1.same).mono s2.same, r2, h2, fun u H3 Z3 μ3 s3 r3 h3 =>
      c_slice r3 ((i1.mono s2.same).mono s3.same) h3 (((f.mono s1).mono s2).mono s3), (fr.mono s1).mono s2⟩, fr.mono s1⟩, fr⟩
end

/-! ### methods of lists -/
abbrev RM := D → List D → Mu → QD → Prop
def dMeth (rm : RM) (to : TED) (t : TAD) : TED := fun δ μ Q R => to δ μ (fun o μ1 => (seqD μ1 o ≠ none ∧ ∀ es, o ≠ .tup es) ∧ t δ μ1 (fun xs μ2 => rm o xs μ2 Q) R) R
def dMeth0 (rm : RM) (to : TED) : TED := fun δ μ Q R => to δ μ (fun o μ1 => (seqD μ1 o ≠ none ∧ ∀ es, o ≠ .tup es) ∧ rm o [] μ1 Q) R
def CompM (K : PySem.W.Frag) (r : V → List V → Hp → VK → Prop) (rm : RM) : Prop := ∀ H Z μ x vx xs vs Q Q0, Rep K H Z μ → IsD K Z x vx → IsDs K Z xs vs → rm x xs μ Q → Fin K Z H μ Q Q0 → r vx vs H Q0
section
variable {X : Cx} {W : WX} {o e : Expr} {es : List Expr} {to : TED} {t : TAD} {name : Str} {apos cpos : Pos} {id : String} {r : V → List V → Hp → VK → Prop} {rm : RM} {K : PySem.W.Frag} {Z H : Hp} {μ : Mu}
theorem list_ty {d : D} {v : V} (rp : Rep K H Z μ) (i : IsD K Z d v) (h : seqD μ d ≠ none) (n : ∀ es, d ≠ .tup es) : tyV K "list" v H := by
  cases e : seqD μ d with
  | none => exact absurd e h
  | some ds =>
    rcases seq_at2 rp i e with ⟨a, ws, rfl, hs, r⟩ | ⟨a, ws, rfl, rfl, hs, hz, r⟩
    · exact .inl ⟨rfl, _, hs⟩
    · exact absurd rfl (n _)
theorem de_lm (slot : Slot "list" name id) (hty : typeOf (.builtin id) = pure (.type "method_descriptor")) (hm : MtR X id r) (c : CompM X.K r rm) (ho : DE X W o to) (ha : DA X W (e :: es) t)
    (hbase : attributeBase o name X.env (eval o X.env) = eval o X.env := by rfl)
    (hfew : ((backTo cpos (starEach (e :: es) X.env)).all (fun x => !x.1) && (backToKw cpos (keywordEach [] X.env)).all (fun x => x.1.isSome)
      && decide ((e :: es).length + ([] : List Keyword).length + (if ([] : List Keyword).isEmpty then 0 else 1) < 30)) = true := by rfl)
    (hline : (apos.endLine == cpos.line) = true := by rfl) (hs : starEach (e :: es) X.env = (false, eval e X.env) :: starEach es X.env := by rfl) (hplain : (backTo cpos (starEach es X.env)).any (·.1) = false := by rfl) :
    DE X W (.Call (.Attribute o name apos) (e :: es) [] cpos) (dMeth rm to t) :=
  pe_weak (pe_bm PySem.F.plainAttrs_list slot hty hm ho ha hbase hfew hline hs hplain) fun σ H Q0 ⟨Z, δ, μ, Q, R, sl, rp, q, f, fr⟩ => ⟨Z, δ, μ, _, R, sl, rp, q, fun v H1 Z1 x μ1 s1 r1 i1 h1 =>
    ⟨list_ty r1 i1 h1.1.1 h1.1.2, Z1, δ, μ1, _, R, sl.mono s1.same, r1, h1.2, fun vs H2 Z2 xs μ2 s2 r2 i2 h2 => c _ _ _ _ _ _ _ _ _ r2 (i1.mono s2.same) i2 h2 ((f.mono s1).mono s2), fr.mono s1⟩, fr⟩
theorem de_lm0 (slot : Slot "list" name id) (hty : typeOf (.builtin id) = pure (.type "method_descriptor")) (hm : MtR X id r) (c : CompM X.K r rm) (ho : DE X W o to)
    (hbase : attributeBase o name X.env (eval o X.env) = eval o X.env := by rfl) (hline : (apos.endLine == cpos.line) = true := by rfl) : DE X W (.Call (.Attribute o name apos) [] [] cpos) (dMeth0 rm to) :=
  pe_weak (pe_bm0 PySem.F.plainAttrs_list slot hty hm ho hbase hline) fun σ H Q0 ⟨Z, δ, μ, Q, R, sl, rp, q, f, fr⟩ => ⟨Z, δ, μ, _, R, sl, rp, q, fun v H1 Z1 x μ1 s1 r1 i1 h1 =>
    ⟨list_ty r1 i1 h1.1.1 h1.1.2, c _ _ _ _ _ _ _ _ _ r1 i1 .nil h1.2 (f.mono s1)⟩, fr⟩
def dAppend : RM
  | .ref a, [y], μ, Q => ∃ ds, μ a = some (.lst ds) ∧ ds.length < sizeLine ∧ Q .non (mset μ a (.lst (ds ++ [y])))
  | _, _, _, _ => False
theorem c_append : CompM K rAppend dAppend := by
  intro H Z μ x vx xs vs Q Q0 rp ix is h f
  unfold dAppend at h
  split at h
  · cases ix
    obtain ⟨v, r, rfl, i1, i2⟩ := is.inv_cons
    cases i2
    obtain ⟨ds, h1, h2, q⟩ := h
    obtain ⟨ws, e, r⟩ := rp.cl h1
    exact ⟨_, ws, v, rfl, rfl, e, by rw [← r.length]; exact h2, f _ _ _ _ _ (Gr.put h1 _ _) (rp.put h1 (r.append (.cons i1 .nil))) .non q⟩
  · exact h.elim
def dInsert : RM
  | .ref a, [.int i, y], μ, Q => ∃ ds, μ a = some (.lst ds) ∧ ds.length < sizeLine ∧ 0 ≤ i ∧ i < 2 ^ 63 ∧ Q .non (mset μ a (.lst (ds.take i.toNat ++ y :: ds.drop i.toNat)))
  | _, _, _, _ => False
theorem c_insert : CompM K (fun x vs H Q => ∃ (l : Addr) (xs : List V) (i : Int) (y : V), x = .ref l ∧ vs = [.int i, y] ∧ H l = some (.lst xs) ∧ xs.length < sizeLine ∧ 0 ≤ i ∧ i < 2 ^ 63 ∧
    Q .non (upd H l (.lst (xs.take i.toNat ++ [y] ++ xs.drop i.toNat)))) dInsert := by
  intro H Z μ x vx xs vs Q Q0 rp ix is h f
  unfold dInsert at h
  split at h
  · cases ix
    obtain ⟨v, r, rfl, i1, i2⟩ := is.inv_cons
    cases i1
    obtain ⟨v, r, rfl, i1, i3⟩ := i2.inv_cons
    cases i3
    obtain ⟨ds, h1, h2, h3, h4, q⟩ := h
    obtain ⟨ws, e, r⟩ := rp.cl h1
    exact ⟨_, ws, _, v, rfl, rfl, e, by rw [← r.length]; exact h2, h3, h4, f _ _ _ _ _ (Gr.put h1 _ _) (rp.put h1 (by rw [List.append_assoc]; exact (r.take _).append (.cons i1 (r.drop _)))) .non q⟩
  · exact h.elim
def dClear : RM
  | .ref a, [], μ, Q => ∃ ds, μ a = some (.lst ds) ∧ Q .non (mset μ a (.lst []))
  | _, _, _, _ => False
theorem c_clear : CompM K rClear dClear := by
  intro H Z μ x vx xs vs Q Q0 rp ix is h f
  unfold dClear at h
  split at h
  · cases ix; cases is
    obtain ⟨ds, h1, q⟩ := h
    obtain ⟨ws, e, r⟩ := rp.cl h1
    exact ⟨_, ws, rfl, rfl, e, f _ _ _ _ _ (Gr.put h1 _ _) (rp.put h1 .nil) .non q⟩
  · exact h.elim
end
end DL

set_option Elab.async false
set_option linter.all false
set_option maxRecDepth 100000
set_option maxHeartbeats 2000000
/-! D layer: statements, targets, loops -/
namespace DL
open PySem L2

def dNext : TSD := fun E δ μ _ => E.nx δ μ
def dSeq (t u : TSD) : TSD := fun E δ μ R => t { E with nx := fun δ1 μ1 => u E δ1 μ1 R } δ μ R
def dBreak : TSD := fun E δ μ _ => E.bk δ μ
def dCont : TSD := fun E δ μ _ => E.ct δ μ
def dDrop (t : TED) : TSD := fun E δ μ R => t δ μ (fun _ μ1 => E.nx δ μ1) R
def dRet (t : TED) : TSD := fun E δ μ R => t δ μ E.rt R
def dRetN : TSD := fun E _ μ _ => E.rt .non μ
def dIf (c : TTD) (t u : TSD) : TSD := fun E δ μ R => c δ μ (fun b μ1 => if b = true then t E δ μ1 R else u E δ μ1 R) R
def dSet (i : Nat) (t : TED) : TSD := fun E δ μ R => t δ μ (fun x μ1 => E.nx (δ.set i (some x)) μ1) R
def dNever : TSD := fun _ _ _ _ => False
section
variable {X : Cx} {W : WX} {K : PySem.W.Frag} {st : Stmt} {rest a b : List Stmt} {t u : TSD} {e : Expr} {te : TED} {pos : Pos} {Z Z' : Hp}
theorem ds_nil : DSs X W [] dNext := pss_weak pss_nil fun D σ H ⟨Z, δ, μ, E, R, sl, rp, q, fn, fr, fb, fc, fx⟩ => fn σ H Z δ μ (Gr.refl _ _ _) rp sl q
theorem ds_cons (h1 : DS X W st t) (h2 : DSs X W rest u) : DSs X W (st :: rest) (dSeq t u) :=
  pss_weak (pss_cons h1 h2) fun D σ H ⟨Z, δ, μ, E, R, sl, rp, q, fn, fr, fb, fc, fx⟩ =>
    ⟨Z, δ, μ, _, R, sl, rp, q, fun σ1 H1 Z1 δ1 μ1 s1 r1 sl1 h1 => ⟨Z1, δ1, μ1, E, R, sl1, r1, h1, fn.mono s1, fr.mono s1, fb.mono s1, fc.mono s1, fx.mono s1⟩, fr, fb, fc, fx⟩
theorem ds_one (h1 : DS X W st t) : DSs X W [st] t := pss_one h1
theorem ds_pass : DS X W (.Pass pos) dNext := ps_weak ps_pass fun D σ H ⟨Z, δ, μ, E, R, sl, rp, q, fn, fr, fb, fc, fx⟩ => fn σ H Z δ μ (Gr.refl _ _ _) rp sl q
theorem ds_break : DS X W (.Break pos) dBreak := ps_weak ps_break fun D σ H ⟨Z, δ, μ, E, R, sl, rp, q, fn, fr, fb, fc, fx⟩ => fb σ H Z δ μ (Gr.refl _ _ _) rp sl q
theorem ds_continue : DS X W (.Continue pos) dCont := ps_weak ps_continue fun D σ H ⟨Z, δ, μ, E, R, sl, rp, q, fn, fr, fb, fc, fx⟩ => fc σ H Z δ μ (Gr.refl _ _ _) rp sl q
theorem ds_doc {x : Str} {j} {pos' : Pos} : DS X W (.Expr (.Constant (.str x) j pos) pos') dNext := ps_weak ps_doc fun D σ H ⟨Z, δ, μ, E, R, sl, rp, q, fn, fr, fb, fc, fx⟩ => fn σ H Z δ μ (Gr.refl _ _ _) rp sl q
theorem ds_expr (he : DE X W e te) (hs : swapsWith e none pos.line X.env = pure false := by rfl) : DS X W (.Expr e pos) (dDrop te) :=
  ps_weak (ps_expr he hs) fun D σ H ⟨Z, δ, μ, E, R, sl, rp, q, fn, fr, fb, fc, fx⟩ => ⟨Z, δ, μ, _, R, sl, rp, q, fun v H1 Z1 x μ1 s1 r1 i1 h1 => fn σ H1 Z1 δ μ1 s1 r1 (sl.mono s1.same) h1, fx⟩
theorem ds_ret (he : DE X W e te) : DS X W (.Return (some e) pos) (dRet te) :=
  ps_weak (ps_ret he) fun D σ H ⟨Z, δ, μ, E, R, sl, rp, q, fn, fr, fb, fc, fx⟩ => ⟨Z, δ, μ, _, R, sl, rp, q, fr, fx⟩
theorem ds_retN : DS X W (.Return none pos) dRetN :=
  ps_weak ps_retN fun D σ H ⟨Z, δ, μ, E, R, sl, rp, q, fn, fr, fb, fc, fx⟩ => fr _ H Z _ μ (Gr.refl _ _ _) rp .non q
theorem ds_if {c : Expr} {tc : TTD} (hc : DT X W c tc) (ha : DSs X W a t) (hb : DSs X W b u) : DS X W (.If c a b pos) (dIf tc t u) :=
  ps_weak (ps_if hc ha hb) fun D σ H ⟨Z, δ, μ, E, R, sl, rp, q, fn, fr, fb, fc, fx⟩ => ⟨Z, δ, μ, _, R, sl, rp, q, fun c H1 Z1 μ1 s1 r1 h1 => by
    cases c with
    | true => exact ⟨Z1, δ, μ1, E, R, sl.mono s1.same, r1, h1, fn.mono s1, fr.mono s1, fb.mono s1, fc.mono s1, fx.mono s1⟩
    | false => exact ⟨Z1, δ, μ1, E, R, sl.mono s1.same, r1, h1, fn.mono s1, fr.mono s1, fb.mono s1, fc.mono s1, fx.mono s1⟩, fx⟩
theorem ds_set {i : Nat} {x : Str} {pos' : Pos} (hN : X.N.Nodup) (hi : X.N[i]? = some x) (hx : Loc X.env.scope x) (he : DE X W e te) (hs : swapsWith e (some (.Name x pos')) pos.line X.env = pure false := by rfl) (hf : X.fn x = true ∨ X.env.scope.names.lookup x = some .local := by first | exact .inl rfl | exact .inr rfl | assumption) :
    DS X W (.Assign [.Name x pos'] e pos) (dSet i te) :=
  ps_weak (ps_set hN hi hx he hs hf) fun D σ H ⟨Z, δ, μ, E, R, sl, rp, q, fn, fr, fb, fc, fx⟩ => ⟨Z, δ, μ, _, R, sl, rp, q, fun v H1 Z1 x μ1 s1 r1 i1 h1 => fn _ H1 Z1 _ μ1 s1 r1 ((sl.mono s1.same).set i i1) h1, fx⟩
theorem ds_never : DS X W st dNever := ps_weak ps_never fun D σ H ⟨Z, δ, μ, E, R, sl, rp, q, _⟩ => q.elim
theorem dss_never {sts : List Stmt} : DSs X W sts dNever := pss_weak pss_never fun D σ H ⟨Z, δ, μ, E, R, sl, rp, q, _⟩ => q.elim
end

/-! ### targets -/
abbrev TGD := D → Dl → Mu → (Dl → Mu → Prop) → Prop
abbrev TGsD := List D → Dl → Mu → (Dl → Mu → Prop) → Prop
def upG (K : PySem.W.Frag) (g : TGD) : TG := fun v σ H Q0 => ∃ Z δ μ Q x, SlD K Z σ δ ∧ Rep K H Z μ ∧ IsD K Z x v ∧ g x δ μ Q ∧ FinS K Z H μ Q Q0
def upGs (K : PySem.W.Frag) (g : TGsD) : TGs := fun vs σ H Q0 => ∃ Z δ μ Q xs, SlD K Z σ δ ∧ Rep K H Z μ ∧ IsDs K Z xs vs ∧ g xs δ μ Q ∧ FinS K Z H μ Q Q0
abbrev DG (X : Cx) (tg : Expr) (g : TGD) : Prop := PG X tg (upG X.K g)
abbrev DGs (X : Cx) (tgs : List Expr) (g : TGsD) : Prop := PGs X tgs (upGs X.K g)
theorem pg_weak {X : Cx} {e : Expr} {t t' : TG} (p : PG X e t) (w : ∀ v σ H Q, t' v σ H Q → t v σ H Q) : PG X e t' := ⟨fun pins s σ H v u Q I r h => p.run pins s σ H v u Q I r (w v σ H Q h)⟩
theorem pgs_weak {X : Cx} {e : List Expr} {t t' : TGs} (p : PGs X e t) (w : ∀ v σ H Q, t' v σ H Q → t v σ H Q) : PGs X e t' := ⟨fun pins s σ H v u Q I r h => p.run pins s σ H v u Q I r (w v σ H Q h)⟩
def gdName (i : Nat) : TGD := fun x δ μ Q => Q (δ.set i (some x)) μ
def gdNil : TGsD := fun xs δ μ Q => xs = [] ∧ Q δ μ
def gdCons (t : TGD) (u : TGsD) : TGsD := fun xs δ μ Q => ∃ x r, xs = x :: r ∧ t x δ μ fun δ1 μ1 => u r δ1 μ1 Q
/-- (a, b, ..) = a tuple -/
def gdTup (n : Nat) (t : TGsD) : TGD := fun x δ μ Q => ∃ xs, x = .tup xs ∧ xs.length = n ∧ t xs δ μ Q
def dAsg (te : TED) (g : TGD) : TSD := fun E δ μ R => te δ μ (fun x μ1 => g x δ μ1 E.nx) R
section
variable {X : Cx} {W : WX} {e : Expr} {es : List Expr} {te : TED} {g : TGD} {gs : TGsD} {pos : Pos}
theorem dg_name {i : Nat} {x : Str} (hN : X.N.Nodup) (hi : X.N[i]? = some x) (hx : Loc X.env.scope x) (hf : X.fn x = true ∨ X.env.scope.names.lookup x = some .local := by first | exact .inl rfl | exact .inr rfl | assumption) : DG X (.Name x pos) (gdName i) :=
  pg_weak (pg_name hN hi hx hf) fun v σ H Q0 ⟨Z, δ, μ, Q, x, sl, rp, ix, q, f⟩ => f _ H Z _ μ (Gr.refl _ _ _) rp (sl.set i ix) q
theorem dgs_nil : DGs X [] gdNil := pgs_weak pgs_nil fun v σ H Q0 ⟨Z, δ, μ, Q, xs, sl, rp, ix, ⟨h, q⟩, f⟩ => by
  subst h
  cases ix
  exact ⟨rfl, f _ H Z _ μ (Gr.refl _ _ _) rp sl q⟩
theorem dgs_cons (h1 : DG X e g) (h2 : DGs X es gs) (hs : (assignEach (e :: es) X.env).map (·.2) = assign e X.env :: (assignEach es X.env).map (·.2) := by rfl) : DGs X (e :: es) (gdCons g gs) :=
  pgs_weak (pgs_cons h1 h2 hs) fun v σ H Q0 ⟨Z, δ, μ, Q, xs, sl, rp, ix, ⟨x, r, h, q⟩, f⟩ => by
    subst h
    obtain ⟨w, ws, rfl, i1, i2⟩ := ix.inv_cons
    exact ⟨w, ws, rfl, Z, δ, μ, _, x, sl, rp, i1, q, fun σ1 H1 Z1 δ1 μ1 s1 r1 sl1 h1 => ⟨Z1, δ1, μ1, Q, r, sl1, r1, i2.mono s1.same, h1, f.mono s1⟩⟩
theorem dg_tup {k : Nat} {n : Nat} (hc : X.calm = true) (h : DGs X es gs) (hn : (assignEach es X.env).length = n := by rfl) (hst : (assignEach es X.env).findIdx? (·.1) = none := by rfl) : DG X (.Tuple es k pos) (gdTup n gs) :=
  pg_weak (pg_tup hc h hn hst) fun v σ H Q0 ⟨Z, δ, μ, Q, x, sl, rp, ix, ⟨xs, h, hl, q⟩, f⟩ => by
    subst h
    cases ix with
    | tup h1 r1 => exact ⟨_, _, rfl, rp.sqT h1, by rw [← r1.length]; exact hl, Z, δ, μ, Q, xs, sl, rp, r1, q, f⟩
theorem ds_asg {tg : Expr} (he : DE X W e te) (hg : DG X tg g) (hs : swapsWithSole [tg] e pos.line X.env = pure false := by rfl) (hw : swappedStores [tg] e X.env = pure none := by rfl)
    (h1 : (assignEach [tg] X.env).map (·.2) = [assign tg X.env] := by rfl) : DS X W (.Assign [tg] e pos) (dAsg te g) :=
  ps_weak (ps_asg he hg hs hw h1) fun D σ H ⟨Z, δ, μ, E, R, sl, rp, q, fn, fr, fb, fc, fx⟩ => ⟨Z, δ, μ, _, R, sl, rp, q, fun v H1 Z1 x μ1 s1 r1 i1 h1 => ⟨Z1, δ, μ1, _, x, sl.mono s1.same, r1, i1, h1, fn.mono s1⟩, fx⟩
/-- o[i] = e, o a cell that is a list -/
def dSetIx (te to ti : TED) : TSD := fun E δ μ R => te δ μ (fun x μ1 => to δ μ1 (fun o μ2 => ti δ μ2 (fun i μ3 => ∃ a, o = .ref a ∧ ∃ k, i = .int k ∧ ∃ ds, μ3 a = some (.lst ds) ∧ ∃ j, ixN ds.length k = some j ∧ E.nx δ (mset μ3 a (.lst (ds.set j x)))) R) R) R
theorem ds_setIx {o i : Expr} {to ti : TED} {p2 : Pos} (he : DE X W e te) (ho : DE X W o to) (hi : DE X W i ti)
    (ha : ∀ v, assign (.Subscript o i p2) X.env v = (do
      let ov ← holding [v] (eval o X.env)
      let iv ← holding [v, ov] (eval i X.env)
      standAt p2
      holding [v, ov, iv] (setItem ov iv v)
      release [v, ov, iv] []) := by intro _; rfl)
    (hs : swapsWithSole [.Subscript o i p2] e pos.line X.env = pure false := by rfl) (hw : swappedStores [.Subscript o i p2] e X.env = pure none := by rfl)
    (h1 : (assignEach [.Subscript o i p2] X.env).map (·.2) = [assign (.Subscript o i p2) X.env] := by rfl) : DS X W (.Assign [.Subscript o i p2] e pos) (dSetIx te to ti) :=
  ps_weak (ps_asg he (pg_sub ho hi set_list ha) hs hw h1) fun D σ H ⟨Z, δ, μ, E, R, sl, rp, q, fn, fr, fb, fc, fx⟩ =>
    ⟨Z, δ, μ, _, R, sl, rp, q, fun v H1 Z1 x μ1 s1 r1 i1 h1 => ⟨Z1, δ, μ1, _, R, sl.mono s1.same, r1, h1, fun v2 H2 Z2 o μ2 s2 r2 i2 h2 => ⟨Z2, δ, μ2, _, R, (sl.mono s1.same).mono s2.same, r2, h2, fun v3 H3 Z3 i μ3 s3 r3 i3 h3 => by
      obtain ⟨a, ho, k, hi, ds, hm, j, hj, q3⟩ := h3
      subst ho
      subst hi
      cases i2
      cases i3
      obtain ⟨vs, hv, r⟩ := r3.cl hm
      refine ⟨a, vs, k, j, rfl, rfl, hv, by rw [← r.length]; exact hj, ?_⟩
      exact fn σ _ Z3 δ _ (((s1.trans s2).trans s3).trans (Gr.put hm _ _)) (r3.put hm (r.set j ((i1.mono s2.same).mono s3.same))) (((sl.mono s1.same).mono s2.same).mono s3.same) q3, (fx.mono s1).mono s2⟩, fx.mono s1⟩, fx⟩
end

/-! ### what is walked -/
/-- J gives ds, one after the other -/
def WalkD (K : PySem.W.Frag) (Z : Hp) (J : It) (ds : List D) : Prop :=
  ∃ (G : Hp → Prop) (Y : Nat → Hp → V → Hp → Prop), L2.Walk J ds.length G Y ∧ (∀ H, Same Z H → G H) ∧
    ∀ i H x H', i < ds.length → Y i H x H' → ∃ d, ds[i]? = some d ∧ ((H' = H ∧ IsD K Z d x) ∨ ∃ T vs es, H T = none ∧ H' = upd H T (.tup vs) ∧ x = .ref T ∧ d = .tup es ∧ IsDs K Z es vs)
theorem WalkD.mono {K : PySem.W.Frag} {Z Z' : Hp} {J : It} {ds : List D} (s : Same Z Z') (w : WalkD K Z J ds) : WalkD K Z' J ds := by
  obtain ⟨G, Y, w1, w2, w3⟩ := w
  refine ⟨G, Y, w1, fun H h => w2 H (s.trans h), fun i H x H' hi hy => ?_⟩
  obtain ⟨d, h1, h2⟩ := w3 i H x H' hi hy
  refine ⟨d, h1, ?_⟩
  rcases h2 with ⟨e, h⟩ | ⟨T, vs, es, e1, e2, e3, e4, h⟩
  · exact .inl ⟨e, h.mono s⟩
  · exact .inr ⟨T, vs, es, e1, e2, e3, e4, h.mono s⟩
/-- the item at its place in the frozen part -/
theorem WalkD.item {K : PySem.W.Frag} {Z H : Hp} {μ : Mu} {d : D} {x : V} {H' : Hp} (rp : Rep K H Z μ)
    (h : (H' = H ∧ IsD K Z d x) ∨ ∃ T vs es, H T = none ∧ H' = upd H T (.tup vs) ∧ x = .ref T ∧ d = .tup es ∧ IsDs K Z es vs) : ∃ Z', Same Z Z' ∧ Rep K H' Z' μ ∧ IsD K Z' d x := by
  rcases h with ⟨rfl, h⟩ | ⟨T, vs, es, e1, rfl, rfl, rfl, h⟩
  · exact ⟨Z, Same.refl _, rp, h⟩
  · exact ⟨_, (rp.new e1 _).2, (rp.new e1 _).1, new_tup rp e1 h⟩
abbrev TID := Dl → Mu → (List D → Mu → Prop) → RD → Prop
def upI (K : PySem.W.Frag) (W : WX) (t : TID) : TI := fun σ H R0 => ∃ Z δ μ Q R, SlD K Z σ δ ∧ Rep K H Z μ ∧ t δ μ Q R ∧ (∀ J H' Z' ds μ', Gr Z H μ Z' H' μ' → Rep K H' Z' μ' → WalkD K Z' J ds → Q ds μ' → R0 J H') ∧ FinR K W Z H μ R
abbrev DI (X : Cx) (W : WX) (tg e : Expr) (t : TID) : Prop := PI X tg e (upI X.K W t)
theorem pi_weak {X : Cx} {tg e : Expr} {t t' : TI} (p : PI X tg e t) (w : ∀ σ H R, t' σ H R → t σ H R) : PI X tg e t' := ⟨fun pins s σ H R I h => p.run pins s σ H R I (w σ H R h)⟩
/-- a sequence -/
def dSeqI (t : TED) : TID := fun δ μ Q R => t δ μ (fun x μ1 => ∃ ds, seqD μ1 x = some ds ∧ frz1 x μ1 ds Q) R
  where frz1 (x : D) (μ : Mu) (ds : List D) (Q : List D → Mu → Prop) : Prop := match x with
    | .ref a => Q ds (mdel μ a)
    | _ => Q ds μ
section
variable {X : Cx} {W : WX} {tg e : Expr} {te : TED} {K : PySem.W.Frag} {Z H : Hp} {μ : Mu}
theorem walk_l {a : Addr} {vs : List V} {ds : List D} (h : SqL K Z a vs) (r : IsDs K Z ds vs) : WalkD K Z (Itl K a) ds := by
  refine ⟨_, _, by rw [r.length]; exact walk_list (K := K) (a := a) (xs := vs), fun H s => s.seq h, fun i H x H' hi y => ?_⟩
  obtain ⟨d, h1, h2⟩ := r.got y.2
  exact ⟨d, h1, .inl ⟨y.1, h2⟩⟩
theorem walk_t {a : Addr} {vs : List V} {ds : List D} (h : SqT K Z a vs) (r : IsDs K Z ds vs) : WalkD K Z (Itt K a) ds := by
  refine ⟨_, _, by rw [r.length]; exact walk_tup (K := K) (a := a) (xs := vs), fun H s => Same.sqT s h, fun i H x H' hi y => ?_⟩
  obtain ⟨d, h1, h2⟩ := r.got y.2
  exact ⟨d, h1, .inl ⟨y.1, h2⟩⟩
/-- over a list (a cell is frozen with it) -/
theorem di_lst (h : DE X W e te) : DI X W tg e (fun δ μ Q R => te δ μ (fun x μ1 => frzD x μ1 fun y μ2 => (∃ ds, y = .lst ds ∧ Q ds μ2) ∨ ∃ ds, y = .rol ds ∧ Q ds μ2) R) :=
  pi_weak (pi_list (de_frz h)) fun σ H R0 ⟨Z, δ, μ, Q, R, sl, rp, q, f, fx⟩ => ⟨Z, δ, μ, _, R, sl, rp, q, fun v H1 Z1 x μ1 s1 r1 i1 h1 => by
    rcases h1 with ⟨ds, rfl, h1⟩ | ⟨ds, rfl, h1⟩
    · cases i1 with
      | lst z r => exact ⟨_, rfl, ⟨_, r1.lst z⟩, f _ H1 Z1 ds μ1 s1 r1 (walk_l (SqL.of z) r) h1⟩
    · cases i1 with
      | rol z r => exact ⟨_, rfl, ⟨_, r1.sqL z⟩, f _ H1 Z1 ds μ1 s1 r1 (walk_l z r) h1⟩, fx⟩
theorem di_tup (h : DE X W e te) : DI X W tg e (fun δ μ Q R => te δ μ (fun x μ1 => ∃ ds, x = .tup ds ∧ Q ds μ1) R) :=
  pi_weak (pi_tup h) fun σ H R0 ⟨Z, δ, μ, Q, R, sl, rp, q, f, fx⟩ => ⟨Z, δ, μ, _, R, sl, rp, q, fun v H1 Z1 x μ1 s1 r1 i1 h1 => by
    obtain ⟨ds, rfl, h1⟩ := h1
    cases i1 with
    | tup z r => exact ⟨_, rfl, ⟨_, r1.sqT z⟩, f _ H1 Z1 ds μ1 s1 r1 (walk_t z r) h1⟩, fx⟩
end
end DL

set_option Elab.async false
set_option linter.all false
set_option maxRecDepth 100000
set_option maxHeartbeats 2000000
/-! D layer: what is walked, for, while, comprehensions -/
namespace DL
open PySem L2

/-! ### any sequence or text -/
def iAny (K : PySem.W.Frag) (te : TE) : TI := fun σ H R => te σ H fun x H1 =>
  (∃ a, x = .ref a ∧ (((∃ xs, SqL K H1 a xs) ∧ R (Itl K a) H1) ∨ ((∃ xs, SqT K H1 a xs) ∧ R (Itt K a) H1))) ∨ ∃ z, x = .str z ∧ R (Its z) H1
theorem pi_any {X : Cx} {tg e : Expr} {te : TE} (he : PE X e te) : PI X tg e (iAny X.K te) := by
  refine ⟨fun pins s σ H R I h => ?_⟩
  refine thn (he.run pins s σ H _ I h) fun v s1 ⟨y, H1, I1, r1, q⟩ => ?_
  have own : ∀ b ∈ [s1.heap.objs.size], FpOk X pins H1 b := fun b hb => by
    have e : b = s1.heap.objs.size := by simpa using hb
    subst e
    exact I1.fpOk (Nat.le_refl _) (I1.hok.fresh (Nat.le_refl _))
  rcases q with ⟨a, rfl, ⟨⟨xs, hq⟩, q⟩ | ⟨⟨xs, hq⟩, q⟩⟩ | ⟨z, rfl, q⟩
  · cases r1
    obtain ⟨its, rv, p, hz⟩ := I1.list hq
    exact wpAny_pyIter_list p.isList ⟨_, _, _, _, H1, rfl, I1.kept (t' := s1.toks) fun b o e => Heap.get?_push_of_some _ e, turn_list a _, ⟨_, Heap.get?_push_size _ rfl, rfl, rfl⟩, own, q⟩
  · cases r1
    obtain ⟨its, rv, p, hz⟩ := I1.tuple hq
    exact wpAny_pyIter_tuple (show s1.heap.IsTuple a its.toArray from p) ⟨_, _, _, _, H1, rfl, I1.kept (t' := s1.toks) fun b o e => Heap.get?_push_of_some _ e, turn_tuple a _, ⟨_, Heap.get?_push_size _ rfl, rfl, rfl⟩, own, q⟩
  · obtain ⟨t, rfl⟩ := r1
    cases ha : z.cps.all (· < 128)
    · exact wpAny_pyIter_wide ha (pi_one (tk := s1.toks) I1 _ (turn_str _ z t "str_iterator" (.inr rfl)) ⟨_, Heap.get?_push_size _ rfl, rfl, rfl⟩ q)
    · exact wpAny_pyIter_ascii ha (pi_one (tk := s1.toks) I1 _ (turn_str _ z t "str_ascii_iterator" (.inl rfl)) ⟨_, Heap.get?_push_size _ rfl, rfl, rfl⟩ q)
def signs (z : Str) : List D := z.cps.toList.map fun c => .str ⟨#[c]⟩
/-- what a value gives when it is walked; a cell is frozen with it -/
def iterD (x : D) (μ : Mu) (Q : List D → Mu → Prop) : Prop := match x with
  | .str z => Q (signs z) μ
  | .lst ds => Q ds μ
  | .rol ds => Q ds μ
  | .tup ds => Q ds μ
  | .ref a => ∃ ds, μ a = some (.lst ds) ∧ Q ds (mdel μ a)
  | _ => False
def dI (t : TED) : TID := fun δ μ Q R => t δ μ (fun x μ1 => iterD x μ1 Q) R
section
variable {X : Cx} {W : WX} {tg e : Expr} {te : TED} {K : PySem.W.Frag} {Z H : Hp} {μ : Mu} {Q : List D → Mu → Prop} {R0 : It → Hp → Prop}
theorem walk_s {z : Str} : WalkD K Z (Its z) (signs z) := by
  refine ⟨_, _, by rw [signs, List.length_map]; exact walk_str, fun H s => trivial, fun i H x H' hi y => ?_⟩
  obtain ⟨e, c, h1, rfl⟩ := y
  have h2 : z.cps.toList[i]? = some c := by simpa using h1
  exact ⟨.str ⟨#[c]⟩, by rw [signs, List.getElem?_map, h2]; rfl, .inl ⟨e, .str _⟩⟩
theorem iter_ok {x : D} {v : V} (rp : Rep K H Z μ) (i : IsD K Z x v) (h : iterD x μ Q) (f : ∀ J H' Z' ds μ', Gr Z H μ Z' H' μ' → Rep K H' Z' μ' → WalkD K Z' J ds → Q ds μ' → R0 J H') :
    (∃ a, v = .ref a ∧ (((∃ xs, SqL K H a xs) ∧ R0 (Itl K a) H) ∨ ((∃ xs, SqT K H a xs) ∧ R0 (Itt K a) H))) ∨ ∃ z, v = .str z ∧ R0 (Its z) H := by
  unfold iterD at h
  split at h
  · cases i; exact .inr ⟨_, rfl, f _ _ _ _ _ (Gr.refl _ _ _) rp walk_s h⟩
  · cases i with | lst z r => exact .inl ⟨_, rfl, .inl ⟨⟨_, rp.lst z⟩, f _ _ _ _ _ (Gr.refl _ _ _) rp (walk_l (SqL.of z) r) h⟩⟩
  · cases i with | rol z r => exact .inl ⟨_, rfl, .inl ⟨⟨_, rp.sqL z⟩, f _ _ _ _ _ (Gr.refl _ _ _) rp (walk_l z r) h⟩⟩
  · cases i with | tup z r => exact .inl ⟨_, rfl, .inr ⟨⟨_, rp.sqT z⟩, f _ _ _ _ _ (Gr.refl _ _ _) rp (walk_t z r) h⟩⟩
  · cases i
    obtain ⟨ds, h1, h2⟩ := h
    obtain ⟨vs, r2, s2, i2⟩ := rp.frz h1
    cases i2 with
    | lst z r => exact .inl ⟨_, rfl, .inl ⟨⟨_, r2.lst z⟩, f _ _ _ _ _ (Gr.del h1 s2) r2 (walk_l (SqL.of z) r) h2⟩⟩
  · exact h.elim
theorem di (h : DE X W e te) : DI X W tg e (dI te) :=
  pi_weak (pi_any h) fun σ H R0 ⟨Z, δ, μ, Q, R, sl, rp, q, f, fx⟩ => ⟨Z, δ, μ, _, R, sl, rp, q, fun v H1 Z1 x μ1 s1 r1 i1 h1 => iter_ok r1 i1 h1 fun J H' Z' ds μ' s2 => f J H' Z' ds μ' (s1.trans s2), fx⟩
end
/-! ### range -/
def rangeD (lo : Int) (n : Nat) : List D := (List.range n).map fun k => .int (lo + (k : Nat))
theorem rangeD_length (lo : Int) (n : Nat) : (rangeD lo n).length = n := by simp [rangeD]
def dRng1 (t : TAD) : TID := fun δ μ Q R => t δ μ (fun xs μ1 => ∃ j, xs = [.int j] ∧ -(2 ^ 62) ≤ j ∧ j < 2 ^ 62 ∧ Q (rangeD 0 j.toNat) μ1) R
def dRng2 (t : TAD) : TID := fun δ μ Q R => t δ μ (fun xs μ1 => ∃ i j, xs = [.int i, .int j] ∧ (-(2 ^ 62) ≤ i ∧ i < 2 ^ 62 ∧ -(2 ^ 62) ≤ j ∧ j < 2 ^ 62) ∧ Q (rangeD i (j - i).toNat) μ1) R
section
variable {X : Cx} {W : WX} {tg a b : Expr} {t : TAD} {K : PySem.W.Frag} {Z : Hp} {p pos : Pos}
theorem walk_r {lo : Int} {n : Nat} : WalkD K Z (Itr lo n) (rangeD lo n) := by
  refine ⟨_, _, by rw [rangeD_length]; exact walk_range, fun H s => trivial, fun i H x H' hi y => ?_⟩
  rw [rangeD_length] at hi
  exact ⟨.int (lo + (i : Nat)), by rw [rangeD, List.getElem?_map, List.getElem?_range hi]; rfl, .inl ⟨y.1, by rw [y.2]; exact .int _⟩⟩
theorem di_rng1 (hg : Gl X "range") (hm : X.mg "range" = none) (ha : DA X W [a] t) (hs : starEach [a] X.env = [(false, eval a X.env)] := by rfl) : DI X W tg (.Call (.Name "range" p) [a] [] pos) (dRng1 t) :=
  pi_weak (pi_range1 hg hm ha hs) fun σ H R0 ⟨Z, δ, μ, Q, R, sl, rp, q, f, fx⟩ => ⟨Z, δ, μ, _, R, sl, rp, q, fun v H1 Z1 x μ1 s1 r1 i1 h1 => by
    obtain ⟨j, rfl, h2, h3, h4⟩ := h1
    obtain ⟨w, ws, rfl, j1, j2⟩ := i1.inv_cons
    cases j1; cases j2
    exact ⟨j, rfl, h2, h3, f _ H1 Z1 _ μ1 s1 r1 walk_r h4⟩, fx⟩
theorem di_rng2 (hg : Gl X "range") (hm : X.mg "range" = none) (ha : DA X W [a, b] t) (hs : starEach [a, b] X.env = [(false, eval a X.env), (false, eval b X.env)] := by rfl) (hs2 : starEach [b] X.env = [(false, eval b X.env)] := by rfl) :
    DI X W tg (.Call (.Name "range" p) [a, b] [] pos) (dRng2 t) :=
  pi_weak (pi_range2 hg hm ha hs hs2) fun σ H R0 ⟨Z, δ, μ, Q, R, sl, rp, q, f, fx⟩ => ⟨Z, δ, μ, _, R, sl, rp, q, fun v H1 Z1 x μ1 s1 r1 i1 h1 => by
    obtain ⟨i, j, rfl, h2, h4⟩ := h1
    obtain ⟨w, ws, rfl, j1, j2⟩ := i1.inv_cons
    cases j1
    obtain ⟨w, ws, rfl, j1, j3⟩ := j2.inv_cons
    cases j1; cases j3
    exact ⟨i, j, rfl, h2, f _ H1 Z1 _ μ1 s1 r1 walk_r h4⟩, fx⟩
end

/-! ### for -/
def forD (g : TGD) (tb : TSD) (R : RD) (E : EndD) : List D → Dl → Mu → Prop
  | [], δ, μ => E.nx δ μ
  | d :: ds, δ, μ => g d δ μ fun δ1 μ1 => tb { E with nx := forD g tb R E ds, ct := forD g tb R E ds, bk := E.nx } δ1 μ1 R
def dFor (ti : TID) (g : TGD) (tb : TSD) : TSD := fun E δ μ R => ti δ μ (fun ds μ1 => forD g tb R E ds δ μ1) R
section
variable {X : Cx} {W : WX} {tg e : Expr} {body : List Stmt} {ti : TID} {g : TGD} {tb : TSD} {pos : Pos}
theorem ds_for (hp : PassesOwn (model X.prog X.w) X.A X.env X.xe) (hc : X.calm = true) (hi : DI X W tg e ti) (hg : DG X tg g) (hb : DSs X W body tb) (hs : ∀ x, foldedSetIterable e X.env x = pure x := by intro _; rfl) :
    DS X W (.For tg e body [] pos) (dFor ti g tb) :=
  ps_weak (ps_for hp hc hi hg hb hs) fun D σ H ⟨Z, δ, μ, E, R, sl, rp, q, fn, fr, fb, fc, fx⟩ => ⟨Z, δ, μ, _, R, sl, rp, q, fun J H1 Z1 ds μ1 s1 r1 wk h1 => by
    obtain ⟨G, Y, w1, w2, w3⟩ := wk
    refine for_it w1 (fun i σ' H' => ∃ Z' δ' μ', Gr Z1 H1 μ1 Z' H' μ' ∧ Rep X.K H' Z' μ' ∧ SlD X.K Z' σ' δ' ∧ forD g tb R E (ds.drop i) δ' μ')
      ⟨Z1, δ, μ1, Gr.refl _ _ _, r1, sl.mono s1.same, h1⟩ (fun i σ' H' hi ⟨Z', δ', μ', s, r, _, _⟩ => w2 H' (s.same.trans r.sub)) ?_ ?_
    · intro i x σ' H' H2 hi ⟨Z', δ', μ', s, r, sl', h⟩ hy
      obtain ⟨d, hd, hitem⟩ := w3 i H' x H2 hi hy
      have e1 : ds.drop i = d :: ds.drop (i + 1) := by
        obtain ⟨hl, he⟩ := List.getElem?_eq_some_iff.mp hd
        rw [← he]
        exact List.drop_eq_getElem_cons hl
      rw [e1] at h
      have hit2 : ∃ Z2, Gr Z' H' μ' Z2 H2 μ' ∧ Rep X.K H2 Z2 μ' ∧ IsD X.K Z2 d x := by
        rcases hitem with ⟨rfl, hx⟩ | ⟨T, vs, es, eT, rfl, rfl, rfl, hx⟩
        · exact ⟨Z', Gr.refl _ _ _, r, hx.mono s.same⟩
        · exact ⟨_, r.gr_new eT _, (r.new eT _).1, new_tup r eT (hx.mono s.same)⟩
      obtain ⟨Z2, s2, r2, ix⟩ := hit2
      refine ⟨Z2, δ', μ', _, d, sl'.mono s2.same, r2, ix, h, fun σ3 H3 Z3 δ3 μ3 s3 r3 sl3 h3 => ?_⟩
      have sA := (s.trans s2).trans s3
      have sB := s1.trans sA
      refine ⟨Z3, δ3, μ3, _, R, sl3, r3, h3, fun σ4 H4 Z4 δ4 μ4 s4 r4 sl4 h4 => ⟨Z4, δ4, μ4, sA.trans s4, r4, sl4, h4⟩, fr.mono sB, fn.mono sB, fun σ4 H4 Z4 δ4 μ4 s4 r4 sl4 h4 => ⟨Z4, δ4, μ4, sA.trans s4, r4, sl4, h4⟩, fx.mono sB⟩
    · intro σ' H' ⟨Z', δ', μ', s, r, sl', h⟩
      rw [List.drop_length] at h
      exact fn σ' H' Z' δ' μ' (s1.trans s) r sl' h, fx⟩
end

/-! ### while: an invariant with a measure -/
def dWhile (c : TTD) (tb : TSD) : TSD := fun E δ μ R => ∃ Wm : Nat → Dl → Mu → Prop, (∃ m, Wm m δ μ) ∧ ∀ m δ μ, Wm m δ μ →
  c δ μ (fun b μ1 => if b = true then tb { E with nx := fun δ' μ' => ∃ m', m' < m ∧ Wm m' δ' μ', ct := fun δ' μ' => ∃ m', m' < m ∧ Wm m' δ' μ', bk := E.nx } δ μ1 R else E.nx δ μ1) R
section
variable {X : Cx} {W : WX} {c : Expr} {body : List Stmt} {tc : TTD} {tb : TSD} {pos : Pos}
theorem ds_while (hp : PassesOwn (model X.prog X.w) X.A X.env X.xe) (hc : DT X W c tc) (hb : DSs X W body tb) : DS X W (.While c body [] pos) (dWhile tc tb) :=
  ps_weak (ps_while hp hc hb) fun D σ H ⟨Z, δ, μ, E, R, sl, rp, ⟨Wm, ⟨m0, h0⟩, hW⟩, fn, fr, fb, fc, fx⟩ => by
    refine ⟨fun m σ' H' => ∃ Z' δ' μ', Gr Z H μ Z' H' μ' ∧ Rep X.K H' Z' μ' ∧ SlD X.K Z' σ' δ' ∧ Wm m δ' μ', ⟨m0, Z, δ, μ, Gr.refl _ _ _, rp, sl, h0⟩, fun m σ' H' ⟨Z', δ', μ', s, r, sl', h⟩ => ?_⟩
    refine ⟨Z', δ', μ', _, R, sl', r, hW m δ' μ' h, fun b H1 Z1 μ1 s1 r1 h1 => ?_, fx.mono s⟩
    cases b with
    | false => exact fn _ H1 Z1 δ' μ1 (s.trans s1) r1 (sl'.mono s1.same) h1
    | true =>
      have sA := s.trans s1
      refine ⟨fun σ2 H2 => ∃ Z2 δ2 μ2, Gr Z H μ Z2 H2 μ2 ∧ Rep X.K H2 Z2 μ2 ∧ SlD X.K Z2 σ2 δ2 ∧ ∃ m', m' < m ∧ Wm m' δ2 μ2, fun σ2 H2 ⟨Z2, δ2, μ2, s2, r2, sl2, m', hm, hw⟩ => ⟨m', hm, Z2, δ2, μ2, s2, r2, sl2, hw⟩, ?_⟩
      exact ⟨Z1, δ', μ1, _, R, sl'.mono s1.same, r1, h1, fun σ2 H2 Z2 δ2 μ2 s2 r2 sl2 h2 => ⟨Z2, δ2, μ2, sA.trans s2, r2, sl2, h2⟩, fr.mono sA, fn.mono sA, fun σ2 H2 Z2 δ2 μ2 s2 r2 sl2 h2 => ⟨Z2, δ2, μ2, sA.trans s2, r2, sl2, h2⟩, fx.mono sA⟩
end
end DL

set_option Elab.async false
set_option linter.all false
set_option maxRecDepth 100000
set_option maxHeartbeats 2000000
/-! D layer: list comprehensions with one clause -/
namespace DL
open PySem L2

def wipeD (δ : Dl) : List Nat → Dl
  | [] => δ
  | v :: vs => (wipeD δ vs).set v none
theorem wipe_slD {K : PySem.W.Frag} {Z : Hp} {σ : St} {δ : Dl} (s : SlD K Z σ δ) : ∀ vs : List Nat, SlD K Z (wipe σ vs) (wipeD δ vs)
  | [] => s
  | v :: vs => (wipe_slD s vs).unset v
theorem wipe_set (σ : St) (i : Nat) (x : Option V) : ∀ vs : List Nat, wipe (σ.set i x) vs = if i ∈ vs then wipe σ vs else (wipe σ vs).set i x
  | [] => by simp [wipe]
  | v :: vs => by
    rw [wipe, wipe, wipe_set σ i x vs]
    by_cases e : i = v
    · subst e
      simp only [List.mem_cons, true_or, if_true]
      split
      · rfl
      · rw [List.set_set]
    · by_cases m : i ∈ vs
      · simp [m]
      · simp only [m, List.mem_cons, e, or_self, if_false]
        exact (List.set_comm _ _ (by omega))
theorem wipe_set_in {σ : St} {i : Nat} {x : Option V} {vs : List Nat} (h : i ∈ vs) : wipe (σ.set i x) vs = wipe σ vs := by rw [wipe_set, if_pos h]
theorem wipe_wipe {σ : St} : ∀ {vs ws : List Nat}, (∀ v ∈ ws, v ∈ vs) → wipe (wipe σ ws) vs = wipe σ vs
  | vs, [], _ => rfl
  | vs, w :: ws, h => by
    rw [wipe, wipe_set_in (h w (by simp))]
    exact wipe_wipe fun v hv => h v (by simp [hv])

/-- targets of a comprehension: they store nothing but its own names -/
def upGw (K : PySem.W.Frag) (vs : List Nat) (g : TGD) : TG := fun v σ H Q0 => ∃ Z δ μ Q x, SlD K Z σ δ ∧ Rep K H Z μ ∧ IsD K Z x v ∧ g x δ μ Q ∧ ∀ σ' H' Z' δ' μ', Gr Z H μ Z' H' μ' → Rep K H' Z' μ' → SlD K Z' σ' δ' → wipe σ' vs = wipe σ vs → Q δ' μ' → Q0 σ' H'
def upGsw (K : PySem.W.Frag) (vs : List Nat) (g : TGsD) : TGs := fun ws σ H Q0 => ∃ Z δ μ Q xs, SlD K Z σ δ ∧ Rep K H Z μ ∧ IsDs K Z xs ws ∧ g xs δ μ Q ∧ ∀ σ' H' Z' δ' μ', Gr Z H μ Z' H' μ' → Rep K H' Z' μ' → SlD K Z' σ' δ' → wipe σ' vs = wipe σ vs → Q δ' μ' → Q0 σ' H'
abbrev DGw (X : Cx) (vs : List Nat) (tg : Expr) (g : TGD) : Prop := PG X tg (upGw X.K vs g)
abbrev DGsw (X : Cx) (vs : List Nat) (tgs : List Expr) (g : TGsD) : Prop := PGs X tgs (upGsw X.K vs g)
section
variable {X : Cx} {e : Expr} {es : List Expr} {g : TGD} {gs : TGsD} {pos : Pos} {vs : List Nat}
theorem dgw_name {i : Nat} {x : Str} (hv : i ∈ vs) (hN : X.N.Nodup) (hi : X.N[i]? = some x) (hx : Loc X.env.scope x) (hf : X.fn x = true ∨ X.env.scope.names.lookup x = some .local := by first | exact .inl rfl | exact .inr rfl | assumption) : DGw X vs (.Name x pos) (gdName i) :=
  pg_weak (pg_name hN hi hx hf) fun v σ H Q0 ⟨Z, δ, μ, Q, x, sl, rp, ix, q, f⟩ => f _ H Z _ μ (Gr.refl _ _ _) rp (sl.set i ix) (wipe_set_in hv) q
theorem dgsw_nil : DGsw X vs [] gdNil := pgs_weak pgs_nil fun v σ H Q0 ⟨Z, δ, μ, Q, xs, sl, rp, ix, ⟨h, q⟩, f⟩ => by
  subst h
  cases ix
  exact ⟨rfl, f _ H Z _ μ (Gr.refl _ _ _) rp sl rfl q⟩
theorem dgsw_cons (h1 : DGw X vs e g) (h2 : DGsw X vs es gs) (hs : (assignEach (e :: es) X.env).map (·.2) = assign e X.env :: (assignEach es X.env).map (·.2) := by rfl) : DGsw X vs (e :: es) (gdCons g gs) :=
  pgs_weak (pgs_cons h1 h2 hs) fun v σ H Q0 ⟨Z, δ, μ, Q, xs, sl, rp, ix, ⟨x, r, h, q⟩, f⟩ => by
    subst h
    obtain ⟨w, ws, rfl, i1, i2⟩ := ix.inv_cons
    exact ⟨w, ws, rfl, Z, δ, μ, _, x, sl, rp, i1, q, fun σ1 H1 Z1 δ1 μ1 s1 r1 sl1 w1 h1 => ⟨Z1, δ1, μ1, Q, r, sl1, r1, i2.mono s1.same, h1, fun σ2 H2 Z2 δ2 μ2 s2 r2 sl2 w2 h2 => f σ2 H2 Z2 δ2 μ2 (s1.trans s2) r2 sl2 (w2.trans w1) h2⟩⟩
theorem dgw_tup {k : Nat} {n : Nat} (hc : X.calm = true) (h : DGsw X vs es gs) (hn : (assignEach es X.env).length = n := by rfl) (hst : (assignEach es X.env).findIdx? (·.1) = none := by rfl) : DGw X vs (.Tuple es k pos) (gdTup n gs) :=
  pg_weak (pg_tup hc h hn hst) fun v σ H Q0 ⟨Z, δ, μ, Q, x, sl, rp, ix, ⟨xs, h, hl, q⟩, f⟩ => by
    subst h
    cases ix with
    | tup h1 r1 => exact ⟨_, _, rfl, rp.sqT h1, by rw [← r1.length]; exact hl, Z, δ, μ, Q, xs, sl, rp, r1, q, f⟩
end
/-- the tests of a clause -/
abbrev W0 : WX := fun _ _ _ _ => False
abbrev R0 : RD := fun _ _ _ _ => False
theorem finR0 {K : PySem.W.Frag} {Z H : Hp} {μ : Mu} : FinR K W0 Z H μ R0 := fun _ _ _ _ _ _ _ _ _ _ _ _ h => h
abbrev DTs (X : Cx) (es : List Expr) (t : TTD) : Prop := PTs X es (upT X.K W0 t)
def dYes : TTD := fun _ μ Q _ => Q true μ
theorem pts_weak {X : Cx} {e : List Expr} {t t' : TT} (p : PTs X e t) (w : ∀ σ H Q, t' σ H Q → t σ H Q) : PTs X e t' := ⟨fun pins s σ H Q I h => p.run pins s σ H Q I (w σ H Q h)⟩
theorem dts_nil {X : Cx} : DTs X [] dYes := pts_weak pts_nil fun σ H Q0 ⟨Z, δ, μ, Q, R, sl, rp, q, f, fx⟩ => f true H Z μ (Gr.refl _ _ _) rp q
theorem dts_one {X : Cx} {c : Expr} {t : TTD} (h : DT X W0 c t) : DTs X [c] t := pts_one h

def compD (g : TGD) (tt : TTD) (te : TED) (δ : Dl) (Q : List D → Mu → Prop) : List D → List D → Mu → Prop
  | [], acc, μ => Q acc μ
  | d :: ds, acc, μ => g d δ μ fun δ2 μ2 => tt δ2 μ2 (fun b μ3 => if b = true then te δ2 μ3 (fun y μ4 => acc.length < sizeLine ∧ compD g tt te δ Q ds (acc ++ [y]) μ4) R0 else compD g tt te δ Q ds acc μ3) R0
/-- [te for g in ti if tt] -/
def dComp (c : Bool) (ti : TID) (g : TGD) (tt : TTD) (te : TED) (vs : List Nat) : TED := fun δ μ Q R => ti δ μ (fun ds μ1 => compD g tt te (wipeD δ vs) (fun acc μ2 => mkL c acc μ2 Q) ds [] μ1) R
section
variable {K : PySem.W.Frag} {W : WX} {σ : St} {H : Hp} {Q0 : VK} {ti : TID} {g : TGD} {tt : TTD} {te : TED} {vs : List Nat}
theorem up_comp {c : Bool} (u : up K W (dComp c ti g tt te vs) σ H Q0) : tLc (upI K W ti) (upGw K vs g) (upT K W0 tt) (up K W0 te) vs σ H Q0 := by
  obtain ⟨Z, δ, μ, Q, R, sl, rp, q, f, fr⟩ := u
  refine ⟨Z, δ, μ, _, R, sl, rp, q, fun J H1 Z1 ds μ1 s1 r1 wk h1 => fun Dl hD => ?_, fr⟩
  obtain ⟨G, Y, w1, w2, w3⟩ := wk
  have nA := r1.no_area hD
  have zD := (r1.fresh hD).1
  refine lc_it w1 (fun i H' => ∃ Z' μ' acc accV, Gr Z1 H1 μ1 Z' H' μ' ∧ Rep K H' Z' μ' ∧ H' Dl = some (.lst accV) ∧ IsDs K Z' acc accV ∧ Z' Dl = none ∧ ¬ Area μ' Dl ∧ compD g tt te (wipeD δ vs) (fun acc μ2 => mkL c acc μ2 Q) (ds.drop i) acc μ')
    ⟨Z1, μ1, [], [], ⟨Same.refl _, fun a o e _ => by rw [upd_ne (ne_of_none e hD)]; exact e, fun _ h => .inl h, fun _ _ h => .inl h⟩, r1.other nA zD, upd_same, .nil, zD, nA, h1⟩
    (fun i H' hi ⟨Z', μ', acc, accV, s, r, _⟩ => w2 H' (s.same.trans r.sub)) ?_ ?_
  · intro i x H' H2 hi ⟨Z', μ', acc, accV, s, r, hL, hacc, z, n, h⟩ hy
    obtain ⟨d, hd, hitem⟩ := w3 i H' x H2 hi hy
    have e1 : ds.drop i = d :: ds.drop (i + 1) := by
      obtain ⟨hl, he⟩ := List.getElem?_eq_some_iff.mp hd
      rw [← he]
      exact List.drop_eq_getElem_cons hl
    rw [e1] at h
    have hit2 : ∃ Z2, Gr Z' H' μ' Z2 H2 μ' ∧ Rep K H2 Z2 μ' ∧ IsD K Z2 d x := by
      rcases hitem with ⟨rfl, hx⟩ | ⟨T, vs, es, eT, rfl, rfl, rfl, hx⟩
      · exact ⟨Z', Gr.refl _ _ _, r, hx.mono s.same⟩
      · exact ⟨_, r.gr_new eT _, (r.new eT _).1, new_tup r eT (hx.mono s.same)⟩
    obtain ⟨Z2, s2, r2, ix⟩ := hit2
    refine ⟨Z2, _, μ', _, d, ((wipe_slD (sl.mono s1.same) vs).mono s.same).mono s2.same, r2, ix, h, fun σ3 H3 Z3 δ3 μ3 s3 r3 sl3 w3 h3 => ?_⟩
    refine ⟨w3.trans (wipe_wipe fun _ h => h), Z3, δ3, μ3, _, R0, sl3, r3, h3, fun b H4 Z4 μ4 s4 r4 h4 => ?_, finR0⟩
    have sA := (s2.trans s3).trans s4
    have lst4 : H4 Dl = some (.lst accV) := sA.keep _ _ hL n
    have area4 : ¬ Area μ4 Dl := fun y => (sA.area _ y).elim n fun e => by rw [hL] at e; cases e
    have z4 : Z4 Dl = none := by
      cases e : Z4 Dl with
      | none => rfl
      | some o =>
        rcases sA.zone _ _ e with y | y | y
        · rw [z] at y; cases y
        · exact absurd y n
        · rw [hL] at y; cases y
    cases b with
    | false => exact ⟨Z4, μ4, acc, accV, s.trans sA, r4, lst4, hacc.mono sA.same, z4, area4, h4⟩
    | true =>
      refine ⟨Z4, δ3, μ4, _, R0, sl3.mono s4.same, r4, h4, fun v H5 Z5 y μ5 s5 r5 i5 h5 => ?_, finR0⟩
      have lst5 : H5 Dl = some (.lst accV) := s5.keep _ _ lst4 area4
      have area5 : ¬ Area μ5 Dl := fun y => (s5.area _ y).elim area4 fun e => by rw [lst4] at e; cases e
      have z5 : Z5 Dl = none := by
        cases e : Z5 Dl with
        | none => rfl
        | some o =>
          rcases s5.zone _ _ e with y | y | y
          · rw [z4] at y; cases y
          · exact absurd y area4
          · rw [lst4] at y; cases y
      have sB := s.trans (sA.trans s5)
      refine ⟨accV, lst5, by rw [← (hacc.length)]; exact h5.1, Z5, μ5, acc ++ [y], accV ++ [v], ⟨sB.same, fun a o e na => ?_, sB.area, sB.zone⟩, r5.other area5 z5, upd_same, (hacc.mono (sA.trans s5).same).append (.cons i5 .nil), z5, area5, h5.2⟩
      rw [upd_ne (ne_of_none e hD)]
      exact sB.keep a o e na
  · intro H' ⟨Z', μ', acc, accV, s, r, hL, hacc, z, n, h⟩
    rw [List.drop_length] at h
    have sB := s1.trans s
    cases c with
    | false =>
      obtain ⟨r3, s3⟩ := r.freeze hL n z
      refine f _ H' _ _ μ' (s1.trans ⟨s.same.trans s3, s.keep, s.area, fun a o e => ?_⟩) r3 (.lst upd_same (hacc.mono s3)) h
      by_cases q : a = Dl
      · subst q; exact .inr (.inr hD)
      · rw [upd_ne q] at e; exact s.zone a o e
    | true =>
      have m0 : μ' Dl = none := by
        cases e : μ' Dl with
        | none => rfl
        | some c => exact absurd ⟨Dl, c, e, .inl rfl⟩ n
      refine f _ H' _ _ _ (s1.trans ⟨s.same, s.keep, fun a ha => ?_, s.zone⟩) (r.become hL n z hacc) (.ref Dl) (h Dl m0)
      rcases area_set ha with y | y | y
      · exact s.area a y
      · rw [y]; exact .inr hD
      · cases y
end
section
variable {X : Cx} {W : WX} {elt tg iter : Expr} {ifs : List Expr} {scope : Scope} {own : List (Str × Nat)} {pos : Pos} {ti : TID} {g : TGD} {tt : TTD} {te : TED}
theorem de_comp (c : Bool) (hc : X.calm = true) (hN : X.N.Nodup) (hi : DI X W tg iter ti) (ok : BlkOk X.N X.env.scope scope own)
    (hg : ∀ (s : Shared) (H : Hp) (C : Addr) (cl : List (Str × Addr)) (fp : List Addr), DGw (X.blk s H scope (compEnvC scope cl C X.env) fp) (own.map (·.2)) tg g)
    (ht : ∀ (s : Shared) (H : Hp) (C : Addr) (cl : List (Str × Addr)) (fp : List Addr), DTs (X.blk s H scope (compEnvC scope cl C X.env) fp) ifs tt)
    (he : ∀ (s : Shared) (H : Hp) (C : Addr) (cl : List (Str × Addr)) (fp : List Addr), DE (X.blk s H scope (compEnvC scope cl C X.env) fp) W0 elt te) (hs : ∀ x, foldedSetIterable iter X.env x = pure x := by intro _; rfl) :
    DE X W (.ListComp elt [⟨tg, iter, ifs, 0⟩] scope pos) (dComp c ti g tt te (own.map (·.2))) :=
  pe_weak (pe_lc hc hN hi ok hg ht he hs) fun σ H Q0 => up_comp
/-- y = [..] -/
theorem ds_setComp {i : Nat} {y : Str} {py spos : Pos} (c : Bool) (hc : X.calm = true) (hN : X.N.Nodup) (hy : X.N[i]? = some y) (hyl : X.env.scope.names.lookup y = some .local)
    (hsw : swapsWith (.ListComp elt [⟨tg, iter, ifs, 0⟩] scope pos) (some (.Name y py)) spos.line X.env = pure true) (hi : DI X W tg iter ti) (ok : BlkOk X.N X.env.scope scope own)
    (hg : ∀ (s : Shared) (H : Hp) (C : Addr) (cl : List (Str × Addr)) (fp : List Addr), DGw (X.blk s H scope (compEnvC scope cl C X.env) fp) (own.map (·.2)) tg g)
    (ht : ∀ (s : Shared) (H : Hp) (C : Addr) (cl : List (Str × Addr)) (fp : List Addr), DTs (X.blk s H scope (compEnvC scope cl C X.env) fp) ifs tt)
    (he : ∀ (s : Shared) (H : Hp) (C : Addr) (cl : List (Str × Addr)) (fp : List Addr), DE (X.blk s H scope (compEnvC scope cl C X.env) fp) W0 elt te) (hs : ∀ x, foldedSetIterable iter X.env x = pure x := by intro _; rfl) :
    DS X W (.Assign [.Name y py] (.ListComp elt [⟨tg, iter, ifs, 0⟩] scope pos) spos) (dSet i (dComp c ti g tt te (own.map (·.2)))) :=
  ps_weak (ps_setLc hc hN hy hyl hsw hi ok hg ht he hs) fun D σ H ⟨Z, δ, μ, E, R, sl, rp, q, fn, fr, fb, fc, fx⟩ =>
    up_comp (Q0 := fun x H1 => gName i x σ H1 D.nx) ⟨Z, δ, μ, _, R, sl, rp, q, fun v H1 Z1 x μ1 s1 r1 i1 h1 => fn _ H1 Z1 _ μ1 s1 r1 ((sl.mono s1.same).set i i1) h1, fx⟩
end
end DL

set_option Elab.async false
set_option linter.all false
set_option maxRecDepth 100000
set_option maxHeartbeats 2000000
/-! D layer: promises, calls of defs, a def by its body -/
namespace DL
open PySem L2

/-- a promise by data -/
def liftD (K : PySem.W.Frag) (dsp : DSp) : Sp := fun vs H Q E => ∃ Z ds μ QQ Rx, Rep K H Z μ ∧ IsDs K Z ds vs ∧ dsp ds μ QQ Rx ∧ Fin K Z H μ QQ Q ∧
  ∀ c dd H' Z' fs μ', Gr Z H μ Z' H' μ' → Rep K H' Z' μ' → XAt K Z' dd fs → Rx c fs μ' → E (.ref (He.ga K c)) dd H'
abbrev FnD (P : Program) (w : World) (K : PySem.W.Frag) (mg : Str → Option Value) (base : Heap) (k : Nat) (f : Addr) (dsp : DSp) : Prop := FnR P w K mg base (L2.CX P w) k f (liftD K dsp)
theorem FnD.weak {P : Program} {w : World} {K : PySem.W.Frag} {mg : Str → Option Value} {base : Heap} {k : Nat} {f : Addr} {dsp dsp' : DSp} (F : FnD P w K mg base k f dsp) (h : ∀ ds μ Q R, dsp' ds μ Q R → dsp ds μ Q R) : FnD P w K mg base k f dsp' :=
  F.imp fun vs H Q E ⟨Z, ds, μ, QQ, Rx, rp, i, q, f, x⟩ => ⟨Z, ds, μ, QQ, Rx, rp, i, h _ _ _ _ q, f, x⟩

section
variable {X : Cx} {pins : List (Addr × Obj)} {σ : St} {H : Hp} {s : Shared}
theorem run_S {CX : CXT} {k : Nat} {f : Addr} {sp : Sp} {E : XK} {Q : VK} {us : List Value} {vs : List V} (F : FnR X.prog X.w X.K X.mg X.base CX k f sp) (hr : Room k X.A) (hx : PassesAt CX X σ E) (I : Inv X pins σ H s) (r : Vals vs us) (h : sp vs H Q E) :
    codeAny (model X.prog X.w) X.A (.call (.ref f) ⟨us, []⟩) (fun r s' => match r with | .ok (.ret v) => EP X pins σ Q v s' | .ok _ => False | .error e => X.xe e s') s :=
  codeAny_mono (F X.A X.stack s H us vs Q E hr I.env0 r h) fun r s' hq => match r with
    | .error e => hx pins H s e s' I hq
    | .ok (.ret u) => I.after hq
    | .ok .next => False.elim hq
    | .ok .brk => False.elim hq
    | .ok .cont => False.elim hq
end
section
variable {X : Cx} {W : WX} {k : Nat} {f : Addr} {dsp : DSp} {x : Str} {e : Expr} {es : List Expr} {t : TAD} {p pos : Pos}
def dCall (dsp : DSp) (t : TAD) : TED := fun δ μ Q R => t δ μ (fun ds μ1 => dsp ds μ1 Q (R δ)) R
theorem de_call (F : FnD X.prog X.w X.K X.mg X.base k f dsp) (hr : Room k X.A) (tk : Takes X W) (hk : PySem.W.keepIn X.K (.ref f) = true) (hg : Gl X x) (hm : X.mg x = some (.ref f)) (ha : DA X W (e :: es) t) (hd : (x == ("__debug__" : Str)) = false := by decide)
    (he : starEach (e :: es) X.env = (false, eval e X.env) :: starEach es X.env := by rfl) (hpl : (backTo pos (starEach es X.env)).any (·.1) = false := by rfl) : DE X W (.Call (.Name x p) (e :: es) [] pos) (dCall dsp t) := by
  refine ⟨fun pins s σ H Q0 I ⟨Z, δ, μ, Q, R, sl, rp, q, f, fx⟩ => ?_⟩
  refine wpAny_Call_Name_kw (ld_glob I hg hm ?_ hd)
  refine PySem.W.callWith_K (h₀ := X.base) I.ok.mod.kin hk (thn (ha.run pos pins s σ H (fun vs H1 => liftD X.K dsp vs H1 Q0 (WE W σ)) I ⟨Z, δ, μ, _, R, sl, rp, q, fun vs H1 Z1 ds μ1 s1 r1 i1 h1 => ?_, fx⟩) fun us s1 ⟨vs, H1, I1, r, q⟩ => ⟨I1.kIn, ?_⟩) he hpl
  · exact ⟨Z1, ds, μ1, Q, R δ, r1, i1, h1, f.mono s1, fun c dd H' Z' fs μ' s2 r2 x2 h2 => fx σ δ c dd H' Z' fs μ' (s1.trans s2) (sl.mono (s1.trans s2).same) r2 x2 h2⟩
  · exact wpAny_call (run_S F hr (passAt tk σ) I1 r q)
end

/-- the slots at a def's entry -/
def startD (n : Nat) (ds : List D) : Dl := ds.map some ++ List.replicate (n - ds.length) none
theorem start_slD {K : PySem.W.Frag} {Z : Hp} {N : List Str} {ds : List D} {vs : List V} (r : IsDs K Z ds vs) : SlD K Z (L2.start N vs) (startD N.length ds) := by
  refine ⟨by simp [L2.start, startD, r.length], fun i d h => ?_⟩
  unfold startD at h
  unfold L2.start
  by_cases hi : i < ds.length
  · rw [List.getElem?_append_left (by simpa using hi), List.getElem?_map] at h
    cases e : ds[i]? with
    | none => rw [e] at h; cases h
    | some d' =>
      rw [e] at h
      injection h with h; injection h with h; subst h
      obtain ⟨v, h1, h2⟩ := r.get e
      refine ⟨v, ?_, h2⟩
      rw [List.getElem?_append_left (by rw [List.length_map, ← r.length]; exact hi), List.getElem?_map, h1]; rfl
  · rw [List.getElem?_append_right (by simpa using hi)] at h
    rw [List.getElem?_replicate] at h
    split at h <;> cases h
/-- what a def of n parameters and m slots does, by its reading -/
def body (n m : Nat) (rd : TSD) : DSp := fun ds μ Q Rx => ds.length = n ∧ rd { nx := fun _ μ' => Q .non μ', rt := Q } (startD m ds) μ (fun _ c fs μ' => Rx c fs μ')
section
variable {P : Program} {w : World} {K : PySem.W.Frag} {mg : Str → Option Value} {base : Heap} {x qual : Str} {params : Arguments} {bd : List Stmt} {scope : Scope} {f : Addr} {fd : FuncData} {N ps : List Str} {k : Nat} {rd : TSD}
/-- the context of a def's body -/
abbrev cxD (P : Program) (w : World) (K : PySem.W.Frag) (mg : Str → Option Value) (base : Heap) (N : List Str) (qual : Str) (scope : Scope) (f : Addr) (cdv : Value) (A : Around) (outer : List Env) (s : Shared) (H : Hp) (E : XK) : Cx := cxOf (L2.CX P w) P w K mg base N qual scope f cdv A outer s H E
abbrev WD (E : XK) : WX := fun cls d _ H => E cls d H
theorem takesD {cdv : Value} {A : Around} {outer : List Env} {s : Shared} {H : Hp} {E : XK} : Takes (cxD P w K mg base N qual scope f cdv A outer s H E) (WD E) := takes_of rfl rfl rfl rfl
theorem fn_body (F : FunD K x qual params bd scope [] [] f fd) (S : FnScope N ps scope)
    (hb : ∀ (kV doc pm : Value) (an : Option Addr) (cdv ct : Value) (us : List Value), us.length = ps.length → bindArgs (PySem.W.fnOf x qual params bd scope .none kV doc pm an cdv ct) ⟨us, []⟩ = pure (ps.zip us))
    (hbody : ∀ (cdv : Value) (A : Around) (outer : List Env) (s : Shared) (H : Hp) (E : XK), Room k (cxD P w K mg base N qual scope f cdv A outer s H E).A → DSs (cxD P w K mg base N qual scope f cdv A outer s H E) (WD E) bd rd) :
    FnD P w K mg base (k + 1) f (body ps.length N.length rd) := by
  have F1 : FnOk P w K mg base (L2.CX P w) (k + 1) f fd ps (liftD K (body ps.length N.length rd)) := by
    refine F.ok S (fun vs H Q E ⟨Z, ds, μ, QQ, Rx, rp, i, q, _⟩ => by rw [← i.length]; exact q.1) (fun cdv A outer s H vs Q E hr ⟨Z, ds, μ, QQ, Rx, rp, i, q, f, x⟩ => ⟨_, hbody cdv A outer s H E hr, ?_⟩)
    exact ⟨Z, _, μ, { nx := fun _ μ' => QQ .non μ', rt := QQ }, _, start_slD i, rp, q.2, fun σ' H' Z' δ' μ' s' r' sl' h' => f _ H' Z' _ μ' s' r' .non h', f, fun σ' H' Z' δ' μ' s' r' sl' h' => h'.elim, fun σ' H' Z' δ' μ' s' r' sl' h' => h'.elim,
      fun σ' δ' c dd H' Z' fs μ' s' sl' r' x' h' => x c dd H' Z' fs μ' s' r' x' h'⟩
  have F2 := F1.raw (F.bindsN hb) .nil
  exact F2.imp fun vs H Q E h => by rw [List.append_nil]; exact h
end
/-- the weakest level that callers ask -/
theorem FnD.lift {P : Program} {w : World} {K : PySem.W.Frag} {mg : Str → Option Value} {base : Heap} {j k : Nat} {f : Addr} {dsp : DSp} (F : FnD P w K mg base j f dsp) (h : j ≤ k) : FnD P w K mg base k f dsp := FnR.mono F h
theorem hu65 {k : Nat} {A : Around} (r : Room k A) : A.units + 65 < cLine := by have := r.un; omega
theorem hu64 {k : Nat} {A : Around} (r : Room k A) : A.units + 64 < cLine := by have := r.un; omega
theorem passD {X : Cx} {W : WX} {E₁ : Value → Shared → Prop} {Kx : Value → Shared → Prop} (hx : X.xe = fun e s' => wpAny (model X.prog X.w) X.A (leaving X.env e) (fun _ s'' => Kx e s'') E₁ s') : PassesOwn (model X.prog X.w) X.A X.env X.xe := passes_of hx
end DL

set_option Elab.async false
set_option linter.all false
set_option maxRecDepth 100000
set_option maxHeartbeats 2000000
/-! D layer: classes with slots: made, stored into, read, their properties and class methods -/
namespace DL
open PySem L2

section
variable {K : PySem.W.Frag} {Z H : Hp} {μ : Mu}
theorem mdel_some {a b : Addr} {c : Cell} (h : mdel μ a b = some c) : b ≠ a ∧ μ b = some c := by
  unfold mdel at h
  split at h
  · cases h
  · rename_i n; exact ⟨n, h⟩
/-- a cell is forgotten -/
theorem Rep.drop (r : Rep K H Z μ) (a : Addr) : Rep K H Z (mdel μ a) :=
  ⟨r.sub, fun b c h => r.cel b c (mdel_some h).2, fun x y c c' hx hy => r.apart x y c c' (mdel_some hx).2 (mdel_some hy).2⟩
theorem Gr.drop (a : Addr) : Gr Z H μ Z H (mdel μ a) := ⟨Same.refl _, fun _ _ h _ => h, fun _ h => .inl (area_del h), fun _ _ h => .inl h⟩
/-- a new instance of c -/
theorem Rep.made (r : Rep K H Z μ) {x dx : Addr} (c : Str) (hx : H x = none) (hd : H dx = none) (n : dx ≠ x) :
    Rep K (upd (upd H dx (.own x)) x (.ins (He.ga K c) dx [])) Z (mset μ x (.slt c dx [])) ∧ Gr Z H μ Z (upd (upd H dx (.own x)) x (.ins (He.ga K c) dx [])) (mset μ x (.slt c dx [])) := by
  have ax := r.no_area hx
  have ad := r.no_area hd
  have zx := (r.fresh hx).1
  have zd := (r.fresh hd).1
  have r1 : Rep K (upd (upd H dx (.own x)) x (.ins (He.ga K c) dx [])) Z μ := (r.other (o := .own x) ad zd).other ax zx
  refine ⟨⟨r1.sub, fun a e ha => ?_, fun a b e e' ha hb => ?_⟩, Same.refl _, fun a o h _ => by rw [upd_ne (ne_of_none h hx), upd_ne (ne_of_none h hd)]; exact h, fun a ha => ?_, fun _ _ h => .inl h⟩
  · by_cases q : a = x
    · subst q
      rw [mset_same] at ha; cases ha
      exact ⟨zx, fun y hy => by rw [Cell.more, List.mem_singleton] at hy; rw [hy]; exact zd, [], n, .inl ⟨upd_same, rfl⟩, (by rw [upd_ne n, upd_same]; exact (fun z => nomatch z)), fun i d h => by simp at h⟩
    · rw [mset_ne q] at ha
      exact r1.cel a e ha
  · by_cases q : a = x
    · by_cases q' : b = x
      · subst q; subst q'
        rw [mset_same] at ha hb; cases ha; cases hb
        exact ⟨fun y hy => by rw [Cell.more, List.mem_singleton] at hy; rw [hy]; exact n, fun z => absurd rfl z⟩
      · subst q
        rw [mset_same] at ha; cases ha
        rw [mset_ne q'] at hb
        refine ⟨fun y hy z => ax ⟨b, e', hb, .inr (by rw [← z]; exact hy)⟩, fun _ y hy w hw z => ?_⟩
        rw [Cell.more, List.mem_singleton] at hy
        exact ad ⟨b, e', hb, .inr (by rw [← hy, z]; exact hw)⟩
    · rw [mset_ne q] at ha
      by_cases q' : b = x
      · subst q'
        rw [mset_same] at hb; cases hb
        refine ⟨fun y hy z => ?_, fun _ y hy w hw z => ?_⟩
        · rw [Cell.more, List.mem_singleton] at hy
          exact ad ⟨a, e, ha, .inl (by rw [← hy, z])⟩
        · rw [Cell.more, List.mem_singleton] at hw
          exact ad ⟨a, e, ha, .inr (by rw [← hw, ← z]; exact hy)⟩
      · rw [mset_ne q'] at hb
        exact r.apart a b e e' ha hb
  · rcases area_set ha with z | z | z
    · exact .inl z
    · rw [z]; exact .inr hx
    · rw [Cell.more, List.mem_singleton] at z; rw [z]; exact .inr hd
def putD (i : Nat) (d : D) (xs : List (Option D)) : List (Option D) := (xs ++ List.replicate (i + 1 - xs.length) none).set i (some d)
/-- what a cell that is an instance shows -/
theorem Rep.sl (r : Rep K H Z μ) {a dx : Addr} {c : Str} {xs : List (Option D)} (h : μ a = some (.slt c dx xs)) :
    Z a = none ∧ Z dx = none ∧ dx ≠ a ∧ H dx ≠ none ∧ ∃ os : List (Option V), SlX.Slt H a (He.ga K c) dx os ∧ ∀ (i : Nat) (d : D), xs[i]? = some (some d) → ∃ v, os[i]? = some (some v) ∧ IsD K Z d v := by
  obtain ⟨c1, c2, os, n, c3, c4, c5⟩ := r.cel a _ h
  exact ⟨c1, c2 dx (by simp [Cell.more]), n, c4, os, c3, c5⟩
theorem Rep.putSl (r : Rep K H Z μ) {a dx : Addr} {c : Str} {xs ys : List (Option D)} {os : List (Option V)} (h : μ a = some (.slt c dx xs)) (q : ∀ (i : Nat) (d : D), ys[i]? = some (some d) → ∃ v, os[i]? = some (some v) ∧ IsD K Z d v) :
    Rep K (SlX.slH H a (He.ga K c) dx os) Z (mset μ a (.slt c dx ys)) ∧ Gr Z H μ Z (SlX.slH H a (He.ga K c) dx os) (mset μ a (.slt c dx ys)) := by
  obtain ⟨za, zd, n, _, _⟩ := r.sl h
  have old : ∀ b e, b ≠ a → mset μ a (.slt c dx ys) b = some e → μ b = some e := fun b e hb he => by rwa [mset_ne hb] at he
  have da : ∀ b e, μ b = some e → b ≠ a → dx ≠ b ∧ a ∉ e.more ∧ dx ∉ e.more := fun b e he hb =>
    ⟨(r.apart b a e _ he h).1 dx (by simp [Cell.more]), fun m => (r.apart a b _ e h he).1 a m rfl, fun m => (r.apart a b _ e h he).2 hb.symm dx (by simp [Cell.more]) dx m rfl⟩
  refine ⟨⟨fun b u hb => ?_, fun b e he => ?_, fun b b' e e' he he' => ?_⟩, Same.refl _, fun b u hb nb => ?_, fun b hb => ?_, fun _ _ h => .inl h⟩
  · rw [SlX.slH_ne (ne_of_none hb za) (ne_of_none hb zd)]; exact r.sub _ _ hb
  · by_cases e1 : b = a
    · subst e1
      rw [mset_same] at he; cases he
      exact ⟨za, fun y hy => by rw [Cell.more, List.mem_singleton] at hy; rw [hy]; exact zd, os, n, SlX.slH_slt n, (by unfold SlX.slH; rw [upd_ne n, upd_same]; exact (fun z => nomatch z)), q⟩
    · have he2 := old b e e1 he
      obtain ⟨c1, c2, c3⟩ := r.cel b e he2
      obtain ⟨d1, d2, d3⟩ := da b e he2 e1
      refine ⟨c1, c2, c3.stay (Same.refl _) fun x u hx hu => ?_⟩
      rw [SlX.slH_ne]
      · exact hu
      · rcases hx with rfl | hx
        · exact e1
        · exact fun z => d2 (z ▸ hx)
      · rcases hx with rfl | hx
        · exact d1.symm
        · exact fun z => d3 (z ▸ hx)
  · have key : ∀ b e, mset μ a (.slt c dx ys) b = some e → ∃ e2, μ b = some e2 ∧ e2.more = e.more := fun b e he => by
      by_cases e1 : b = a
      · subst e1
        rw [mset_same] at he; cases he
        exact ⟨_, h, rfl⟩
      · exact ⟨e, old b e e1 he, rfl⟩
    obtain ⟨f, hf, mf⟩ := key b e he
    obtain ⟨f', hf', mf'⟩ := key b' e' he'
    rw [← mf, ← mf']
    exact r.apart b b' f f' hf hf'
  · rw [SlX.slH_ne]
    · exact hb
    · exact fun z => nb ⟨a, _, h, .inl z⟩
    · exact fun z => nb ⟨a, _, h, .inr (by simp [Cell.more, z])⟩
  · rcases area_set hb with z | z | z
    · exact .inl z
    · rw [z]; exact .inl ⟨a, _, h, .inl rfl⟩
    · exact .inl ⟨a, _, h, .inr z⟩
/-- an instance that is made is frozen -/
theorem Rep.frzSl (r : Rep K H Z μ) {a dx : Addr} {c : Str} {ds : List D} (h : μ a = some (.slt c dx (ds.map some))) (ne : ds ≠ []) :
    ∃ Z', Rep K H Z' (mdel μ a) ∧ Gr Z H μ Z' H (mdel μ a) ∧ IsD K Z' (.slt c ds) (.ref a) := by
  obtain ⟨za, zd, n, _, os, hs, q⟩ := r.sl h
  obtain ⟨d0, hd0⟩ : ∃ d0, ds[0]? = some d0 := by
    cases ds with
    | nil => exact absurd rfl ne
    | cons d r => exact ⟨d, rfl⟩
  rcases hs with ⟨_, rfl⟩ | ⟨h1, h2⟩
  · obtain ⟨v, hv, _⟩ := q 0 d0 (by rw [List.getElem?_map, hd0]; rfl)
    simp at hv
  · have old := fun b e (hb : mdel μ a b = some e) => mdel_some hb
    have nA : ¬ Area (mdel μ a) a := fun ⟨b, e, hb, hx⟩ => by
      obtain ⟨nb, hb⟩ := old b e hb
      rcases hx with rfl | hx
      · exact nb rfl
      · exact (r.apart a b _ e h hb).1 a hx rfl
    have nD : ¬ Area (mdel μ a) dx := fun ⟨b, e, hb, hx⟩ => by
      obtain ⟨nb, hb⟩ := old b e hb
      rcases hx with rfl | hx
      · exact (r.apart dx a e _ hb h).1 dx (by simp [Cell.more]) rfl
      · exact (r.apart a b _ e h hb).2 nb.symm dx (by simp [Cell.more]) dx hx rfl
    obtain ⟨r1, s1⟩ := (r.drop a).freeze h1 nA za
    obtain ⟨r2, s2⟩ := r1.freeze h2 nD (by rw [upd_ne n]; exact zd)
    have e1 : (upd (upd Z a (SlX.SlO a (He.ga K c) dx os)) dx (.xd [])) a = some (SlX.SlO a (He.ga K c) dx os) := by rw [upd_ne n.symm, upd_same]
    have pick : ∃ vs : List V, (∀ (i : Nat) (v : V), vs[i]? = some v → os[i]? = some (some v)) ∧ IsDs K (upd (upd Z a (SlX.SlO a (He.ga K c) dx os)) dx (.xd [])) ds vs := by
      have gen : ∀ (es : List D) (k : Nat), (∀ (i : Nat) (d : D), es[i]? = some d → ∃ v, os[k + i]? = some (some v) ∧ IsD K Z d v) → ∃ vs : List V, (∀ (i : Nat) (v : V), vs[i]? = some v → os[k + i]? = some (some v)) ∧ IsDs K (upd (upd Z a (SlX.SlO a (He.ga K c) dx os)) dx (.xd [])) es vs := by
        intro es
        induction es with
        | nil => intro k _; exact ⟨[], fun i v h => by simp at h, .nil⟩
        | cons d es ih =>
          intro k hk
          obtain ⟨v, hv, iv⟩ := hk 0 d rfl
          obtain ⟨vs, g1, g2⟩ := ih (k + 1) fun i e he => by
            have := hk (i + 1) e he
            rwa [show k + (i + 1) = k + 1 + i by omega] at this
          refine ⟨v :: vs, fun i w hw => ?_, .cons (iv.mono (s1.trans s2)) g2⟩
          cases i with
          | zero => simp at hw; subst hw; exact hv
          | succ i =>
            have := g1 i w (by simpa using hw)
            rwa [show k + 1 + i = k + (i + 1) by omega] at this
      obtain ⟨vs, g1, g2⟩ := gen ds 0 fun i d hi => by
        rw [Nat.zero_add]
        exact q i d (by rw [List.getElem?_map, hi]; rfl)
      exact ⟨vs, fun i v hv => by have := g1 i v hv; rwa [Nat.zero_add] at this, g2⟩
    obtain ⟨vs, g1, g2⟩ := pick
    refine ⟨_, r2, ⟨s1.trans s2, fun _ _ h _ => h, fun _ h => .inl (area_del h), fun b u hb => ?_⟩, .slt e1 upd_same g1 g2⟩
    by_cases eb : b = dx
    · subst eb; exact .inr (.inl ⟨a, _, h, .inr (by simp [Cell.more])⟩)
    · rw [upd_ne eb] at hb
      by_cases ea : b = a
      · subst ea; exact .inr (.inl ⟨b, _, h, .inl rfl⟩)
      · rw [upd_ne ea] at hb; exact .inl hb
end

/-! ### the rules -/
/-- e.f, slot i of c -/
def fldD (c : Str) (i : Nat) (x : D) (μ : Mu) (Q : QD) : Prop := match x with
  | .slt c' ds => c' = c ∧ ∃ d, ds[i]? = some d ∧ Q d μ
  | .ref a => ∃ dx xs d, μ a = some (.slt c dx xs) ∧ xs[i]? = some (some d) ∧ Q d μ
  | _ => False
def dFld (c : Str) (i : Nat) (t : TED) : TED := fun δ μ Q R => t δ μ (fun x μ1 => fldD c i x μ1 Q) R
/-- o.f = e -/
def dSetFld (c : Str) (i : Nat) (te to : TED) : TSD := fun E δ μ R => te δ μ (fun y μ1 => to δ μ1 (fun x μ2 => ∃ a, x = .ref a ∧ ∃ dx xs, μ2 a = some (.slt c dx xs) ∧ E.nx δ (mset μ2 a (.slt c dx (putD i y xs)))) R) R
/-- C(..): a new instance, made by its __init__, then frozen -/
def makeD (c : Str) (dsp : DSp) (ds : List D) (μ : Mu) (Q : QD) (Rx : Str → List (Str × D) → Mu → Prop) : Prop :=
  ∀ x dx, μ x = none → dsp (.ref x :: ds) (mset μ x (.slt c dx [])) (fun v μ' => v = .non ∧ ∃ dx' es, es ≠ [] ∧ μ' x = some (.slt c dx' (es.map some)) ∧ Q (.slt c es) (mdel μ' x)) (fun e fs μ' => Rx e fs (mdel μ' x))
def dMake (c : Str) (dsp : DSp) (t : TAD) : TED := fun δ μ Q R => t δ μ (fun ds μ1 => makeD c dsp ds μ1 Q (R δ)) R
section
variable {X : Cx} {W : WX} {o e fe : Expr} {es : List Expr} {te to tf : TED} {t : TAD} {f m : Str} {c x : Str} {i k : Nat} {p g : Addr} {pos pos' apos ps_ : Pos} {dsp : DSp}
theorem de_fld (cl : SlX.SCls X.K (He.ga X.K c)) (s1 : SlX.Slot1 X.K (He.ga X.K c) f p i) (h : DE X W e te) (hb : attributeBase e f X.env (eval e X.env) = eval e X.env := by rfl) : DE X W (.Attribute e f pos) (dFld c i te) :=
  pe_weak (SlX.pe_sl h hb) fun σ H Q0 ⟨Z, δ, μ, Q, R, sl, rp, q, f, fx⟩ => ⟨Z, δ, μ, _, R, sl, rp, q, fun v H1 Z1 x μ1 g1 r1 i1 h1 => by
    have h1 : fldD c i x μ1 Q := h1
    unfold fldD at h1
    split at h1
    · obtain ⟨rfl, d, hd, q1⟩ := h1
      cases i1 with
      | slt z1 z2 z3 r2 =>
        obtain ⟨w, hw, iw⟩ := r2.get hd
        exact ⟨_, _, _, p, _, i, w, rfl, .inr ⟨r1.sub _ _ z1, r1.sub _ _ z2⟩, cl, s1, z3 i w hw, f w H1 Z1 d μ1 g1 r1 iw q1⟩
    · cases i1
      obtain ⟨dx, xs, d, hm, hx, q1⟩ := h1
      obtain ⟨_, _, _, _, os, hs, hq⟩ := r1.sl hm
      obtain ⟨w, hw, iw⟩ := hq i d hx
      exact ⟨_, _, dx, p, os, i, w, rfl, hs, cl, s1, hw, f w H1 Z1 d μ1 g1 r1 iw q1⟩
    · exact h1.elim, fx⟩
theorem putD_get {K : PySem.W.Frag} {Z : Hp} {xs : List (Option D)} {os : List (Option V)} {y : D} {vy : V} {i : Nat} (h : ∀ (j : Nat) (d : D), xs[j]? = some (some d) → ∃ v, os[j]? = some (some v) ∧ IsD K Z d v) (iy : IsD K Z y vy) :
    ∀ (j : Nat) (d : D), (putD i y xs)[j]? = some (some d) → ∃ v, (SlX.putS i vy os)[j]? = some (some v) ∧ IsD K Z d v := by
  intro j d hj
  by_cases e : j = i
  · subst e
    unfold putD at hj
    rw [List.getElem?_set_self (by simp; omega)] at hj
    injection hj with hj; injection hj with hj; subst hj
    exact ⟨vy, SlX.putS_get j vy os, iy⟩
  · unfold putD at hj
    rw [List.getElem?_set_ne (Ne.symm e)] at hj
    by_cases hl : j < xs.length
    · rw [List.getElem?_append_left hl] at hj
      obtain ⟨v, h1, h2⟩ := h j d hj
      exact ⟨v, (SlX.putS_ne e).mpr h1, h2⟩
    · rw [List.getElem?_append_right (by omega), List.getElem?_replicate] at hj
      split at hj <;> cases hj
theorem ds_setFld (cl : SlX.SCls X.K (He.ga X.K c)) (s1 : SlX.Slot1 X.K (He.ga X.K c) f p i) (ho : DE X W o to) (he : DE X W e te) (hs : swapsWith e (some (.Attribute o f pos')) pos.line X.env = pure false := by rfl) :
    DS X W (.Assign [.Attribute o f pos'] e pos) (dSetFld c i te to) :=
  ps_weak (SlX.ps_sl ho he hs) fun D0 σ H ⟨Z, δ, μ, E, R, sl, rp, q, fn, fr, fb, fc, fx⟩ => ⟨Z, δ, μ, _, R, sl, rp, q, fun v H1 Z1 y μ1 g1 r1 i1 h1 => ⟨Z1, δ, μ1, _, R, sl.mono g1.same, r1, h1, fun v2 H2 Z2 x μ2 g2 r2 i2 h2 => by
    obtain ⟨a, hx, dx, xs, hm, q2⟩ := h2
    subst hx
    cases i2
    obtain ⟨_, _, _, _, os, hs, hq⟩ := r2.sl hm
    obtain ⟨r3, g3⟩ := r2.putSl hm (putD_get (i := i) hq (i1.mono g2.same))
    exact ⟨a, _, dx, p, os, i, rfl, hs, cl, s1, fn σ _ Z2 δ _ ((g1.trans g2).trans g3) r3 ((sl.mono g1.same).mono g2.same) q2⟩, fx.mono g1⟩, fx⟩
/-- the call of a class, behind its arguments -/
theorem run_makeS {pins : List (Addr × Obj)} {σ : St} {H Z : Hp} {μ : Mu} {s : Shared} {us : List Value} {vs : List V} {ds : List D} {δ : Dl} {Q : QD} {Q0 : VK} {R : RD} (M : Mk X.K (He.ga X.K c) g) (F : FnD X.prog X.w X.K X.mg X.base k g dsp) (hr : Room (k + 1) X.A) (tk : Takes X W) (I : Inv X pins σ H s) (r : Vals vs us)
    (rp : Rep X.K H Z μ) (sl : SlD X.K Z σ δ) (ids : IsDs X.K Z ds vs) (h : makeD c dsp ds μ Q (R δ)) (f : Fin X.K Z H μ Q Q0) (fx : FinR X.K W Z H μ R) : wpAny (model X.prog X.w) X.A (call (.ref (He.ga X.K c)) us) (EP X pins σ Q0) X.xe s := by
  have hx0 : H (s.heap.objs.size + 1) = none := I.hok.fresh (Nat.le_succ _)
  have hd0 : H s.heap.objs.size = none := I.hok.fresh (Nat.le_refl _)
  have hne : s.heap.objs.size ≠ s.heap.objs.size + 1 := Nat.ne_of_lt (Nat.lt_succ_self _)
  have I2 := Inv.made (C := He.ga X.K c) I
  obtain ⟨r2, g2⟩ := rp.made c hx0 hd0 hne
  have hq := h (s.heap.objs.size + 1) s.heap.objs.size (rp.fresh hx0).2.1
  have rv : Vals (V.ref (s.heap.objs.size + 1) :: vs) (Value.ref (s.heap.objs.size + 1) :: us) := .cons rfl r
  have prom : liftD X.K dsp (V.ref (s.heap.objs.size + 1) :: vs) (upd (upd H s.heap.objs.size (.own (s.heap.objs.size + 1))) (s.heap.objs.size + 1) (.ins (He.ga X.K c) s.heap.objs.size [])) (fun v H2 => v = .non ∧ Q0 (.ref (s.heap.objs.size + 1)) H2) (WE W σ) := by
    refine ⟨Z, _, _, _, _, r2, .cons (.ref _) ids, hq, fun v H' Z' d μ' g r i h' => ?_, fun e dd H' Z' fs μ' g r x' h' => ?_⟩
    · obtain ⟨rfl, dx', es, ne, hm, q⟩ := h'
      cases i
      obtain ⟨Z3, r3, g3, i3⟩ := r.frzSl hm ne
      exact ⟨rfl, f _ H' Z3 _ _ ((g2.trans g).trans g3) r3 i3 q⟩
    · exact fx σ δ e dd H' Z' fs _ ((g2.trans g).trans (Gr.drop _)) (sl.mono (g2.trans g).same) (r.drop _) x' h'
  refine wpAny_call (make_map (f := g) I.kIn M.makes M.init (beq_iff_eq.mp M.fn) (codeAny_mono (F _ X.stack _ _ (Value.ref (s.heap.objs.size + 1) :: us) _ _ _ (hr.make (He.ga X.K c) us []) (I2.env0.make (He.ga X.K c) us []) rv prom) fun r s' hq' => ?_))
  match r, hq' with
  | .error e, hq' => exact passAt tk σ pins _ _ e s' I2 hq'
  | .ok (.ret u), hq' =>
    obtain ⟨v, H', I3, rv, ev, q3⟩ := I2.after hq'
    subst ev
    exact ⟨rv, ⟨V.ref (s.heap.objs.size + 1), H', I3, rfl, q3⟩⟩
  | .ok .next, hq' => exact False.elim hq'
  | .ok .brk, hq' => exact False.elim hq'
  | .ok .cont, hq' => exact False.elim hq'
theorem de_make (M : Mk X.K (He.ga X.K c) g) (F : FnD X.prog X.w X.K X.mg X.base k g dsp) (hr : Room (k + 1) X.A) (tk : Takes X W) (hg : Gl X c) (hm : X.mg c = some (.ref (He.ga X.K c))) (ha : DA X W (e :: es) t) (hdb : (c == ("__debug__" : Str)) = false := by decide)
    (he : starEach (e :: es) X.env = (false, eval e X.env) :: starEach es X.env := by rfl) (hpl : (backTo pos (starEach es X.env)).any (·.1) = false := by rfl) : DE X W (.Call (.Name c ps_) (e :: es) [] pos) (dMake c dsp t) := by
  refine ⟨fun pins s σ H Q0 I ⟨Z, δ, μ, Q, R, sl, rp, q, f, fx⟩ => ?_⟩
  refine wpAny_Call_Name_kw (ld_glob I hg hm ?_ hdb)
  refine PySem.W.callWith_K (h₀ := X.base) I.ok.mod.kin M.kp (thn (ha.run pos pins s σ H (fun vs H1 => ∃ Z1 ds μ1, Gr Z H μ Z1 H1 μ1 ∧ Rep X.K H1 Z1 μ1 ∧ IsDs X.K Z1 ds vs ∧ makeD c dsp ds μ1 Q (R δ)) I ⟨Z, δ, μ, _, R, sl, rp, q, fun vs H1 Z1 ds μ1 s1 r1 i1 h1 => ⟨Z1, ds, μ1, s1, r1, i1, h1⟩, fx⟩) fun us s1 ⟨vs, H1, I1, r, Z1, ds, μ1, g1, r1, i1, h1⟩ => ⟨I1.kIn, ?_⟩) he hpl
  exact run_makeS M F hr tk I1 r r1 (sl.mono g1.same) i1 h1 (f.mono g1) (fx.mono g1)
/-- a class held by a name of the def's own -/
theorem de_makeL (M : Mk X.K (He.ga X.K c) g) (F : FnD X.prog X.w X.K X.mg X.base k g dsp) (hr : Room (k + 1) X.A) (tk : Takes X W) (hf : DE X W fe tf) (ha : DA X W (e :: es) t)
    (ht : eval (.Call fe (e :: es) [] pos) X.env = (do callWith pos (← eval fe X.env) [] (backTo pos (starEach (e :: es) X.env)) (backToKw pos (keywordEach [] X.env))) := by rfl)
    (he : starEach (e :: es) X.env = (false, eval e X.env) :: starEach es X.env := by rfl) (hpl : (backTo pos (starEach es X.env)).any (·.1) = false := by rfl) :
    DE X W (.Call fe (e :: es) [] pos) (fun δ μ Q R => tf δ μ (fun y μ1 => y = .cls c ∧ dMake c dsp t δ μ1 Q R) R) := by
  refine ⟨fun pins s σ H Q0 I ⟨Z, δ, μ, Q, R, sl, rp, q, f, fx⟩ => ?_⟩
  refine PyProof.Rows.Call_ (thn (hf.run pins s σ H (fun v H0 => v = .ref (He.ga X.K c) ∧ ∃ Z0 μ0, Gr Z H μ Z0 H0 μ0 ∧ Rep X.K H0 Z0 μ0 ∧ dMake c dsp t δ μ0 Q R) I ⟨Z, δ, μ, _, R, sl, rp, q, fun v H1 Z1 y μ1 s1 r1 i1 h1 => ?_, fx⟩) fun u s0 ⟨v, H0, I0, r0, ev, Z0, μ0, g0, rp0, q0⟩ => ?_) ht
  · obtain ⟨rfl, h1⟩ := h1
    cases i1
    exact ⟨rfl, Z1, μ1, s1, r1, h1⟩
  · subst ev
    obtain rfl : u = Value.ref (He.ga X.K c) := r0
    refine PySem.W.callWith_K (h₀ := X.base) I0.ok.mod.kin M.kp (thn (ha.run pos pins s0 σ H0 (fun vs H1 => ∃ Z1 ds μ1, Gr Z0 H0 μ0 Z1 H1 μ1 ∧ Rep X.K H1 Z1 μ1 ∧ IsDs X.K Z1 ds vs ∧ makeD c dsp ds μ1 Q (R δ)) I0 ⟨Z0, δ, μ0, _, R, sl.mono g0.same, rp0, q0, fun vs H1 Z1 ds μ1 s1 r1 i1 h1 => ⟨Z1, ds, μ1, s1, r1, i1, h1⟩, fx.mono g0⟩) fun us s1 ⟨vs, H1, I1, r, Z1, ds, μ1, g1, r1, i1, h1⟩ => ⟨I1.kIn, ?_⟩) he hpl
    exact run_makeS M F hr tk I1 r r1 (sl.mono (g0.trans g1).same) i1 h1 (f.mono (g0.trans g1)) (fx.mono (g0.trans g1))
end
end DL

set_option Elab.async false
set_option linter.all false
set_option maxRecDepth 100000
set_option maxHeartbeats 4000000
/-! D layer: an own exception whose __init__ says super().__init__('..') and then stores its argument -/
namespace DSup
open PySem PySem.W PySem.Calls PyProof.Rows PySem.HandSPX

/-- the text of such an __init__ -/
structure Txt where
  cls : Str
  msg : Str
  prm : Str
  fld : Str
  qual : Str
  params : Arguments
  body : List Stmt
  names : List (Str × NameKind)
abbrev Txt.scope (t : Txt) : Scope := { kind := .function, names := t.names, isGenerator := false, isCoroutine := false }
/-- what its text must be -/
structure Txt.Is (t : Txt) : Prop where
  par : ∃ pa pb : Pos, t.params = { posonlyargs := [], args := [{ arg := "self", annotation := none, pos := pa }, { arg := t.prm, annotation := none, pos := pb }], vararg := none, kwonlyargs := [], kw_defaults := [], kwarg := none, defaults := [] }
  bnd : ∀ (kV doc pm cdv ct : Value) (an : Option Addr) (cc : Addr) (a b : Value), bindArgs (fnX "__init__" t.qual t.params t.body t.scope [("__class__", cc)] .none kV doc pm an cdv ct) ⟨[a, b], []⟩ = pure [(("self" : Str), a), (t.prm, b)]
  bod : ∃ (p : Nat → Pos) (j : Nat), t.body = [.Expr (.Call (.Attribute (.Call (.Name "super" (p 0)) [] [] (p 1)) "__init__" (p 2)) [.Constant (.str t.msg) j (p 3)] [] (p 4)) (p 5), .Assign [.Attribute (.Name "self" (p 6)) t.fld (p 7)] (.Name t.prm (p 8)) (p 9)] ∧ ((p 2).endLine == (p 4).line) = true
  sup : t.scope.names.lookup ("super" : Str) = some .globalImplicit
  cl : t.scope.names.lookup ("__class__" : Str) = some .free
  slf : t.scope.names.lookup ("self" : Str) = some .local
  prl : t.scope.names.lookup t.prm = some .local
  noc : ∀ x ∈ t.scope.names, x.2 ≠ .cell
  pne : (t.prm == ("self" : Str)) = false
  pdb : (t.prm == ("__debug__" : Str)) = false

/-- what the written part says: C's __init__ stands in the class at D (function f, its code cda, its cell cc) -/
structure Sup (prog : Program) (K : Frag) (t : Txt) (C D f cc : Addr) : Prop where
  fn : ∃ (oc : Value) (od an : Option Addr) (osl : Array (Option Value)) (kV doc pm ct : Value) (cda : Addr),
    K.lookup f = some ⟨oc, od, .func (fnX "__init__" t.qual t.params t.body t.scope [("__class__", cc)] .none kV doc pm an (.ref cda) ct), osl⟩ ∧
    codeIn K (.ref cda) t.qual = true ∧ ∃ (ccl : Value) (cdd : Option Addr) (vs : Array Value) (ccs : Array (Option Value)) (file : Str) (tf : Tok), K.lookup cda = some ⟨ccl, cdd, .fields vs, ccs⟩ ∧ vs[2]? = some (.str file tf) ∧ ((prog.main.file : Str) == file) = true
  cell : ∃ (cl : Value) (cld : Option Addr) (csl : Array (Option Value)), K.lookup cc = some ⟨cl, cld, .cell (some (.ref D)), csl⟩
  dCls : (clsIn K D).isSome = true
  sub : subIn K (.ref C) (.ref D) = some true
  up : ks_superIn K C D "__init__" = some (some (.builtin "ValueError.__init__"))
  opq : nsIn K cStatics "thirdparty.any" = some none
  isV : subIn K (.ref C) (.type "ValueError") = some true
  nosup : nsIn K mainGlobals "super" = some none
  top : (prog.main.scope.names.lookup ("super" : Str)).isSome = false
  exc : L2.OexC K C
  noat : findIn K (.ref C) t.fld = some none

section
variable {prog : Program} {w : World} {A : Around} {R : Result → Shared → Prop} {hp : Heap} {g : Array GenState} {d : Drawn} {tk : Nat} {os : OsState} {K : Frag} {mg : Str → Option Value} {base : Heap} {t : Txt} {C D f cc x t0 : Addr} {v : Value}


theorem mcall {o : Expr} {name : Str} {apos pos : Pos} {env : Env} {ov : Value} {n : Nat} {args : List (Bool × Sem Value)} {kws : List (Option Str × Sem Value)} (h : (apos.endLine == pos.line) = true) :
    methodCall o name apos pos env ov n args kws = (do
      let (f, first) ← holding [ov] (calleeOf (methodCallForm n args kws) o env ov name)
      callWith pos f first args kws) := by
  unfold methodCall methodCallPos
  rw [h, Bool.or_true]
  rfl

theorem init_run (S : Sup prog K t C D f cc) (T : t.Is) (X : K.In hp) (B : L2.Mod K mg base) (hb : ∀ b o, base.get? b = some o → hp.get? b = some o) (hxb : base.get? x = none) (hx : hp.get? x = some (excO C t0)) (hroom : A.depth < recursionLimit)
    (hq : ∀ (h' : Heap) (tk' : Nat) (t1 dx : Addr), (∀ b o, b ≠ x → hp.get? b = some o → h'.get? b = some o) → hp.objs.size ≤ dx → dx ≠ x → h'.get? x = some { cls := .ref C, dict := some dx, data := .fields #[.ref t1, .none, .none, .none, .bool false, .none] } →
      h'.Ns1 dx (fun y => if y = t.fld then some v else none) → R (.ok (.ret .none)) ⟨h', g, d, tk', os⟩) :
    codeAny (model prog w) A (.call (.ref f) ⟨[.ref x, v], []⟩) R ⟨hp, g, d, tk, os⟩ := by
  obtain ⟨oc, od, an, osl, kV, doc, pm, ct, cda, lk, hcd, ccl, cdd, vs, ccs, file, tf, lcd, hvs, hfile⟩ := S.fn
  obtain ⟨cl, cld, csl, lcc⟩ := S.cell
  obtain ⟨pa, pb, hpar⟩ := T.par
  obtain ⟨p, j, hbod, hlin⟩ := T.bod
  obtain ⟨mb, hmb, hmb2⟩ := B.blt
  refine ks_codeAny_call_defAt (fd := fnX "__init__" t.qual t.params t.body t.scope [("__class__", cc)] .none kV doc pm an (.ref cda) ct) (binds := [("self", .ref x), (t.prm, v)]) hroom (X _ _ lk) rfl (B.nolimit.keeps hb) (codeRec_of X hcd) rfl ?_ T.noc ?_ (fun h₀ hn hk => ?_) rfl rfl rfl
  · exact .of_eq (T.bnd _ _ _ _ _ _ _ _ _)
  · intro y hy
    simp only [List.mem_cons, List.not_mem_nil, or_false] at hy
    rcases hy with rfl | rfl
    · exact T.slf
    · exact T.prl
  · have hL : ∀ {b : Addr} {o : Obj}, hp.get? b = some o → h₀.get? b = some o := fun {b o} e => hk b o e
    have X0 : K.In h₀ := fun b o e => hL (X b o e)
    have hx0 := hL hx
    obtain ⟨oD, cdD, hD1, hD2⟩ : ∃ oD cdD, h₀.get? D = some oD ∧ oD.data = .cls cdD := by
      have hD := S.dCls
      unfold clsIn at hD
      split at hD
      · rename_i c d cd' sl ho
        exact ⟨_, _, X0 _ _ ho, rfl⟩
      · cases hD
    have hself : (List.reverse [(("self" : Str), Value.ref x), (t.prm, v)]).lookup ("self" : Str) = some (.ref x) := by
      simp only [List.reverse_cons, List.reverse_nil, List.nil_append, List.cons_append, List.lookup]
      have : (("self" : Str) == t.prm) = false := by rw [Bool.beq_comm]; exact T.pne
      rw [this]; rfl
    have hprm : (List.reverse [(("self" : Str), Value.ref x), (t.prm, v)]).lookup t.prm = some v := by
      simp only [List.reverse_cons, List.reverse_nil, List.nil_append, List.cons_append, List.lookup]
      rw [beq_self_eq_true]
    rw [hbod]
    refine ks_wpAt_execs_cons (ks_wpAt_Expr_any (ks_wpAt_MethodCall (pl := (do return (← importBound (.Call (.Name "super" (p 0)) [] [] (p 1)) (callEnv (fnX "__init__" t.qual t.params t.body t.scope [("__class__", cc)] .none kV doc pm an (.ref cda) ct) hp.objs.size f)).getD true)) ?_ ?_))
    rotate_left
    · unfold eval
      simp only [mcall hlin]
      rfl
    refine ks_wpAt_super_base T.sup T.cl (by decide) rfl (X0 _ _ lk) rfl (by show (t.params.posonlyargs ++ t.params.args).head? = _; rw [hpar]; rfl) rfl (X0 _ _ lcd) rfl hvs hfile S.top ?_
    refine ks_loadName_global rfl T.sup (loadGlobal_builtin (B.glob.keeps fun b o e => hL (hb b o e)) (mg_none_of (B.kin) B.glob S.nosup) (hmb.keeps fun b o e => hL (hb b o e)) ((hmb2 _ (by decide +kernel)).trans (by decide +kernel)) ⟨rfl, ?_⟩)
    refine wpAny_loadName_free rfl T.cl rfl ⟨_, X0 _ _ lcc, rfl⟩ ?_
    refine wpAny_loadName_local rfl T.slf hn hself ?_
    refine ks_wpAny_isType_cls hD1 hD2 ⟨rfl, ?_⟩
    refine ks_wpAny_call_super hD1 hD2 hx0 rfl (fun c e => by cases e) (looks_subIn X0 S.sub) (fun h1 e1 k1 => ?_)
    have k01 : ∀ b o, h₀.get? b = some o → h1.get? b = some o := k1
    have X1 : K.In h1 := X0.keeps k01
    have hx1 := k01 _ _ hx0
    have hxC : x ≠ C := fun z => by
      obtain ⟨nm, q, N, bs, bm, sn, sub, ab, col, dd, q0, q1, q2, q3, q5, hC, hbm⟩ := S.exc.cls
      rw [z, X _ _ hC] at hx
      cases hx
    have I1 : InstAt h1 x (excO C t0) C none := ⟨hx1, rfl, rfl, trivial⟩
    have hI : Looks (model prog w) h1 (isInstance (.ref x) (.type "ValueError")) true := I1.type.andThen (looks_subIn X1 S.isV)
    cases hc : clsIn K C with
    | none => have hm := S.up; unfold ks_superIn at hm; rw [hc] at hm; cases hm
    | some cd =>
      have hm := S.up
      unfold ks_superIn at hm
      rw [hc] at hm
      refine kxs_getMethod kxs_ValueError e1 (looks_opaque X1 S.opq) (l₀ := cd.mro) (fun A Q E s k q => wpAny_bind ((looks_clsIn X1 hc) A _ E s k (wpAny_pure q))) rfl X1 hm hI hxC (by decide) ?_
      obtain ⟨nm, qn, N, bs, bm, sn, sub, ab, col, dd, q0, q1, q2, q3, q5, hC, hbm⟩ := S.exc.cls
      have k12 : ∀ b o, h1.get? b = some o → (h1.push (kxs_mw "ValueError.__init__" x)).get? b = some o := fun b o e => Heap.get?_push_of_some _ e
      have hw : (h1.push (kxs_mw "ValueError.__init__" x)).get? h1.objs.size = some (kxs_mw "ValueError.__init__" x) := Heap.get?_push_at rfl rfl
      refine kxs_callWith (i := "ValueError.__init__") (x := x) rfl ?_
      refine evalArgs_plain (wpAny_items_cons (wpAny_Constant_str (wpAny_items_nil ⟨hw, ?_⟩)))
      refine wpAny_call (codeAny_of_tree ?_)
      show wpAny _ (Around.in1 _) (callAny (.ref h1.objs.size) ⟨_, []⟩) _ _ _
      simp only [callAny]
      refine wpAny_bind (wpAny_load hw ?_)
      simp only [kxs_mw, show (Value.type "method-wrapper" == Value.type "method" || Value.type "method-wrapper" == Value.type "builtin_function_or_method" || Value.type "method-wrapper" == Value.type "method-wrapper") = true by decide, if_true]
      refine KFB.if_so (by decide) ?_
      have hC2 : (h1.push (kxs_mw "ValueError.__init__" x)).get? C = _ := k12 _ _ (X1 _ _ hC)
      have hx2 := k12 _ _ hx1
      refine wpAny_bind (check_bound_init F.excBase_ValueError.toExcCallFacts hC2 hx2 rfl ?_)
      refine wpAny_bind (wpAny_pure (wpAny_pure ?_))
      refine ⟨plainId_quiet F.excBase_ValueError.init.plain _, codeAny_builtin F.excBase_ValueError.initEntry ?_⟩
      refine exc_init_tree (cls := .ref C) (t0 := t0) (dv := none) (c2 := .none) (c3 := .none) (b4 := .bool false) hx2 (by show 1 ≤ sizeLine; decide) (fun h3 k3 hx3 ht3 => ?_)
      have k03 : ∀ b o, b ≠ x → h₀.get? b = some o → h3.get? b = some o := fun b o n e => k3 b o n (k12 _ _ (k01 _ _ e))
      have nxb : ∀ b o, K.lookup b = some o → b ≠ x := fun b o e z => by
        have := B.kin b o e
        rw [z, hxb] at this; cases this
      have X3 : K.In h3 := fun b o e => k03 b o (nxb b o e) (X0 b o e)
      have hn3 : h3.Ns hp.objs.size (fun y => (List.reverse [(("self" : Str), Value.ref x), (t.prm, v)]).lookup y) := hn.at fun o e => by
        refine k03 _ _ (fun z => ?_) e
        have := Heap.lt_size hx
        rw [← z] at this
        exact absurd this (Nat.lt_irrefl _)
      refine ks_wpAt_execs_cons (ks_wpAt_Assign_Attr ?_)
      refine wpAt_of_wpAny (wpAny_Name (wpAny_loadName_local rfl T.prl hn3 hprm ?_) T.pdb)
      refine wpAny_Name (wpAny_loadName_local rfl T.slf hn3 hself ?_) (by decide)
      obtain ⟨cd0, hcd0, hm0, hh0⟩ : ∃ cd0 : ClassData, clsIn K C = some cd0 ∧ refsVE cd0.mro = true ∧ cd0.hasDict = true := by
        refine ⟨_, by unfold clsIn; rw [hC], ?_, rfl⟩
        exact hbm
      refine set_plain X3 (ox := { cls := .ref C, dict := none, data := .fields #[.ref (h1.push (kxs_mw "ValueError.__init__" x)).objs.size, .none, .none, .none, .bool false, .none] }) (od := none) ⟨hx3, rfl, rfl, trivial⟩ S.exc.sa ?_
      refine exc_osa X3 hx3 hcd0 hm0 hh0 S.noat (fun h' tk' dx k dn dne hx' hnd => ?_)
      refine wpAt_of_wpAny (wpAny_pure (hq h' _ _ dx (fun b o nb e => k b o nb (k03 b o nb (hL e))) (Nat.le_trans (Nat.le_of_lt hn3.lt) dn) dne hx' hnd))
end
end DSup

set_option Elab.async false
set_option linter.all false
set_option maxRecDepth 100000
set_option maxHeartbeats 1000000
/-! D layer: own exceptions made and raised, caught, told apart -/
namespace DL
open PySem PySem.Spec PyProof.Rows L2
/-- C(e): e is read, the exception has the one field t.fld -/
def dxMk (fld : Str) (te : TED) : Dl → Mu → RD → (D → Mu → Prop) → Prop := fun δ μ R Q => te δ μ Q R

section
variable {X : Cx} {W : WX} {x : Str} {e : Expr} {te : TE} {p pos : Pos} {t : DSup.Txt} {C D f cc : Addr} {k : Nat}
theorem pmk_sup (S : DSup.Sup X.prog X.K t C D f cc) (T : t.Is) (iC : PySem.W.findIn X.K (.ref C) "__init__" = some (some (.ref f))) (tI : PySem.W.typeIn X.K (.ref f) = some (.type "function")) (hr : Room (k + 1) X.A) (hg : Gl X x) (hm : X.mg x = some (.ref C)) (he : PE X e te)
    (hdb : (x == ("__debug__" : Str)) = false := by decide) (hs : starEach [e] X.env = (false, eval e X.env) :: starEach [] X.env := by rfl) :
    PMk X (.Call (.Name x p) [e] [] pos) (fun σ H Q => te σ H fun v H1 => ∀ d, H1 d = none → Q (.ref C) (some d) (upd H1 d (.xd [(t.fld, v)]))) := by
  intro pins s σ H Q I h
  have TT := S.exc
  obtain ⟨nm, q, N, bs, bm, sn, sub, ab, col, dd, k0, k1, k2, k3, k5, hC, hbm⟩ := TT.cls
  refine wpAny_Call_Name_kw (ld_glob I hg hm ?_ hdb)
  refine PySem.W.callWith_K (h₀ := X.base) I.ok.mod.kin TT.kC (thn ((pa_cons he pa_nil hs).run pos pins s σ H (fun vs H1 => match vs with | [v] => ∀ d, H1 d = none → Q (.ref C) (some d) (upd H1 d (.xd [(t.fld, v)])) | _ => False) I h) fun us s1 ⟨vs, H1, I1, r1, q1⟩ => ⟨I1.kIn, ?_⟩) hs rfl
  obtain ⟨v, rfl, q1⟩ : ∃ v, vs = [v] ∧ ∀ d, H1 d = none → Q (.ref C) (some d) (upd H1 d (.xd [(t.fld, v)])) := by
    cases vs with
    | nil => exact q1.elim
    | cons v r => cases r with
      | nil => exact ⟨v, rfl, q1⟩
      | cons v2 r => exact q1.elim
  obtain ⟨u, rfl, rv⟩ : ∃ u, us = [u] ∧ RelV v u := by
    cases r1 with
    | cons rv r2 => cases r2 with
      | nil => exact ⟨_, rfl, rv⟩
  show wpAny _ _ (call (.ref C) [u]) _ _ _
  obtain ⟨hp, g, dr, tk, os⟩ := s1
  have hsz : hp.objs.size ≤ hp.objs.size + 1 := Nat.le_succ _
  have hn : H1 (hp.objs.size + 1) = none := I1.hok.fresh hsz
  have kk : ∀ b o, hp.get? b = some o → ((hp.push (PySem.W.kdv_tup [u])).push (PySem.HandSPX.excO C hp.objs.size)).get? b = some o := fun b o e => Heap.get?_push_of_some _ (Heap.get?_push_of_some _ e)
  have hget : ((hp.push (PySem.W.kdv_tup [u])).push (PySem.HandSPX.excO C hp.objs.size)).get? (hp.objs.size + 1) = some (PySem.HandSPX.excO C hp.objs.size) := by heap_get
  have hxb : X.base.get? (hp.objs.size + 1) = none := by
    cases e : X.base.get? (hp.objs.size + 1) with
    | none => rfl
    | some o => exact absurd (Heap.lt_size (I1.bk _ _ e)) (Nat.not_lt.mpr hsz)
  have hus : [u].length ≤ sizeLine := by show 1 ≤ sizeLine; decide
  refine wpAny_call (PySem.HandSPX.call_own F.excBase_ValueError (fun Y => PySem.HandSPX.refsVE_contains Y bm hbm) (I1.kIn _ _ hC) (PySem.W.looks_findIn I1.kIn iC) (fun self => PySem.W.bind_fn I1.kIn self tI) hus ?_)
  refine DSup.init_run S T (I1.kIn.keeps kk) I1.ok.mod (fun b o e => kk b o (I1.bk b o e)) hxb hget (hr.make C [u] []).depth (fun h' tk' t1 dx k dn dne hx' hns => ?_)
  refine ⟨rfl, ?_⟩
  obtain ⟨G, g1', g2'⟩ := restrict h' fun b => decide (b ≠ hp.objs.size + 1)
  have gk : ∀ b, b ≠ hp.objs.size + 1 → G.get? b = h'.get? b := fun b hb => g1' b (decide_eq_true hb)
  have ge : G.get? (hp.objs.size + 1) = none := g2' _ (by simp)
  have nha : ∀ {b : Addr} {o : Obj}, hp.get? b = some o → b ≠ hp.objs.size + 1 := fun {b o} z => Nat.ne_of_lt (Nat.lt_of_lt_of_le (Heap.lt_size z) hsz)
  have dsz : hp.objs.size ≤ dx := by
    rw [Heap.size_push, Heap.size_push] at dn
    omega
  have J : Inv X pins σ (upd H1 dx (.xd [(t.fld, v)])) ⟨G, g, dr, tk', os⟩ :=
    I1.laid (t' := tk') (a := dx) (o := .xd [(t.fld, v)]) (h' := G) (fun b o e => by rw [gk b (nha e)]; exact k b o (nha e) (kk b o e)) dsz ⟨_, hns.at fun o y => (gk dx dne).trans y, relO_put (fs := []) rv fun g => True.intro⟩
  refine ⟨hp.objs.size + 1, _, _, ⟨G, g, dr, tk', os⟩, _, .ref C, some dx, rfl, J, fun b o z => ?_, ge, hx', ⟨rfl, rfl⟩, rfl, rfl, ?_, rfl, I1.bare, raises_own TT.exC TT.tyC, q1 dx (I1.hok.fresh dsz)⟩
  · by_cases hba : b = hp.objs.size + 1
    · subst hba
      rw [show G.get? (hp.objs.size + 1) = none from ge] at z
      cases z
    · exact (gk b hba).symm.trans z
  · rw [upd_ne (Ne.symm dne)]; exact hn
end

/-! ### try with several clauses, each with a name or without -/
/-- a wish of a clause: its class, its name's slot, what its suite does -/
structure Cl where
  c : Value
  i : Option Nat
  ts : Addr → Value → Option Addr → TS
/-- behind a suite its name is gone -/
def goneE (i : Nat) (D : Ends) : Ends := { nx := fun σ H => D.nx (σ.set i none) H, rt := D.rt, bk := fun σ H => D.bk (σ.set i none) H, ct := fun σ H => D.ct (σ.set i none) H }
def Cl.suite (k : Cl) (a : Addr) (cls : Value) (d : Option Addr) : TS := fun D σ H => match k.i with
  | none => k.ts a cls d D σ H
  | some i => k.ts a cls d (goneE i D) (σ.set i (some (.ref a))) H
def wishN (K : PySem.W.Frag) (Wout : WX) (D : Ends) : List Cl → WX
  | [] => Wout
  | k :: r => fun cls d σ H => ∃ b, PySem.W.exmOne K cls k.c = some b ∧ (b = true → ∀ a, H a = none → k.suite a cls d D σ H) ∧ (b = false → wishN K Wout D r cls d σ H)
def ClName (X : Cx) : Option Str → Option Nat → Prop
  | none, none => True
  | some n, some i => X.N[i]? = some n ∧ X.env.kindOf n = some .local
  | _, _ => False
inductive Cls (X : Cx) : List ExceptHandler → List Cl → Prop
  | nil : Cls X [] []
  | cons {y : Str} {k : Cl} {o : Option Str} {st : Stmt} {sts : List Stmt} {q q' : Pos} {hs : List ExceptHandler} {ks : List Cl} (hc : Names X y k.c) (ho : ClName X o k.i)
      (hsu : ∀ (a : Addr) (oe : Obj) (cls : Value) (d : Option Addr) (pn : List (Addr × Obj)), Zc cls d oe → (∃ vs, oe.data = .fields vs) → PSs (X.suite a ((a, oe) :: pn)) (st :: sts) (k.ts a cls d)) (r : Cls X hs ks) :
      Cls X (.ExceptHandler (some (.Name y q)) o (st :: sts) q' :: hs) (k :: ks)

section
variable {X : Cx} {pins : List (Addr × Obj)} {σ : L2.St} {H : Hp} {sI s : Shared} {B : Heap} {a : Addr} {cls : Value} {d : Option Addr} {D : Ends} {Wout : WX}
/-- an exception that this frame looks at, landed -/
structure Held (X : Cx) (pins : List (Addr × Obj)) (σ : L2.St) (H : Hp) (sI s : Shared) (B : Heap) (a : Addr) (cls : Value) (d : Option Addr) : Prop where
  I : Inv X pins σ H sI
  nb : ∀ b o, sI.heap.get? b = some o → b ∉ frs X.stack → B.get? b = some o
  up : sI.heap.UpToSlots s.heap
  fly : HandSPX.FlyingZ B (X.env :: X.outer) a (Zc cls d) s.heap
  na : H a = none
  os : s.os = sI.os
  ag : AllBare s.gens
theorem Held.inv (h : Held X pins σ H sI s B a cls d) : Inv X pins σ H s := h.I.landed h.nb h.fly.1 h.up h.os h.ag
/-- the suite's context at its start -/
theorem Held.suite (h : Held X pins σ H sI s B a cls d) (hf : X.env.frame = some X.env.locals) :
    ∃ oe vs, Zc cls d oe ∧ oe.data = .fields vs ∧ s.heap.get? a = some oe ∧ Inv (X.suite a ((a, oe) :: (X.pn ++ pins))) [] σ H s := by
  obtain ⟨oe, vs, e, z, dv⟩ := h.fly.there
  have out : a ∉ frs (X.env :: X.outer) := fun m => by
    obtain ⟨_, o, eo, nf⟩ := h.fly.2.2.1.mem m
    exact nf vs ((Option.some.inj (eo.symm.trans e)) ▸ dv)
  refine ⟨oe, vs, z, dv, e, h.inv.suite e dv h.na (fun q => out ?_) fun m => out ?_⟩
  · exact List.mem_filterMap.mpr ⟨X.env, List.mem_cons_self, by rw [hf, q]⟩
  · obtain ⟨e', m', q⟩ := List.mem_filterMap.mp m
    exact List.mem_filterMap.mpr ⟨e', List.mem_cons_of_mem _ m', q⟩
/-- no clause takes it -/
theorem Held.out (h : Held X pins σ H sI s B a cls d) (hs : X.stack = X.env :: X.outer) (hf : X.env.frame = some X.env.locals) (tk : Takes X Wout) (w : Wout cls d σ H) :
    wpAny (model X.prog X.w) X.A (handleBy (.ref a) X.env []) (SP X pins D) X.xe s := by
  refine wpAny_handleBy_nil ?_
  obtain ⟨_, _, _, oe, vs, T, oT, ts', he, _, hd, h1, _⟩ := id h.fly
  unfold PySem.passOn
  refine wpAny_bind (wpAny_field he hd h1 ?_)
  rw [if_neg (show ¬ ((Value.ref T == Value.none) = true) from by simp)]
  have last : wpAny (model X.prog X.w) X.A (setFlight (.ref a) X.env.frame) (fun _ s4 => wpAny (model X.prog X.w) X.A (throw (.ref a) : Sem Flow) (SP X pins D) X.xe s4) X.xe s := by
    rw [hf]
    exact HandSPX.setFlight_upZ h.fly fun h4 hh4 up4 => wpAny_throw (tk _ _ ⟨a, B, sI, pins, σ, H, cls, d, rfl, h.I, h.nb, h.up.trans up4, .inr (.inr (by rw [hs]; exact hh4)), h.na, h.os, h.ag, w⟩)
  first
    | exact wpAny_bind (wpAny_pure (wpAny_bind last))
    | exact wpAny_bind last
theorem Held.run (h : Held X pins σ H sI s B a cls d) (hs : X.stack = X.env :: X.outer) (hf : X.env.frame = some X.env.locals) (hN : X.N.Nodup) (tk : Takes X Wout) {hds : List ExceptHandler} {ks : List Cl} (hk : Cls X hds ks) :
    wishN X.K Wout D ks cls d σ H → wpAny (model X.prog X.w) X.A (handleBy (.ref a) X.env hds) (SP X pins D) X.xe s := by
  have ok := h.I.ok
  induction hk with
  | nil => exact fun w => h.out hs hf tk w
  | @cons y k o st sts q q' hs2 ks2 hc ho hsu _ ih =>
    intro ⟨b, hb, hyes, hno⟩
    obtain ⟨oe, vs, z, dv, e, S⟩ := h.suite hf
    have I3 := h.inv
    refine wpAny_handleBy_cons (codeAny_handlers_test ?_) (by intro q; cases q)
    have LT : PySem.W.Looks (model X.prog X.w) s.heap (typeOf (.ref a)) cls := fun A Q E s k q => wpAny_typeOf_ref (k _ _ e) (by rw [z.1]; exact q)
    have LM := PySem.W.exm_one (M := model X.prog X.w) I3.kIn LT hb
    have ask : ∀ {Q : Value → Shared → Prop} {E : Value → Shared → Prop}, Q k.c s → wpAny (model X.prog X.w) (X.A.mark (some (.ref a))) (eval (.Name y q) X.env) Q E s := fun {Q E} q => by
      obtain ⟨hg, hdbg, hm | ⟨hm, hv, hnn⟩⟩ := hc
      · exact ld_glob (X := X.suite a ((a, oe) :: (X.pn ++ pins))) S hg hm q hdbg
      · exact ld_blt (X := X.suite a ((a, oe) :: (X.pn ++ pins))) S hg hm hv q hnn hdbg
    refine ask (LM.here ?_)
    cases b with
    | false => exact ih (hno rfl)
    | true =>
      have q1 := hyes rfl a h.na
      obtain ⟨kc, ki, kts⟩ := k
      cases o with
      | none =>
        cases ki with
        | some i => exact ho.elim
        | none =>
          refine codeAny_handlers_suite (HandSPX.lands_againZ h.fly fun h4 fl4 up4 => ?_)
          obtain ⟨oe4, vs4, z4, dv4, _, S4⟩ := Held.suite ⟨h.I, h.nb, h.up.trans up4, fl4, h.na, h.os, h.ag⟩ hf (s := { s with heap := h4 })
          refine wpAny_mono ((hsu a oe4 cls d (X.pn ++ pins) z4 ⟨_, dv4⟩).run [] _ σ H D S4 q1) (fun f s6 hsp => ?_) (fun _ _ z => False.elim z)
          match f, hsp with
          | .next, ⟨_, _, S6, q6⟩ => exact ⟨_, _, S6.unsuite ok, q6⟩
          | .brk, ⟨_, _, S6, q6⟩ => exact ⟨_, _, S6.unsuite ok, q6⟩
          | .cont, ⟨_, _, S6, q6⟩ => exact ⟨_, _, S6.unsuite ok, q6⟩
          | .ret u, ⟨_, _, _, S6, r6, q6⟩ => exact ⟨_, _, _, S6.unsuite ok, r6, q6⟩
      | some n =>
        cases ki with
        | none => exact ho.elim
        | some i =>
          obtain ⟨hi, hl⟩ := ho
          refine codeAny_handlers_suite_as (HandSPX.lands_againZ h.fly fun h4 fl4 up4 => ?_)
          obtain ⟨oe4, vs4, z4, dv4, _, S4⟩ := Held.suite ⟨h.I, h.nb, h.up.trans up4, fl4, h.na, h.os, h.ag⟩ hf (s := { s with heap := h4 })
          refine store_ok (X := X.suite a ((a, oe4) :: (X.pn ++ pins))) (v := .ref a) S4 hN hi (.inl hl) rfl (fun s5 S5 => ?_) (.inr hl)
          refine wpAny_mono ((hsu a oe4 cls d (X.pn ++ pins) z4 ⟨_, dv4⟩).run [] s5 _ H _ S5 q1) (fun f s6 hsp => ?_) (fun _ _ z => False.elim z)
          match f, hsp with
          | .next, ⟨_, _, S6, q6⟩ => exact gone_ok (S6.unsuite ok) hN hi hl fun s7 J7 => ⟨_, _, J7, q6⟩
          | .brk, ⟨_, _, S6, q6⟩ => exact gone_ok (S6.unsuite ok) hN hi hl fun s7 J7 => ⟨_, _, J7, q6⟩
          | .cont, ⟨_, _, S6, q6⟩ => exact gone_ok (S6.unsuite ok) hN hi hl fun s7 J7 => ⟨_, _, J7, q6⟩
          | .ret u, ⟨_, _, _, S6, r6, q6⟩ => exact gone_ok (S6.unsuite ok) hN hi hl fun s7 J7 => ⟨_, _, _, J7, r6, q6⟩
end
section
variable {X : Cx} {body : List Stmt} {h₀ : ExceptHandler} {hds : List ExceptHandler} {ks : List Cl} {pos : Pos} {tb : WX → TS} {Wout : WX}
theorem ps_tryN (hs : X.stack = X.env :: X.outer) (hf : X.env.frame = some X.env.locals) (hN : X.N.Nodup) (tk : Takes X Wout)
    (hb : ∀ (W : WX) (pn : List (Addr × Obj)) (xe : Value → Shared → Prop), Takes (X.tr pn xe) W → PassesOwn (model X.prog X.w) X.A X.env xe → PSs (X.tr pn xe) body (tb W))
    (hh : Cls X (h₀ :: hds) ks) : PS X (.Try body (h₀ :: hds) [] [] pos) (fun D σ H => tb (wishN X.K Wout D ks) D σ H) := by
  refine ⟨fun pins s σ H D I h => ?_⟩
  have ok := I.ok
  refine wpAny_Try_except (wpAny_mono ((hb (wishN X.K Wout D ks) (X.pn ++ pins) (fun e s₁ => wpAny (model X.prog X.w) X.A (noteFrame e X.env) (fun _ s₂ => wpAny (model X.prog X.w) X.A (setFlight e none) (fun _ s₃ =>
    wpAny (model X.prog X.w) X.A (handleBy e X.env (h₀ :: hds)) (SP X pins D) X.xe s₃) X.xe s₂) X.xe s₁) (fun u s' xx => ?_) PassesOwn.looking).run [] s σ H D (I.toTry _) h) (fun f s1 hsp => ?_) (fun e s1 he => he))
  · obtain ⟨a, B, sI, pins', σ', H', cls, d, rfl, J, nb, up, sky, na, os, ag, w⟩ := xx
    refine Sky.land Zc.steady (by rw [ok.frames, hs]) hf (by rw [← hs]; exact sky) fun h3 fl3 up3 => ?_
    exact Held.run (sI := sI) (s := { s' with heap := h3 }) ⟨J.ofTry ok, nb, up.trans up3, fl3, na, os, ag⟩ hs hf hN tk hh w
  · match f, hsp with
    | .next, ⟨_, _, J, q⟩ => exact wpAny_execs_nil ⟨_, _, J.ofTry ok, q⟩
    | .brk, ⟨_, _, J, q⟩ => exact ⟨_, _, J.ofTry ok, q⟩
    | .cont, ⟨_, _, J, q⟩ => exact ⟨_, _, J.ofTry ok, q⟩
    | .ret u, ⟨_, _, _, J, r, q⟩ => exact ⟨_, _, _, J.ofTry ok, r, q⟩
end

/-! ### by data: made, raised, caught -/
abbrev PMD := Dl → Mu → (Str → List (Str × D) → Mu → Prop) → RD → Prop
def FinX (K : PySem.W.Frag) (Z H : Hp) (μ : Mu) (Q : Str → List (Str × D) → Mu → Prop) (Q0 : XK) : Prop := ∀ c dd H' Z' fs μ', Gr Z H μ Z' H' μ' → Rep K H' Z' μ' → XAt K Z' dd fs → Q c fs μ' → Q0 (.ref (He.ga K c)) dd H'
theorem FinX.mono {K : PySem.W.Frag} {Z Z' H H1 : Hp} {μ μ1 : Mu} {Q : Str → List (Str × D) → Mu → Prop} {Q0 : XK} (e : Gr Z H μ Z' H1 μ1) (f : FinX K Z H μ Q Q0) : FinX K Z' H1 μ1 Q Q0 := fun c dd H' Z2 fs μ' s => f c dd H' Z2 fs μ' (e.trans s)
def upM (K : PySem.W.Frag) (W : WX) (t : PMD) : L2.St → Hp → XK → Prop := fun σ H Q0 => ∃ Z δ μ Q R, SlD K Z σ δ ∧ Rep K H Z μ ∧ t δ μ Q R ∧ FinX K Z H μ Q Q0 ∧ FinR K W Z H μ R
abbrev DM (X : Cx) (W : WX) (e : Expr) (t : PMD) : Prop := PMk X e (upM X.K W t)
theorem pmk_weak {X : Cx} {e : Expr} {t t' : L2.St → Hp → XK → Prop} (p : PMk X e t) (w : ∀ σ H Q, t' σ H Q → t σ H Q) : PMk X e t' := fun pins s σ H Q I h => p pins s σ H Q I (w σ H Q h)
/-- c(e, ..), c without own __init__ -/
def dX0 (c : Str) (t : TAD) : PMD := fun δ μ Q R => t δ μ (fun ds μ1 => ds.length ≤ 1000 ∧ Q c [] μ1) R
/-- c(e), c's __init__ stores it as f -/
def dX1 (c f : Str) (t : TED) : PMD := fun δ μ Q R => t δ μ (fun x μ1 => Q c [(f, x)] μ1) R
def dRaise (t : PMD) : TSD := fun _ δ μ R => t δ μ (fun c fs μ1 => R δ c fs μ1) R
section
variable {X : Cx} {W : WX} {e : Expr} {es : List Expr} {te : TED} {t : TAD} {c f : Str} {p pos : Pos}
theorem dm_0 (hX : (He.Fa.exc c).ok X.K = true) (hg : Gl X c) (hm : X.mg c = some (.ref (He.ga X.K c))) (ha : DA X W (e :: es) t) (hdb : (c == ("__debug__" : Str)) = false := by decide)
    (he : starEach (e :: es) X.env = (false, eval e X.env) :: starEach es X.env := by rfl) (hpl : (backTo pos (starEach es X.env)).any (·.1) = false := by rfl) : DM X W (.Call (.Name c p) (e :: es) [] pos) (dX0 c t) := by
  obtain ⟨h1, h2, h3, h4⟩ := He.exc_ok hX
  refine pmk_weak (pmk_ownA F.excBase_ValueError h1 hm h2 (raises_own h3 h4) hg ha hdb he hpl) fun σ H Q0 ⟨Z, δ, μ, Q, R, sl, rp, q, f, fx⟩ => ⟨Z, δ, μ, _, R, sl, rp, q, fun vs H1 Z1 ds μ1 g1 r1 i1 h1 => ?_, fx⟩
  exact ⟨by rw [← i1.length, sizeLine_eq]; have := h1.1; omega, f c none H1 Z1 [] μ1 g1 r1 rfl h1.2⟩
theorem dm_1 {tx : DSup.Txt} {D f cc : Addr} {k : Nat} (S : DSup.Sup X.prog X.K tx (He.ga X.K c) D f cc) (T : tx.Is) (iC : PySem.W.findIn X.K (.ref (He.ga X.K c)) "__init__" = some (some (.ref f))) (tI : PySem.W.typeIn X.K (.ref f) = some (.type "function")) (hr : Room (k + 1) X.A) (hg : Gl X c) (hm : X.mg c = some (.ref (He.ga X.K c)))
    (he : DE X W e te) (hdb : (c == ("__debug__" : Str)) = false := by decide) (hs : starEach [e] X.env = (false, eval e X.env) :: starEach [] X.env := by rfl) : DM X W (.Call (.Name c p) [e] [] pos) (dX1 c tx.fld te) := by
  refine pmk_weak (pmk_sup S T iC tI hr hg hm he hdb hs) fun σ H Q0 ⟨Z, δ, μ, Q, R, sl, rp, q, f, fx⟩ => ⟨Z, δ, μ, _, R, sl, rp, q, fun v H1 Z1 x μ1 g1 r1 i1 h1 d hd => ?_, fx⟩
  obtain ⟨r2, s2⟩ := r1.new hd (.xd [(tx.fld, v)])
  exact f c (some d) _ _ [(tx.fld, x)] μ1 (g1.trans (r1.gr_new hd _)) r2 ⟨_, upd_same, rfl, .cons (i1.mono s2) .nil⟩ h1
theorem ds_raise {tm : PMD} (hc : X.calm = true) (tk : Takes X W) (he : DM X W e tm) : DS X W (.Raise (some e) none pos) (dRaise tm) :=
  ps_weak (ps_raise hc tk he) fun D σ H ⟨Z, δ, μ, E, R, sl, rp, q, fn, fr, fb, fc, fx⟩ => ⟨Z, δ, μ, _, R, sl, rp, q, fun c dd H1 Z1 fs μ1 g1 r1 x1 h1 => fx σ δ c dd H1 Z1 fs μ1 g1 (sl.mono g1.same) r1 x1 h1, fx⟩
end

/-- a clause: its class, what of it, its name's slot, its suite -/
structure ClD where
  c : Str
  tab : Str → Option Bool
  i : Option Nat
  ts : Addr → Option Addr → Str → TSD
def dGone (i : Nat) (E : EndD) : EndD := { nx := fun δ μ => E.nx (δ.set i none) μ, rt := E.rt, bk := fun δ μ => E.bk (δ.set i none) μ, ct := fun δ μ => E.ct (δ.set i none) μ }
def excD (a : Addr) (d : Option Addr) (c : Str) (fs : List (Str × D)) : D := .exc a d c (fs.map (·.1)) (fs.map (·.2))
def ClD.suite (k : ClD) (a : Addr) (d : Option Addr) (c : Str) (fs : List (Str × D)) : EndD → Dl → Mu → Prop := fun E δ μ => match k.i with
  | none => k.ts a d c E δ μ R0
  | some i => k.ts a d c (dGone i E) (δ.set i (some (excD a d c fs))) μ R0
def dHds (E : EndD) (R : RD) : List ClD → RD
  | [] => R
  | k :: r => fun δ c fs μ => ∃ b, k.tab c = some b ∧ (b = true → ∀ a d, k.suite a d c fs E δ μ) ∧ (b = false → dHds E R r δ c fs μ)
def dTry (t : TSD) (ks : List ClD) : TSD := fun E δ μ R => t E δ μ (dHds E R ks)
def ClD.cl (K : PySem.W.Frag) (k : ClD) : Cl := ⟨.ref (He.ga K k.c), k.i, fun a cls d D σ H => ∃ c, cls = .ref (He.ga K c) ∧ upS K W0 (k.ts a d c) D σ H⟩
inductive ClsD (X : Cx) : List ExceptHandler → List ClD → Prop
  | nil : ClsD X [] []
  | cons {k : ClD} {y : Str} {o : Option Str} {st : Stmt} {sts : List Stmt} {q q' : Pos} {hs : List ExceptHandler} {ks : List ClD} (hy : y = k.c) (hg : Gl X k.c) (hd : (k.c == ("__debug__" : Str)) = false) (hm : X.mg k.c = some (.ref (He.ga X.K k.c))) (ho : ClName X o k.i)
      (htab : ∀ c b, k.tab c = some b → PySem.W.exmOne X.K (.ref (He.ga X.K c)) (.ref (He.ga X.K k.c)) = some b)
      (hsu : ∀ (a : Addr) (oe : Obj) (c : Str) (d : Option Addr) (pn : List (Addr × Obj)), Zc (.ref (He.ga X.K c)) d oe → (∃ vs, oe.data = .fields vs) → DSs (X.suite a ((a, oe) :: pn)) W0 (st :: sts) (k.ts a d c)) (r : ClsD X hs ks) :
      ClsD X (.ExceptHandler (some (.Name y q)) o (st :: sts) q' :: hs) (k :: ks)
section
variable {X : Cx} {W Wout : WX} {body : List Stmt} {h₀ : ExceptHandler} {hds : List ExceptHandler} {ks : List ClD} {pos : Pos} {t : TSD}
theorem ClsD.cls {hds : List ExceptHandler} (h : ClsD X hds ks) : Cls X hds (ks.map (ClD.cl X.K)) := by
  induction h with
  | nil => exact .nil
  | @cons k y o st sts q q' hs ks hy hg hd hm ho htab hsu r ih =>
    subst hy
    refine .cons (k := k.cl X.K) ⟨hg, hd, .inl hm⟩ ho (fun a oe cls d pn hz hf => ⟨fun pins s σ H D I hh => ?_⟩) ih
    obtain ⟨c, e, u⟩ := hh
    subst e
    exact (hsu a oe c d pn hz hf).run pins s σ H D I u
theorem XAt.exc {K : PySem.W.Frag} {Z : Hp} {d : Option Addr} {fs : List (Str × D)} (h : XAt K Z d fs) (a : Addr) (c : Str) : IsD K Z (excD a d c fs) (.ref a) := by
  cases d with
  | none =>
    have h : fs = [] := h
    subst h
    exact .exc0 a c
  | some dx =>
    obtain ⟨vs, h1, h2, h3⟩ := h
    exact .exc1 h1 h2 rfl h3
theorem fin_hds {K : PySem.W.Frag} {Z H : Hp} {μ : Mu} {D : Ends} {E : EndD} {R : RD} (fn : FinS K Z H μ E.nx D.nx) (fr : Fin K Z H μ E.rt D.rt) (fb : FinS K Z H μ E.bk D.bk) (fc : FinS K Z H μ E.ct D.ct) (fx : FinR K Wout Z H μ R) :
    ∀ ks : List ClD, (∀ k ∈ ks, ∀ c b, k.tab c = some b → PySem.W.exmOne K (.ref (He.ga K c)) (.ref (He.ga K k.c)) = some b) → FinR K (wishN K Wout D (ks.map (ClD.cl K))) Z H μ (dHds E R ks)
  | [], _ => fx
  | k :: r, ht => by
    have ih := fin_hds fn fr fb fc fx r fun k' hk => ht k' (.tail _ hk)
    intro σ' δ' c dd H' Z' fs μ' g sl rp xa ⟨b, hb, hy, hn⟩
    refine ⟨b, ht k (.head _) c b hb, fun e a na => ?_, fun e => ih σ' δ' c dd H' Z' fs μ' g sl rp xa (hn e)⟩
    have q := hy e a dd
    obtain ⟨kc, kt, ki, kts⟩ := k
    cases ki with
    | none => exact ⟨c, rfl, Z', δ', μ', E, R0, sl, rp, q, fn.mono g, fr.mono g, fb.mono g, fc.mono g, finR0⟩
    | some i =>
      have un : ∀ {N : Dl → Mu → Prop} {N0 : L2.St → Hp → Prop}, FinS K Z H μ N N0 → FinS K Z' H' μ' (fun δ μ => N (δ.set i none) μ) (fun σ H => N0 (σ.set i none) H) := fun {N N0} f σ2 H2 Z2 δ2 μ2 g2 r2 s2 h2 => f _ H2 Z2 _ μ2 (g.trans g2) r2 (s2.unset i) h2
      exact ⟨c, rfl, Z', _, μ', dGone i E, R0, sl.set i (xa.exc a c), rp, q, un fn, fr.mono g, un fb, un fc, finR0⟩
theorem ds_try (hs : X.stack = X.env :: X.outer) (hf : X.env.frame = some X.env.locals) (hN : X.N.Nodup) (tk : Takes X Wout)
    (hb : ∀ (W : WX) (pn : List (Addr × Obj)) (xe : Value → Shared → Prop), Takes (X.tr pn xe) W → PassesOwn (model X.prog X.w) X.A X.env xe → DSs (X.tr pn xe) W body t)
    (hh : ClsD X (h₀ :: hds) ks) : DS X Wout (.Try body (h₀ :: hds) [] [] pos) (dTry t ks) := by
  have ht : ∀ {hds : List ExceptHandler} {ks : List ClD}, ClsD X hds ks → ∀ k ∈ ks, ∀ c b, k.tab c = some b → PySem.W.exmOne X.K (.ref (He.ga X.K c)) (.ref (He.ga X.K k.c)) = some b := by
    intro hds ks h
    induction h with
    | nil => intro k hk; cases hk
    | cons hy hg hd hm ho htab hsu r ih =>
      intro k hk
      cases hk with
      | head => exact htab
      | tail _ hk => exact ih k hk
  exact ps_weak (ps_tryN hs hf hN tk (tb := fun W => upS X.K W t) hb hh.cls) fun D σ H ⟨Z, δ, μ, E, R, sl, rp, q, fn, fr, fb, fc, fx⟩ => ⟨Z, δ, μ, E, _, sl, rp, q, fn, fr, fb, fc, fin_hds fn fr fb fc fx ks (ht hh)⟩
end
/-- e.f, e the exception that the suite holds -/
def dXfl (f : Str) (te : TED) : TED := fun δ μ Q R => te δ μ (fun x μ1 => match x with | .exc _ _ _ ns ds => ∃ v, (ns.zip ds).lookup f = some v ∧ Q v μ1 | _ => False) R
theorem lookup_rel {K : PySem.W.Frag} {Z : Hp} {f : Str} {v : D} : ∀ {vs : List (Str × V)} {ds : List D}, IsDs K Z ds (vs.map (·.2)) → ((vs.map (·.1)).zip ds).lookup f = some v → ∃ w, vs.lookup f = some w ∧ IsD K Z v w
  | [], _, _, h => by cases h
  | (g, w) :: r, [], i, h => by cases i
  | (g, w) :: r, d :: ds, i, h => by
    obtain ⟨_, _, e, i1, i2⟩ := i.inv_cons
    cases e
    simp only [List.map_cons, List.zip_cons_cons, List.lookup] at h ⊢
    split at h
    · cases h; exact ⟨w, rfl, i1⟩
    · exact lookup_rel i2 h
section
variable {X : Cx} {W : WX} {a : Addr} {oe : Obj} {d : Option Addr} {c f : Str} {pn : List (Addr × Obj)} {e : Expr} {te : TED} {pos : Pos}
def xfl (a : Addr) (d : Option Addr) (c : Str) (cs : List Str) (f : Str) (te : TED) : TED := fun δ μ Q R => c ∈ cs ∧ te δ μ (fun x μ1 => ∃ ns ds v, x = .exc a d c ns ds ∧ (ns.zip ds).lookup f = some v ∧ Q v μ1) R
theorem de_xf {cs : List Str} (T : ∀ c ∈ cs, XfC X.K (He.ga X.K c) ∧ PySem.W.findIn X.K (.ref (He.ga X.K c)) f = some none) (hz : Zc (.ref (He.ga X.K c)) d oe) (hf : ∃ vs, oe.data = .fields vs) (he : DE (X.suite a ((a, oe) :: pn)) W e te)
    (hb : attributeBase e f X.env (eval e X.env) = eval e X.env := by rfl) : DE (X.suite a ((a, oe) :: pn)) W (.Attribute e f pos) (xfl a d c cs f te) := by
  refine ⟨fun pins s σ H Q0 I ⟨Z, δ, μ, Q, R, sl, rp, ⟨hc, q⟩, fq, fx⟩ => ?_⟩
  obtain ⟨t1, t2⟩ := T c hc
  refine (pe_xf t1 t2 hz hf he hb).run pins s σ H Q0 I ⟨Z, δ, μ, _, R, sl, rp, q, fun v H1 Z1 x μ1 g1 r1 i1 h1 => ?_, fx⟩
  obtain ⟨ns, ds, y, rfl, hl, q1⟩ := h1
  cases i1 with
  | exc0 => simp at hl
  | exc1 z1 z2 z3 z4 =>
    subst z2
    subst z3
    obtain ⟨w, hw, iw⟩ := lookup_rel z4 hl
    exact ⟨rfl, rfl, _, _, w, rfl, r1.sub _ _ z1, hw, fq w H1 Z1 y μ1 g1 r1 iw q1⟩
/-- isinstance(e, C) -/
def dIsE (a : Addr) (d : Option Addr) (c : Str) (cs : List Str) (tab : Str → Option Bool) : RDs := fun xs μ Q => c ∈ cs ∧ ∃ ns ds C b, xs = [.exc a d c ns ds, .cls C] ∧ tab C = some b ∧ Q (.bl b) μ
def rIsX (K : PySem.W.Frag) (D a : Addr) (d : Option Addr) (P : Prop) : List V → Hp → VK → Prop := fun xs H Q => P ∧ (∀ dx, d = some dx → ∃ vs, H dx = some (.xd vs)) ∧ ∃ (C : Addr) (b : Bool), xs = [.ref a, .ref C] ∧ PySem.W.kitOne K (.ref D) (.ref C) = some b ∧ Q (.bl b) H
theorem call_isX {D : Addr} {P : Prop} (C : P → L2.ExcC X.K D) (hz : Zc (.ref D) d oe) (hf : ∃ vs, oe.data = .fields vs) : CallR (X.suite a ((a, oe) :: pn)) (.builtin "isinstance") (rIsX X.K D a d P) := by
  intro pins s σ H xs us Q I r ⟨hp, hdd, c, b, hx, e, q⟩
  subst hx
  have C := C hp
  cases r with
  | cons rx rr => cases rr with
    | cons rt rr =>
      cases rr
      cases (show _ = Value.ref a from rx)
      cases (show _ = Value.ref c from rt)
      obtain ⟨hget, _⟩ := I.pin (a, oe) (List.mem_append.mpr (.inl List.mem_cons_self))
      obtain ⟨vs, hv⟩ := hf
      obtain ⟨od, J⟩ : ∃ od, PySem.W.InstAt s.heap a oe D od := by
        obtain ⟨oc, odd, oda, osl⟩ := oe
        obtain ⟨h1, h2⟩ := hz
        dsimp only at h1 h2 hv
        subst h1 h2 hv
        cases odd with
        | none => exact ⟨none, hget, rfl, rfl, trivial⟩
        | some dx =>
          obtain ⟨ws, hw⟩ := hdd dx rfl
          obtain ⟨mA, ⟨o, es, ep, ho, _⟩, _⟩ := (show ObjOk X.prog X.w H s.heap dx (.xd ws) from I.hok dx _ hw)
          exact ⟨some o, hget, rfl, rfl, ho⟩
      exact PySem.W.kia_one (PySem.W.kitx_exc (by obtain ⟨cd, hc, _⟩ := PySem.W.any_some C.hd; rw [hc]; rfl) C.hg C.hk C.hs C.ha C.hn C.ht C.hm) I.kIn J e (fun z => nomatch z) fun tk => ⟨.bl b, H, I.kept (t' := tk) fun _ _ z => z, rfl, q⟩
theorem c_isX {cs : List Str} {tab : Str → Option Bool} (htab : ∀ C b, tab C = some b → PySem.W.kitOne X.K (.ref (He.ga X.K c)) (.ref (He.ga X.K C)) = some b) : CompS X.K (rIsX X.K (He.ga X.K c) a d (c ∈ cs)) (dIsE a d c cs tab) := by
  intro H Z μ xs vs Q Q0 rp ids ⟨hc, ns, ds, C, b, hx, ht, q⟩ f
  subst hx
  obtain ⟨v1, r1, rfl, i1, j1⟩ := ids.inv_cons
  obtain ⟨v2, r2, rfl, i2, j2⟩ := j1.inv_cons
  obtain rfl := j2.inv_nil
  obtain rfl : v2 = .ref (He.ga X.K C) := by cases i2; rfl
  cases i1 with
  | exc0 => exact ⟨hc, (fun dx h => nomatch h), _, b, rfl, htab C b ht, f _ H Z _ μ (Gr.refl _ _ _) rp (.bl b) q⟩
  | exc1 z1 z2 z3 z4 =>
    refine ⟨hc, (fun dx h => ?_), _, b, rfl, htab C b ht, f _ H Z _ μ (Gr.refl _ _ _) rp (.bl b) q⟩
    cases h
    exact ⟨_, rp.sub _ _ z1⟩
/-- isinstance(e, C) in the suite -/
theorem de_isE {cs : List Str} {tab : Str → Option Bool} {x1 x2 : Expr} {p : Pos} {t : TAD} (C : ∀ c ∈ cs, L2.ExcC X.K (He.ga X.K c)) (htab : ∀ C b, tab C = some b → PySem.W.kitOne X.K (.ref (He.ga X.K c)) (.ref (He.ga X.K C)) = some b) (hz : Zc (.ref (He.ga X.K c)) d oe) (hf : ∃ vs, oe.data = .fields vs)
    (hg : Gl X "isinstance") (hm : X.mg "isinstance" = none) (hv : bootBuiltins "isinstance" = some (.builtin "isinstance")) (ha : DA (X.suite a ((a, oe) :: pn)) W [x1, x2] t)
    (he : starEach [x1, x2] X.env = (false, eval x1 X.env) :: starEach [x2] X.env := by rfl) (hpl : (backTo pos (starEach [x2] X.env)).any (·.1) = false := by rfl) : DE (X.suite a ((a, oe) :: pn)) W (.Call (.Name "isinstance" p) [x1, x2] [] pos) (dCall1 (dIsE a d c cs tab) t) :=
  de_cb (X := X.suite a ((a, oe) :: pn)) (call_isX (P := c ∈ cs) (C c) hz hf) (c_isX htab) hg hm hv ha (by decide) (by decide) he hpl
end
end DL

set_option Elab.async false
set_option linter.all false
set_option maxRecDepth 100000
set_option maxHeartbeats 2000000
/-! D layer: isinstance of plain data, properties, class methods -/
namespace DL
open PySem PySem.Spec PyProof.Rows L2

/-- the type of data, where it is a built-in one -/
def kindD (μ : Mu) : D → Option String
  | .non => some "NoneType" | .bl _ => some "bool" | .int _ => some "int" | .str _ => some "str" | .tup _ => some "tuple" | .lst _ => some "list" | .rol _ => some "list"
  | .ref a => (match μ a with | some (.lst _) => some "list" | _ => none)
  | _ => none
def isTab (k n : String) : Option Bool := match n with
  | "int" => some (k == "int" || k == "bool")
  | "bool" => some (k == "bool")
  | "str" => some (k == "str")
  | "tuple" => some (k == "tuple")
  | "list" => some (k == "list")
  | _ => none
theorem isTab_ok {K : PySem.W.Frag} {μ : Mu} {x : D} {k n : String} {b : Bool} (hk : kindD μ x = some k) (h : isTab k n = some b) : PySem.W.kitOne K (.type k) (.type n) = some b := by
  have ks : k = "NoneType" ∨ k = "bool" ∨ k = "int" ∨ k = "str" ∨ k = "tuple" ∨ k = "list" := by
    cases x <;> simp only [kindD] at hk <;> first | (cases hk; simp; done) | (split at hk <;> cases hk <;> simp; done) | cases hk
  unfold isTab at h
  split at h
  all_goals first
    | cases h; done
    | (rcases ks with rfl | rfl | rfl | rfl | rfl | rfl <;> (cases h; kernel_rfl))

/-- isinstance(x, n), n a built-in type, x plain -/
def dIsi : RDs := fun xs μ Q => match xs with
  | [x, .ty n] => ∃ k b, kindD μ x = some k ∧ isTab k n = some b ∧ Q (.bl b) μ
  | _ => False
theorem kind_ty {K : PySem.W.Frag} {H Z : Hp} {μ : Mu} {x : D} {v : V} {k : String} (rp : Rep K H Z μ) (i : IsD K Z x v) (hk : kindD μ x = some k) : TyX K H v (.type k) := by
  cases i with
  | non => cases hk; exact .base .non
  | bl b => cases hk; exact .base (.bl b)
  | int b => cases hk; exact .base (.int b)
  | str b => cases hk; exact .base (.str b)
  | tup h _ =>
    cases hk
    rcases rp.sqT h with (h | ⟨o, h⟩) | ⟨o, its, n, h1, h2, _⟩
    · exact .base (.tup h)
    · exact .fTuple h
    · exact .kTuple h1 h2
  | lst h _ => cases hk; exact .base (.lst (rp.sub _ _ h))
  | rol h _ =>
    cases hk
    rcases (rp.sub.seq h) with (h | ⟨o, h⟩) | ⟨o, its, n, h1, h2, _⟩
    · exact .base (.lst h)
    · exact .base (.frz h)
    · exact .kList h1 h2
  | ref a =>
    simp only [kindD] at hk
    split at hk
    · rename_i ds e
      cases hk
      obtain ⟨_, _, vs, h, _⟩ := rp.cel a _ e
      exact .base (.lst h)
    · cases hk
  | slt => cases hk
  | cls => cases hk
  | ty => cases hk
  | exc0 => cases hk
  | exc1 => cases hk
theorem c_isi {K : PySem.W.Frag} : CompS K (rIsi K) dIsi := by
  intro H Z μ xs vs Q Q0 rp ids q f
  unfold dIsi at q
  split at q
  · rename_i x n
    obtain ⟨k, b, hk, hb, q⟩ := q
    obtain ⟨v1, r1, rfl, i1, j1⟩ := ids.inv_cons
    obtain ⟨v2, r2, rfl, i2, j2⟩ := j1.inv_cons
    obtain rfl := j2.inv_nil
    cases i2
    exact ⟨v1, .ty n, .type k, .type n, b, rfl, .ty n, kind_ty rp i1 hk, isTab_ok hk hb, f _ H Z _ μ (Gr.refl _ _ _) rp (.bl b) q⟩
  · exact q.elim

/-! ### properties, class methods -/
/-- e.f, a property of c -/
def dProp (c : Str) (dsp : DSp) (te : TED) : TED := fun δ μ Q R => te δ μ (fun x μ1 => (∃ ds, x = .slt c ds) ∧ dsp [x] μ1 Q (fun _ _ _ => False)) R
/-- e.m(..), e the class c -/
def dCMeth (c : Str) (dsp : DSp) (te : TED) (t : TAD) : TED := fun δ μ Q R => te δ μ (fun x μ1 => x = .cls c ∧ t δ μ1 (fun ds μ2 => dsp (.cls c :: ds) μ2 Q (R δ)) R) R
section
variable {X : Cx} {W : WX} {o e : Expr} {es : List Expr} {te : TED} {t : TAD} {c f m : Str} {k : Nat} {p g : Addr} {pos apos : Pos} {dsp : DSp} {mc : Value} {pl : Sem Bool}
theorem de_prop (cl : SlX.SCls X.K (He.ga X.K c)) (at_ : PySem.W.findIn X.K (.ref (He.ga X.K c)) f = some (some (.ref p))) (get : PySem.W.specialIn X.K (.ref p) "__get__" = some (some (.builtin "property.__get__"))) (tk : PySem.W.takesIn X.K (.ref p) = some true)
    (rc : ∃ rest, PySem.W.recIn X.K p "property" = some (.ref g :: rest)) (F : FnD X.prog X.w X.K X.mg X.base k g dsp) (hr : Room (k + 1) X.A) (he : DE X W e te) (hb : attributeBase e f X.env (eval e X.env) = eval e X.env := by rfl) : DE X W (.Attribute e f pos) (dProp c dsp te) :=
  pe_weak (SlX.pe_propSl (E := fun _ _ _ => False) he cl at_ get tk rc F hr (fun H s e s' h => by obtain ⟨_, _, _, _, _, _, _, _, _, _, _, _, z⟩ := h; exact z) hb) fun σ H Q0 ⟨Z, δ, μ, Q, R, sl, rp, q, f, fx⟩ => ⟨Z, δ, μ, _, R, sl, rp, q, fun v H1 Z1 x μ1 g1 r1 i1 h1 => by
    obtain ⟨⟨ds, rfl⟩, h1⟩ := h1
    cases i1 with
    | slt z1 z2 z3 z4 =>
      exact ⟨_, _, _, rfl, .inr ⟨r1.sub _ _ z1, r1.sub _ _ z2⟩, Z1, _, μ1, Q, _, r1, IsDs.one (IsD.slt z1 z2 z3 z4), h1, f.mono g1, fun c dd H' Z' fs μ' _ _ _ h => h⟩, fx⟩
theorem de_cmeth (F : FnD X.prog X.w X.K X.mg X.base k g dsp) (hr : Room k X.A) (tk : Takes X W) (r : ClX.CRead X.K (He.ga X.K c) mc) (cm : ClX.CMet X.K (He.ga X.K c) mc m p g) (ho : DE X W o te) (ha : DA X W (e :: es) t)
    (hst : starEach (e :: es) X.env = (false, eval e X.env) :: starEach es X.env := by rfl) (hpl : (backTo pos (starEach es X.env)).any (·.1) = false := by rfl)
    (ht : eval (.Call (.Attribute o m apos) (e :: es) [] pos) X.env = (do
      let ov ← eval o X.env
      standAt apos.atName
      let (f, first) ← holding [ov] (getMethod ov m pl)
      callWith pos f first (backTo pos (starEach (e :: es) X.env)) (backToKw pos (keywordEach [] X.env))) := by rfl) :
    DE X W (.Call (.Attribute o m apos) (e :: es) [] pos) (dCMeth c dsp te t) := by
  refine ⟨fun pins s σ H Q0 I ⟨Z, δ, μ, Q, R, sl, rp, q, f, fx⟩ => ?_⟩
  refine PySem.W.methodCall_KW (pl := pl) (thn (ho.run pins s σ H (fun v H1 => v = .ref (He.ga X.K c) ∧ ∃ Z1 μ1, Gr Z H μ Z1 H1 μ1 ∧ Rep X.K H1 Z1 μ1 ∧ t δ μ1 (fun ds μ2 => dsp (.cls c :: ds) μ2 Q (R δ)) R) I ⟨Z, δ, μ, _, R, sl, rp, q, fun v H1 Z1 x μ1 g1 r1 i1 h1 => ?_, fx⟩) fun u s1 ⟨v, H1, I1, rv, ev, Z1, μ1, g1, r1, h1⟩ => ?_) ht
  · obtain ⟨rfl, h1⟩ := h1
    cases i1
    exact ⟨rfl, Z1, μ1, g1, r1, h1⟩
  · subst ev
    obtain rfl : u = Value.ref (He.ga X.K c) := rv
    refine ClX.getmethcm_ok I1 r cm fun s2 I2 => ?_
    refine ClX.callwith_cm I2 (ClX.base_none I1 (Nat.le_refl _)) cm.fi (thn (ha.run pos _ s2 σ H1 (fun vs H2 => liftD X.K dsp (.ref (He.ga X.K c) :: vs) H2 Q0 (WE W σ)) I2 ⟨Z1, δ, μ1, _, R, sl.mono g1.same, r1, h1, fun vs H2 Z2 ds μ2 g2 r2 i2 h2 => ?_, fx.mono g1⟩) fun us s3 ⟨vs, H2, I3, rv, q2⟩ => ⟨⟨ClX.pin_at I3, I3.kIn⟩, ?_⟩) hst hpl
    · exact ⟨Z2, .cls c :: ds, μ2, Q, R δ, r2, .cons (.cls c) i2, h2, (f.mono g1).mono g2, fun c dd H' Z' fs μ' g3 r3 x3 h3 => (fx.mono g1) σ δ c dd H' Z' fs μ' (g2.trans g3) (((sl.mono g1.same).mono g2.same).mono g3.same) r3 x3 h3⟩
    · refine thn (wpAny_call (PySem.W.method_call (ClX.pin_at I3) (run_S (us := .ref (He.ga X.K c) :: us) (vs := .ref (He.ga X.K c) :: vs) F hr (passAt tk σ) I3 (.cons rfl rv) q2))) fun _ _ y => ClX.unpinE y
end
end DL

set_option Elab.async false
set_option linter.all false
set_option maxRecDepth 100000
set_option maxHeartbeats 2000000
/-! D layer: what the head tells of the program's objects: by names, defs of class methods, properties and __init__s with a class cell too -/
namespace DH
open PySem L2

/-- where a def's function object stands -/
inductive At where
  | glo (x : Str)
  | mth (C m : Str)
  | inn (C m : Str) (T : String)
def atA (K : PySem.W.Frag) : At → Addr
  | .glo x => He.ga K x
  | .mth C m => He.ma K (He.ga K C) m
  | .inn C m T => (match PySem.W.recIn K (He.ma K (He.ga K C) m) T with
    | some (.ref g :: _) => g
    | _ => 0)
structure DefA where
  at_ : At
  name : Str
  qual : Str
  params : Arguments
  body : List Stmt
  scope : Scope
  clo : List Str := []
  dfl : List He.Dv := []
abbrev FnA : Type := Option (Str × Str × Arguments × FuncBody × Scope × Addr × List Str × Addr)
def fnA (K : PySem.W.Frag) (a : Addr) : FnA := match K.lookup a with
  | some ⟨_, _, .func fd, _⟩ => some (fd.name, fd.qualname, fd.params, fd.body, fd.scope, fd.globals, fd.closure.map (·.1), fd.builtins)
  | _ => none
def DefA.val (d : DefA) : FnA := some (d.name, d.qual, d.params, .stmts d.body, d.scope, mainGlobals, d.clo, builtinsNs)
def DefA.ok (K : PySem.W.Frag) (d : DefA) : Bool := PySem.W.keepIn K (.ref (atA K d.at_)) && (match K.lookup (atA K d.at_) with
  | some ⟨_, _, .func fd, _⟩ => PySem.W.codeIn K fd.code d.qual && He.dflB K fd.defaults (d.dfl.map (He.Dv.v K))
  | _ => false)
theorem DefA.funD {K : PySem.W.Frag} {d : DefA} (e : fnA K (atA K d.at_) = d.val) (c : d.ok K = true) (hc : d.clo = []) : ∃ fd, FunD K d.name d.qual d.params d.body d.scope (d.dfl.map (He.Dv.v K)) [] (atA K d.at_) fd := by
  obtain ⟨kp, c2⟩ := He.ba c
  unfold fnA at e
  cases q : K.lookup (atA K d.at_) with
  | none => rw [q] at c2; cases c2
  | some o =>
    obtain ⟨oc, od, dt, osl⟩ := o
    rw [q] at c2 e
    cases dt with
    | func fd =>
      obtain ⟨n1, n2, n3, n4, n5, n6, n7, n8, n9, n10, n11, n12, n13, n14, n15⟩ := fd
      have e2 : (some (n1, n2, n3, n4, n5, n6, n7.map (·.1), n15) : FnA) = some (d.name, d.qual, d.params, .stmts d.body, d.scope, mainGlobals, d.clo, builtinsNs) := e
      simp only [Option.some.injEq, Prod.mk.injEq] at e2
      obtain ⟨h1, h2, h3, h4, h5, h6, h7, h8⟩ := e2
      rw [hc] at h7
      have h7 : n7 = [] := List.map_eq_nil_iff.mp h7
      subst h1 h2 h3 h4 h5 h6 h7 h8
      have c3 : (PySem.W.codeIn K n13 d.qual && He.dflB K n8 (d.dfl.map (He.Dv.v K))) = true := c2
      obtain ⟨k1, k2⟩ := He.ba c3
      exact ⟨_, ⟨oc, od, n8, n9, n10, n11, n12, n13, n14, osl, rfl, q, k1, He.dflB_ok k2, He.kwdB_ok (kws := []) rfl⟩, kp⟩
    | _ => cases c2

/-! ### what K must show, as Bools -/
abbrev Chk : Type := PySem.W.Frag → Bool
def fa (f : He.Fa) : Chk := fun K => f.ok K
def eqV (a b : Option (Option Value)) : Bool := decide (a = b)
/-- isinstance of an exception: the class x asked for y -/
def kitC (x y : Str) (b : Bool) : Chk := fun K => decide (PySem.W.kitOne K (.ref (He.ga K x)) (.ref (He.ga K y)) = some b)
def excC (x : Str) : Chk := fun K => He.eqO (PySem.W.findIn K (.ref (He.ga K x)) "__getattribute__") (some (some (.builtin "BaseException.__getattribute__"))) && (He.eqO (PySem.W.findIn K (.ref (He.ga K x)) "__getattr__") (some none) &&
  (decide (PySem.W.subIn K (.ref (He.ga K x)) (.type "BaseException") = some true) && (PySem.W.hasDictIn K (He.ga K x) && (He.eqO (PySem.W.findIn K (.ref (He.ga K x)) "__class__") (some (some (.builtin "object.__class__"))) &&
  (He.eqO (PySem.W.specialIn K (.builtin "object.__class__") "__get__") (some (some (.builtin "getset_descriptor.__get__"))) && (decide (PySem.W.takesIn K (.builtin "object.__class__") = some true) && decide (PySem.W.mroIn K (He.ga K x) (.type "object") = some true)))))))
theorem excC_ok {K : PySem.W.Frag} {x : Str} (h : excC x K = true) : L2.ExcC K (He.ga K x) := by
  obtain ⟨h1, h⟩ := He.ba h
  obtain ⟨h2, h⟩ := He.ba h
  obtain ⟨h3, h⟩ := He.ba h
  obtain ⟨h4, h⟩ := He.ba h
  obtain ⟨h5, h⟩ := He.ba h
  obtain ⟨h6, h⟩ := He.ba h
  obtain ⟨h7, h8⟩ := He.ba h
  exact ⟨He.eqO_ok h1, He.eqO_ok h2, of_decide_eq_true h3, h4, He.eqO_ok h5, He.eqO_ok h6, of_decide_eq_true h7, of_decide_eq_true h8⟩
def xflC (x f : Str) : Chk := fun K => xfB K (He.ga K x) && He.eqO (PySem.W.findIn K (.ref (He.ga K x)) f) (some none)
theorem xflC_ok {K : PySem.W.Frag} {x f : Str} (h : xflC x f K = true) : XfC K (He.ga K x) ∧ PySem.W.findIn K (.ref (He.ga K x)) f = some none := by
  obtain ⟨h1, h2⟩ := He.ba h
  exact ⟨xfB_ok h1, He.eqO_ok h2⟩
/-! slots -/
def sclC (x : Str) : Chk := fun K => PySem.W.plainGet K (He.ga K x) Str.empty && (PySem.W.isClsIn K (He.ga K x) && (PySem.W.plainOver K (He.ga K x) && He.eqO (PySem.W.findIn K (.ref (He.ga K x)) "__setattr__") (some (some (.builtin "object.__setattr__")))))
theorem sclC_ok {K : PySem.W.Frag} {x : Str} (h : sclC x K = true) : SlX.SCls K (He.ga K x) := by
  obtain ⟨h1, h⟩ := He.ba h
  obtain ⟨h2, h⟩ := He.ba h
  obtain ⟨h3, h4⟩ := He.ba h
  exact ⟨h1, h2, h3, He.eqO_ok h4⟩
def sltC (x f : Str) (i : Nat) : Chk := fun K => He.eqO (PySem.W.findIn K (.ref (He.ga K x)) f) (some (some (.ref (He.ma K (He.ga K x) f)))) && (He.eqO (PySem.W.specialIn K (.ref (He.ma K (He.ga K x) f)) "__get__") (some (some (.builtin "member_descriptor.__get__"))) &&
  (decide (PySem.W.takesIn K (.ref (He.ma K (He.ga K x) f)) = some true) && (decide (PySem.W.typeIn K (.ref (He.ma K (He.ga K x) f)) = some (.type "member_descriptor")) && (decide (PySem.W.slotIn K (He.ma K (He.ga K x) f) (He.ga K x) = some i) && decide (i < 1000)))))
theorem sltC_ok {K : PySem.W.Frag} {x f : Str} {i : Nat} (h : sltC x f i K = true) : SlX.Slot1 K (He.ga K x) f (He.ma K (He.ga K x) f) i := by
  obtain ⟨h1, h⟩ := He.ba h
  obtain ⟨h2, h⟩ := He.ba h
  obtain ⟨h3, h⟩ := He.ba h
  obtain ⟨h4, h⟩ := He.ba h
  obtain ⟨h5, h6⟩ := He.ba h
  exact ⟨He.eqO_ok h1, He.eqO_ok h2, of_decide_eq_true h3, of_decide_eq_true h4, of_decide_eq_true h5, of_decide_eq_true h6⟩
/-! properties, class methods -/
def prpC (x f : Str) : Chk := fun K => He.eqO (PySem.W.findIn K (.ref (He.ga K x)) f) (some (some (.ref (He.ma K (He.ga K x) f)))) && (He.eqO (PySem.W.specialIn K (.ref (He.ma K (He.ga K x) f)) "__get__") (some (some (.builtin "property.__get__"))) &&
  (decide (PySem.W.takesIn K (.ref (He.ma K (He.ga K x) f)) = some true) && (match PySem.W.recIn K (He.ma K (He.ga K x) f) "property" with | some (.ref g :: _) => decide (g = atA K (.inn x f "property")) | _ => false)))
theorem prpC_ok {K : PySem.W.Frag} {x f : Str} (h : prpC x f K = true) : PySem.W.findIn K (.ref (He.ga K x)) f = some (some (.ref (He.ma K (He.ga K x) f))) ∧ PySem.W.specialIn K (.ref (He.ma K (He.ga K x) f)) "__get__" = some (some (.builtin "property.__get__")) ∧
    PySem.W.takesIn K (.ref (He.ma K (He.ga K x) f)) = some true ∧ ∃ rest, PySem.W.recIn K (He.ma K (He.ga K x) f) "property" = some (.ref (atA K (.inn x f "property")) :: rest) := by
  obtain ⟨h1, h⟩ := He.ba h
  obtain ⟨h2, h⟩ := He.ba h
  obtain ⟨h3, h4⟩ := He.ba h
  refine ⟨He.eqO_ok h1, He.eqO_ok h2, of_decide_eq_true h3, ?_⟩
  split at h4
  · rename_i g r e
    exact ⟨r, by rw [e, of_decide_eq_true h4]⟩
  · cases h4
def cmtC (x m : Str) : Chk := fun K => (PySem.W.readsIn K (He.ga K x) (.type "type") && He.eqO (PySem.W.specialIn K (.ref (He.ga K x)) "__getattribute__") (some (some (.builtin "type.__getattribute__")))) && ((match PySem.W.findCls K (.ref (He.ga K x)) (.type "type") m with
    | some (.get (.builtin b) (.ref p) .none (.ref C)) => decide (b = "classmethod.__get__") && (decide (p = He.ma K (He.ga K x) m) && decide (C = He.ga K x))
    | _ => false) && ((match PySem.W.recIn K (He.ma K (He.ga K x) m) "classmethod" with | some (.ref g :: _) => decide (g = atA K (.inn x m "classmethod")) | _ => false) && PySem.W.fnIn K (atA K (.inn x m "classmethod"))))
theorem cmtC_ok {K : PySem.W.Frag} {x m : Str} (h : cmtC x m K = true) : ClX.CRead K (He.ga K x) (.type "type") ∧ ClX.CMet K (He.ga K x) (.type "type") m (He.ma K (He.ga K x) m) (atA K (.inn x m "classmethod")) := by
  obtain ⟨h1, h⟩ := He.ba h
  obtain ⟨h3, h⟩ := He.ba h
  obtain ⟨h4, h5⟩ := He.ba h
  obtain ⟨h1, h2⟩ := He.ba h1
  refine ⟨⟨h1, He.eqO_ok h2⟩, ?_, ?_, h5⟩
  · split at h3
    · rename_i b p C e
      obtain ⟨g1, g⟩ := He.ba h3
      obtain ⟨g2, g3⟩ := He.ba g
      rw [e, of_decide_eq_true g1, of_decide_eq_true g2, of_decide_eq_true g3]
    · cases h3
  · split at h4
    · rename_i g r e
      exact ⟨r, by rw [e, of_decide_eq_true h4]⟩
    · cases h4

/-! own exceptions with an __init__ -/
def ccA (K : PySem.W.Frag) (a : Addr) : Addr := match K.lookup a with
  | some ⟨_, _, .func fd, _⟩ => (match fd.closure with
    | (_, c) :: _ => c
    | _ => 0)
  | _ => 0
/-- the file that a code object names -/
def fileOk (prog : Program) (K : PySem.W.Frag) (cd : Value) : Bool := match cd with
  | .ref cda => (match K.lookup cda with
    | some ⟨_, _, .fields vs, _⟩ => (match (vs[2]? : Option Value) with
      | some (.str file _) => (prog.main.file : Str) == file
      | _ => false)
    | _ => false)
  | _ => false
/-- x's __init__ stands in the class d -/
def supC (prog : Program) (x d fld : Str) : Chk := fun K =>
  (match K.lookup (atA K (.mth d "__init__")) with
    | some ⟨_, _, .func fd, _⟩ => fileOk prog K fd.code
    | _ => false) &&
  ((match K.lookup (ccA K (atA K (.mth d "__init__"))) with
    | some ⟨_, _, .cell (some (.ref D)), _⟩ => decide (D = He.ga K d)
    | _ => false) &&
  ((PySem.W.clsIn K (He.ga K d)).isSome && (decide (PySem.W.subIn K (.ref (He.ga K x)) (.ref (He.ga K d)) = some true) && (He.eqO (PySem.W.ks_superIn K (He.ga K x) (He.ga K d) "__init__") (some (some (.builtin "ValueError.__init__"))) &&
  (He.eqO (PySem.W.nsIn K cStatics "thirdparty.any") (some none) && (decide (PySem.W.subIn K (.ref (He.ga K x)) (.type "ValueError") = some true) && (He.eqO (PySem.W.nsIn K mainGlobals "super") (some none) && (!(prog.main.scope.names.lookup ("super" : Str)).isSome &&
  (He.eqO (PySem.W.findIn K (.ref (He.ga K x)) fld) (some none) &&
  ((match K.lookup (He.ga K x) with
    | some ⟨.type "type", _, .cls cd, sl⟩ => (match cd.mro with
        | .ref C' :: bm => decide (C' = He.ga K x) && PySem.HandSPX.refsVE bm
        | _ => false) && (cd.hasDict && (!cd.hasDel && (match sl.toList with
        | [_, _, _, _, some (.builtin n), _] => decide (n = "ValueError.__new__")
        | _ => false)))
    | _ => false) &&
  (He.eqO (PySem.W.findIn K (.ref (He.ga K x)) "__setattr__") (some (some (.builtin "object.__setattr__"))) && (decide (PySem.W.subIn K (.ref (He.ga K x)) (.type "BaseException") = some true) && (decide (PySem.W.typeIn K (.ref (He.ga K x)) = some (.type "type")) && (PySem.W.keepIn K (.ref (He.ga K x)) &&
  (He.eqO (PySem.W.findIn K (.ref (He.ga K x)) "__init__") (some (some (.ref (atA K (.mth d "__init__"))))) && decide (PySem.W.typeIn K (.ref (atA K (.mth d "__init__"))) = some (.type "function")))))))))))))))))
structure SupIn (prog : Program) (K : PySem.W.Frag) (t : DSup.Txt) (x d : Str) : Prop where
  sup : DSup.Sup prog K t (He.ga K x) (He.ga K d) (atA K (.mth d "__init__")) (ccA K (atA K (.mth d "__init__")))
  ini : PySem.W.findIn K (.ref (He.ga K x)) "__init__" = some (some (.ref (atA K (.mth d "__init__"))))
  typ : PySem.W.typeIn K (.ref (atA K (.mth d "__init__"))) = some (.type "function")
theorem supC_ok {prog : Program} {K : PySem.W.Frag} {x d : Str} {t : DSup.Txt} {df : DefA} (ha : df.at_ = .mth d "__init__") (e : fnA K (atA K df.at_) = df.val) (c : df.ok K = true) (hc : df.clo = [("__class__" : Str)]) (hdf : df.dfl = [])
    (h1 : df.name = "__init__") (h2 : df.qual = t.qual) (h3 : df.params = t.params) (h4 : df.body = t.body) (h5 : df.scope = t.scope) (h : supC prog x d t.fld K = true) : SupIn prog K t x d := by
  rw [ha] at e
  obtain ⟨b1, h⟩ := He.ba h
  obtain ⟨b2, h⟩ := He.ba h
  obtain ⟨b3, h⟩ := He.ba h
  obtain ⟨b4, h⟩ := He.ba h
  obtain ⟨b5, h⟩ := He.ba h
  obtain ⟨b6, h⟩ := He.ba h
  obtain ⟨b7, h⟩ := He.ba h
  obtain ⟨b8, h⟩ := He.ba h
  obtain ⟨b9, h⟩ := He.ba h
  obtain ⟨b10, h⟩ := He.ba h
  obtain ⟨b11, h⟩ := He.ba h
  obtain ⟨b12, h⟩ := He.ba h
  obtain ⟨b13, h⟩ := He.ba h
  obtain ⟨b14, h⟩ := He.ba h
  obtain ⟨b15, h⟩ := He.ba h
  obtain ⟨b16, b17⟩ := He.ba h
  obtain ⟨kp, c2⟩ := He.ba c
  rw [ha] at c2
  refine ⟨⟨?_, ?_, b3, of_decide_eq_true b4, He.eqO_ok b5, He.eqO_ok b6, of_decide_eq_true b7, He.eqO_ok b8, by simpa using b9, ⟨?_, He.eqO_ok b12, of_decide_eq_true b13, of_decide_eq_true b14, b15⟩, He.eqO_ok b10⟩, He.eqO_ok b16, of_decide_eq_true b17⟩
  · unfold fnA at e
    cases q : K.lookup (atA K (.mth d "__init__")) with
    | none => rw [q] at c2; cases c2
    | some o =>
      obtain ⟨oc, od, dt, osl⟩ := o
      rw [q] at c2 e b1
      cases dt with
      | func fd =>
        obtain ⟨n1, n2, n3, n4, n5, n6, n7, n8, n9, n10, n11, n12, n13, n14, n15⟩ := fd
        have e2 : (some (n1, n2, n3, n4, n5, n6, n7.map (·.1), n15) : FnA) = some (df.name, df.qual, df.params, .stmts df.body, df.scope, mainGlobals, df.clo, builtinsNs) := e
        simp only [Option.some.injEq, Prod.mk.injEq] at e2
        obtain ⟨g1, g2, g3, g4, g5, g6, g7, g8⟩ := e2
        rw [hc] at g7
        have c3 : (PySem.W.codeIn K n13 df.qual && He.dflB K n8 (df.dfl.map (He.Dv.v K))) = true := c2
        obtain ⟨k1, k2⟩ := He.ba c3
        have k3 : n8 = .none := by
          rw [hdf] at k2
          unfold He.dflB at k2
          simp only [List.map_nil] at k2
          split at k2
          · rfl
          · cases k2
        obtain ⟨c0, rfl⟩ : ∃ c0, n7 = [(("__class__" : Str), c0)] := by
          match n7, g7 with
          | [(a, b)], g7 =>
            have : a = ("__class__" : Str) := by simpa using g7
            exact ⟨b, by rw [this]⟩
        have hcc : ccA K (atA K (.mth d "__init__")) = c0 := by unfold ccA; rw [q]
        rw [hcc]
        replace b1 : fileOk prog K n13 = true := b1
        unfold fileOk at b1
        split at b1
        · rename_i cda
          split at b1
          · rename_i ccl cdd vs ccs hcda
            split at b1
            · rename_i file tf hvs
              subst k3
              refine ⟨oc, od, n12, osl, n9, n10, n11, n14, cda, ?_, by rw [← h2]; exact k1, ccl, cdd, vs, ccs, file, tf, hcda, hvs, b1⟩
              subst g1 g2 g3 g4 g5 g6 g8
              rw [h1, h2, h3, h4, h5]
            · cases b1
          · cases b1
        · cases b1
      | _ => cases c2
  · split at b2
    · rename_i cl cld D csl q
      exact ⟨cl, cld, csl, by rw [q, of_decide_eq_true b2]⟩
    · cases b2
  · split at b11
    · rename_i dd cd sl q
      obtain ⟨m1, b⟩ := He.ba b11
      obtain ⟨m2, b⟩ := He.ba b
      obtain ⟨m3, m4⟩ := He.ba b
      split at m1
      · rename_i C' bm hm
        obtain ⟨m1, m5⟩ := He.ba m1
        split at m4
        · rename_i k0 k1 k2 k3 n k5 hs
          obtain ⟨nm, bs, mro, ns, qn, hd, sn, sub, ab, col, del⟩ := cd
          dsimp only at hm m2 m3
          have m1 := of_decide_eq_true m1
          have m4 := of_decide_eq_true m4
          have hdel : del = false := by simpa using m3
          subst hm m2 m4 hdel m1
          have hsl : sl = #[k0, k1, k2, k3, some (.builtin "ValueError.__new__"), k5] := by
            obtain ⟨l⟩ := sl
            simp only at hs
            rw [hs]
          subst hsl
          exact ⟨nm, qn, ns, bs, bm, sn, sub, ab, col, dd, k0, k1, k2, k3, k5, q, m5⟩
        · cases m4
      · cases m1
    · cases b11

/-! ### the Hook -/
def asA (g : Addr → Option Obj) : Nat → List Addr
  | 0 => [mainGlobals, cStatics]
  | n + 1 => He.growD g (asA g n)
abbrev AlA : Type := Bool × List FnA
def obsK (fs : List Chk) (ds : List DefA) (K : PySem.W.Frag) : AlA := ((fs.all fun f => f K) && ds.all fun d => d.ok K, ds.map fun d => fnA K (atA K d.at_))
def valA (ds : List DefA) : AlA := (true, ds.map DefA.val)
def Says (fs : List Chk) (ds : List DefA) (K : PySem.W.Frag) : Prop := obsK fs ds K = valA ds
def obsG (n : Nat) (fs : List Chk) (ds : List DefA) (g : Addr → Option Obj) : AlA := obsK fs ds (He.frG g (asA g n))
def hook (n : Nat) (fs : List Chk) (ds : List DefA) : PySem.W.Hook where
  α := AlA
  obs := fun s => obsG n fs ds s.heap.get?
  val := fun _ => valA ds
  says := fun _ h => ∃ K : PySem.W.Frag, K.In h ∧ Says fs ds K
  of := fun _ _ e => ⟨_, He.frG_in, e⟩
  keeps := fun _ _ _ ⟨K, hK, c⟩ k => ⟨K, PySem.W.Frag.In.keeps hK k, c⟩
theorem obsG_eq {n : Nat} {fs : List Chk} {ds : List DefA} {g : Addr → Option Obj} {s : Shared} (h : ∀ a, g a = s.heap.get? a) : obsG n fs ds g = (hook n fs ds).obs s := by
  have e : g = s.heap.get? := funext h
  rw [e] <;> rfl
section
variable {fs : List Chk} {ds : List DefA} {K : PySem.W.Frag}
theorem Says.all (c : Says fs ds K) : ((fs.all fun f => f K) && ds.all fun d => d.ok K) = true := congrArg (fun z : AlA => z.1) c
theorem Says.fact (c : Says fs ds K) {f : Chk} (i : Nat) (h : fs[i]? = some f := by rfl) : f K = true := List.all_eq_true.mp (He.ba c.all).1 f (List.mem_of_getElem? h)
theorem Says.dok (c : Says fs ds K) {d : DefA} (i : Nat) (h : ds[i]? = some d := by rfl) : d.ok K = true := List.all_eq_true.mp (He.ba c.all).2 d (List.mem_of_getElem? h)
theorem Says.dval (c : Says fs ds K) {d : DefA} (i : Nat) (h : ds[i]? = some d := by rfl) : fnA K (atA K d.at_) = d.val := by
  have e : ds.map (fun d => fnA K (atA K d.at_)) = ds.map DefA.val := congrArg (fun z : AlA => z.2) c
  have e2 : (ds.map fun d => fnA K (atA K d.at_))[i]? = (ds.map DefA.val)[i]? := by rw [e]
  rw [List.getElem?_map, List.getElem?_map, h] at e2
  exact Option.some.inj e2
theorem Says.fn (c : Says fs ds K) {d : DefA} (i : Nat) (h : ds[i]? = some d := by rfl) (hc : d.clo = [] := by rfl) : ∃ fd, FunD K d.name d.qual d.params d.body d.scope (d.dfl.map (He.Dv.v K)) [] (atA K d.at_) fd := DefA.funD (c.dval i h) (c.dok i h) hc
end
end DH

set_option Elab.async false
set_option linter.all false
set_option maxRecDepth 100000
set_option maxHeartbeats 2000000
/-! D layer: a def by its body (both forms), small tables, the end of a law -/
namespace DL
open PySem PySem.Spec PyProof.Rows PySem.Calls L2

section
variable {P : Program} {w : World} {K : PySem.W.Frag} {mg : Str → Option Value} {base : Heap} {x qual : Str} {params : Arguments} {bd : List Stmt} {scope : Scope} {f : Addr} {fd : FuncData} {N ps : List Str} {k : Nat} {rd : TSD} {dsp dsp' : DSp}
theorem fn_bodyO (F : FunD K x qual params bd scope [] [] f fd) (S : FnScope N ps scope)
    (hb : ∀ (kV doc pm : Value) (an : Option Addr) (cdv ct : Value) (us : List Value), us.length = ps.length → bindArgs (PySem.W.fnOf x qual params bd scope .none kV doc pm an cdv ct) ⟨us, []⟩ = pure (ps.zip us))
    (hbody : ∀ (cdv : Value) (A : Around) (outer : List Env) (s : Shared) (H : Hp) (E : XK), Room k (cxD P w K mg base N qual scope f cdv A outer s H E).A → DSs (cxD P w K mg base N qual scope f cdv A outer s H E) (WD E) bd rd) :
    FnOk P w K mg base (L2.CX P w) (k + 1) f fd ps (liftD K (body ps.length N.length rd)) := by
  refine F.ok S (fun vs H Q E ⟨Z, ds, μ, QQ, Rx, rp, i, q, _⟩ => by rw [← i.length]; exact q.1) (fun cdv A outer s H vs Q E hr ⟨Z, ds, μ, QQ, Rx, rp, i, q, f, x⟩ => ⟨_, hbody cdv A outer s H E hr, ?_⟩)
  exact ⟨Z, _, μ, { nx := fun _ μ' => QQ .non μ', rt := QQ }, _, start_slD i, rp, q.2, fun σ' H' Z' δ' μ' s' r' sl' h' => f _ H' Z' _ μ' s' r' .non h', f, fun σ' H' Z' δ' μ' s' r' sl' h' => h'.elim, fun σ' H' Z' δ' μ' s' r' sl' h' => h'.elim,
    fun σ' δ' c dd H' Z' fs μ' s' sl' r' x' h' => x c dd H' Z' fs μ' s' r' x' h'⟩
theorem fnD (F1 : FnOk P w K mg base (L2.CX P w) k f fd ps (liftD K dsp)) (F : FunD K x qual params bd scope [] [] f fd)
    (hb : ∀ (kV doc pm : Value) (an : Option Addr) (cdv ct : Value) (us : List Value), us.length = ps.length → bindArgs (PySem.W.fnOf x qual params bd scope .none kV doc pm an cdv ct) ⟨us, []⟩ = pure (ps.zip us)) : FnD P w K mg base k f dsp := by
  have F2 := F1.raw (F.bindsN hb) .nil
  exact F2.imp fun vs H Q E h => by rw [List.append_nil]; exact h
theorem liftD_weak (h : ∀ ds μ Q R, dsp' ds μ Q R → dsp ds μ Q R) : ∀ vs H Q E, liftD K dsp' vs H Q E → liftD K dsp vs H Q E :=
  fun vs H Q E ⟨Z, ds, μ, QQ, Rx, rp, i, q, f, x⟩ => ⟨Z, ds, μ, QQ, Rx, rp, i, h _ _ _ _ q, f, x⟩
/-- nothing is promised -/
theorem fn_false {h : DSp} (hh : ∀ ds μ Q R, ¬ h ds μ Q R) : FnD P w K mg base k f h := fun A stack s H us vs Q E hr e0 r ⟨Z, ds, μ, QQ, Rx, rp, i, q, _⟩ => (hh _ _ _ _ q).elim
end

/-! ### tables of answers -/
def tabX (ts fs : List Str) (c : Str) : Option Bool := if c ∈ ts then some true else if c ∈ fs then some false else none
theorem tabX_ok {P : Str → Bool → Prop} {ts fs : List Str} (h1 : ∀ c ∈ ts, P c true) (h2 : ∀ c ∈ fs, P c false) : ∀ c b, tabX ts fs c = some b → P c b := by
  intro c b h
  unfold tabX at h
  split at h
  · cases h; exact h1 c ‹_›
  · split at h
    · cases h; exact h2 c ‹_›
    · cases h
def isTabX (c : Str) (ts fs : List Str) (C0 C : Str) : Option Bool := if C = C0 then tabX ts fs c else none
theorem isTabX_ok {P : Str → Str → Bool → Prop} {c C0 : Str} {ts fs : List Str} (h1 : ∀ c ∈ ts, P c C0 true) (h2 : ∀ c ∈ fs, P c C0 false) : ∀ C b, isTabX c ts fs C0 C = some b → P c C b := by
  intro C b h
  unfold isTabX at h
  split at h
  · rename_i e; rw [e]; exact tabX_ok (P := fun c b => P c C0 b) h1 h2 c b h
  · cases h

/-! ### a block of a comprehension -/
def blkB (N : List Str) (sc scope : Scope) (own : List (Str × Nat)) : Bool :=
  decide (scope.kind = .function) && (scope.names.all fun y => decide (scope.names.lookup y.1 = some y.2)) && (own.all fun p => decide (N[p.2]? = some p.1)) &&
    (scope.names.all fun y => !decide (y.2 = .free) || (decide (sc.names.lookup y.1 = some .cell) || decide (sc.names.lookup y.1 = some .free))) &&
    (scope.names.all fun y => !(decide (y.2 = .local) || decide (y.2 = .cell)) || (decide (y.1 ∈ own.map (·.1)) || decide (y.1 ∉ N)))
theorem blk_ok {N : List Str} {sc scope : Scope} {own : List (Str × Nat)} (h : blkB N sc scope own = true) : BlkOk N sc scope own := by
  unfold blkB at h
  simp only [Bool.and_eq_true, List.all_eq_true, decide_eq_true_eq, Bool.or_eq_true, Bool.not_eq_true', decide_eq_false_iff_not] at h
  obtain ⟨⟨⟨⟨h1, h2⟩, h3⟩, h4⟩, h5⟩ := h
  refine ⟨h1, h2, h3, fun y hy e => ?_, fun y hy e => ?_⟩
  · rcases h4 y hy with z | z
    · exact absurd e z
    · exact z
  · rcases h5 y hy with z | z
    · exfalso
      rw [Bool.or_eq_false_iff, decide_eq_false_iff_not, decide_eq_false_iff_not] at z
      rcases e with e | e
      · exact z.1 e
      · exact z.2 e
    · exact z

/-! ### the text of an own exception's __init__ -/
def supPos : List Stmt → Nat → Pos
  | [.Expr (.Call (.Attribute (.Call (.Name _ a0) _ _ a1) _ a2) [.Constant _ _ a3] _ a4) a5, .Assign [.Attribute (.Name _ a6) _ a7] (.Name _ a8) a9] => fun n => match n with
    | 0 => a0 | 1 => a1 | 2 => a2 | 3 => a3 | 4 => a4 | 5 => a5 | 6 => a6 | 7 => a7 | 8 => a8 | _ => a9
  | _ => fun _ => ⟨0, 0, 0, 0⟩

/-! ### built-in names -/
theorem b_len : bootBuiltins "len" = some (.builtin "len") := by decide +kernel
theorem b_abs : bootBuiltins "abs" = some (.builtin "abs") := by decide +kernel
theorem b_isinstance : bootBuiltins "isinstance" = some (.builtin "isinstance") := by decide +kernel
theorem b_int : bootBuiltins "int" = some (.type "int") := by decide +kernel
theorem b_str : bootBuiltins "str" = some (.type "str") := by decide +kernel
theorem b_tuple : bootBuiltins "tuple" = some (.type "tuple") := by decide +kernel
theorem b_list : bootBuiltins "list" = some (.type "list") := by decide +kernel
theorem b_bool : bootBuiltins "bool" = some (.type "bool") := by decide +kernel

/-! ### the end -/
theorem rep0 {K : PySem.W.Frag} (H : Hp) : Rep K H H (fun _ => none) := ⟨Same.refl _, (fun _ _ h => nomatch h), (fun _ _ _ _ h => nomatch h)⟩
theorem isDs_ints {K : PySem.W.Frag} {Z : Hp} : ∀ ns : List Int, IsDs K Z (ns.map D.int) (ns.map V.int)
  | [] => .nil
  | n :: r => .cons (.int n) (isDs_ints r)
/-- a law's promise at the script's numbers -/
def LawTrue (n : Nat) (dsp : DSp) : Prop := ∀ ns : List Int, ns.length ≤ n → (∀ z ∈ ns, Builtin.Int.intBits z ≤ 1048576) → dsp [.rol (ns.map D.int)] (fun _ => none) (fun v _ => v = .bl true) (fun _ _ _ => False)
theorem walk_D {l : PySem.W.OpenLaw} {n k : Nat} {q : Program} {loose : List Str} {XP : (Str → Option Value) → Heap → Prop} {YP : World → Heap → Prop} {d : DefRec} {x : Str}
    (hn : l.most = some n) (hn2 : n ≤ sizeLine) (hdf : d.params.defaults = []) (hr : Room k callerA)
    (F : ∀ (w : World) (mg : Str → Option Value) (fa : Addr) (h : Heap), YP w h → h.Ns mainGlobals mg → mg d.name = some (.ref fa) →
      ∃ (K : PySem.W.Frag) (fd : FuncData) (dsp : DSp), K.In h ∧ (∀ (s : Shared) (u : Value), BindsTo s fd ⟨[u], []⟩ [(x, u)]) ∧ LawTrue n dsp ∧
        ∀ base : Heap, K.In base → base.Ns mainGlobals mg → FnOk l.prog w K mg base (L2.CX l.prog w) k fa fd [x] (liftD K dsp)) :
    PySem.W.WalkO q loose XP YP l.row.toRowW d [] (fun f vs => PySem.call f vs) := by
  refine Att.attach_callB hn hdf fun w s₀ s₁ mg mb fa o pm cd doc a vs ns G Y ho hd hcd hmg hobj hints hlen hbits hg => ?_
  obtain ⟨K, fd, dsp, KX, hb, hsp, hF⟩ := F w mg fa _ Y G.T.g hmg
  refine law_call KX G.T.g G.T.b G.T.builtins G.T.nolimit hg hobj hints (Nat.le_trans hlen hn2) hr hF hb (fun H hO hS => ?_) fun H e s' h => ?_
  · exact ⟨H, _, _, _, _, rep0 H, IsDs.one (.rol hS (isDs_ints ns)), hsp ns hlen hbits, fun v H' Z' d μ' _ _ i h => by subst h; cases i; rfl, fun _ _ _ _ _ _ _ _ _ h => h⟩
  · obtain ⟨_, _, _, _, _, _, _, _, _, _, _, _, z⟩ := h
    exact z
end DL

set_option Elab.async false
set_option linter.all false
set_option maxRecDepth 100000
set_option maxHeartbeats 2000000
/-! plain lemmas for readings -/
namespace DL
open PySem PySem.Spec PyProof.Rows L2

theorem mset_self {μ : Mu} {a : Addr} {c : Cell} (h : μ a = some c) : mset μ a c = μ := by
  funext b
  unfold mset
  split
  · rename_i e; rw [e, h]
  · rfl
theorem sizeL {n : Nat} (h : n ≤ 16000000) : n ≤ sizeLine := by rw [sizeLine_eq]; omega
theorem sizeL' {n : Nat} (h : n < 16000000) : n < sizeLine := by rw [sizeLine_eq]; omega
theorem atI_nat {α : Type} {xs : List α} {i : Nat} (h : i < xs.length) : atI xs (i : Int) = some (xs[i]'h) := by
  unfold atI ixN
  rw [if_pos (by omega), if_pos (by omega)]
  simp [h]
theorem atI_int {α : Type} {xs : List α} {i : Int} (h0 : 0 ≤ i) (h : i < xs.length) : ∃ x, atI xs i = some x ∧ x ∈ xs ∧ xs[i.toNat]? = some x := by
  have h1 : i.toNat < xs.length := by omega
  refine ⟨xs[i.toNat]'h1, ?_, List.getElem_mem _, by simp [h1]⟩
  have := atI_nat h1
  rwa [Int.toNat_of_nonneg h0] at this
theorem atI_zero {α : Type} {x : α} {xs : List α} : atI (x :: xs) 0 = some x := by
  have := atI_nat (xs := x :: xs) (i := 0) (by simp)
  exact this
theorem str_append_cps (a b : Str) : (a ++ b).cps.toList = a.cps.toList ++ b.cps.toList := by
  show (PySem.Str.append a b).cps.toList = _
  unfold PySem.Str.append
  simp
theorem str_append_len (a b : Str) : (a ++ b).length = a.length + b.length := by
  show (PySem.Str.append a b).cps.size = _
  unfold PySem.Str.append PySem.Str.length
  simp
theorem str_len (a : Str) : a.length = a.cps.toList.length := by unfold PySem.Str.length; simp
theorem cutS_len (z : Str) (lo hi : Option Int) : (cutS z lo hi).length ≤ z.length := by
  unfold cutS PySem.Str.length
  simp only [List.size_toArray, List.length_take, List.length_drop, Array.length_toList]
  omega
end DL

set_option Elab.async false
set_option linter.all false
set_option maxRecDepth 100000
set_option maxHeartbeats 2000000
/-! readings at data, as equations for simp; plain lemmas -/
namespace DL
open PySem PySem.Spec PyProof.Rows L2
section
variable {μ : Mu} {Q : QD} {i j : Int} {a b z : Str} {xs ys ds : List D} {x y : D} {k n : Bool} {p : Addr} {c : Bool} {lo hi : Option Int}
theorem add_i : dAdd (.int i) (.int j) μ Q = Q (.int (i + j)) μ := rfl
theorem add_s : dAdd (.str a) (.str b) μ Q = (a.length + b.length ≤ sizeLine ∧ Q (.str (a ++ b)) μ) := rfl
theorem sub_i : dSub (.int i) (.int j) μ Q = Q (.int (i - j)) μ := rfl
theorem mul_i : dMul (.int i) (.int j) μ Q = (CMul i j ∧ Q (.int (i * j)) μ) := rfl
theorem fdiv_i : dFdiv (.int i) (.int j) μ Q = (CDiv i j ∧ Q (.int (i / j)) μ) := rfl
theorem mod_i : dMod (.int i) (.int j) μ Q = (0 < j ∧ Q (.int (i % j)) μ) := rfl
theorem pow_i : dPow (.int i) (.int j) μ Q = (CPow i j ∧ Q (.int (i ^ j.toNat)) μ) := rfl
theorem neg_i : dNeg (.int i) μ Q = Q (.int (-i)) μ := rfl
theorem lt_i : dLt (.int i) (.int j) μ Q = Q (.bl (decide (i < j))) μ := rfl
theorem le_i : dLe (.int i) (.int j) μ Q = Q (.bl (decide (i ≤ j))) μ := rfl
theorem gt_i : dGt (.int i) (.int j) μ Q = Q (.bl (decide (j < i))) μ := rfl
theorem ge_i : dGe (.int i) (.int j) μ Q = Q (.bl (decide (j ≤ i))) μ := rfl
theorem eq_i : dEq (.int i) (.int j) μ Q = Q (.bl (decide (i = j))) μ := rfl
theorem eq_s : dEq (.str a) (.str b) μ Q = Q (.bl (decide (a = b))) μ := rfl
theorem eq_b : dEq (.bl k) (.bl n) μ Q = Q (.bl (decide (k = n))) μ := rfl
theorem ne_i : dNe (.int i) (.int j) μ Q = Q (.bl (!decide (i = j))) μ := rfl
theorem ix_s : dIx (.str z) (.int i) μ Q = (z.length ≤ sizeLine ∧ ∃ c, atI z.cps.toList i = some c ∧ Q (.str ⟨#[c]⟩) μ) := rfl
theorem ix_l : dIx (.lst xs) (.int i) μ Q = ∃ d, atI xs i = some d ∧ Q d μ := by
  show (∃ ds, some xs = some ds ∧ ∃ d, atI ds i = some d ∧ Q d μ) = _
  simp only [Option.some.injEq, exists_eq_left']
theorem ix_o : dIx (.rol xs) (.int i) μ Q = ∃ d, atI xs i = some d ∧ Q d μ := by
  show (∃ ds, some xs = some ds ∧ ∃ d, atI ds i = some d ∧ Q d μ) = _
  simp only [Option.some.injEq, exists_eq_left']
theorem ix_t : dIx (.tup xs) (.int i) μ Q = ∃ d, atI xs i = some d ∧ Q d μ := by
  show (∃ ds, some xs = some ds ∧ ∃ d, atI ds i = some d ∧ Q d μ) = _
  simp only [Option.some.injEq, exists_eq_left']
theorem seq_r (h : μ p = some (.lst xs)) : seqD μ (.ref p) = some xs := by
  show (match μ p with | some (.lst ds) => some ds | _ => none) = _
  rw [h]
theorem ix_r (h : μ p = some (.lst xs)) : dIx (.ref p) (.int i) μ Q = ∃ d, atI xs i = some d ∧ Q d μ := by
  show (∃ ds, seqD μ (.ref p) = some ds ∧ ∃ d, atI ds i = some d ∧ Q d μ) = _
  rw [seq_r h]
  simp only [Option.some.injEq, exists_eq_left']
theorem is_n : dIs x .non μ Q = Q (.bl x.isNon) μ := by cases x <;> rfl
theorem is_bb : dIs (.bl k) (.bl n) μ Q = Q (.bl (decide (k = n))) μ := rfl
theorem is_ib : dIs (.int i) (.bl n) μ Q = Q (.bl false) μ := rfl
theorem is_sb : dIs (.str a) (.bl n) μ Q = Q (.bl false) μ := rfl
theorem is_tb : dIs (.tup xs) (.bl n) μ Q = Q (.bl false) μ := rfl
theorem in_s (neg : Bool) : dInB neg (.str a) (.str b) μ Q = Q (.bl (if neg then !inS a b else inS a b)) μ := rfl
theorem in_t : dInB true (.str a) (.str b) μ Q = Q (.bl (!inS a b)) μ := rfl
theorem in_f : dInB false (.str a) (.str b) μ Q = Q (.bl (inS a b)) μ := rfl
theorem len_s : dLen [.str z] μ Q = (z.length ≤ sizeLine ∧ Q (.int z.length) μ) := rfl
theorem len_l : dLen [.lst xs] μ Q = Q (.int xs.length) μ := by
  show (∃ ds, some xs = some ds ∧ Q (.int ds.length) μ) = _
  simp only [Option.some.injEq, exists_eq_left']
theorem len_o : dLen [.rol xs] μ Q = Q (.int xs.length) μ := by
  show (∃ ds, some xs = some ds ∧ Q (.int ds.length) μ) = _
  simp only [Option.some.injEq, exists_eq_left']
theorem len_t : dLen [.tup xs] μ Q = Q (.int xs.length) μ := by
  show (∃ ds, some xs = some ds ∧ Q (.int ds.length) μ) = _
  simp only [Option.some.injEq, exists_eq_left']
theorem len_r (h : μ p = some (.lst xs)) : dLen [.ref p] μ Q = Q (.int xs.length) μ := by
  show (∃ ds, seqD μ (.ref p) = some ds ∧ Q (.int ds.length) μ) = _
  rw [seq_r h]
  simp only [Option.some.injEq, exists_eq_left']
theorem int1_i : dInt1 [.int i] μ Q = Q (.int i) μ := rfl
theorem abs_i : dAbs [.int i] μ Q = Q (.int (if i < 0 then -i else i)) μ := rfl
theorem str1_i : dStr1 [.int i] μ Q = (i.natAbs.log2 < 1920 ∧ Q (.str (toString i)) μ) := rfl
theorem list1_t : dList1 c [.tup xs] μ Q = mkL c xs μ Q := by
  show (∃ ds, some xs = some ds ∧ mkL c ds μ Q) = _
  simp only [Option.some.injEq, exists_eq_left']
theorem list1_l : dList1 c [.lst xs] μ Q = mkL c xs μ Q := by
  show (∃ ds, some xs = some ds ∧ mkL c ds μ Q) = _
  simp only [Option.some.injEq, exists_eq_left']
theorem list1_o : dList1 c [.rol xs] μ Q = mkL c xs μ Q := by
  show (∃ ds, some xs = some ds ∧ mkL c ds μ Q) = _
  simp only [Option.some.injEq, exists_eq_left']
theorem tup1_t : dTup1 [.tup xs] μ Q = Q (.tup xs) μ := by
  show (∃ ds, some xs = some ds ∧ Q (.tup ds) μ) = _
  simp only [Option.some.injEq, exists_eq_left']
theorem tup1_l : dTup1 [.lst xs] μ Q = Q (.tup xs) μ := by
  show (∃ ds, some xs = some ds ∧ Q (.tup ds) μ) = _
  simp only [Option.some.injEq, exists_eq_left']
theorem tup1_r (h : μ p = some (.lst xs)) : dTup1 [.ref p] μ Q = Q (.tup xs) μ := by
  show (∃ ds, seqD μ (.ref p) = some ds ∧ Q (.tup ds) μ) = _
  rw [seq_r h]
  simp only [Option.some.injEq, exists_eq_left']
theorem mk_f : mkL false xs μ Q = Q (.lst xs) μ := rfl
theorem mk_t : mkL true xs μ Q = ∀ p, μ p = none → Q (.ref p) (mset μ p (.lst xs)) := rfl
theorem sl_s : sliceD c (.str z) lo hi μ Q = (z.length ≤ sizeLine ∧ Q (.str (cutS z lo hi)) μ) := rfl
theorem iter_s {N : List D → Mu → Prop} : iterD (.str z) μ N = N (signs z) μ := rfl
theorem iter_l {N : List D → Mu → Prop} : iterD (.lst xs) μ N = N xs μ := rfl
theorem iter_o {N : List D → Mu → Prop} : iterD (.rol xs) μ N = N xs μ := rfl
theorem iter_t {N : List D → Mu → Prop} : iterD (.tup xs) μ N = N xs μ := rfl
theorem ins_r : dInsert (.ref p) [.int i, y] μ Q = ∃ ds, μ p = some (.lst ds) ∧ ds.length < sizeLine ∧ 0 ≤ i ∧ i < 2 ^ 63 ∧ Q .non (mset μ p (.lst (ds.take i.toNat ++ y :: ds.drop i.toNat))) := rfl
theorem app_r : dAppend (.ref p) [y] μ Q = ∃ ds, μ p = some (.lst ds) ∧ ds.length < sizeLine ∧ Q .non (mset μ p (.lst (ds ++ [y]))) := rfl
theorem isi_i (t : String) : dIsi [.int i, .ty t] μ Q = ∃ b, isTab "int" t = some b ∧ Q (.bl b) μ := by
  show (∃ k b, some "int" = some k ∧ isTab k t = some b ∧ Q (.bl b) μ) = _
  simp only [Option.some.injEq]
  exact propext ⟨fun ⟨_, b, e, h⟩ => ⟨b, e ▸ h⟩, fun ⟨b, h⟩ => ⟨_, b, rfl, h⟩⟩
theorem isi_s (t : String) : dIsi [.str z, .ty t] μ Q = ∃ b, isTab "str" t = some b ∧ Q (.bl b) μ := by
  show (∃ k b, some "str" = some k ∧ isTab k t = some b ∧ Q (.bl b) μ) = _
  simp only [Option.some.injEq]
  exact propext ⟨fun ⟨_, b, e, h⟩ => ⟨b, e ▸ h⟩, fun ⟨b, h⟩ => ⟨_, b, rfl, h⟩⟩
theorem isi_t (t : String) : dIsi [.tup xs, .ty t] μ Q = ∃ b, isTab "tuple" t = some b ∧ Q (.bl b) μ := by
  show (∃ k b, some "tuple" = some k ∧ isTab k t = some b ∧ Q (.bl b) μ) = _
  simp only [Option.some.injEq]
  exact propext ⟨fun ⟨_, b, e, h⟩ => ⟨b, e ▸ h⟩, fun ⟨b, h⟩ => ⟨_, b, rfl, h⟩⟩
theorem isi_b (t : String) : dIsi [.bl k, .ty t] μ Q = ∃ b, isTab "bool" t = some b ∧ Q (.bl b) μ := by
  show (∃ k b, some "bool" = some k ∧ isTab k t = some b ∧ Q (.bl b) μ) = _
  simp only [Option.some.injEq]
  exact propext ⟨fun ⟨_, b, e, h⟩ => ⟨b, e ▸ h⟩, fun ⟨b, h⟩ => ⟨_, b, rfl, h⟩⟩
theorem fld_e {c : Str} {i : Nat} : fldD c i (.slt c ds) μ Q = ∃ d, ds[i]? = some d ∧ Q d μ := by
  show (c = c ∧ ∃ d, ds[i]? = some d ∧ Q d μ) = _
  simp only [true_and]
end

section
variable {μ : Mu} {Q : QD} {R : RD} {δ : Dl} {a : Addr} {d : Option Addr} {c C f : Str} {cs : List Str} {fs : List (Str × D)} {x : D} {i : Nat} {b : Bool} {tab : Str → Option Bool}
theorem xfl_e (h : c ∈ cs) (hi : δ[i]? = some (some (excD a d c [(f, x)]))) (q : Q x μ) : xfl a d c cs f (dV i) δ μ Q R :=
  ⟨h, _, hi, [f], [x], x, rfl, (by simp [List.lookup]), q⟩
theorem isE_e (h : c ∈ cs) (ht : tab C = some b) (q : Q (.bl b) μ) : dIsE a d c cs tab [excD a d c fs, .cls C] μ Q := ⟨h, _, _, C, b, rfl, ht, q⟩
end
theorem tb_int_int : isTab "int" "int" = some true := by decide
theorem tb_int_bool : isTab "int" "bool" = some false := by decide
theorem tb_int_str : isTab "int" "str" = some false := by decide
theorem tb_int_tuple : isTab "int" "tuple" = some false := by decide
theorem tb_int_list : isTab "int" "list" = some false := by decide
theorem tb_str_int : isTab "str" "int" = some false := by decide
theorem tb_str_bool : isTab "str" "bool" = some false := by decide
theorem tb_str_str : isTab "str" "str" = some true := by decide
theorem tb_str_tuple : isTab "str" "tuple" = some false := by decide
theorem tb_str_list : isTab "str" "list" = some false := by decide
theorem tb_tuple_int : isTab "tuple" "int" = some false := by decide
theorem tb_tuple_bool : isTab "tuple" "bool" = some false := by decide
theorem tb_tuple_str : isTab "tuple" "str" = some false := by decide
theorem tb_tuple_tuple : isTab "tuple" "tuple" = some true := by decide
theorem tb_tuple_list : isTab "tuple" "list" = some false := by decide
theorem tb_bool_int : isTab "bool" "int" = some true := by decide
theorem tb_bool_bool : isTab "bool" "bool" = some true := by decide
theorem tb_bool_str : isTab "bool" "str" = some false := by decide
theorem tb_bool_tuple : isTab "bool" "tuple" = some false := by decide
theorem tb_bool_list : isTab "bool" "list" = some false := by decide
theorem tb_NoneType_int : isTab "NoneType" "int" = some false := by decide
theorem tb_NoneType_bool : isTab "NoneType" "bool" = some false := by decide
theorem tb_NoneType_str : isTab "NoneType" "str" = some false := by decide
theorem tb_NoneType_tuple : isTab "NoneType" "tuple" = some false := by decide
theorem tb_NoneType_list : isTab "NoneType" "list" = some false := by decide
theorem tb_list_int : isTab "list" "int" = some false := by decide
theorem tb_list_bool : isTab "list" "bool" = some false := by decide
theorem tb_list_str : isTab "list" "str" = some false := by decide
theorem tb_list_tuple : isTab "list" "tuple" = some false := by decide
theorem tb_list_list : isTab "list" "list" = some true := by decide
end DL

set_option Elab.async false
set_option linter.all false
set_option maxRecDepth 100000
set_option maxHeartbeats 4000000
namespace K07
open PySem PySem.Spec PyProof.Rows L2 DL
abbrev prg : Program := PySem.Challenge.pw_steadykept_k07_bounds_made_and_refused
def top (i : Nat) : Stmt := prg.main.body.getD i (.Pass ⟨0, 0, 0, 0⟩)
abbrev s_BadName_D_init_D_ : Stmt := inClass (top 2) 0
def tx_BadName : DSup.Txt := ⟨"BadName", "not a valid name", "name", "name", "BadName.__init__", defArgs s_BadName_D_init_D_, defBody s_BadName_D_init_D_, (defScope s_BadName_D_init_D_).names⟩
theorem tx_BadName_is : tx_BadName.Is := ⟨⟨_, _, rfl⟩, (fun _ _ _ _ _ _ _ _ _ => rfl), ⟨supPos (defBody s_BadName_D_init_D_), 0, rfl, by decide +kernel⟩, rfl, rfl, rfl, rfl, (by decide +kernel), (by decide +kernel), (by decide +kernel)⟩
structure Say (P : Program) (K : PySem.W.Frag) (mg : Str → Option Value) : Prop where
  k__law_draws : PySem.W.keepIn K (.ref (He.ga K "_law_draws")) = true
  g__law_draws : mg "_law_draws" = some (.ref (He.ga K "_law_draws"))
  k__law_raw : PySem.W.keepIn K (.ref (He.ga K "_law_raw")) = true
  g__law_raw : mg "_law_raw" = some (.ref (He.ga K "_law_raw"))
  k__law_cut : PySem.W.keepIn K (.ref (He.ga K "_law_cut")) = true
  g__law_cut : mg "_law_cut" = some (.ref (He.ga K "_law_cut"))
  k__law_draw : PySem.W.keepIn K (.ref (He.ga K "_law_draw")) = true
  g__law_draw : mg "_law_draw" = some (.ref (He.ga K "_law_draw"))
  k__law_given : PySem.W.keepIn K (.ref (He.ga K "_law_given")) = true
  g__law_given : mg "_law_given" = some (.ref (He.ga K "_law_given"))
  k__law_columns : PySem.W.keepIn K (.ref (He.ga K "_law_columns")) = true
  g__law_columns : mg "_law_columns" = some (.ref (He.ga K "_law_columns"))
  k__law_name : PySem.W.keepIn K (.ref (He.ga K "_law_name")) = true
  g__law_name : mg "_law_name" = some (.ref (He.ga K "_law_name"))
  k__law_spoilt : PySem.W.keepIn K (.ref (He.ga K "_law_spoilt")) = true
  g__law_spoilt : mg "_law_spoilt" = some (.ref (He.ga K "_law_spoilt"))
  n_abs : mg "abs" = none
  mk_Bound : Mk K (He.ga K "Bound") (He.ma K (He.ga K "Bound") "__init__")
  g_Bound : mg "Bound" = some (.ref (He.ga K "Bound"))
  k__law_due : PySem.W.keepIn K (.ref (He.ga K "_law_due")) = true
  g__law_due : mg "_law_due" = some (.ref (He.ga K "_law_due"))
  k__law_outcome : PySem.W.keepIn K (.ref (He.ga K "_law_outcome")) = true
  g__law_outcome : mg "_law_outcome" = some (.ref (He.ga K "_law_outcome"))
  k__law_same : PySem.W.keepIn K (.ref (He.ga K "_law_same")) = true
  g__law_same : mg "_law_same" = some (.ref (He.ga K "_law_same"))
  pr_Bound_door : PySem.W.findIn K (.ref (He.ga K "Bound")) "door" = some (some (.ref (He.ma K (He.ga K "Bound") "door"))) ∧ PySem.W.specialIn K (.ref (He.ma K (He.ga K "Bound") "door")) "__get__" = some (some (.builtin "property.__get__")) ∧ PySem.W.takesIn K (.ref (He.ma K (He.ga K "Bound") "door")) = some true ∧ ∃ rest, PySem.W.recIn K (He.ma K (He.ga K "Bound") "door") "property" = some (.ref (DH.atA K (.inn "Bound" "door" "property")) :: rest)
  sc_Bound : SlX.SCls K (He.ga K "Bound")
  sl_Bound_limit : SlX.Slot1 K (He.ga K "Bound") "limit" (He.ma K (He.ga K "Bound") "limit") 1
  sl_Bound_given : SlX.Slot1 K (He.ga K "Bound") "given" (He.ma K (He.ga K "Bound") "given") 0
  sl_Bound_table : SlX.Slot1 K (He.ga K "Bound") "table" (He.ma K (He.ga K "Bound") "table") 2
  n_list : mg "list" = none
  n_len : mg "len" = none
  n_int : mg "int" = none
  n_range : mg "range" = none
  n_tuple : mg "tuple" = none
  k__law_mixed : PySem.W.keepIn K (.ref (He.ga K "_law_mixed")) = true
  g__law_mixed : mg "_law_mixed" = some (.ref (He.ga K "_law_mixed"))
  n_str : mg "str" = none
  k_check_name : PySem.W.keepIn K (.ref (He.ga K "check_name")) = true
  g_check_name : mg "check_name" = some (.ref (He.ga K "check_name"))
  k_check_given : PySem.W.keepIn K (.ref (He.ga K "check_given")) = true
  g_check_given : mg "check_given" = some (.ref (He.ga K "check_given"))
  x_BadBound : (He.Fa.exc "BadBound").ok K = true
  g_BadBound : mg "BadBound" = some (.ref (He.ga K "BadBound"))
  k_is_name : PySem.W.keepIn K (.ref (He.ga K "is_name")) = true
  g_is_name : mg "is_name" = some (.ref (He.ga K "is_name"))
  su_BadName : DH.SupIn P K tx_BadName "BadName" "BadName"
  g_BadName : mg "BadName" = some (.ref (He.ga K "BadName"))
  i_LONGEST_NAME : ∃ t, mg "LONGEST_NAME" = some (.int 12 t)
  s_LETTERS : ∃ t, mg "LETTERS" = some (.str "abcdefghijklmnopqrstuvwxyz" t)
  s_DIGITS : ∃ t, mg "DIGITS" = some (.str "0123456789" t)
  i_WIDEST : ∃ t, mg "WIDEST" = some (.int 4 t)
  n_isinstance : mg "isinstance" = none
  n_bool : mg "bool" = none
  k__law_named : PySem.W.keepIn K (.ref (He.ga K "_law_named")) = true
  g__law_named : mg "_law_named" = some (.ref (He.ga K "_law_named"))
  k__law_ascending : PySem.W.keepIn K (.ref (He.ga K "_law_ascending")) = true
  g__law_ascending : mg "_law_ascending" = some (.ref (He.ga K "_law_ascending"))
  cm_Bound_single : ClX.CRead K (He.ga K "Bound") (.type "type") ∧ ClX.CMet K (He.ga K "Bound") (.type "type") "single" (He.ma K (He.ga K "Bound") "single") (DH.atA K (.inn "Bound" "single" "classmethod"))
  e_BadName_BadName : PySem.W.exmOne K (.ref (He.ga K "BadName")) (.ref (He.ga K "BadName")) = some true
  e_BadBound_BadName : PySem.W.exmOne K (.ref (He.ga K "BadBound")) (.ref (He.ga K "BadName")) = some false
  g_DoubleName : mg "DoubleName" = some (.ref (He.ga K "DoubleName"))
  xc_BadName : L2.ExcC K (He.ga K "BadName")
  t_BadName_DoubleName : PySem.W.kitOne K (.ref (He.ga K "BadName")) (.ref (He.ga K "DoubleName")) = some false
  g_BookError : mg "BookError" = some (.ref (He.ga K "BookError"))
  t_BadName_BookError : PySem.W.kitOne K (.ref (He.ga K "BadName")) (.ref (He.ga K "BookError")) = some false
  g_LooksError : mg "LooksError" = some (.ref (He.ga K "LooksError"))
  t_BadName_LooksError : PySem.W.kitOne K (.ref (He.ga K "BadName")) (.ref (He.ga K "LooksError")) = some true
  xf_BadName_name : L2.XfC K (He.ga K "BadName") ∧ PySem.W.findIn K (.ref (He.ga K "BadName")) "name" = some none
  e_BadName_BadBound : PySem.W.exmOne K (.ref (He.ga K "BadName")) (.ref (He.ga K "BadBound")) = some false
  e_BadBound_BadBound : PySem.W.exmOne K (.ref (He.ga K "BadBound")) (.ref (He.ga K "BadBound")) = some true
  g_NestedBound : mg "NestedBound" = some (.ref (He.ga K "NestedBound"))
  xc_BadBound : L2.ExcC K (He.ga K "BadBound")
  t_BadBound_NestedBound : PySem.W.kitOne K (.ref (He.ga K "BadBound")) (.ref (He.ga K "NestedBound")) = some false
  g_NoDoor : mg "NoDoor" = some (.ref (He.ga K "NoDoor"))
  t_BadBound_NoDoor : PySem.W.kitOne K (.ref (He.ga K "BadBound")) (.ref (He.ga K "NoDoor")) = some false
  g_OtherSchema : mg "OtherSchema" = some (.ref (He.ga K "OtherSchema"))
  t_BadBound_OtherSchema : PySem.W.kitOne K (.ref (He.ga K "BadBound")) (.ref (He.ga K "OtherSchema")) = some false
  t_BadBound_BookError : PySem.W.kitOne K (.ref (He.ga K "BadBound")) (.ref (He.ga K "BookError")) = some true
  t_BadBound_LooksError : PySem.W.kitOne K (.ref (He.ga K "BadBound")) (.ref (He.ga K "LooksError")) = some true
  g_law : mg "law" = some (.ref (He.ga K "law"))
abbrev s__law_draws : Stmt := top 29
abbrev N__law_draws : List Str := ["script"]
abbrev P__law_draws : List Str := ["script"]
theorem sc__law_draws : FnScope N__law_draws P__law_draws (defScope s__law_draws) := ⟨rfl, rfl, rfl, by decide +kernel, rfl, by decide +kernel, by decide +kernel⟩
theorem bn__law_draws (kV doc pm : Value) (an : Option Addr) (cdv ct : Value) (us : List Value) (hl : us.length = P__law_draws.length) : bindArgs (PySem.W.fnOf "_law_draws" "_law_draws" (defArgs s__law_draws) (defBody s__law_draws) (defScope s__law_draws) .none kV doc pm an cdv ct) ⟨us, []⟩ = pure (P__law_draws.zip us) :=
  match us, hl with | [_], _ => rfl
def rd__law_draws : TSD :=
  dRet (dLst true (dCons (dCall1 (dList1 false) (dCons (dV 0) dNil)) (dCons (dC (.int 0)) (dCons (dC (.int 0)) (dCons (dC (.int 0)) dNil)))))
theorem ok__law_draws {P : Program} {w : World} {K : PySem.W.Frag} {mg : Str → Option Value} {base : Heap} {fd : FuncData} (Y : Say P K mg) (F : FunD K "_law_draws" "_law_draws" (defArgs s__law_draws) (defBody s__law_draws) (defScope s__law_draws) [] [] (DH.atA K (.glo "_law_draws")) fd) :
    FnOk P w K mg base (L2.CX P w) (0 + 1) (DH.atA K (.glo "_law_draws")) fd P__law_draws (liftD K (body 1 1 (rd__law_draws))) :=
  fn_bodyO F sc__law_draws bn__law_draws fun cdv A outer s H E hr => ds_one (ds_ret (de_lst true (da_cons (de_ct call_list_of (c_list1 false) rfl Y.n_list b_list (da_cons (de_v 0) da_nil)) (da_cons de_int (da_cons de_int (da_cons de_int da_nil))))))
abbrev s__law_raw : Stmt := top 35
abbrev N__law_raw : List Str := ["script", "k"]
abbrev P__law_raw : List Str := ["script", "k"]
theorem sc__law_raw : FnScope N__law_raw P__law_raw (defScope s__law_raw) := ⟨rfl, rfl, rfl, by decide +kernel, rfl, by decide +kernel, by decide +kernel⟩
theorem bn__law_raw (kV doc pm : Value) (an : Option Addr) (cdv ct : Value) (us : List Value) (hl : us.length = P__law_raw.length) : bindArgs (PySem.W.fnOf "_law_raw" "_law_raw" (defArgs s__law_raw) (defBody s__law_raw) (defScope s__law_raw) .none kV doc pm an cdv ct) ⟨us, []⟩ = pure (P__law_raw.zip us) :=
  match us, hl with | [_, _], _ => rfl
def rd__law_raw : TSD :=
  dSeq (dIf (dTest (dOp dLt (dV 1) (dCall1 dLen (dCons (dV 0) dNil)))) (dRet (dOp dIx (dV 0) (dOp dSub (dOp dSub (dCall1 dLen (dCons (dV 0) dNil)) (dC (.int 1))) (dV 1)))) dNext)
  (dRet (dC (.int 0)))
theorem ok__law_raw {P : Program} {w : World} {K : PySem.W.Frag} {mg : Str → Option Value} {base : Heap} {fd : FuncData} (Y : Say P K mg) (F : FunD K "_law_raw" "_law_raw" (defArgs s__law_raw) (defBody s__law_raw) (defScope s__law_raw) [] [] (DH.atA K (.glo "_law_raw")) fd) :
    FnOk P w K mg base (L2.CX P w) (0 + 1) (DH.atA K (.glo "_law_raw")) fd P__law_raw (liftD K (body 2 2 (rd__law_raw))) :=
  fn_bodyO F sc__law_raw bn__law_raw fun cdv A outer s H E hr => ds_cons (ds_if (dt_cmp o_lt c_lt (de_v 1) (de_cb r_len c_len rfl Y.n_len b_len (da_cons (de_v 0) da_nil)) rfl) (ds_one (ds_ret (de_ix (de_v 0) (de_op op_sub c_sub (de_op op_sub c_sub (de_cb r_len c_len rfl Y.n_len b_len (da_cons (de_v 0) da_nil)) de_int) (de_v 1))))) ds_nil) (ds_one (ds_ret de_int))
abbrev s__law_cut : Stmt := top 36
abbrev N__law_cut : List Str := ["number"]
abbrev P__law_cut : List Str := ["number"]
theorem sc__law_cut : FnScope N__law_cut P__law_cut (defScope s__law_cut) := ⟨rfl, rfl, rfl, by decide +kernel, rfl, by decide +kernel, by decide +kernel⟩
theorem bn__law_cut (kV doc pm : Value) (an : Option Addr) (cdv ct : Value) (us : List Value) (hl : us.length = P__law_cut.length) : bindArgs (PySem.W.fnOf "_law_cut" "_law_cut" (defArgs s__law_cut) (defBody s__law_cut) (defScope s__law_cut) .none kV doc pm an cdv ct) ⟨us, []⟩ = pure (P__law_cut.zip us) :=
  match us, hl with | [_], _ => rfl
def rd__law_cut : TSD :=
  dSeq (dIf (dTest (dOp dLt (dV 0) (dC (.int 0)))) (dRet (dOp dSub (dUn dNeg (dC (.int 1))) (dOp dMod (dCall1 dInt1 (dCons (dOp dSub (dUn dNeg (dC (.int 1))) (dV 0)) dNil)) (dOp dPow (dC (.int 10)) (dC (.int 64)))))) dNext)
  (dRet (dOp dMod (dCall1 dInt1 (dCons (dV 0) dNil)) (dOp dPow (dC (.int 10)) (dC (.int 64)))))
theorem ok__law_cut {P : Program} {w : World} {K : PySem.W.Frag} {mg : Str → Option Value} {base : Heap} {fd : FuncData} (Y : Say P K mg) (F : FunD K "_law_cut" "_law_cut" (defArgs s__law_cut) (defBody s__law_cut) (defScope s__law_cut) [] [] (DH.atA K (.glo "_law_cut")) fd) :
    FnOk P w K mg base (L2.CX P w) (0 + 1) (DH.atA K (.glo "_law_cut")) fd P__law_cut (liftD K (body 1 1 (rd__law_cut))) :=
  fn_bodyO F sc__law_cut bn__law_cut fun cdv A outer s H E hr => ds_cons (ds_if (dt_cmp o_lt c_lt (de_v 0) de_int rfl) (ds_one (ds_ret (de_op op_sub c_sub (de_un un_neg c_neg de_int) (de_op op_mod c_mod (de_ct call_int1 c_int1 rfl Y.n_int b_int (da_cons (de_op op_sub c_sub (de_un un_neg c_neg de_int) (de_v 0)) da_nil)) (de_op op_pow c_pow de_int de_int))))) ds_nil) (ds_one (ds_ret (de_op op_mod c_mod (de_ct call_int1 c_int1 rfl Y.n_int b_int (da_cons (de_v 0) da_nil)) (de_op op_pow c_pow de_int de_int))))
abbrev s__law_given : Stmt := top 33
abbrev N__law_given : List Str := ["code", "width", "column"]
abbrev P__law_given : List Str := ["code", "width"]
theorem sc__law_given : FnScope N__law_given P__law_given (defScope s__law_given) := ⟨rfl, rfl, rfl, by decide +kernel, rfl, by decide +kernel, by decide +kernel⟩
theorem bn__law_given (kV doc pm : Value) (an : Option Addr) (cdv ct : Value) (us : List Value) (hl : us.length = P__law_given.length) : bindArgs (PySem.W.fnOf "_law_given" "_law_given" (defArgs s__law_given) (defBody s__law_given) (defScope s__law_given) .none kV doc pm an cdv ct) ⟨us, []⟩ = pure (P__law_given.zip us) :=
  match us, hl with | [_, _], _ => rfl
def rd__law_given : TSD :=
  dRet (dCall1 dTup1 (dCons (dComp false (dRng1 (dCons (dV 1) dNil)) (gdName 2) (dTest (dOp dEq (dOp dMod (dCall1 dInt1 (dCons (dOp dFdiv (dV 0) (dOp dIx (dLst false (dCons (dC (.int 1)) (dCons (dC (.int 2)) (dCons (dC (.int 4)) (dCons (dC (.int 8)) dNil))))) (dV 2))) dNil)) (dC (.int 2))) (dC (.int 1)))) (dV 2) [2]) dNil))
theorem ok__law_given {P : Program} {w : World} {K : PySem.W.Frag} {mg : Str → Option Value} {base : Heap} {fd : FuncData} (Y : Say P K mg) (F : FunD K "_law_given" "_law_given" (defArgs s__law_given) (defBody s__law_given) (defScope s__law_given) [] [] (DH.atA K (.glo "_law_given")) fd) :
    FnOk P w K mg base (L2.CX P w) (0 + 1) (DH.atA K (.glo "_law_given")) fd P__law_given (liftD K (body 2 3 (rd__law_given))) :=
  fn_bodyO F sc__law_given bn__law_given fun cdv A outer s H E hr => ds_one (ds_ret (de_ct call_tuple_of c_tup1 rfl Y.n_tuple b_tuple (da_cons (de_comp false rfl sc__law_given.nd (di_rng1 rfl Y.n_range (da_cons (de_v 1) da_nil)) (own := [(("column" : Str), 2)]) (blk_ok (by first | rfl | kernel_rfl)) (fun _ _ _ _ _ => dgw_name (by decide) sc__law_given.nd (i := 2) rfl (by first | exact .inl rfl | exact .inr rfl)) (fun _ _ _ _ _ => dts_one (dt_cmp (o_eq (hu64 hr)) c_eq (de_op op_mod c_mod (de_ct call_int1 c_int1 rfl Y.n_int b_int (da_cons (de_op op_fdiv c_fdiv (de_v 0) (de_ix (de_lst false (da_cons de_int (da_cons de_int (da_cons de_int (da_cons de_int da_nil))))) (de_v 2))) da_nil)) de_int) de_int rfl)) (fun _ _ _ _ _ => de_v 2)) da_nil)))
abbrev s__law_mixed : Stmt := top 30
abbrev N__law_mixed : List Str := ["cell", "turn", "number"]
abbrev P__law_mixed : List Str := ["cell", "turn"]
theorem sc__law_mixed : FnScope N__law_mixed P__law_mixed (defScope s__law_mixed) := ⟨rfl, rfl, rfl, by decide +kernel, rfl, by decide +kernel, by decide +kernel⟩
theorem bn__law_mixed (kV doc pm : Value) (an : Option Addr) (cdv ct : Value) (us : List Value) (hl : us.length = P__law_mixed.length) : bindArgs (PySem.W.fnOf "_law_mixed" "_law_mixed" (defArgs s__law_mixed) (defBody s__law_mixed) (defScope s__law_mixed) .none kV doc pm an cdv ct) ⟨us, []⟩ = pure (P__law_mixed.zip us) :=
  match us, hl with | [_, _], _ => rfl
def rd__law_mixed : TSD :=
  dSeq (dSet 2 (dOp dMod (dCall1 dInt1 (dCons (dOp dAdd (dOp dAdd (dOp dMul (dCall1 dInt1 (dCons (dV 0) dNil)) (dC (.int 48271))) (dOp dMul (dV 1) (dC (.int 69621)))) (dC (.int 1009))) dNil)) (dC (.int 2147483647))))
  (dRet (dOp dMod (dCall1 dInt1 (dCons (dOp dAdd (dOp dAdd (dOp dMul (dV 2) (dC (.int 16807))) (dOp dMul (dV 1) (dC (.int 40692)))) (dC (.int 271))) dNil)) (dC (.int 2147483629))))
theorem ok__law_mixed {P : Program} {w : World} {K : PySem.W.Frag} {mg : Str → Option Value} {base : Heap} {fd : FuncData} (Y : Say P K mg) (F : FunD K "_law_mixed" "_law_mixed" (defArgs s__law_mixed) (defBody s__law_mixed) (defScope s__law_mixed) [] [] (DH.atA K (.glo "_law_mixed")) fd) :
    FnOk P w K mg base (L2.CX P w) (0 + 1) (DH.atA K (.glo "_law_mixed")) fd P__law_mixed (liftD K (body 2 3 (rd__law_mixed))) :=
  fn_bodyO F sc__law_mixed bn__law_mixed fun cdv A outer s H E hr => ds_cons (ds_set (i := 2) sc__law_mixed.nd rfl (by first | exact .inl rfl | exact .inr rfl) (de_op op_mod c_mod (de_ct call_int1 c_int1 rfl Y.n_int b_int (da_cons (de_op o_add c_add (de_op o_add c_add (de_op op_mul c_mul (de_ct call_int1 c_int1 rfl Y.n_int b_int (da_cons (de_v 0) da_nil)) de_int) (de_op op_mul c_mul (de_v 1) de_int)) de_int) da_nil)) de_int)) (ds_one (ds_ret (de_op op_mod c_mod (de_ct call_int1 c_int1 rfl Y.n_int b_int (da_cons (de_op o_add c_add (de_op o_add c_add (de_op op_mul c_mul (de_v 2) de_int) (de_op op_mul c_mul (de_v 1) de_int)) de_int) da_nil)) de_int)))
abbrev s__law_draw : Stmt := top 31
abbrev N__law_draw : List Str := ["draws", "many", "left", "cells", "cell", "turn"]
abbrev P__law_draw : List Str := ["draws", "many"]
theorem sc__law_draw : FnScope N__law_draw P__law_draw (defScope s__law_draw) := ⟨rfl, rfl, rfl, by decide +kernel, rfl, by decide +kernel, by decide +kernel⟩
theorem bn__law_draw (kV doc pm : Value) (an : Option Addr) (cdv ct : Value) (us : List Value) (hl : us.length = P__law_draw.length) : bindArgs (PySem.W.fnOf "_law_draw" "_law_draw" (defArgs s__law_draw) (defBody s__law_draw) (defScope s__law_draw) .none kV doc pm an cdv ct) ⟨us, []⟩ = pure (P__law_draw.zip us) :=
  match us, hl with | [_, _], _ => rfl
def rd__law_draw (sp__law_mixed : DSp) : TSD :=
  dSeq (dIf (dTest (dOp dLt (dV 1) (dC (.int 2)))) (dRet (dC (.int 0))) dNext)
  (dSeq (dIf (dTest (dOp dGt (dOp dIx (dV 0) (dC (.int 2))) (dC (.int 0)))) (dSeq (dSet 2 (dOp dIx (dV 0) (dC (.int 2))))
  (dSeq (dSetIx (dOp dFdiv (dV 2) (dV 1)) (dV 0) (dC (.int 2)))
  (dRet (dOp dMod (dCall1 dInt1 (dCons (dV 2) dNil)) (dV 1))))) dNext)
  (dSeq (dSet 3 (dOp dIx (dV 0) (dC (.int 0))))
  (dSeq (dIf (dTest (dOp dGe (dOp dIx (dV 0) (dC (.int 1))) (dCall1 dLen (dCons (dV 3) dNil)))) (dRet (dC (.int 0))) dNext)
  (dSeq (dSet 4 (dOp dIx (dV 3) (dOp dIx (dV 0) (dC (.int 1)))))
  (dSeq (dIf (dTest (dOp dGe (dV 4) (dOp dPow (dC (.int 10)) (dC (.int 18))))) (dSeq (dSetIx (dOp dAdd (dOp dIx (dV 0) (dC (.int 1))) (dC (.int 1))) (dV 0) (dC (.int 1)))
  (dSeq (dSetIx (dOp dFdiv (dV 4) (dV 1)) (dV 0) (dC (.int 2)))
  (dRet (dOp dMod (dCall1 dInt1 (dCons (dV 4) dNil)) (dV 1))))) dNext)
  (dSeq (dSet 5 (dOp dIx (dV 0) (dC (.int 3))))
  (dSeq (dSetIx (dOp dAdd (dV 5) (dC (.int 1))) (dV 0) (dC (.int 3)))
  (dSeq (dIf (dTest (dOp dEq (dV 5) (dC (.int 5)))) (dSeq (dSetIx (dOp dAdd (dOp dIx (dV 0) (dC (.int 1))) (dC (.int 1))) (dV 0) (dC (.int 1)))
  (dSetIx (dC (.int 0)) (dV 0) (dC (.int 3)))) dNext)
  (dRet (dOp dMod (dCall1 dInt1 (dCons (dCall sp__law_mixed (dCons (dV 4) (dCons (dV 5) dNil))) dNil)) (dV 1)))))))))))
theorem ok__law_draw {P : Program} {w : World} {K : PySem.W.Frag} {mg : Str → Option Value} {base : Heap} {fd : FuncData} (Y : Say P K mg) (F : FunD K "_law_draw" "_law_draw" (defArgs s__law_draw) (defBody s__law_draw) (defScope s__law_draw) [] [] (DH.atA K (.glo "_law_draw")) fd) {sp__law_mixed : DSp} (C__law_mixed : FnD P w K mg base 1 (DH.atA K (.glo "_law_mixed")) sp__law_mixed) :
    FnOk P w K mg base (L2.CX P w) (1 + 1) (DH.atA K (.glo "_law_draw")) fd P__law_draw (liftD K (body 2 6 (rd__law_draw sp__law_mixed))) :=
  fn_bodyO F sc__law_draw bn__law_draw fun cdv A outer s H E hr => ds_cons (ds_if (dt_cmp o_lt c_lt (de_v 1) de_int rfl) (ds_one (ds_ret de_int)) ds_nil) (ds_cons (ds_if (dt_cmp op_gt c_gt (de_ix (de_v 0) de_int) de_int rfl) (ds_cons (ds_set (i := 2) sc__law_draw.nd rfl (by first | exact .inl rfl | exact .inr rfl) (de_ix (de_v 0) de_int)) (ds_cons (ds_setIx (de_op op_fdiv c_fdiv (de_v 2) (de_v 1)) (de_v 0) de_int) (ds_one (ds_ret (de_op op_mod c_mod (de_ct call_int1 c_int1 rfl Y.n_int b_int (da_cons (de_v 2) da_nil)) (de_v 1)))))) ds_nil) (ds_cons (ds_set (i := 3) sc__law_draw.nd rfl (by first | exact .inl rfl | exact .inr rfl) (de_ix (de_v 0) de_int)) (ds_cons (ds_if (dt_cmp op_ge c_ge (de_ix (de_v 0) de_int) (de_cb r_len c_len rfl Y.n_len b_len (da_cons (de_v 3) da_nil)) rfl) (ds_one (ds_ret de_int)) ds_nil) (ds_cons (ds_set (i := 4) sc__law_draw.nd rfl (by first | exact .inl rfl | exact .inr rfl) (de_ix (de_v 3) (de_ix (de_v 0) de_int))) (ds_cons (ds_if (dt_cmp op_ge c_ge (de_v 4) (de_op op_pow c_pow de_int de_int) rfl) (ds_cons (ds_setIx (de_op o_add c_add (de_ix (de_v 0) de_int) de_int) (de_v 0) de_int) (ds_cons (ds_setIx (de_op op_fdiv c_fdiv (de_v 4) (de_v 1)) (de_v 0) de_int) (ds_one (ds_ret (de_op op_mod c_mod (de_ct call_int1 c_int1 rfl Y.n_int b_int (da_cons (de_v 4) da_nil)) (de_v 1)))))) ds_nil) (ds_cons (ds_set (i := 5) sc__law_draw.nd rfl (by first | exact .inl rfl | exact .inr rfl) (de_ix (de_v 0) de_int)) (ds_cons (ds_setIx (de_op o_add c_add (de_v 5) de_int) (de_v 0) de_int) (ds_cons (ds_if (dt_cmp (o_eq (hu64 hr)) c_eq (de_v 5) de_int rfl) (ds_cons (ds_setIx (de_op o_add c_add (de_ix (de_v 0) de_int) de_int) (de_v 0) de_int) (ds_one (ds_setIx de_int (de_v 0) de_int))) ds_nil) (ds_one (ds_ret (de_op op_mod c_mod (de_ct call_int1 c_int1 rfl Y.n_int b_int (da_cons (de_call (C__law_mixed.lift (by omega)) hr takesD Y.k__law_mixed rfl Y.g__law_mixed (da_cons (de_v 4) (da_cons (de_v 5) da_nil))) da_nil)) (de_v 1))))))))))))
abbrev s__law_columns : Stmt := top 39
abbrev N__law_columns : List Str := ["draws", "good", "way", "columns", "place", "column", "k"]
abbrev P__law_columns : List Str := ["draws", "good"]
theorem sc__law_columns : FnScope N__law_columns P__law_columns (defScope s__law_columns) := ⟨rfl, rfl, rfl, by decide +kernel, rfl, by decide +kernel, by decide +kernel⟩
theorem bn__law_columns (kV doc pm : Value) (an : Option Addr) (cdv ct : Value) (us : List Value) (hl : us.length = P__law_columns.length) : bindArgs (PySem.W.fnOf "_law_columns" "_law_columns" (defArgs s__law_columns) (defBody s__law_columns) (defScope s__law_columns) .none kV doc pm an cdv ct) ⟨us, []⟩ = pure (P__law_columns.zip us) :=
  match us, hl with | [_, _], _ => rfl
def rd__law_columns (sp__law_draw : DSp) : TSD :=
  dSeq (dSet 2 (dCall sp__law_draw (dCons (dV 0) (dCons (dC (.int 3)) dNil))))
  (dSeq (dIf (dTest (dOp dEq (dV 2) (dC (.int 0)))) (dRet (dCall1 dTup1 (dCons (dComp false (dRng1 (dCons (dCall sp__law_draw (dCons (dV 0) (dCons (dC (.int 6)) dNil))) dNil)) (gdName 6) dYes (dOp dSub (dCall sp__law_draw (dCons (dV 0) (dCons (dC (.int 7)) dNil))) (dC (.int 1))) [6]) dNil))) dNext)
  (dSeq (dSet 3 (dCall1 (dList1 true) (dCons (dV 1) dNil)))
  (dSeq (dSet 4 (dCall sp__law_draw (dCons (dV 0) (dCons (dOp dAdd (dCall1 dLen (dCons (dV 3) dNil)) (dC (.int 1))) dNil))))
  (dSeq (dSet 5 (dOp dSub (dCall sp__law_draw (dCons (dV 0) (dCons (dC (.int 7)) dNil))) (dC (.int 1))))
  (dSeq (dIf (dTest (dOp dEq (dCall sp__law_draw (dCons (dV 0) (dCons (dC (.int 8)) dNil))) (dC (.int 7)))) (dSet 5 (dOp dPow (dC (.int 10)) (dC (.int 20)))) dNext)
  (dSeq (dIf (dTest (dOp dEq (dV 2) (dC (.int 1)))) (dDrop (dMeth dInsert (dV 3) (dCons (dV 4) (dCons (dV 5) dNil)))) (dIf (dTest (dOp dLt (dV 4) (dCall1 dLen (dCons (dV 3) dNil)))) (dSetIx (dV 5) (dV 3) (dV 4)) dNext))
  (dRet (dCall1 dTup1 (dCons (dV 3) dNil)))))))))
theorem ok__law_columns {P : Program} {w : World} {K : PySem.W.Frag} {mg : Str → Option Value} {base : Heap} {fd : FuncData} (Y : Say P K mg) (F : FunD K "_law_columns" "_law_columns" (defArgs s__law_columns) (defBody s__law_columns) (defScope s__law_columns) [] [] (DH.atA K (.glo "_law_columns")) fd) {sp__law_draw : DSp} (C__law_draw : FnD P w K mg base 2 (DH.atA K (.glo "_law_draw")) sp__law_draw) :
    FnOk P w K mg base (L2.CX P w) (2 + 1) (DH.atA K (.glo "_law_columns")) fd P__law_columns (liftD K (body 2 7 (rd__law_columns sp__law_draw))) :=
  fn_bodyO F sc__law_columns bn__law_columns fun cdv A outer s H E hr => ds_cons (ds_set (i := 2) sc__law_columns.nd rfl (by first | exact .inl rfl | exact .inr rfl) (de_call (C__law_draw.lift (by omega)) hr takesD Y.k__law_draw rfl Y.g__law_draw (da_cons (de_v 0) (da_cons de_int da_nil)))) (ds_cons (ds_if (dt_cmp (o_eq (hu64 hr)) c_eq (de_v 2) de_int rfl) (ds_one (ds_ret (de_ct call_tuple_of c_tup1 rfl Y.n_tuple b_tuple (da_cons (de_comp false rfl sc__law_columns.nd (di_rng1 rfl Y.n_range (da_cons (de_call (C__law_draw.lift (by omega)) hr takesD Y.k__law_draw rfl Y.g__law_draw (da_cons (de_v 0) (da_cons de_int da_nil))) da_nil)) (own := [(("k" : Str), 6)]) (blk_ok (by first | rfl | kernel_rfl)) (fun _ _ _ _ _ => dgw_name (by decide) sc__law_columns.nd (i := 6) rfl (by first | exact .inl rfl | exact .inr rfl)) (fun _ _ _ _ _ => dts_nil) (fun _ _ _ _ _ => de_op op_sub c_sub (de_call (C__law_draw.lift (by omega)) hr takes_none5 Y.k__law_draw rfl Y.g__law_draw (da_cons (de_v 0) (da_cons de_int da_nil))) de_int)) da_nil)))) ds_nil) (ds_cons (ds_set (i := 3) sc__law_columns.nd rfl (by first | exact .inl rfl | exact .inr rfl) (de_ct call_list_of (c_list1 true) rfl Y.n_list b_list (da_cons (de_v 1) da_nil))) (ds_cons (ds_set (i := 4) sc__law_columns.nd rfl (by first | exact .inl rfl | exact .inr rfl) (de_call (C__law_draw.lift (by omega)) hr takesD Y.k__law_draw rfl Y.g__law_draw (da_cons (de_v 0) (da_cons (de_op o_add c_add (de_cb r_len c_len rfl Y.n_len b_len (da_cons (de_v 3) da_nil)) de_int) da_nil)))) (ds_cons (ds_set (i := 5) sc__law_columns.nd rfl (by first | exact .inl rfl | exact .inr rfl) (de_op op_sub c_sub (de_call (C__law_draw.lift (by omega)) hr takesD Y.k__law_draw rfl Y.g__law_draw (da_cons (de_v 0) (da_cons de_int da_nil))) de_int)) (ds_cons (ds_if (dt_cmp (o_eq (hu64 hr)) c_eq (de_call (C__law_draw.lift (by omega)) hr takesD Y.k__law_draw rfl Y.g__law_draw (da_cons (de_v 0) (da_cons de_int da_nil))) de_int rfl) (ds_one (ds_set (i := 5) sc__law_columns.nd rfl (by first | exact .inl rfl | exact .inr rfl) (de_op op_pow c_pow de_int de_int))) ds_nil) (ds_cons (ds_if (dt_cmp (o_eq (hu64 hr)) c_eq (de_v 2) de_int rfl) (ds_one (ds_expr (de_lm PySem.F.slot_list_insert PySem.F.type_list_insert mt_insert c_insert (de_v 3) (da_cons (de_v 4) (da_cons (de_v 5) da_nil))))) (ds_one (ds_if (dt_cmp o_lt c_lt (de_v 4) (de_cb r_len c_len rfl Y.n_len b_len (da_cons (de_v 3) da_nil)) rfl) (ds_one (ds_setIx (de_v 5) (de_v 3) (de_v 4))) ds_nil))) (ds_one (ds_ret (de_ct call_tuple_of c_tup1 rfl Y.n_tuple b_tuple (da_cons (de_v 3) da_nil))))))))))
abbrev s__law_name : Stmt := top 32
abbrev N__law_name : List Str := ["draws", "taken", "letters", "signs", "many", "name", "k", "found"]
abbrev P__law_name : List Str := ["draws", "taken"]
theorem sc__law_name : FnScope N__law_name P__law_name (defScope s__law_name) := ⟨rfl, rfl, rfl, by decide +kernel, rfl, by decide +kernel, by decide +kernel⟩
theorem bn__law_name (kV doc pm : Value) (an : Option Addr) (cdv ct : Value) (us : List Value) (hl : us.length = P__law_name.length) : bindArgs (PySem.W.fnOf "_law_name" "_law_name" (defArgs s__law_name) (defBody s__law_name) (defScope s__law_name) .none kV doc pm an cdv ct) ⟨us, []⟩ = pure (P__law_name.zip us) :=
  match us, hl with | [_, _], _ => rfl
def rd__law_name (sp__law_draw : DSp) : TSD :=
  dSeq (dSet 2 (dC (.str ("abcdefghijklmnopqrstuvwxyz" : Str))))
  (dSeq (dSet 3 (dOp dAdd (dV 2) (dC (.str ("0123456789" : Str)))))
  (dSeq (dSet 4 (dCall sp__law_draw (dCons (dV 0) (dCons (dC (.int 8)) dNil))))
  (dSeq (dIf (dTest (dOp dEq (dV 4) (dC (.int 7)))) (dSet 4 (dC (.int 10))) dNext)
  (dSeq (dSet 5 (dOp dIx (dV 2) (dCall sp__law_draw (dCons (dV 0) (dCons (dC (.int 26)) dNil)))))
  (dSeq (dFor (dRng1 (dCons (dV 4) dNil)) (gdName 6) (dSet 5 (dOp dAdd (dV 5) (dOp dIx (dV 3) (dCall sp__law_draw (dCons (dV 0) (dCons (dC (.int 36)) dNil)))))))
  (dSeq (dSet 7 (dV 5))
  (dSeq (dFor (dRng1 (dCons (dC (.int 10)) dNil)) (gdName 6) (dIf (dTest (dOp (dInB false) (dV 7) (dV 1))) (dSet 7 (dOp dAdd (dV 5) (dCall1 dStr1 (dCons (dV 6) dNil)))) dNext))
  (dRet (dV 7)))))))))
theorem ok__law_name {P : Program} {w : World} {K : PySem.W.Frag} {mg : Str → Option Value} {base : Heap} {fd : FuncData} (Y : Say P K mg) (F : FunD K "_law_name" "_law_name" (defArgs s__law_name) (defBody s__law_name) (defScope s__law_name) [] [] (DH.atA K (.glo "_law_name")) fd) {sp__law_draw : DSp} (C__law_draw : FnD P w K mg base 2 (DH.atA K (.glo "_law_draw")) sp__law_draw) :
    FnOk P w K mg base (L2.CX P w) (2 + 1) (DH.atA K (.glo "_law_name")) fd P__law_name (liftD K (body 2 8 (rd__law_name sp__law_draw))) :=
  fn_bodyO F sc__law_name bn__law_name fun cdv A outer s H E hr => ds_cons (ds_set (i := 2) sc__law_name.nd rfl (by first | exact .inl rfl | exact .inr rfl) de_str) (ds_cons (ds_set (i := 3) sc__law_name.nd rfl (by first | exact .inl rfl | exact .inr rfl) (de_op o_add c_add (de_v 2) de_str)) (ds_cons (ds_set (i := 4) sc__law_name.nd rfl (by first | exact .inl rfl | exact .inr rfl) (de_call (C__law_draw.lift (by omega)) hr takesD Y.k__law_draw rfl Y.g__law_draw (da_cons (de_v 0) (da_cons de_int da_nil)))) (ds_cons (ds_if (dt_cmp (o_eq (hu64 hr)) c_eq (de_v 4) de_int rfl) (ds_one (ds_set (i := 4) sc__law_name.nd rfl (by first | exact .inl rfl | exact .inr rfl) de_int)) ds_nil) (ds_cons (ds_set (i := 5) sc__law_name.nd rfl (by first | exact .inl rfl | exact .inr rfl) (de_ix (de_v 2) (de_call (C__law_draw.lift (by omega)) hr takesD Y.k__law_draw rfl Y.g__law_draw (da_cons (de_v 0) (da_cons de_int da_nil))))) (ds_cons (ds_for (passD (W := W0) rfl) rfl (di_rng1 rfl Y.n_range (da_cons (de_v 4) da_nil)) (dg_name sc__law_name.nd (i := 6) rfl (by first | exact .inl rfl | exact .inr rfl)) (ds_one (ds_set (i := 5) sc__law_name.nd rfl (by first | exact .inl rfl | exact .inr rfl) (de_op o_add c_add (de_v 5) (de_ix (de_v 3) (de_call (C__law_draw.lift (by omega)) hr takesD Y.k__law_draw rfl Y.g__law_draw (da_cons (de_v 0) (da_cons de_int da_nil)))))))) (ds_cons (ds_set (i := 7) sc__law_name.nd rfl (by first | exact .inl rfl | exact .inr rfl) (de_v 5)) (ds_cons (ds_for (passD (W := W0) rfl) rfl (di_rng1 rfl Y.n_range (da_cons de_int da_nil)) (dg_name sc__law_name.nd (i := 6) rfl (by first | exact .inl rfl | exact .inr rfl)) (ds_one (ds_if (dt_cmp (o_in (hu65 hr)) (c_in false) (de_v 7) (de_v 1) rfl) (ds_one (ds_set (i := 7) sc__law_name.nd rfl (by first | exact .inl rfl | exact .inr rfl) (de_op o_add c_add (de_v 5) (de_ct call_str_int c_str1 rfl Y.n_str b_str (da_cons (de_v 6) da_nil))))) ds_nil))) (ds_one (ds_ret (de_v 7))))))))))
abbrev s__law_spoilt : Stmt := top 38
abbrev N__law_spoilt : List Str := ["draws", "name", "signs", "way", "place"]
abbrev P__law_spoilt : List Str := ["draws", "name"]
theorem sc__law_spoilt : FnScope N__law_spoilt P__law_spoilt (defScope s__law_spoilt) := ⟨rfl, rfl, rfl, by decide +kernel, rfl, by decide +kernel, by decide +kernel⟩
theorem bn__law_spoilt (kV doc pm : Value) (an : Option Addr) (cdv ct : Value) (us : List Value) (hl : us.length = P__law_spoilt.length) : bindArgs (PySem.W.fnOf "_law_spoilt" "_law_spoilt" (defArgs s__law_spoilt) (defBody s__law_spoilt) (defScope s__law_spoilt) .none kV doc pm an cdv ct) ⟨us, []⟩ = pure (P__law_spoilt.zip us) :=
  match us, hl with | [_, _], _ => rfl
def rd__law_spoilt (sp__law_draw : DSp) : TSD :=
  dSeq (dSet 2 (dC (.str (" !\"#$&'()*+,-./:;<=>?@ABCDEFGHIJKLMNOPQRSTUVWXYZ[\\]^_`{|}~\n" : Str))))
  (dSeq (dSet 3 (dCall sp__law_draw (dCons (dV 0) (dCons (dC (.int 5)) dNil))))
  (dSeq (dIf (dTest (dOp dEq (dV 3) (dC (.int 0)))) (dRet (dC (.str ("" : Str)))) dNext)
  (dSeq (dIf (dTest (dOp dEq (dV 3) (dC (.int 1)))) (dRet (dSlice false (dOp dAdd (dV 1) (dC (.str ("abcdefghijkl" : Str)))) dNoPart (dPart (dC (.int 13))))) dNext)
  (dSeq (dIf (dTest (dOp dEq (dV 3) (dC (.int 2)))) (dRet (dOp dAdd (dOp dIx (dC (.str ("0123456789" : Str))) (dCall sp__law_draw (dCons (dV 0) (dCons (dC (.int 10)) dNil)))) (dSlice false (dV 1) (dPart (dC (.int 1))) dNoPart))) dNext)
  (dSeq (dSet 4 (dCall sp__law_draw (dCons (dV 0) (dCons (dCall1 dLen (dCons (dV 1) dNil)) dNil))))
  (dRet (dOp dAdd (dOp dAdd (dSlice false (dV 1) dNoPart (dPart (dV 4))) (dOp dIx (dV 2) (dCall sp__law_draw (dCons (dV 0) (dCons (dCall1 dLen (dCons (dV 2) dNil)) dNil))))) (dSlice false (dV 1) (dPart (dOp dAdd (dV 4) (dC (.int 1)))) dNoPart))))))))
theorem ok__law_spoilt {P : Program} {w : World} {K : PySem.W.Frag} {mg : Str → Option Value} {base : Heap} {fd : FuncData} (Y : Say P K mg) (F : FunD K "_law_spoilt" "_law_spoilt" (defArgs s__law_spoilt) (defBody s__law_spoilt) (defScope s__law_spoilt) [] [] (DH.atA K (.glo "_law_spoilt")) fd) {sp__law_draw : DSp} (C__law_draw : FnD P w K mg base 2 (DH.atA K (.glo "_law_draw")) sp__law_draw) :
    FnOk P w K mg base (L2.CX P w) (2 + 1) (DH.atA K (.glo "_law_spoilt")) fd P__law_spoilt (liftD K (body 2 5 (rd__law_spoilt sp__law_draw))) :=
  fn_bodyO F sc__law_spoilt bn__law_spoilt fun cdv A outer s H E hr => ds_cons (ds_set (i := 2) sc__law_spoilt.nd rfl (by first | exact .inl rfl | exact .inr rfl) de_str) (ds_cons (ds_set (i := 3) sc__law_spoilt.nd rfl (by first | exact .inl rfl | exact .inr rfl) (de_call (C__law_draw.lift (by omega)) hr takesD Y.k__law_draw rfl Y.g__law_draw (da_cons (de_v 0) (da_cons de_int da_nil)))) (ds_cons (ds_if (dt_cmp (o_eq (hu64 hr)) c_eq (de_v 3) de_int rfl) (ds_one (ds_ret de_str)) ds_nil) (ds_cons (ds_if (dt_cmp (o_eq (hu64 hr)) c_eq (de_v 3) de_int rfl) (ds_one (ds_ret (de_slice false (de_op o_add c_add (de_v 1) de_str) do_none (do_some de_int)))) ds_nil) (ds_cons (ds_if (dt_cmp (o_eq (hu64 hr)) c_eq (de_v 3) de_int rfl) (ds_one (ds_ret (de_op o_add c_add (de_ix de_str (de_call (C__law_draw.lift (by omega)) hr takesD Y.k__law_draw rfl Y.g__law_draw (da_cons (de_v 0) (da_cons de_int da_nil)))) (de_slice false (de_v 1) (do_some de_int) do_none)))) ds_nil) (ds_cons (ds_set (i := 4) sc__law_spoilt.nd rfl (by first | exact .inl rfl | exact .inr rfl) (de_call (C__law_draw.lift (by omega)) hr takesD Y.k__law_draw rfl Y.g__law_draw (da_cons (de_v 0) (da_cons (de_cb r_len c_len rfl Y.n_len b_len (da_cons (de_v 1) da_nil)) da_nil)))) (ds_one (ds_ret (de_op o_add c_add (de_op o_add c_add (de_slice false (de_v 1) do_none (do_some (de_v 4))) (de_ix (de_v 2) (de_call (C__law_draw.lift (by omega)) hr takesD Y.k__law_draw rfl Y.g__law_draw (da_cons (de_v 0) (da_cons (de_cb r_len c_len rfl Y.n_len b_len (da_cons (de_v 2) da_nil)) da_nil))))) (de_slice false (de_v 1) (do_some (de_op o_add c_add (de_v 4) de_int)) do_none)))))))))
abbrev s_is_name : Stmt := top 16
abbrev N_is_name : List Str := ["text", "char"]
abbrev P_is_name : List Str := ["text"]
theorem sc_is_name : FnScope N_is_name P_is_name (defScope s_is_name) := ⟨rfl, rfl, rfl, by decide +kernel, rfl, by decide +kernel, by decide +kernel⟩
theorem bn_is_name (kV doc pm : Value) (an : Option Addr) (cdv ct : Value) (us : List Value) (hl : us.length = P_is_name.length) : bindArgs (PySem.W.fnOf "is_name" "is_name" (defArgs s_is_name) (defBody s_is_name) (defScope s_is_name) .none kV doc pm an cdv ct) ⟨us, []⟩ = pure (P_is_name.zip us) :=
  match us, hl with | [_], _ => rfl
def rd_is_name : TSD :=
  dSeq (dIf (dOr (dTest (dOp dLt (dCall1 dLen (dCons (dV 0) dNil)) (dC (.int 1)))) (dOr (dTest (dOp dGt (dCall1 dLen (dCons (dV 0) dNil)) (dC (.int 12)))) (dTest (dOp (dInB true) (dOp dIx (dV 0) (dC (.int 0))) (dC (.str ("abcdefghijklmnopqrstuvwxyz" : Str))))))) (dRet (dC (.bl false))) dNext)
  (dSeq (dFor (dI (dV 0)) (gdName 1) (dIf (dAnd (dTest (dOp (dInB true) (dV 1) (dC (.str ("abcdefghijklmnopqrstuvwxyz" : Str))))) (dTest (dOp (dInB true) (dV 1) (dC (.str ("0123456789" : Str)))))) (dRet (dC (.bl false))) dNext))
  (dRet (dC (.bl true))))
theorem ok_is_name {P : Program} {w : World} {K : PySem.W.Frag} {mg : Str → Option Value} {base : Heap} {fd : FuncData} (Y : Say P K mg) (F : FunD K "is_name" "is_name" (defArgs s_is_name) (defBody s_is_name) (defScope s_is_name) [] [] (DH.atA K (.glo "is_name")) fd) :
    FnOk P w K mg base (L2.CX P w) (0 + 1) (DH.atA K (.glo "is_name")) fd P_is_name (liftD K (body 1 2 (rd_is_name))) :=
  fn_bodyO F sc_is_name bn_is_name fun cdv A outer s H E hr => ds_cons (ds_if (dt_bool (dw_or (dt_cmp o_lt c_lt (de_cb r_len c_len rfl Y.n_len b_len (da_cons (de_v 0) da_nil)) de_int rfl) (dw_or (dt_cmp op_gt c_gt (de_cb r_len c_len rfl Y.n_len b_len (da_cons (de_v 0) da_nil)) (de_gi rfl Y.i_LONGEST_NAME) rfl) (dw_or1 (dt_cmp (o_notIn (hu65 hr)) (c_in true) (de_ix (de_v 0) de_int) (de_gs rfl Y.s_LETTERS) rfl))))) (ds_one (ds_ret de_bl)) ds_nil) (ds_cons (ds_for (passD (W := W0) rfl) rfl (di (de_v 0)) (dg_name sc_is_name.nd (i := 1) rfl (by first | exact .inl rfl | exact .inr rfl)) (ds_one (ds_if (dt_bool (dw_and (dt_cmp (o_notIn (hu65 hr)) (c_in true) (de_v 1) (de_gs rfl Y.s_LETTERS) rfl) (dw_and1 (dt_cmp (o_notIn (hu65 hr)) (c_in true) (de_v 1) (de_gs rfl Y.s_DIGITS) rfl)))) (ds_one (ds_ret de_bl)) ds_nil))) (ds_one (ds_ret de_bl)))
abbrev s_check_name : Stmt := top 17
abbrev N_check_name : List Str := ["text"]
abbrev P_check_name : List Str := ["text"]
theorem sc_check_name : FnScope N_check_name P_check_name (defScope s_check_name) := ⟨rfl, rfl, rfl, by decide +kernel, rfl, by decide +kernel, by decide +kernel⟩
theorem bn_check_name (kV doc pm : Value) (an : Option Addr) (cdv ct : Value) (us : List Value) (hl : us.length = P_check_name.length) : bindArgs (PySem.W.fnOf "check_name" "check_name" (defArgs s_check_name) (defBody s_check_name) (defScope s_check_name) .none kV doc pm an cdv ct) ⟨us, []⟩ = pure (P_check_name.zip us) :=
  match us, hl with | [_], _ => rfl
def rd_check_name (sp_is_name : DSp) : TSD :=
  dIf (dNot (dTest (dCall sp_is_name (dCons (dV 0) dNil)))) (dRaise (dX1 "BadName" "name" (dV 0))) dNext
theorem ok_check_name {P : Program} {w : World} {K : PySem.W.Frag} {mg : Str → Option Value} {base : Heap} {fd : FuncData} (Y : Say P K mg) (F : FunD K "check_name" "check_name" (defArgs s_check_name) (defBody s_check_name) (defScope s_check_name) [] [] (DH.atA K (.glo "check_name")) fd) {sp_is_name : DSp} (C_is_name : FnD P w K mg base 1 (DH.atA K (.glo "is_name")) sp_is_name) :
    FnOk P w K mg base (L2.CX P w) (1 + 1) (DH.atA K (.glo "check_name")) fd P_check_name (liftD K (body 1 1 (rd_check_name sp_is_name))) :=
  fn_bodyO F sc_check_name bn_check_name fun cdv A outer s H E hr => ds_one (ds_if (dt_not (dt_val (de_call (C_is_name.lift (by omega)) hr takesD Y.k_is_name rfl Y.g_is_name (da_cons (de_v 0) da_nil)))) (ds_one (ds_raise rfl takesD (dm_1 (tx := tx_BadName) Y.su_BadName.sup tx_BadName_is Y.su_BadName.ini Y.su_BadName.typ (k := 0) (hr.mono (by decide)) rfl Y.g_BadName (de_v 0)))) ds_nil)
abbrev s_check_given : Stmt := top 25
abbrev N_check_given : List Str := ["given", "last", "column"]
abbrev P_check_given : List Str := ["given"]
theorem sc_check_given : FnScope N_check_given P_check_given (defScope s_check_given) := ⟨rfl, rfl, rfl, by decide +kernel, rfl, by decide +kernel, by decide +kernel⟩
theorem bn_check_given (kV doc pm : Value) (an : Option Addr) (cdv ct : Value) (us : List Value) (hl : us.length = P_check_given.length) : bindArgs (PySem.W.fnOf "check_given" "check_given" (defArgs s_check_given) (defBody s_check_given) (defScope s_check_given) .none kV doc pm an cdv ct) ⟨us, []⟩ = pure (P_check_given.zip us) :=
  match us, hl with | [_], _ => rfl
def rd_check_given : TSD :=
  dSeq (dSet 1 (dUn dNeg (dC (.int 1))))
  (dFor (dI (dV 0)) (gdName 2) (dSeq (dIf (dOr (dTest (dOp dLe (dV 2) (dV 1))) (dTest (dOp dGe (dV 2) (dC (.int 4))))) (dRaise (dX0 "BadBound" (dCons (dC (.str ("columns not ascending" : Str))) dNil))) dNext)
  (dSet 1 (dV 2))))
theorem ok_check_given {P : Program} {w : World} {K : PySem.W.Frag} {mg : Str → Option Value} {base : Heap} {fd : FuncData} (Y : Say P K mg) (F : FunD K "check_given" "check_given" (defArgs s_check_given) (defBody s_check_given) (defScope s_check_given) [] [] (DH.atA K (.glo "check_given")) fd) :
    FnOk P w K mg base (L2.CX P w) (0 + 1) (DH.atA K (.glo "check_given")) fd P_check_given (liftD K (body 1 3 (rd_check_given))) :=
  fn_bodyO F sc_check_given bn_check_given fun cdv A outer s H E hr => ds_cons (ds_set (i := 1) sc_check_given.nd rfl (by first | exact .inl rfl | exact .inr rfl) (de_un un_neg c_neg de_int)) (ds_one (ds_for (passD (W := W0) rfl) rfl (di (de_v 0)) (dg_name sc_check_given.nd (i := 2) rfl (by first | exact .inl rfl | exact .inr rfl)) (ds_cons (ds_if (dt_bool (dw_or (dt_cmp op_le c_le (de_v 2) (de_v 1) rfl) (dw_or1 (dt_cmp op_ge c_ge (de_v 2) (de_gi rfl Y.i_WIDEST) rfl)))) (ds_one (ds_raise rfl takesD (dm_0 Y.x_BadBound rfl Y.g_BadBound (da_cons de_str da_nil)))) ds_nil) (ds_one (ds_set (i := 1) sc_check_given.nd rfl (by first | exact .inl rfl | exact .inr rfl) (de_v 2))))))
abbrev s_Bound__D_init_D_ : Stmt := inClass (top 27) 1
abbrev N_Bound__D_init_D_ : List Str := ["self", "table", "given", "limit"]
abbrev P_Bound__D_init_D_ : List Str := ["self", "table", "given", "limit"]
theorem sc_Bound__D_init_D_ : FnScope N_Bound__D_init_D_ P_Bound__D_init_D_ (defScope s_Bound__D_init_D_) := ⟨rfl, rfl, rfl, by decide +kernel, rfl, by decide +kernel, by decide +kernel⟩
theorem bn_Bound__D_init_D_ (kV doc pm : Value) (an : Option Addr) (cdv ct : Value) (us : List Value) (hl : us.length = P_Bound__D_init_D_.length) : bindArgs (PySem.W.fnOf "__init__" "Bound.__init__" (defArgs s_Bound__D_init_D_) (defBody s_Bound__D_init_D_) (defScope s_Bound__D_init_D_) .none kV doc pm an cdv ct) ⟨us, []⟩ = pure (P_Bound__D_init_D_.zip us) :=
  match us, hl with | [_, _, _, _], _ => rfl
def rd_Bound__D_init_D_ (sp_check_name : DSp) (sp_check_given : DSp) : TSD :=
  dSeq (dDrop (dCall sp_check_name (dCons (dV 1) dNil)))
  (dSeq (dDrop (dCall sp_check_given (dCons (dV 2) dNil)))
  (dSeq (dIf (dTest (dOp dLt (dV 3) (dC (.int 1)))) (dRaise (dX0 "BadBound" (dCons (dC (.str ("limit below 1" : Str))) dNil))) dNext)
  (dSeq (dSetFld "Bound" 2 (dV 1) (dV 0))
  (dSeq (dSetFld "Bound" 0 (dCall1 dTup1 (dCons (dV 2) dNil)) (dV 0))
  (dSetFld "Bound" 1 (dV 3) (dV 0))))))
theorem ok_Bound__D_init_D_ {P : Program} {w : World} {K : PySem.W.Frag} {mg : Str → Option Value} {base : Heap} {fd : FuncData} (Y : Say P K mg) (F : FunD K "__init__" "Bound.__init__" (defArgs s_Bound__D_init_D_) (defBody s_Bound__D_init_D_) (defScope s_Bound__D_init_D_) [] [] (DH.atA K (.mth "Bound" "__init__")) fd) {sp_check_name : DSp} (C_check_name : FnD P w K mg base 2 (DH.atA K (.glo "check_name")) sp_check_name) {sp_check_given : DSp} (C_check_given : FnD P w K mg base 1 (DH.atA K (.glo "check_given")) sp_check_given) :
    FnOk P w K mg base (L2.CX P w) (2 + 1) (DH.atA K (.mth "Bound" "__init__")) fd P_Bound__D_init_D_ (liftD K (body 4 4 (rd_Bound__D_init_D_ sp_check_name sp_check_given))) :=
  fn_bodyO F sc_Bound__D_init_D_ bn_Bound__D_init_D_ fun cdv A outer s H E hr => ds_cons (ds_expr (de_call (C_check_name.lift (by omega)) hr takesD Y.k_check_name rfl Y.g_check_name (da_cons (de_v 1) da_nil))) (ds_cons (ds_expr (de_call (C_check_given.lift (by omega)) hr takesD Y.k_check_given rfl Y.g_check_given (da_cons (de_v 2) da_nil))) (ds_cons (ds_if (dt_cmp o_lt c_lt (de_v 3) de_int rfl) (ds_one (ds_raise rfl takesD (dm_0 Y.x_BadBound rfl Y.g_BadBound (da_cons de_str da_nil)))) ds_nil) (ds_cons (ds_setFld Y.sc_Bound Y.sl_Bound_table (de_v 0) (de_v 1)) (ds_cons (ds_setFld Y.sc_Bound Y.sl_Bound_given (de_v 0) (de_ct call_tuple_of c_tup1 rfl Y.n_tuple b_tuple (da_cons (de_v 2) da_nil))) (ds_one (ds_setFld Y.sc_Bound Y.sl_Bound_limit (de_v 0) (de_v 3)))))))
abbrev s__law_same : Stmt := top 34
abbrev N__law_same : List Str := ["actual", "expected", "k"]
abbrev P__law_same : List Str := ["actual", "expected"]
theorem sc__law_same : FnScope N__law_same P__law_same (defScope s__law_same) := ⟨rfl, rfl, rfl, by decide +kernel, rfl, by decide +kernel, by decide +kernel⟩
theorem bn__law_same (kV doc pm : Value) (an : Option Addr) (cdv ct : Value) (us : List Value) (hl : us.length = P__law_same.length) : bindArgs (PySem.W.fnOf "_law_same" "_law_same" (defArgs s__law_same) (defBody s__law_same) (defScope s__law_same) .none kV doc pm an cdv ct) ⟨us, []⟩ = pure (P__law_same.zip us) :=
  match us, hl with | [_, _], _ => rfl
def rd__law_same (sp_self : DSp) : TSD :=
  dSeq (dIf (dTest (dOp dIs (dV 1) (dC .non))) (dRet (dOp dIs (dV 0) (dC .non))) dNext)
  (dSeq (dIf (dTest (dOp dIs (dV 1) (dC (.bl true)))) (dRet (dOp dIs (dV 0) (dC (.bl true)))) dNext)
  (dSeq (dIf (dTest (dOp dIs (dV 1) (dC (.bl false)))) (dRet (dOp dIs (dV 0) (dC (.bl false)))) dNext)
  (dSeq (dIf (dTest (dCall1 dIsi (dCons (dV 1) (dCons (dC (.ty "int")) dNil)))) (dRet (dAndV (dCall1 dIsi (dCons (dV 0) (dCons (dC (.ty "int")) dNil))) (dAndV (dNotV (dCall1 dIsi (dCons (dV 0) (dCons (dC (.ty "bool")) dNil)))) (dOp dEq (dV 0) (dV 1))))) dNext)
  (dSeq (dIf (dTest (dCall1 dIsi (dCons (dV 1) (dCons (dC (.ty "str")) dNil)))) (dRet (dAndV (dCall1 dIsi (dCons (dV 0) (dCons (dC (.ty "str")) dNil))) (dOp dEq (dV 0) (dV 1)))) dNext)
  (dSeq (dIf (dAnd (dTest (dCall1 dIsi (dCons (dV 1) (dCons (dC (.ty "tuple")) dNil)))) (dNot (dTest (dCall1 dIsi (dCons (dV 0) (dCons (dC (.ty "tuple")) dNil)))))) (dRet (dC (.bl false))) dNext)
  (dSeq (dIf (dAnd (dTest (dCall1 dIsi (dCons (dV 1) (dCons (dC (.ty "list")) dNil)))) (dNot (dTest (dCall1 dIsi (dCons (dV 0) (dCons (dC (.ty "list")) dNil)))))) (dRet (dC (.bl false))) dNext)
  (dSeq (dIf (dTest (dOp dNe (dCall1 dLen (dCons (dV 0) dNil)) (dCall1 dLen (dCons (dV 1) dNil)))) (dRet (dC (.bl false))) dNext)
  (dSeq (dFor (dRng1 (dCons (dCall1 dLen (dCons (dV 1) dNil)) dNil)) (gdName 2) (dIf (dNot (dTest (dCall sp_self (dCons (dOp dIx (dV 0) (dV 2)) (dCons (dOp dIx (dV 1) (dV 2)) dNil))))) (dRet (dC (.bl false))) dNext))
  (dRet (dC (.bl true)))))))))))
theorem ok__law_same {P : Program} {w : World} {K : PySem.W.Frag} {mg : Str → Option Value} {base : Heap} {fd : FuncData} (Y : Say P K mg) (F : FunD K "_law_same" "_law_same" (defArgs s__law_same) (defBody s__law_same) (defScope s__law_same) [] [] (DH.atA K (.glo "_law_same")) fd) {sp_self : DSp} {k : Nat} (hk : 0 ≤ k) (C_self : FnD P w K mg base k (DH.atA K (.glo "_law_same")) sp_self) :
    FnOk P w K mg base (L2.CX P w) (k + 1) (DH.atA K (.glo "_law_same")) fd P__law_same (liftD K (body 2 3 (rd__law_same sp_self))) :=
  fn_bodyO F sc__law_same bn__law_same fun cdv A outer s H E hr => ds_cons (ds_if (dt_cmp o_is c_is (de_v 1) de_non rfl) (ds_one (ds_ret (de_cmp o_is c_is (de_v 0) de_non rfl))) ds_nil) (ds_cons (ds_if (dt_cmp o_is c_is (de_v 1) de_bl rfl) (ds_one (ds_ret (de_cmp o_is c_is (de_v 0) de_bl rfl))) ds_nil) (ds_cons (ds_if (dt_cmp o_is c_is (de_v 1) de_bl rfl) (ds_one (ds_ret (de_cmp o_is c_is (de_v 0) de_bl rfl))) ds_nil) (ds_cons (ds_if (dt_val (de_cb call_isi c_isi rfl Y.n_isinstance b_isinstance (da_cons (de_v 1) (da_cons (de_bty rfl Y.n_int b_int) da_nil)))) (ds_one (ds_ret (de_and (de_cb call_isi c_isi rfl Y.n_isinstance b_isinstance (da_cons (de_v 0) (da_cons (de_bty rfl Y.n_int b_int) da_nil))) (de_and (de_not (de_cb call_isi c_isi rfl Y.n_isinstance b_isinstance (da_cons (de_v 0) (da_cons (de_bty rfl Y.n_bool b_bool) da_nil)))) (de_one (de_cmp (o_eq (hu64 hr)) c_eq (de_v 0) (de_v 1) rfl)))))) ds_nil) (ds_cons (ds_if (dt_val (de_cb call_isi c_isi rfl Y.n_isinstance b_isinstance (da_cons (de_v 1) (da_cons (de_bty rfl Y.n_str b_str) da_nil)))) (ds_one (ds_ret (de_and (de_cb call_isi c_isi rfl Y.n_isinstance b_isinstance (da_cons (de_v 0) (da_cons (de_bty rfl Y.n_str b_str) da_nil))) (de_one (de_cmp (o_eq (hu64 hr)) c_eq (de_v 0) (de_v 1) rfl))))) ds_nil) (ds_cons (ds_if (dt_bool (dw_and (dt_val (de_cb call_isi c_isi rfl Y.n_isinstance b_isinstance (da_cons (de_v 1) (da_cons (de_bty rfl Y.n_tuple b_tuple) da_nil)))) (dw_and1 (dt_not (dt_val (de_cb call_isi c_isi rfl Y.n_isinstance b_isinstance (da_cons (de_v 0) (da_cons (de_bty rfl Y.n_tuple b_tuple) da_nil)))))))) (ds_one (ds_ret de_bl)) ds_nil) (ds_cons (ds_if (dt_bool (dw_and (dt_val (de_cb call_isi c_isi rfl Y.n_isinstance b_isinstance (da_cons (de_v 1) (da_cons (de_bty rfl Y.n_list b_list) da_nil)))) (dw_and1 (dt_not (dt_val (de_cb call_isi c_isi rfl Y.n_isinstance b_isinstance (da_cons (de_v 0) (da_cons (de_bty rfl Y.n_list b_list) da_nil)))))))) (ds_one (ds_ret de_bl)) ds_nil) (ds_cons (ds_if (dt_cmp (o_ne (hu64 hr)) c_ne (de_cb r_len c_len rfl Y.n_len b_len (da_cons (de_v 0) da_nil)) (de_cb r_len c_len rfl Y.n_len b_len (da_cons (de_v 1) da_nil)) rfl) (ds_one (ds_ret de_bl)) ds_nil) (ds_cons (ds_for (passD (W := W0) rfl) rfl (di_rng1 rfl Y.n_range (da_cons (de_cb r_len c_len rfl Y.n_len b_len (da_cons (de_v 1) da_nil)) da_nil)) (dg_name sc__law_same.nd (i := 2) rfl (by first | exact .inl rfl | exact .inr rfl)) (ds_one (ds_if (dt_not (dt_val (de_call (C_self.lift (by omega)) hr takesD Y.k__law_same rfl Y.g__law_same (da_cons (de_ix (de_v 0) (de_v 2)) (da_cons (de_ix (de_v 1) (de_v 2)) da_nil))))) (ds_one (ds_ret de_bl)) ds_nil))) (ds_one (ds_ret de_bl))))))))))
abbrev s__law_named : Stmt := top 37
abbrev N__law_named : List Str := ["text", "letters", "sign"]
abbrev P__law_named : List Str := ["text"]
theorem sc__law_named : FnScope N__law_named P__law_named (defScope s__law_named) := ⟨rfl, rfl, rfl, by decide +kernel, rfl, by decide +kernel, by decide +kernel⟩
theorem bn__law_named (kV doc pm : Value) (an : Option Addr) (cdv ct : Value) (us : List Value) (hl : us.length = P__law_named.length) : bindArgs (PySem.W.fnOf "_law_named" "_law_named" (defArgs s__law_named) (defBody s__law_named) (defScope s__law_named) .none kV doc pm an cdv ct) ⟨us, []⟩ = pure (P__law_named.zip us) :=
  match us, hl with | [_], _ => rfl
def rd__law_named : TSD :=
  dSeq (dSet 1 (dC (.str ("abcdefghijklmnopqrstuvwxyz" : Str))))
  (dSeq (dIf (dOr (dTest (dOp dLt (dCall1 dLen (dCons (dV 0) dNil)) (dC (.int 1)))) (dOr (dTest (dOp dGt (dCall1 dLen (dCons (dV 0) dNil)) (dC (.int 12)))) (dTest (dOp (dInB true) (dOp dIx (dV 0) (dC (.int 0))) (dV 1))))) (dRet (dC (.bl false))) dNext)
  (dRet (dOp dEq (dCall1 dLen (dCons (dComp false (dI (dV 0)) (gdName 2) (dTest (dOp (dInB true) (dV 2) (dOp dAdd (dV 1) (dC (.str ("0123456789" : Str)))))) (dV 2) [2]) dNil)) (dC (.int 0)))))
theorem ok__law_named {P : Program} {w : World} {K : PySem.W.Frag} {mg : Str → Option Value} {base : Heap} {fd : FuncData} (Y : Say P K mg) (F : FunD K "_law_named" "_law_named" (defArgs s__law_named) (defBody s__law_named) (defScope s__law_named) [] [] (DH.atA K (.glo "_law_named")) fd) :
    FnOk P w K mg base (L2.CX P w) (0 + 1) (DH.atA K (.glo "_law_named")) fd P__law_named (liftD K (body 1 3 (rd__law_named))) :=
  fn_bodyO F sc__law_named bn__law_named fun cdv A outer s H E hr => ds_cons (ds_set (i := 1) sc__law_named.nd rfl (by first | exact .inl rfl | exact .inr rfl) de_str) (ds_cons (ds_if (dt_bool (dw_or (dt_cmp o_lt c_lt (de_cb r_len c_len rfl Y.n_len b_len (da_cons (de_v 0) da_nil)) de_int rfl) (dw_or (dt_cmp op_gt c_gt (de_cb r_len c_len rfl Y.n_len b_len (da_cons (de_v 0) da_nil)) de_int rfl) (dw_or1 (dt_cmp (o_notIn (hu65 hr)) (c_in true) (de_ix (de_v 0) de_int) (de_v 1) rfl))))) (ds_one (ds_ret de_bl)) ds_nil) (ds_one (ds_ret (de_cmp (o_eq (hu64 hr)) c_eq (de_cb r_len c_len rfl Y.n_len b_len (da_cons (de_comp false rfl sc__law_named.nd (di (de_v 0)) (own := [(("sign" : Str), 2)]) (blk_ok (by first | rfl | kernel_rfl)) (fun _ _ _ _ _ => dgw_name (by decide) sc__law_named.nd (i := 2) rfl (by first | exact .inl rfl | exact .inr rfl)) (fun _ _ _ _ _ => dts_one (dt_cmp (o_notIn (hu65 hr)) (c_in true) (de_v 2) (de_op o_add c_add (de_v 1) de_str) rfl)) (fun _ _ _ _ _ => de_v 2)) da_nil)) de_int rfl))))
abbrev s__law_ascending : Stmt := top 40
abbrev N__law_ascending : List Str := ["columns", "last", "column"]
abbrev P__law_ascending : List Str := ["columns"]
theorem sc__law_ascending : FnScope N__law_ascending P__law_ascending (defScope s__law_ascending) := ⟨rfl, rfl, rfl, by decide +kernel, rfl, by decide +kernel, by decide +kernel⟩
theorem bn__law_ascending (kV doc pm : Value) (an : Option Addr) (cdv ct : Value) (us : List Value) (hl : us.length = P__law_ascending.length) : bindArgs (PySem.W.fnOf "_law_ascending" "_law_ascending" (defArgs s__law_ascending) (defBody s__law_ascending) (defScope s__law_ascending) .none kV doc pm an cdv ct) ⟨us, []⟩ = pure (P__law_ascending.zip us) :=
  match us, hl with | [_], _ => rfl
def rd__law_ascending : TSD :=
  dSeq (dSet 1 (dUn dNeg (dC (.int 1))))
  (dSeq (dFor (dI (dV 0)) (gdName 2) (dSeq (dIf (dOr (dTest (dOp dLe (dV 2) (dV 1))) (dTest (dOp dGt (dV 2) (dC (.int 3))))) (dRet (dC (.bl false))) dNext)
  (dSet 1 (dV 2))))
  (dRet (dC (.bl true))))
theorem ok__law_ascending {P : Program} {w : World} {K : PySem.W.Frag} {mg : Str → Option Value} {base : Heap} {fd : FuncData} (Y : Say P K mg) (F : FunD K "_law_ascending" "_law_ascending" (defArgs s__law_ascending) (defBody s__law_ascending) (defScope s__law_ascending) [] [] (DH.atA K (.glo "_law_ascending")) fd) :
    FnOk P w K mg base (L2.CX P w) (0 + 1) (DH.atA K (.glo "_law_ascending")) fd P__law_ascending (liftD K (body 1 3 (rd__law_ascending))) :=
  fn_bodyO F sc__law_ascending bn__law_ascending fun cdv A outer s H E hr => ds_cons (ds_set (i := 1) sc__law_ascending.nd rfl (by first | exact .inl rfl | exact .inr rfl) (de_un un_neg c_neg de_int)) (ds_cons (ds_for (passD (W := W0) rfl) rfl (di (de_v 0)) (dg_name sc__law_ascending.nd (i := 2) rfl (by first | exact .inl rfl | exact .inr rfl)) (ds_cons (ds_if (dt_bool (dw_or (dt_cmp op_le c_le (de_v 2) (de_v 1) rfl) (dw_or1 (dt_cmp op_gt c_gt (de_v 2) de_int rfl)))) (ds_one (ds_ret de_bl)) ds_nil) (ds_one (ds_set (i := 1) sc__law_ascending.nd rfl (by first | exact .inl rfl | exact .inr rfl) (de_v 2))))) (ds_one (ds_ret de_bl)))
abbrev s__law_due : Stmt := top 41
abbrev N__law_due : List Str := ["table", "given", "limit"]
abbrev P__law_due : List Str := ["table", "given", "limit"]
theorem sc__law_due : FnScope N__law_due P__law_due (defScope s__law_due) := ⟨rfl, rfl, rfl, by decide +kernel, rfl, by decide +kernel, by decide +kernel⟩
theorem bn__law_due (kV doc pm : Value) (an : Option Addr) (cdv ct : Value) (us : List Value) (hl : us.length = P__law_due.length) : bindArgs (PySem.W.fnOf "_law_due" "_law_due" (defArgs s__law_due) (defBody s__law_due) (defScope s__law_due) .none kV doc pm an cdv ct) ⟨us, []⟩ = pure (P__law_due.zip us) :=
  match us, hl with | [_, _, _], _ => rfl
def rd__law_due (sp__law_named : DSp) (sp__law_ascending : DSp) : TSD :=
  dSeq (dIf (dNot (dTest (dCall sp__law_named (dCons (dV 0) dNil)))) (dRet (dTup (dCons (dC (.str ("name" : Str))) (dCons (dV 0) (dCons (dC (.bl true)) (dCons (dC (.bl false)) dNil)))))) dNext)
  (dSeq (dIf (dOr (dNot (dTest (dCall sp__law_ascending (dCons (dV 1) dNil)))) (dTest (dOp dLt (dV 2) (dC (.int 1))))) (dRet (dTup (dCons (dC (.str ("bound" : Str))) (dCons (dC (.str ("" : Str))) (dCons (dC (.bl true)) (dCons (dC (.bl false)) dNil)))))) dNext)
  (dRet (dTup (dCons (dC (.str ("made" : Str))) (dCons (dTup (dCons (dV 0) (dCons (dV 1) (dCons (dV 2) dNil)))) (dCons (dTup (dCons (dV 0) (dCons (dV 1) dNil))) (dCons (dC (.bl false)) dNil)))))))
theorem ok__law_due {P : Program} {w : World} {K : PySem.W.Frag} {mg : Str → Option Value} {base : Heap} {fd : FuncData} (Y : Say P K mg) (F : FunD K "_law_due" "_law_due" (defArgs s__law_due) (defBody s__law_due) (defScope s__law_due) [] [] (DH.atA K (.glo "_law_due")) fd) {sp__law_named : DSp} (C__law_named : FnD P w K mg base 1 (DH.atA K (.glo "_law_named")) sp__law_named) {sp__law_ascending : DSp} (C__law_ascending : FnD P w K mg base 1 (DH.atA K (.glo "_law_ascending")) sp__law_ascending) :
    FnOk P w K mg base (L2.CX P w) (1 + 1) (DH.atA K (.glo "_law_due")) fd P__law_due (liftD K (body 3 3 (rd__law_due sp__law_named sp__law_ascending))) :=
  fn_bodyO F sc__law_due bn__law_due fun cdv A outer s H E hr => ds_cons (ds_if (dt_not (dt_val (de_call (C__law_named.lift (by omega)) hr takesD Y.k__law_named rfl Y.g__law_named (da_cons (de_v 0) da_nil)))) (ds_one (ds_ret (de_tup (da_cons de_str (da_cons (de_v 0) (da_cons de_bl (da_cons de_bl da_nil))))))) ds_nil) (ds_cons (ds_if (dt_bool (dw_or (dt_not (dt_val (de_call (C__law_ascending.lift (by omega)) hr takesD Y.k__law_ascending rfl Y.g__law_ascending (da_cons (de_v 1) da_nil)))) (dw_or1 (dt_cmp o_lt c_lt (de_v 2) de_int rfl)))) (ds_one (ds_ret (de_tup (da_cons de_str (da_cons de_str (da_cons de_bl (da_cons de_bl da_nil))))))) ds_nil) (ds_one (ds_ret (de_tup (da_cons de_str (da_cons (de_tup (da_cons (de_v 0) (da_cons (de_v 1) (da_cons (de_v 2) da_nil)))) (da_cons (de_tup (da_cons (de_v 0) (da_cons (de_v 1) da_nil))) (da_cons de_bl da_nil))))))))
abbrev s_Bound_single : Stmt := inClass (top 27) 2
abbrev N_Bound_single : List Str := ["cls", "table", "given"]
abbrev P_Bound_single : List Str := ["cls", "table", "given"]
theorem sc_Bound_single : FnScope N_Bound_single P_Bound_single (defScope s_Bound_single) := ⟨rfl, rfl, rfl, by decide +kernel, rfl, by decide +kernel, by decide +kernel⟩
theorem bn_Bound_single (kV doc pm : Value) (an : Option Addr) (cdv ct : Value) (us : List Value) (hl : us.length = P_Bound_single.length) : bindArgs (PySem.W.fnOf "single" "Bound.single" (defArgs s_Bound_single) (defBody s_Bound_single) (defScope s_Bound_single) .none kV doc pm an cdv ct) ⟨us, []⟩ = pure (P_Bound_single.zip us) :=
  match us, hl with | [_, _, _], _ => rfl
def rd_Bound_single (sp_Bound__D_init_D_ : DSp) : TSD :=
  dRet (fun δ μ Q R => (dV 0) δ μ (fun y μ1 => y = .cls "Bound" ∧ dMake "Bound" sp_Bound__D_init_D_ (dCons (dV 1) (dCons (dV 2) (dCons (dC (.int 1)) dNil))) δ μ1 Q R) R)
theorem ok_Bound_single {P : Program} {w : World} {K : PySem.W.Frag} {mg : Str → Option Value} {base : Heap} {fd : FuncData} (Y : Say P K mg) (F : FunD K "single" "Bound.single" (defArgs s_Bound_single) (defBody s_Bound_single) (defScope s_Bound_single) [] [] (DH.atA K (.inn "Bound" "single" "classmethod")) fd) {sp_Bound__D_init_D_ : DSp} (C_Bound__D_init_D_ : FnD P w K mg base 3 (DH.atA K (.mth "Bound" "__init__")) sp_Bound__D_init_D_) :
    FnOk P w K mg base (L2.CX P w) (4 + 1) (DH.atA K (.inn "Bound" "single" "classmethod")) fd P_Bound_single (liftD K (body 3 3 (rd_Bound_single sp_Bound__D_init_D_))) :=
  fn_bodyO F sc_Bound_single bn_Bound_single fun cdv A outer s H E hr => ds_one (ds_ret (de_makeL Y.mk_Bound (C_Bound__D_init_D_.lift (by omega)) hr takesD (de_v 0) (da_cons (de_v 1) (da_cons (de_v 2) (da_cons de_int da_nil)))))
abbrev s_Bound_door : Stmt := inClass (top 27) 4
abbrev N_Bound_door : List Str := ["self"]
abbrev P_Bound_door : List Str := ["self"]
theorem sc_Bound_door : FnScope N_Bound_door P_Bound_door (defScope s_Bound_door) := ⟨rfl, rfl, rfl, by decide +kernel, rfl, by decide +kernel, by decide +kernel⟩
theorem bn_Bound_door (kV doc pm : Value) (an : Option Addr) (cdv ct : Value) (us : List Value) (hl : us.length = P_Bound_door.length) : bindArgs (PySem.W.fnOf "door" "Bound.door" (defArgs s_Bound_door) (defBody s_Bound_door) (defScope s_Bound_door) .none kV doc pm an cdv ct) ⟨us, []⟩ = pure (P_Bound_door.zip us) :=
  match us, hl with | [_], _ => rfl
def rd_Bound_door : TSD :=
  dRet (dTup (dCons (dFld "Bound" 2 (dV 0)) (dCons (dFld "Bound" 0 (dV 0)) dNil)))
theorem ok_Bound_door {P : Program} {w : World} {K : PySem.W.Frag} {mg : Str → Option Value} {base : Heap} {fd : FuncData} (Y : Say P K mg) (F : FunD K "door" "Bound.door" (defArgs s_Bound_door) (defBody s_Bound_door) (defScope s_Bound_door) [] [] (DH.atA K (.inn "Bound" "door" "property")) fd) :
    FnOk P w K mg base (L2.CX P w) (0 + 1) (DH.atA K (.inn "Bound" "door" "property")) fd P_Bound_door (liftD K (body 1 1 (rd_Bound_door))) :=
  fn_bodyO F sc_Bound_door bn_Bound_door fun cdv A outer s H E hr => ds_one (ds_ret (de_tup (da_cons (de_fld Y.sc_Bound Y.sl_Bound_table (de_v 0)) (da_cons (de_fld Y.sc_Bound Y.sl_Bound_given (de_v 0)) da_nil))))
abbrev s__law_outcome : Stmt := top 42
abbrev N__law_outcome : List Str := ["table", "given", "limit", "single", "made", "e", "strange"]
abbrev P__law_outcome : List Str := ["table", "given", "limit", "single"]
theorem sc__law_outcome : FnScope N__law_outcome P__law_outcome (defScope s__law_outcome) := ⟨rfl, rfl, rfl, by decide +kernel, rfl, by decide +kernel, by decide +kernel⟩
theorem bn__law_outcome (kV doc pm : Value) (an : Option Addr) (cdv ct : Value) (us : List Value) (hl : us.length = P__law_outcome.length) : bindArgs (PySem.W.fnOf "_law_outcome" "_law_outcome" (defArgs s__law_outcome) (defBody s__law_outcome) (defScope s__law_outcome) .none kV doc pm an cdv ct) ⟨us, []⟩ = pure (P__law_outcome.zip us) :=
  match us, hl with | [_, _, _, _], _ => rfl
def rd__law_outcome (sp_Bound_single : DSp) (sp_Bound__D_init_D_ : DSp) (sp_Bound_door : DSp) : TSD :=
  dSeq (dTry (dIf (dTest (dV 3)) (dSet 4 (dCMeth "Bound" sp_Bound_single (dC (.cls "Bound")) (dCons (dV 0) (dCons (dV 1) dNil)))) (dSet 4 (dMake "Bound" sp_Bound__D_init_D_ (dCons (dV 0) (dCons (dV 1) (dCons (dV 2) dNil)))))) [⟨"BadName", tabX ["BadName"] ["BadBound"], (some 5), fun a d c => dRet (dTup (dCons (dC (.str ("name" : Str))) (dCons (xfl a d c ["BadName"] "name" (dV 5)) (dCons (dCall1 (dIsE a d c ["BadName"] (isTabX c ["BadName"] [] "LooksError")) (dCons (dV 5) (dCons (dC (.cls "LooksError")) dNil))) (dCons (dOrV (dCall1 (dIsE a d c ["BadName"] (isTabX c [] ["BadName"] "DoubleName")) (dCons (dV 5) (dCons (dC (.cls "DoubleName")) dNil))) (dCall1 (dIsE a d c ["BadName"] (isTabX c [] ["BadName"] "BookError")) (dCons (dV 5) (dCons (dC (.cls "BookError")) dNil)))) dNil)))))⟩, ⟨"BadBound", tabX ["BadBound"] ["BadName"], (some 5), fun a d c => dSeq (dSet 6 (dOrV (dCall1 (dIsE a d c ["BadBound"] (isTabX c [] ["BadBound"] "NestedBound")) (dCons (dV 5) (dCons (dC (.cls "NestedBound")) dNil))) (dOrV (dCall1 (dIsE a d c ["BadBound"] (isTabX c [] ["BadBound"] "NoDoor")) (dCons (dV 5) (dCons (dC (.cls "NoDoor")) dNil))) (dCall1 (dIsE a d c ["BadBound"] (isTabX c [] ["BadBound"] "OtherSchema")) (dCons (dV 5) (dCons (dC (.cls "OtherSchema")) dNil))))))
  (dRet (dTup (dCons (dC (.str ("bound" : Str))) (dCons (dC (.str ("" : Str))) (dCons (dAndV (dCall1 (dIsE a d c ["BadBound"] (isTabX c ["BadBound"] [] "BookError")) (dCons (dV 5) (dCons (dC (.cls "BookError")) dNil))) (dCall1 (dIsE a d c ["BadBound"] (isTabX c ["BadBound"] [] "LooksError")) (dCons (dV 5) (dCons (dC (.cls "LooksError")) dNil)))) (dCons (dV 6) dNil))))))⟩])
  (dRet (dTup (dCons (dC (.str ("made" : Str))) (dCons (dTup (dCons (dFld "Bound" 2 (dV 4)) (dCons (dFld "Bound" 0 (dV 4)) (dCons (dFld "Bound" 1 (dV 4)) dNil)))) (dCons (dProp "Bound" sp_Bound_door (dV 4)) (dCons (dC (.bl false)) dNil))))))
theorem ok__law_outcome {P : Program} {w : World} {K : PySem.W.Frag} {mg : Str → Option Value} {base : Heap} {fd : FuncData} (Y : Say P K mg) (F : FunD K "_law_outcome" "_law_outcome" (defArgs s__law_outcome) (defBody s__law_outcome) (defScope s__law_outcome) [] [] (DH.atA K (.glo "_law_outcome")) fd) {sp_Bound_single : DSp} (C_Bound_single : FnD P w K mg base 5 (DH.atA K (.inn "Bound" "single" "classmethod")) sp_Bound_single) {sp_Bound__D_init_D_ : DSp} (C_Bound__D_init_D_ : FnD P w K mg base 3 (DH.atA K (.mth "Bound" "__init__")) sp_Bound__D_init_D_) {sp_Bound_door : DSp} (C_Bound_door : FnD P w K mg base 1 (DH.atA K (.inn "Bound" "door" "property")) sp_Bound_door) :
    FnOk P w K mg base (L2.CX P w) (5 + 1) (DH.atA K (.glo "_law_outcome")) fd P__law_outcome (liftD K (body 4 7 (rd__law_outcome sp_Bound_single sp_Bound__D_init_D_ sp_Bound_door))) :=
  fn_bodyO F sc__law_outcome bn__law_outcome fun cdv A outer s H E hr => ds_cons (by refine ds_try rfl rfl sc__law_outcome.nd takesD (fun W pn xe tk' hp' => ?_) (.cons rfl rfl rfl Y.g_BadName ⟨rfl, rfl⟩ ?_ (fun a oe c d pn hz hf => ?_) (.cons rfl rfl rfl Y.g_BadBound ⟨rfl, rfl⟩ ?_ (fun a oe c d pn hz hf => ?_) (.nil))); exact ds_one (ds_if (dt_val (de_v 3)) (ds_one (ds_set (i := 4) sc__law_outcome.nd rfl (by first | exact .inl rfl | exact .inr rfl) (de_cmeth (C_Bound_single.lift (by omega)) hr tk' Y.cm_Bound_single.1 Y.cm_Bound_single.2 (de_gc rfl Y.g_Bound) (da_cons (de_v 0) (da_cons (de_v 1) da_nil))))) (ds_one (ds_set (i := 4) sc__law_outcome.nd rfl (by first | exact .inl rfl | exact .inr rfl) (de_make Y.mk_Bound (C_Bound__D_init_D_.lift (by omega)) hr tk' rfl Y.g_Bound (da_cons (de_v 0) (da_cons (de_v 1) (da_cons (de_v 2) da_nil))))))); exact tabX_ok (fun c hc => by simp only [List.mem_cons, List.not_mem_nil, or_false] at hc; rcases hc with rfl <;> first | exact Y.e_BadName_BadName) (fun c hc => by simp only [List.mem_cons, List.not_mem_nil, or_false] at hc; rcases hc with rfl <;> first | exact Y.e_BadBound_BadName); (dsimp only; exact ds_one (ds_ret (de_tup (da_cons de_str (da_cons (de_xf (cs := ["BadName"]) (fun c hc => by simp only [List.mem_cons, List.not_mem_nil, or_false] at hc; rcases hc with rfl <;> first | exact Y.xf_BadName_name) hz hf (de_v 5)) (da_cons (by refine de_isE (cs := ["BadName"]) (tab := (isTabX c ["BadName"] [] "LooksError")) ?_ ?_ hz hf rfl Y.n_isinstance b_isinstance ?_; exact (fun c hc => by simp only [List.mem_cons, List.not_mem_nil, or_false] at hc; rcases hc with rfl <;> first | exact Y.xc_BadName); exact isTabX_ok (P := fun c C b => PySem.W.kitOne K (.ref (He.ga K c)) (.ref (He.ga K C)) = some b) (fun c hc => by simp only [List.mem_cons, List.not_mem_nil, or_false] at hc; rcases hc with rfl <;> first | exact Y.t_BadName_LooksError) (fun c hc => nomatch hc); exact da_cons (de_v 5) (da_cons (de_gc rfl Y.g_LooksError) da_nil)) (da_cons (de_or (by refine de_isE (cs := ["BadName"]) (tab := (isTabX c [] ["BadName"] "DoubleName")) ?_ ?_ hz hf rfl Y.n_isinstance b_isinstance ?_; exact (fun c hc => by simp only [List.mem_cons, List.not_mem_nil, or_false] at hc; rcases hc with rfl <;> first | exact Y.xc_BadName); exact isTabX_ok (P := fun c C b => PySem.W.kitOne K (.ref (He.ga K c)) (.ref (He.ga K C)) = some b) (fun c hc => nomatch hc) (fun c hc => by simp only [List.mem_cons, List.not_mem_nil, or_false] at hc; rcases hc with rfl <;> first | exact Y.t_BadName_DoubleName); exact da_cons (de_v 5) (da_cons (de_gc rfl Y.g_DoubleName) da_nil)) (de_one (by refine de_isE (cs := ["BadName"]) (tab := (isTabX c [] ["BadName"] "BookError")) ?_ ?_ hz hf rfl Y.n_isinstance b_isinstance ?_; exact (fun c hc => by simp only [List.mem_cons, List.not_mem_nil, or_false] at hc; rcases hc with rfl <;> first | exact Y.xc_BadName); exact isTabX_ok (P := fun c C b => PySem.W.kitOne K (.ref (He.ga K c)) (.ref (He.ga K C)) = some b) (fun c hc => nomatch hc) (fun c hc => by simp only [List.mem_cons, List.not_mem_nil, or_false] at hc; rcases hc with rfl <;> first | exact Y.t_BadName_BookError); exact da_cons (de_v 5) (da_cons (de_gc rfl Y.g_BookError) da_nil)))) da_nil))))))); exact tabX_ok (fun c hc => by simp only [List.mem_cons, List.not_mem_nil, or_false] at hc; rcases hc with rfl <;> first | exact Y.e_BadBound_BadBound) (fun c hc => by simp only [List.mem_cons, List.not_mem_nil, or_false] at hc; rcases hc with rfl <;> first | exact Y.e_BadName_BadBound); (dsimp only; exact (by refine ds_cons ?_ ?_; exact ds_set (i := 6) sc__law_outcome.nd rfl (by first | exact .inl rfl | exact .inr rfl) (de_or (by refine de_isE (cs := ["BadBound"]) (tab := (isTabX c [] ["BadBound"] "NestedBound")) ?_ ?_ hz hf rfl Y.n_isinstance b_isinstance ?_; exact (fun c hc => by simp only [List.mem_cons, List.not_mem_nil, or_false] at hc; rcases hc with rfl <;> first | exact Y.xc_BadBound); exact isTabX_ok (P := fun c C b => PySem.W.kitOne K (.ref (He.ga K c)) (.ref (He.ga K C)) = some b) (fun c hc => nomatch hc) (fun c hc => by simp only [List.mem_cons, List.not_mem_nil, or_false] at hc; rcases hc with rfl <;> first | exact Y.t_BadBound_NestedBound); exact da_cons (de_v 5) (da_cons (de_gc rfl Y.g_NestedBound) da_nil)) (de_or (by refine de_isE (cs := ["BadBound"]) (tab := (isTabX c [] ["BadBound"] "NoDoor")) ?_ ?_ hz hf rfl Y.n_isinstance b_isinstance ?_; exact (fun c hc => by simp only [List.mem_cons, List.not_mem_nil, or_false] at hc; rcases hc with rfl <;> first | exact Y.xc_BadBound); exact isTabX_ok (P := fun c C b => PySem.W.kitOne K (.ref (He.ga K c)) (.ref (He.ga K C)) = some b) (fun c hc => nomatch hc) (fun c hc => by simp only [List.mem_cons, List.not_mem_nil, or_false] at hc; rcases hc with rfl <;> first | exact Y.t_BadBound_NoDoor); exact da_cons (de_v 5) (da_cons (de_gc rfl Y.g_NoDoor) da_nil)) (de_one (by refine de_isE (cs := ["BadBound"]) (tab := (isTabX c [] ["BadBound"] "OtherSchema")) ?_ ?_ hz hf rfl Y.n_isinstance b_isinstance ?_; exact (fun c hc => by simp only [List.mem_cons, List.not_mem_nil, or_false] at hc; rcases hc with rfl <;> first | exact Y.xc_BadBound); exact isTabX_ok (P := fun c C b => PySem.W.kitOne K (.ref (He.ga K c)) (.ref (He.ga K C)) = some b) (fun c hc => nomatch hc) (fun c hc => by simp only [List.mem_cons, List.not_mem_nil, or_false] at hc; rcases hc with rfl <;> first | exact Y.t_BadBound_OtherSchema); exact da_cons (de_v 5) (da_cons (de_gc rfl Y.g_OtherSchema) da_nil))))); exact ds_one (ds_ret (de_tup (da_cons de_str (da_cons de_str (da_cons (de_and (by refine de_isE (cs := ["BadBound"]) (tab := (isTabX c ["BadBound"] [] "BookError")) ?_ ?_ hz hf rfl Y.n_isinstance b_isinstance ?_; exact (fun c hc => by simp only [List.mem_cons, List.not_mem_nil, or_false] at hc; rcases hc with rfl <;> first | exact Y.xc_BadBound); exact isTabX_ok (P := fun c C b => PySem.W.kitOne K (.ref (He.ga K c)) (.ref (He.ga K C)) = some b) (fun c hc => by simp only [List.mem_cons, List.not_mem_nil, or_false] at hc; rcases hc with rfl <;> first | exact Y.t_BadBound_BookError) (fun c hc => nomatch hc); exact da_cons (de_v 5) (da_cons (de_gc rfl Y.g_BookError) da_nil)) (de_one (by refine de_isE (cs := ["BadBound"]) (tab := (isTabX c ["BadBound"] [] "LooksError")) ?_ ?_ hz hf rfl Y.n_isinstance b_isinstance ?_; exact (fun c hc => by simp only [List.mem_cons, List.not_mem_nil, or_false] at hc; rcases hc with rfl <;> first | exact Y.xc_BadBound); exact isTabX_ok (P := fun c C b => PySem.W.kitOne K (.ref (He.ga K c)) (.ref (He.ga K C)) = some b) (fun c hc => by simp only [List.mem_cons, List.not_mem_nil, or_false] at hc; rcases hc with rfl <;> first | exact Y.t_BadBound_LooksError) (fun c hc => nomatch hc); exact da_cons (de_v 5) (da_cons (de_gc rfl Y.g_LooksError) da_nil)))) (da_cons (de_v 6) da_nil))))))))) (ds_one (ds_ret (de_tup (da_cons de_str (da_cons (de_tup (da_cons (de_fld Y.sc_Bound Y.sl_Bound_table (de_v 4)) (da_cons (de_fld Y.sc_Bound Y.sl_Bound_given (de_v 4)) (da_cons (de_fld Y.sc_Bound Y.sl_Bound_limit (de_v 4)) da_nil)))) (da_cons (de_prop Y.sc_Bound Y.pr_Bound_door.1 Y.pr_Bound_door.2.1 Y.pr_Bound_door.2.2.1 Y.pr_Bound_door.2.2.2 (C_Bound_door.lift (by omega)) hr (de_v 4)) (da_cons de_bl da_nil)))))))
abbrev s_law : Stmt := top 43
abbrev N_law : List Str := ["script", "draws", "far", "raw", "good", "other", "name", "bad", "first", "table", "given", "limit"]
abbrev P_law : List Str := ["script"]
theorem sc_law : FnScope N_law P_law (defScope s_law) := ⟨rfl, rfl, rfl, by decide +kernel, rfl, by decide +kernel, by decide +kernel⟩
theorem bn_law (kV doc pm : Value) (an : Option Addr) (cdv ct : Value) (us : List Value) (hl : us.length = P_law.length) : bindArgs (PySem.W.fnOf "law" "law" (defArgs s_law) (defBody s_law) (defScope s_law) .none kV doc pm an cdv ct) ⟨us, []⟩ = pure (P_law.zip us) :=
  match us, hl with | [_], _ => rfl
def rd_law (sp__law_draws : DSp) (sp__law_raw : DSp) (sp__law_cut : DSp) (sp__law_given : DSp) (sp__law_draw : DSp) (sp__law_columns : DSp) (sp__law_name : DSp) (sp__law_spoilt : DSp) (sp_Bound__D_init_D_ : DSp) (sp__law_same : DSp) (sp__law_due : DSp) (sp__law_outcome : DSp) (sp_Bound_door : DSp) : TSD :=
  dSeq (dSet 1 (dCall sp__law_draws (dCons (dV 0) dNil)))
  (dSeq (dSet 2 (dCall sp__law_raw (dCons (dV 0) (dCons (dC (.int 0)) dNil))))
  (dSeq (dSet 3 (dCall sp__law_cut (dCons (dV 2) dNil)))
  (dSeq (dSet 4 (dCall sp__law_given (dCons (dCall sp__law_draw (dCons (dV 1) (dCons (dC (.int 16)) dNil))) (dCons (dC (.int 4)) dNil))))
  (dSeq (dSet 5 (dCall sp__law_columns (dCons (dV 1) (dCons (dV 4) dNil))))
  (dSeq (dSet 6 (dCall sp__law_name (dCons (dV 1) (dCons (dLst false dNil) dNil))))
  (dSeq (dSet 7 (dCall sp__law_spoilt (dCons (dV 1) (dCons (dV 6) dNil))))
  (dSeq (dSet 8 (dMake "Bound" sp_Bound__D_init_D_ (dCons (dV 6) (dCons (dV 4) (dCons (dOp dAdd (dC (.int 1)) (dCall1 dAbs (dCons (dV 2) dNil))) dNil)))))
  (dSeq (dFor (dI (dLst false (dCons (dV 6) (dCons (dV 7) dNil)))) (gdName 9) (dFor (dI (dLst false (dCons (dV 4) (dCons (dV 5) dNil)))) (gdName 10) (dSeq (dFor (dI (dLst false (dCons (dV 3) (dCons (dOp dAdd (dC (.int 1)) (dCall1 dAbs (dCons (dV 3) dNil))) (dCons (dOp dSub (dC (.int 0)) (dCall1 dAbs (dCons (dV 3) dNil))) (dCons (dC (.int 1)) (dCons (dC (.int 0)) dNil))))))) (gdName 11) (dIf (dNot (dTest (dCall sp__law_same (dCons (dCall sp__law_outcome (dCons (dV 9) (dCons (dV 10) (dCons (dV 11) (dCons (dC (.bl false)) dNil))))) (dCons (dCall sp__law_due (dCons (dV 9) (dCons (dV 10) (dCons (dV 11) dNil)))) dNil))))) (dRet (dC (.bl false))) dNext))
  (dIf (dNot (dTest (dCall sp__law_same (dCons (dCall sp__law_outcome (dCons (dV 9) (dCons (dV 10) (dCons (dC (.int 1)) (dCons (dC (.bl true)) dNil))))) (dCons (dCall sp__law_due (dCons (dV 9) (dCons (dV 10) (dCons (dC (.int 1)) dNil)))) dNil))))) (dRet (dC (.bl false))) dNext))))
  (dRet (dCall sp__law_same (dCons (dTup (dCons (dFld "Bound" 2 (dV 8)) (dCons (dFld "Bound" 0 (dV 8)) (dCons (dFld "Bound" 1 (dV 8)) (dCons (dProp "Bound" sp_Bound_door (dV 8)) dNil))))) (dCons (dTup (dCons (dV 6) (dCons (dV 4) (dCons (dOp dAdd (dC (.int 1)) (dCall1 dAbs (dCons (dV 2) dNil))) (dCons (dTup (dCons (dV 6) (dCons (dV 4) dNil))) dNil))))) dNil))))))))))))
theorem ok_law {P : Program} {w : World} {K : PySem.W.Frag} {mg : Str → Option Value} {base : Heap} {fd : FuncData} (Y : Say P K mg) (F : FunD K "law" "law" (defArgs s_law) (defBody s_law) (defScope s_law) [] [] (DH.atA K (.glo "law")) fd) {sp__law_draws : DSp} (C__law_draws : FnD P w K mg base 1 (DH.atA K (.glo "_law_draws")) sp__law_draws) {sp__law_raw : DSp} (C__law_raw : FnD P w K mg base 1 (DH.atA K (.glo "_law_raw")) sp__law_raw) {sp__law_cut : DSp} (C__law_cut : FnD P w K mg base 1 (DH.atA K (.glo "_law_cut")) sp__law_cut) {sp__law_given : DSp} (C__law_given : FnD P w K mg base 1 (DH.atA K (.glo "_law_given")) sp__law_given) {sp__law_draw : DSp} (C__law_draw : FnD P w K mg base 2 (DH.atA K (.glo "_law_draw")) sp__law_draw) {sp__law_columns : DSp} (C__law_columns : FnD P w K mg base 3 (DH.atA K (.glo "_law_columns")) sp__law_columns) {sp__law_name : DSp} (C__law_name : FnD P w K mg base 3 (DH.atA K (.glo "_law_name")) sp__law_name) {sp__law_spoilt : DSp} (C__law_spoilt : FnD P w K mg base 3 (DH.atA K (.glo "_law_spoilt")) sp__law_spoilt) {sp_Bound__D_init_D_ : DSp} (C_Bound__D_init_D_ : FnD P w K mg base 3 (DH.atA K (.mth "Bound" "__init__")) sp_Bound__D_init_D_) {sp__law_same : DSp} (C__law_same : FnD P w K mg base 4 (DH.atA K (.glo "_law_same")) sp__law_same) {sp__law_due : DSp} (C__law_due : FnD P w K mg base 2 (DH.atA K (.glo "_law_due")) sp__law_due) {sp__law_outcome : DSp} (C__law_outcome : FnD P w K mg base 6 (DH.atA K (.glo "_law_outcome")) sp__law_outcome) {sp_Bound_door : DSp} (C_Bound_door : FnD P w K mg base 1 (DH.atA K (.inn "Bound" "door" "property")) sp_Bound_door) :
    FnOk P w K mg base (L2.CX P w) (6 + 1) (DH.atA K (.glo "law")) fd P_law (liftD K (body 1 12 (rd_law sp__law_draws sp__law_raw sp__law_cut sp__law_given sp__law_draw sp__law_columns sp__law_name sp__law_spoilt sp_Bound__D_init_D_ sp__law_same sp__law_due sp__law_outcome sp_Bound_door))) :=
  fn_bodyO F sc_law bn_law fun cdv A outer s H E hr => ds_cons (ds_set (i := 1) sc_law.nd rfl (by first | exact .inl rfl | exact .inr rfl) (de_call (C__law_draws.lift (by omega)) hr takesD Y.k__law_draws rfl Y.g__law_draws (da_cons (de_v 0) da_nil))) (ds_cons (ds_set (i := 2) sc_law.nd rfl (by first | exact .inl rfl | exact .inr rfl) (de_call (C__law_raw.lift (by omega)) hr takesD Y.k__law_raw rfl Y.g__law_raw (da_cons (de_v 0) (da_cons de_int da_nil)))) (ds_cons (ds_set (i := 3) sc_law.nd rfl (by first | exact .inl rfl | exact .inr rfl) (de_call (C__law_cut.lift (by omega)) hr takesD Y.k__law_cut rfl Y.g__law_cut (da_cons (de_v 2) da_nil))) (ds_cons (ds_set (i := 4) sc_law.nd rfl (by first | exact .inl rfl | exact .inr rfl) (de_call (C__law_given.lift (by omega)) hr takesD Y.k__law_given rfl Y.g__law_given (da_cons (de_call (C__law_draw.lift (by omega)) hr takesD Y.k__law_draw rfl Y.g__law_draw (da_cons (de_v 1) (da_cons de_int da_nil))) (da_cons de_int da_nil)))) (ds_cons (ds_set (i := 5) sc_law.nd rfl (by first | exact .inl rfl | exact .inr rfl) (de_call (C__law_columns.lift (by omega)) hr takesD Y.k__law_columns rfl Y.g__law_columns (da_cons (de_v 1) (da_cons (de_v 4) da_nil)))) (ds_cons (ds_set (i := 6) sc_law.nd rfl (by first | exact .inl rfl | exact .inr rfl) (de_call (C__law_name.lift (by omega)) hr takesD Y.k__law_name rfl Y.g__law_name (da_cons (de_v 1) (da_cons (de_lst false da_nil) da_nil)))) (ds_cons (ds_set (i := 7) sc_law.nd rfl (by first | exact .inl rfl | exact .inr rfl) (de_call (C__law_spoilt.lift (by omega)) hr takesD Y.k__law_spoilt rfl Y.g__law_spoilt (da_cons (de_v 1) (da_cons (de_v 6) da_nil)))) (ds_cons (ds_set (i := 8) sc_law.nd rfl (by first | exact .inl rfl | exact .inr rfl) (de_make Y.mk_Bound (C_Bound__D_init_D_.lift (by omega)) hr takesD rfl Y.g_Bound (da_cons (de_v 6) (da_cons (de_v 4) (da_cons (de_op o_add c_add de_int (de_cb call_abs c_abs rfl Y.n_abs b_abs (da_cons (de_v 2) da_nil))) da_nil))))) (ds_cons (ds_for (passD (W := W0) rfl) rfl (di (de_lst false (da_cons (de_v 6) (da_cons (de_v 7) da_nil)))) (dg_name sc_law.nd (i := 9) rfl (by first | exact .inl rfl | exact .inr rfl)) (ds_one (ds_for (passD (W := W0) rfl) rfl (di (de_lst false (da_cons (de_v 4) (da_cons (de_v 5) da_nil)))) (dg_name sc_law.nd (i := 10) rfl (by first | exact .inl rfl | exact .inr rfl)) (ds_cons (ds_for (passD (W := W0) rfl) rfl (di (de_lst false (da_cons (de_v 3) (da_cons (de_op o_add c_add de_int (de_cb call_abs c_abs rfl Y.n_abs b_abs (da_cons (de_v 3) da_nil))) (da_cons (de_op op_sub c_sub de_int (de_cb call_abs c_abs rfl Y.n_abs b_abs (da_cons (de_v 3) da_nil))) (da_cons de_int (da_cons de_int da_nil))))))) (dg_name sc_law.nd (i := 11) rfl (by first | exact .inl rfl | exact .inr rfl)) (ds_one (ds_if (dt_not (dt_val (de_call (C__law_same.lift (by omega)) hr takesD Y.k__law_same rfl Y.g__law_same (da_cons (de_call (C__law_outcome.lift (by omega)) hr takesD Y.k__law_outcome rfl Y.g__law_outcome (da_cons (de_v 9) (da_cons (de_v 10) (da_cons (de_v 11) (da_cons de_bl da_nil))))) (da_cons (de_call (C__law_due.lift (by omega)) hr takesD Y.k__law_due rfl Y.g__law_due (da_cons (de_v 9) (da_cons (de_v 10) (da_cons (de_v 11) da_nil)))) da_nil))))) (ds_one (ds_ret de_bl)) ds_nil))) (ds_one (ds_if (dt_not (dt_val (de_call (C__law_same.lift (by omega)) hr takesD Y.k__law_same rfl Y.g__law_same (da_cons (de_call (C__law_outcome.lift (by omega)) hr takesD Y.k__law_outcome rfl Y.g__law_outcome (da_cons (de_v 9) (da_cons (de_v 10) (da_cons de_int (da_cons de_bl da_nil))))) (da_cons (de_call (C__law_due.lift (by omega)) hr takesD Y.k__law_due rfl Y.g__law_due (da_cons (de_v 9) (da_cons (de_v 10) (da_cons de_int da_nil)))) da_nil))))) (ds_one (ds_ret de_bl)) ds_nil)))))) (ds_one (ds_ret (de_call (C__law_same.lift (by omega)) hr takesD Y.k__law_same rfl Y.g__law_same (da_cons (de_tup (da_cons (de_fld Y.sc_Bound Y.sl_Bound_table (de_v 8)) (da_cons (de_fld Y.sc_Bound Y.sl_Bound_given (de_v 8)) (da_cons (de_fld Y.sc_Bound Y.sl_Bound_limit (de_v 8)) (da_cons (de_prop Y.sc_Bound Y.pr_Bound_door.1 Y.pr_Bound_door.2.1 Y.pr_Bound_door.2.2.1 Y.pr_Bound_door.2.2.2 (C_Bound_door.lift (by omega)) hr (de_v 8)) da_nil))))) (da_cons (de_tup (da_cons (de_v 6) (da_cons (de_v 4) (da_cons (de_op o_add c_add de_int (de_cb call_abs c_abs rfl Y.n_abs b_abs (da_cons (de_v 2) da_nil))) (da_cons (de_tup (da_cons (de_v 6) (da_cons (de_v 4) da_nil))) da_nil))))) da_nil)))))))))))))
end K07

set_option Elab.async false
set_option linter.all false
set_option maxRecDepth 100000
set_option maxHeartbeats 4000000
namespace K07
open PySem PySem.Spec PyProof.Rows L2 DL
/-! ### draws -/
def drC (cs : List Int) (i j k : Int) : Cell := .lst [.lst (cs.map .int), .int i, .int j, .int k]
def sp__law_draws : DSp := fun ds μ Q _ => ∃ xs : List Int, ds = [.rol (xs.map .int)] ∧ ∀ p, μ p = none → Q (.ref p) (mset μ p (drC xs 0 0 0))
theorem wk__law_draws (ds : List D) (μ : Mu) (Q : QD) (R : Str → List (Str × D) → Mu → Prop) (h : sp__law_draws ds μ Q R) : body 1 1 rd__law_draws ds μ Q R := by
  obtain ⟨xs, rfl, q⟩ := h
  refine ⟨rfl, ?_⟩
  simp only [rd__law_draws, startD, List.map_cons, List.map_nil, List.length_cons, List.length_nil, List.cons_append, List.nil_append, Nat.reduceAdd, Nat.reduceSub, List.replicate_zero, List.replicate_succ, dSeq, dIf, dTest, dOp, dUn, dV, dC, dRet, dRetN, dNext, dSet, dDrop, dAnd, dOr, dNot, dAndV, dOrV, dNotV, dIfE, dYes, dCall1, dCons, dNil, dTup, dLst, dCall, dFor, dI, dRng1, dRng2, gdName, dSetIx, dMeth, dSlice, dPart, dNoPart, dRaise, dX0, dX1, dFld, dProp, dCMeth, dSetFld, dMake, fld_e, add_i, add_s, sub_i, mul_i, fdiv_i, mod_i, pow_i, neg_i, lt_i, le_i, gt_i, ge_i, eq_i, eq_s, eq_b, ne_i, ix_s, ix_l, ix_o, ix_t, ix_r, is_n, is_bb, is_ib, is_sb, is_tb, in_t, in_f, len_s, len_l, len_o, len_t, len_r, int1_i, abs_i, str1_i, list1_t, list1_l, list1_o, tup1_t, tup1_l, tup1_r, mk_f, mk_t, sl_s, iter_s, iter_l, iter_o, iter_t, ins_r, app_r, isi_i, isi_s, isi_t, isi_b, D.isNon, List.getElem?_cons_zero, List.getElem?_cons_succ, List.set_cons_zero, List.set_cons_succ, Option.some.injEq, exists_eq_left', exists_eq_left, D.int.injEq, D.bl.injEq, D.str.injEq, D.tup.injEq, D.lst.injEq, D.ref.injEq, D.cls.injEq, Cell.lst.injEq, List.cons.injEq, decide_eq_true_eq, true_and, and_true, mset_same, mset_mset, Bool.not_eq_true', decide_eq_false_iff_not, Bool.false_eq_true, if_false, if_true, tb_int_int, tb_int_bool, tb_int_str, tb_int_tuple, tb_int_list, tb_str_int, tb_str_bool, tb_str_str, tb_str_tuple, tb_str_list, tb_tuple_int, tb_tuple_bool, tb_tuple_str, tb_tuple_tuple, tb_tuple_list, tb_bool_int, tb_bool_bool, tb_bool_str, tb_bool_tuple, tb_bool_list, tb_NoneType_int, tb_NoneType_bool, tb_NoneType_str, tb_NoneType_tuple, tb_NoneType_list, tb_list_int, tb_list_bool, tb_list_str, tb_list_tuple, tb_list_list, decide_true, decide_false, Bool.true_eq_false]
  exact ⟨sizeL (by decide), q⟩
def sp__law_raw : DSp := fun ds μ Q _ => ∃ xs : List Int, ds = [.rol (xs.map .int), .int 0] ∧ ∀ n : Int, Q (.int n) μ
theorem wk__law_raw (ds : List D) (μ : Mu) (Q : QD) (R : Str → List (Str × D) → Mu → Prop) (h : sp__law_raw ds μ Q R) : body 2 2 rd__law_raw ds μ Q R := by
  obtain ⟨xs, rfl, q⟩ := h
  refine ⟨rfl, ?_⟩
  simp only [rd__law_raw, startD, List.map_cons, List.map_nil, List.length_cons, List.length_nil, List.cons_append, List.nil_append, Nat.reduceAdd, Nat.reduceSub, List.replicate_zero, List.replicate_succ, dSeq, dIf, dTest, dOp, dUn, dV, dC, dRet, dRetN, dNext, dSet, dDrop, dAnd, dOr, dNot, dAndV, dOrV, dNotV, dIfE, dYes, dCall1, dCons, dNil, dTup, dLst, dCall, dFor, dI, dRng1, dRng2, gdName, dSetIx, dMeth, dSlice, dPart, dNoPart, dRaise, dX0, dX1, dFld, dProp, dCMeth, dSetFld, dMake, fld_e, add_i, add_s, sub_i, mul_i, fdiv_i, mod_i, pow_i, neg_i, lt_i, le_i, gt_i, ge_i, eq_i, eq_s, eq_b, ne_i, ix_s, ix_l, ix_o, ix_t, ix_r, is_n, is_bb, is_ib, is_sb, is_tb, in_t, in_f, len_s, len_l, len_o, len_t, len_r, int1_i, abs_i, str1_i, list1_t, list1_l, list1_o, tup1_t, tup1_l, tup1_r, mk_f, mk_t, sl_s, iter_s, iter_l, iter_o, iter_t, ins_r, app_r, isi_i, isi_s, isi_t, isi_b, D.isNon, List.getElem?_cons_zero, List.getElem?_cons_succ, List.set_cons_zero, List.set_cons_succ, Option.some.injEq, exists_eq_left', exists_eq_left, D.int.injEq, D.bl.injEq, D.str.injEq, D.tup.injEq, D.lst.injEq, D.ref.injEq, D.cls.injEq, Cell.lst.injEq, List.cons.injEq, decide_eq_true_eq, true_and, and_true, mset_same, mset_mset, Bool.not_eq_true', decide_eq_false_iff_not, Bool.false_eq_true, if_false, if_true, tb_int_int, tb_int_bool, tb_int_str, tb_int_tuple, tb_int_list, tb_str_int, tb_str_bool, tb_str_str, tb_str_tuple, tb_str_list, tb_tuple_int, tb_tuple_bool, tb_tuple_str, tb_tuple_tuple, tb_tuple_list, tb_bool_int, tb_bool_bool, tb_bool_str, tb_bool_tuple, tb_bool_list, tb_NoneType_int, tb_NoneType_bool, tb_NoneType_str, tb_NoneType_tuple, tb_NoneType_list, tb_list_int, tb_list_bool, tb_list_str, tb_list_tuple, tb_list_list, decide_true, decide_false, Bool.true_eq_false]
  split
  · rename_i h
    obtain ⟨x, hx, hm, _⟩ := atI_int (xs := xs.map D.int) (i := (((xs.map D.int).length : Nat) : Int) - 1 - 0) (by omega) (by omega)
    obtain ⟨n, _, rfl⟩ := List.mem_map.mp hm
    exact ⟨_, hx, q n⟩
  · exact q 0
def sp__law_cut : DSp := fun ds μ Q _ => ∃ n : Int, ds = [.int n] ∧ ∀ m : Int, Q (.int m) μ
theorem wk__law_cut (ds : List D) (μ : Mu) (Q : QD) (R : Str → List (Str × D) → Mu → Prop) (h : sp__law_cut ds μ Q R) : body 1 1 rd__law_cut ds μ Q R := by
  obtain ⟨n, rfl, q⟩ := h
  refine ⟨rfl, ?_⟩
  simp only [rd__law_cut, startD, List.map_cons, List.map_nil, List.length_cons, List.length_nil, List.cons_append, List.nil_append, Nat.reduceAdd, Nat.reduceSub, List.replicate_zero, List.replicate_succ, dSeq, dIf, dTest, dOp, dUn, dV, dC, dRet, dRetN, dNext, dSet, dDrop, dAnd, dOr, dNot, dAndV, dOrV, dNotV, dIfE, dYes, dCall1, dCons, dNil, dTup, dLst, dCall, dFor, dI, dRng1, dRng2, gdName, dSetIx, dMeth, dSlice, dPart, dNoPart, dRaise, dX0, dX1, dFld, dProp, dCMeth, dSetFld, dMake, fld_e, add_i, add_s, sub_i, mul_i, fdiv_i, mod_i, pow_i, neg_i, lt_i, le_i, gt_i, ge_i, eq_i, eq_s, eq_b, ne_i, ix_s, ix_l, ix_o, ix_t, ix_r, is_n, is_bb, is_ib, is_sb, is_tb, in_t, in_f, len_s, len_l, len_o, len_t, len_r, int1_i, abs_i, str1_i, list1_t, list1_l, list1_o, tup1_t, tup1_l, tup1_r, mk_f, mk_t, sl_s, iter_s, iter_l, iter_o, iter_t, ins_r, app_r, isi_i, isi_s, isi_t, isi_b, D.isNon, List.getElem?_cons_zero, List.getElem?_cons_succ, List.set_cons_zero, List.set_cons_succ, Option.some.injEq, exists_eq_left', exists_eq_left, D.int.injEq, D.bl.injEq, D.str.injEq, D.tup.injEq, D.lst.injEq, D.ref.injEq, D.cls.injEq, Cell.lst.injEq, List.cons.injEq, decide_eq_true_eq, true_and, and_true, mset_same, mset_mset, Bool.not_eq_true', decide_eq_false_iff_not, Bool.false_eq_true, if_false, if_true, tb_int_int, tb_int_bool, tb_int_str, tb_int_tuple, tb_int_list, tb_str_int, tb_str_bool, tb_str_str, tb_str_tuple, tb_str_list, tb_tuple_int, tb_tuple_bool, tb_tuple_str, tb_tuple_tuple, tb_tuple_list, tb_bool_int, tb_bool_bool, tb_bool_str, tb_bool_tuple, tb_bool_list, tb_NoneType_int, tb_NoneType_bool, tb_NoneType_str, tb_NoneType_tuple, tb_NoneType_list, tb_list_int, tb_list_bool, tb_list_str, tb_list_tuple, tb_list_list, decide_true, decide_false, Bool.true_eq_false]
  split
  · exact ⟨⟨by decide, by decide, by decide⟩, by decide, q _⟩
  · exact ⟨⟨by decide, by decide, by decide⟩, by decide, q _⟩
def sp__law_mixed : DSp := fun ds μ Q _ => ∃ c t : Int, ds = [.int c, .int t] ∧ ∀ m : Int, Q (.int m) μ
theorem wk__law_mixed (ds : List D) (μ : Mu) (Q : QD) (R : Str → List (Str × D) → Mu → Prop) (h : sp__law_mixed ds μ Q R) : body 2 3 rd__law_mixed ds μ Q R := by
  obtain ⟨c, t, rfl, q⟩ := h
  refine ⟨rfl, ?_⟩
  simp only [rd__law_mixed, startD, List.map_cons, List.map_nil, List.length_cons, List.length_nil, List.cons_append, List.nil_append, Nat.reduceAdd, Nat.reduceSub, List.replicate_zero, List.replicate_succ, dSeq, dIf, dTest, dOp, dUn, dV, dC, dRet, dRetN, dNext, dSet, dDrop, dAnd, dOr, dNot, dAndV, dOrV, dNotV, dIfE, dYes, dCall1, dCons, dNil, dTup, dLst, dCall, dFor, dI, dRng1, dRng2, gdName, dSetIx, dMeth, dSlice, dPart, dNoPart, dRaise, dX0, dX1, dFld, dProp, dCMeth, dSetFld, dMake, fld_e, add_i, add_s, sub_i, mul_i, fdiv_i, mod_i, pow_i, neg_i, lt_i, le_i, gt_i, ge_i, eq_i, eq_s, eq_b, ne_i, ix_s, ix_l, ix_o, ix_t, ix_r, is_n, is_bb, is_ib, is_sb, is_tb, in_t, in_f, len_s, len_l, len_o, len_t, len_r, int1_i, abs_i, str1_i, list1_t, list1_l, list1_o, tup1_t, tup1_l, tup1_r, mk_f, mk_t, sl_s, iter_s, iter_l, iter_o, iter_t, ins_r, app_r, isi_i, isi_s, isi_t, isi_b, D.isNon, List.getElem?_cons_zero, List.getElem?_cons_succ, List.set_cons_zero, List.set_cons_succ, Option.some.injEq, exists_eq_left', exists_eq_left, D.int.injEq, D.bl.injEq, D.str.injEq, D.tup.injEq, D.lst.injEq, D.ref.injEq, D.cls.injEq, Cell.lst.injEq, List.cons.injEq, decide_eq_true_eq, true_and, and_true, mset_same, mset_mset, Bool.not_eq_true', decide_eq_false_iff_not, Bool.false_eq_true, if_false, if_true, tb_int_int, tb_int_bool, tb_int_str, tb_int_tuple, tb_int_list, tb_str_int, tb_str_bool, tb_str_str, tb_str_tuple, tb_str_list, tb_tuple_int, tb_tuple_bool, tb_tuple_str, tb_tuple_tuple, tb_tuple_list, tb_bool_int, tb_bool_bool, tb_bool_str, tb_bool_tuple, tb_bool_list, tb_NoneType_int, tb_NoneType_bool, tb_NoneType_str, tb_NoneType_tuple, tb_NoneType_list, tb_list_int, tb_list_bool, tb_list_str, tb_list_tuple, tb_list_list, decide_true, decide_false, Bool.true_eq_false]
  exact ⟨.inr (by decide), .inr (by decide), by decide, .inr (by decide), .inr (by decide), by decide, q _⟩
def sp__law_draw : DSp := fun ds μ Q _ => ∃ (a : Addr) (m : Int) (cs : List Int) (i j k : Int), ds = [.ref a, .int m] ∧ μ a = some (drC cs i j k) ∧ 0 ≤ i ∧ m < 1073741824 ∧
  ∀ i' j' k' r : Int, 0 ≤ i' → 0 ≤ r → (r < m ∨ r = 0) → Q (.int r) (mset μ a (drC cs i' j' k'))
theorem ix4 {x : List D} (a b c d : D) : atI [a, b, c, d] 0 = some a ∧ atI [a, b, c, d] 1 = some b ∧ atI [a, b, c, d] 2 = some c ∧ atI [a, b, c, d] 3 = some d := ⟨rfl, rfl, rfl, rfl⟩
theorem ixN4 : ixN 4 0 = some 0 ∧ ixN 4 1 = some 1 ∧ ixN 4 2 = some 2 ∧ ixN 4 3 = some 3 := ⟨rfl, rfl, rfl, rfl⟩
theorem wk__law_draw (ds : List D) (μ : Mu) (Q : QD) (R : Str → List (Str × D) → Mu → Prop) (h : sp__law_draw ds μ Q R) : body 2 6 (rd__law_draw sp__law_mixed) ds μ Q R := by
  obtain ⟨a, m, cs, i, j, k, rfl, ha, hi, hm, q⟩ := h
  refine ⟨rfl, ?_⟩
  have a0 : atI [D.lst (cs.map .int), .int i, .int j, .int k] 0 = some (D.lst (cs.map .int)) := rfl
  have a1 : atI [D.lst (cs.map .int), .int i, .int j, .int k] 1 = some (D.int i) := rfl
  have a2 : atI [D.lst (cs.map .int), .int i, .int j, .int k] 2 = some (D.int j) := rfl
  have a3 : ∀ x : D, atI [D.lst (cs.map .int), x, .int j, .int k] 3 = some (D.int k) := fun _ => rfl
  have ha' : μ a = some (.lst [D.lst (cs.map .int), .int i, .int j, .int k]) := ha
  have p0 : (0 : Int) ≤ 18 ∧ (18 : Int) ≤ 1000000 ∧ (10 : Int).natAbs < 2 ^ 64 := ⟨by decide, by decide, by decide⟩
  have x0 : ixN 4 0 = some 0 := rfl
  have x1 : ixN 4 1 = some 1 := rfl
  have x2 : ixN 4 2 = some 2 := rfl
  have x3 : ixN 4 3 = some 3 := rfl
  have b1 : ∀ x y z w : D, atI [x, y, z, w] 1 = some y := fun _ _ _ _ => rfl
  simp only [rd__law_draw, startD, List.map_cons, List.map_nil, List.length_cons, List.length_nil, List.cons_append, List.nil_append, Nat.reduceAdd, Nat.reduceSub, List.replicate_zero, List.replicate_succ, dSeq, dIf, dTest, dOp, dUn, dV, dC, dRet, dRetN, dNext, dSet, dDrop, dAnd, dOr, dNot, dAndV, dOrV, dNotV, dIfE, dYes, dCall1, dCons, dNil, dTup, dLst, dCall, dFor, dI, dRng1, dRng2, gdName, dSetIx, dMeth, dSlice, dPart, dNoPart, dRaise, dX0, dX1, dFld, dProp, dCMeth, dSetFld, dMake, fld_e, add_i, add_s, sub_i, mul_i, fdiv_i, mod_i, pow_i, neg_i, lt_i, le_i, gt_i, ge_i, eq_i, eq_s, eq_b, ne_i, ix_s, ix_l, ix_o, ix_t, ix_r, is_n, is_bb, is_ib, is_sb, is_tb, in_t, in_f, len_s, len_l, len_o, len_t, len_r, int1_i, abs_i, str1_i, list1_t, list1_l, list1_o, tup1_t, tup1_l, tup1_r, mk_f, mk_t, sl_s, iter_s, iter_l, iter_o, iter_t, ins_r, app_r, isi_i, isi_s, isi_t, isi_b, D.isNon, List.getElem?_cons_zero, List.getElem?_cons_succ, List.set_cons_zero, List.set_cons_succ, Option.some.injEq, exists_eq_left', exists_eq_left, D.int.injEq, D.bl.injEq, D.str.injEq, D.tup.injEq, D.lst.injEq, D.ref.injEq, D.cls.injEq, Cell.lst.injEq, List.cons.injEq, decide_eq_true_eq, true_and, and_true, mset_same, mset_mset, Bool.not_eq_true', decide_eq_false_iff_not, Bool.false_eq_true, if_false, if_true, tb_int_int, tb_int_bool, tb_int_str, tb_int_tuple, tb_int_list, tb_str_int, tb_str_bool, tb_str_str, tb_str_tuple, tb_str_list, tb_tuple_int, tb_tuple_bool, tb_tuple_str, tb_tuple_tuple, tb_tuple_list, tb_bool_int, tb_bool_bool, tb_bool_str, tb_bool_tuple, tb_bool_list, tb_NoneType_int, tb_NoneType_bool, tb_NoneType_str, tb_NoneType_tuple, tb_NoneType_list, tb_list_int, tb_list_bool, tb_list_str, tb_list_tuple, tb_list_list, decide_true, decide_false, Bool.true_eq_false, ha', a0, a1, a2, x2]
  split
  · have := q i j k 0 hi (by decide) (.inr rfl)
    rwa [mset_self ha] at this
  · rename_i h2
    have hm2 : 2 ≤ m := by omega
    have md : ∀ x : Int, 0 ≤ x % m ∧ (x % m < m ∨ x % m = 0) := fun x => ⟨Int.emod_nonneg _ (by omega), .inl (Int.emod_lt_of_pos _ (by omega))⟩
    have hd : ∀ x : Int, CDiv x m := fun _ => ⟨by omega, hm⟩
    split
    · exact ⟨hd _, by omega, q i (j / m) k _ hi (md _).1 (md _).2⟩
    · split
      · have := q i j k 0 hi (by decide) (.inr rfl)
        rwa [mset_self ha] at this
      · rename_i h3
        obtain ⟨x, hx, hmem, _⟩ := atI_int (xs := cs.map D.int) (i := i) hi (by omega)
        obtain ⟨n, _, rfl⟩ := List.mem_map.mp hmem
        refine ⟨_, hx, p0, ?_⟩
        simp only [startD, List.map_cons, List.map_nil, List.length_cons, List.length_nil, List.cons_append, List.nil_append, Nat.reduceAdd, Nat.reduceSub, List.replicate_zero, List.replicate_succ, dSeq, dIf, dTest, dOp, dUn, dV, dC, dRet, dRetN, dNext, dSet, dDrop, dAnd, dOr, dNot, dAndV, dOrV, dNotV, dIfE, dYes, dCall1, dCons, dNil, dTup, dLst, dCall, dFor, dI, dRng1, dRng2, gdName, dSetIx, dMeth, dSlice, dPart, dNoPart, dRaise, dX0, dX1, dFld, dProp, dCMeth, dSetFld, dMake, fld_e, add_i, add_s, sub_i, mul_i, fdiv_i, mod_i, pow_i, neg_i, lt_i, le_i, gt_i, ge_i, eq_i, eq_s, eq_b, ne_i, ix_s, ix_l, ix_o, ix_t, ix_r, is_n, is_bb, is_ib, is_sb, is_tb, in_t, in_f, len_s, len_l, len_o, len_t, len_r, int1_i, abs_i, str1_i, list1_t, list1_l, list1_o, tup1_t, tup1_l, tup1_r, mk_f, mk_t, sl_s, iter_s, iter_l, iter_o, iter_t, ins_r, app_r, isi_i, isi_s, isi_t, isi_b, D.isNon, List.getElem?_cons_zero, List.getElem?_cons_succ, List.set_cons_zero, List.set_cons_succ, Option.some.injEq, exists_eq_left', exists_eq_left, D.int.injEq, D.bl.injEq, D.str.injEq, D.tup.injEq, D.lst.injEq, D.ref.injEq, D.cls.injEq, Cell.lst.injEq, List.cons.injEq, decide_eq_true_eq, true_and, and_true, mset_same, mset_mset, Bool.not_eq_true', decide_eq_false_iff_not, Bool.false_eq_true, if_false, if_true, tb_int_int, tb_int_bool, tb_int_str, tb_int_tuple, tb_int_list, tb_str_int, tb_str_bool, tb_str_str, tb_str_tuple, tb_str_list, tb_tuple_int, tb_tuple_bool, tb_tuple_str, tb_tuple_tuple, tb_tuple_list, tb_bool_int, tb_bool_bool, tb_bool_str, tb_bool_tuple, tb_bool_list, tb_NoneType_int, tb_NoneType_bool, tb_NoneType_str, tb_NoneType_tuple, tb_NoneType_list, tb_list_int, tb_list_bool, tb_list_str, tb_list_tuple, tb_list_list, decide_true, decide_false, Bool.true_eq_false, ha', a1, a3, x1, x2, x3, b1]
        split
        · exact ⟨hd _, by omega, q (i + 1) (n / m) k _ (by omega) (md _).1 (md _).2⟩
        · have gd : ∀ (μ' : Mu) (i' j' k' : Int), 0 ≤ i' → μ' = mset μ a (drC cs i' j' k') → sp__law_mixed [D.int n, D.int k] μ' (fun x μ1 => dInt1 [x] μ1 fun x μ1 => dMod x (D.int m) μ1 Q) (fun c fs μ' => R c fs μ') := fun μ' i' j' k' hi' e =>
            ⟨n, k, rfl, fun r => ⟨by omega, by rw [e]; exact q i' j' k' _ hi' (md _).1 (md _).2⟩⟩
          split
          · exact gd _ (i + 1) j 0 (by omega) rfl
          · exact gd _ i j (k + 1) hi rfl
/-! ### names -/
def letN : List Nat := ("abcdefghijklmnopqrstuvwxyz" : Str).cps.toList
def digN : List Nat := ("0123456789" : Str).cps.toList
def signB (c : Nat) : Bool := decide (c ∈ letN) || decide (c ∈ digN)
def nameL : List Nat → Bool
  | [] => false
  | c :: r => decide (c ∈ letN) && signB c && r.all signB
def nameB (t : Str) : Bool := decide (t.length ≤ 12) && nameL t.cps.toList
def sp_is_name : DSp := fun ds μ Q _ => ∃ t : Str, ds = [.str t] ∧ t.length ≤ 1000 ∧ Q (.bl (nameB t)) μ
theorem loop_is (l d : Str) (R : RD) (E : EndD) (tb : TSD) (htb : tb = dIf (dAnd (dTest (dOp (dInB true) (dV 1) (dC (.str l)))) (dTest (dOp (dInB true) (dV 1) (dC (.str d))))) (dRet (dC (.bl false))) dNext) (t : D) (μ : Mu) :
    ∀ (cs : List Nat) (x : Option D), (cs.all (fun c => decide (c ∈ l.cps.toList) || decide (c ∈ d.cps.toList)) = true → ∀ y, E.nx [some t, y] μ) → (cs.all (fun c => decide (c ∈ l.cps.toList) || decide (c ∈ d.cps.toList)) = false → E.rt (.bl false) μ) →
      forD (gdName 1) tb R E (cs.map fun c => .str ⟨#[c]⟩) [some t, x] μ
  | [], x, h1, _ => h1 rfl x
  | c :: r, x, h1, h2 => by
    subst htb
    have ih := loop_is l d R E _ rfl t μ r (some (.str ⟨#[c]⟩))
    simp only [forD, startD, List.map_cons, List.map_nil, List.length_cons, List.length_nil, List.cons_append, List.nil_append, Nat.reduceAdd, Nat.reduceSub, List.replicate_zero, List.replicate_succ, dSeq, dIf, dTest, dOp, dUn, dV, dC, dRet, dRetN, dNext, dSet, dDrop, dAnd, dOr, dNot, dAndV, dOrV, dNotV, dIfE, dYes, dCall1, dCons, dNil, dTup, dLst, dCall, dFor, dI, dRng1, dRng2, gdName, dSetIx, dMeth, dSlice, dPart, dNoPart, dRaise, dX0, dX1, dFld, dProp, dCMeth, dSetFld, dMake, fld_e, add_i, add_s, sub_i, mul_i, fdiv_i, mod_i, pow_i, neg_i, lt_i, le_i, gt_i, ge_i, eq_i, eq_s, eq_b, ne_i, ix_s, ix_l, ix_o, ix_t, ix_r, is_n, is_bb, is_ib, is_sb, is_tb, in_t, in_f, len_s, len_l, len_o, len_t, len_r, int1_i, abs_i, str1_i, list1_t, list1_l, list1_o, tup1_t, tup1_l, tup1_r, mk_f, mk_t, sl_s, iter_s, iter_l, iter_o, iter_t, ins_r, app_r, isi_i, isi_s, isi_t, isi_b, D.isNon, List.getElem?_cons_zero, List.getElem?_cons_succ, List.set_cons_zero, List.set_cons_succ, Option.some.injEq, exists_eq_left', exists_eq_left, D.int.injEq, D.bl.injEq, D.str.injEq, D.tup.injEq, D.lst.injEq, D.ref.injEq, D.cls.injEq, Cell.lst.injEq, List.cons.injEq, decide_eq_true_eq, true_and, and_true, mset_same, mset_mset, Bool.not_eq_true', decide_eq_false_iff_not, Bool.false_eq_true, if_false, if_true, tb_int_int, tb_int_bool, tb_int_str, tb_int_tuple, tb_int_list, tb_str_int, tb_str_bool, tb_str_str, tb_str_tuple, tb_str_list, tb_tuple_int, tb_tuple_bool, tb_tuple_str, tb_tuple_tuple, tb_tuple_list, tb_bool_int, tb_bool_bool, tb_bool_str, tb_bool_tuple, tb_bool_list, tb_NoneType_int, tb_NoneType_bool, tb_NoneType_str, tb_NoneType_tuple, tb_NoneType_list, tb_list_int, tb_list_bool, tb_list_str, tb_list_tuple, tb_list_list, decide_true, decide_false, Bool.true_eq_false, inS_sign]
    rw [List.all_cons] at h1 h2
    by_cases hl : c ∈ l.cps.toList
    · simp only [hl, decide_true, Bool.true_or, Bool.true_and] at h1 h2
      simp only [hl, not_true_eq_false, if_false]
      exact ih h1 h2
    · by_cases hd : c ∈ d.cps.toList
      · simp only [hl, hd, decide_true, decide_false, Bool.or_true, Bool.true_and] at h1 h2
        simp only [hl, hd, not_true_eq_false, not_false_eq_true, if_false, if_true]
        exact ih h1 h2
      · simp only [hl, hd, decide_false, Bool.or_false, Bool.false_and] at h1 h2
        simp only [hl, hd, not_false_eq_true, if_true]
        exact h2 trivial
theorem wk_is_name (ds : List D) (μ : Mu) (Q : QD) (R : Str → List (Str × D) → Mu → Prop) (h : sp_is_name ds μ Q R) : body 1 2 rd_is_name ds μ Q R := by
  obtain ⟨t, rfl, hl, q⟩ := h
  refine ⟨rfl, ?_⟩
  have hz : t.length ≤ sizeLine := sizeL (by omega)
  have hlen := str_len t
  simp only [rd_is_name, startD, List.map_cons, List.map_nil, List.length_cons, List.length_nil, List.cons_append, List.nil_append, Nat.reduceAdd, Nat.reduceSub, List.replicate_zero, List.replicate_succ, dSeq, dIf, dTest, dOp, dUn, dV, dC, dRet, dRetN, dNext, dSet, dDrop, dAnd, dOr, dNot, dAndV, dOrV, dNotV, dIfE, dYes, dCall1, dCons, dNil, dTup, dLst, dCall, dFor, dI, dRng1, dRng2, gdName, dSetIx, dMeth, dSlice, dPart, dNoPart, dRaise, dX0, dX1, dFld, dProp, dCMeth, dSetFld, dMake, fld_e, add_i, add_s, sub_i, mul_i, fdiv_i, mod_i, pow_i, neg_i, lt_i, le_i, gt_i, ge_i, eq_i, eq_s, eq_b, ne_i, ix_s, ix_l, ix_o, ix_t, ix_r, is_n, is_bb, is_ib, is_sb, is_tb, in_t, in_f, len_s, len_l, len_o, len_t, len_r, int1_i, abs_i, str1_i, list1_t, list1_l, list1_o, tup1_t, tup1_l, tup1_r, mk_f, mk_t, sl_s, iter_s, iter_l, iter_o, iter_t, ins_r, app_r, isi_i, isi_s, isi_t, isi_b, D.isNon, List.getElem?_cons_zero, List.getElem?_cons_succ, List.set_cons_zero, List.set_cons_succ, Option.some.injEq, exists_eq_left', exists_eq_left, D.int.injEq, D.bl.injEq, D.str.injEq, D.tup.injEq, D.lst.injEq, D.ref.injEq, D.cls.injEq, Cell.lst.injEq, List.cons.injEq, decide_eq_true_eq, true_and, and_true, mset_same, mset_mset, Bool.not_eq_true', decide_eq_false_iff_not, Bool.false_eq_true, if_false, if_true, tb_int_int, tb_int_bool, tb_int_str, tb_int_tuple, tb_int_list, tb_str_int, tb_str_bool, tb_str_str, tb_str_tuple, tb_str_list, tb_tuple_int, tb_tuple_bool, tb_tuple_str, tb_tuple_tuple, tb_tuple_list, tb_bool_int, tb_bool_bool, tb_bool_str, tb_bool_tuple, tb_bool_list, tb_NoneType_int, tb_NoneType_bool, tb_NoneType_str, tb_NoneType_tuple, tb_NoneType_list, tb_list_int, tb_list_bool, tb_list_str, tb_list_tuple, tb_list_list, decide_true, decide_false, Bool.true_eq_false, hz]
  unfold nameB at q
  split
  · rename_i h
    have e : t.cps.toList = [] := List.length_eq_zero_iff.mp (by omega)
    rw [e] at q
    simpa [nameL] using q
  · split
    · rename_i h
      have e : decide (t.length ≤ 12) = false := by simp; omega
      rw [e] at q
      exact q
    · rename_i h1 h2
      have e : decide (t.length ≤ 12) = true := by simp; omega
      rw [e, Bool.true_and] at q
      cases hc : t.cps.toList with
      | nil => rw [hc] at hlen; simp at hlen; omega
      | cons c r =>
        rw [hc] at q
        refine ⟨c, atI_zero, ?_⟩
        have hs := inS_sign c ("abcdefghijklmnopqrstuvwxyz" : Str)
        by_cases h3 : c ∈ ("abcdefghijklmnopqrstuvwxyz" : Str).cps.toList
        rotate_left
        · rw [if_pos (hs.trans (decide_eq_false h3))]
          have e : decide (c ∈ letN) = false := decide_eq_false h3
          simp only [nameL, e, Bool.false_and] at q
          exact q
        · rw [if_neg (fun e => by rw [hs, decide_eq_true h3] at e; cases e)]
          have e : decide (c ∈ letN) = true := decide_eq_true h3
          simp only [nameL, e, Bool.true_and] at q
          have e2 : (signB c && r.all signB) = (c :: r).all signB := rfl
          rw [e2] at q
          unfold DL.signs
          rw [hc]
          exact loop_is _ _ _ _ _ rfl (.str t) μ (c :: r) none (fun h y => by
            have e3 : (c :: r).all signB = true := h
            rw [e3] at q; exact q) (fun h => by
            have e3 : (c :: r).all signB = false := h
            rw [e3] at q; exact q)
def sp_check_name : DSp := fun ds μ Q R => ∃ t : Str, ds = [.str t] ∧ t.length ≤ 1000 ∧ (nameB t = true → Q .non μ) ∧ (nameB t = false → R "BadName" [("name", .str t)] μ)
theorem wk_check_name (ds : List D) (μ : Mu) (Q : QD) (R : Str → List (Str × D) → Mu → Prop) (h : sp_check_name ds μ Q R) : body 1 1 (rd_check_name sp_is_name) ds μ Q R := by
  obtain ⟨t, rfl, hl, q, r⟩ := h
  refine ⟨rfl, ?_⟩
  simp only [rd_check_name, startD, List.map_cons, List.map_nil, List.length_cons, List.length_nil, List.cons_append, List.nil_append, Nat.reduceAdd, Nat.reduceSub, List.replicate_zero, List.replicate_succ, dSeq, dIf, dTest, dOp, dUn, dV, dC, dRet, dRetN, dNext, dSet, dDrop, dAnd, dOr, dNot, dAndV, dOrV, dNotV, dIfE, dYes, dCall1, dCons, dNil, dTup, dLst, dCall, dFor, dI, dRng1, dRng2, gdName, dSetIx, dMeth, dSlice, dPart, dNoPart, dRaise, dX0, dX1, dFld, dProp, dCMeth, dSetFld, dMake, fld_e, add_i, add_s, sub_i, mul_i, fdiv_i, mod_i, pow_i, neg_i, lt_i, le_i, gt_i, ge_i, eq_i, eq_s, eq_b, ne_i, ix_s, ix_l, ix_o, ix_t, ix_r, is_n, is_bb, is_ib, is_sb, is_tb, in_t, in_f, len_s, len_l, len_o, len_t, len_r, int1_i, abs_i, str1_i, list1_t, list1_l, list1_o, tup1_t, tup1_l, tup1_r, mk_f, mk_t, sl_s, iter_s, iter_l, iter_o, iter_t, ins_r, app_r, isi_i, isi_s, isi_t, isi_b, D.isNon, List.getElem?_cons_zero, List.getElem?_cons_succ, List.set_cons_zero, List.set_cons_succ, Option.some.injEq, exists_eq_left', exists_eq_left, D.int.injEq, D.bl.injEq, D.str.injEq, D.tup.injEq, D.lst.injEq, D.ref.injEq, D.cls.injEq, Cell.lst.injEq, List.cons.injEq, decide_eq_true_eq, true_and, and_true, mset_same, mset_mset, Bool.not_eq_true', decide_eq_false_iff_not, Bool.false_eq_true, if_false, if_true, tb_int_int, tb_int_bool, tb_int_str, tb_int_tuple, tb_int_list, tb_str_int, tb_str_bool, tb_str_str, tb_str_tuple, tb_str_list, tb_tuple_int, tb_tuple_bool, tb_tuple_str, tb_tuple_tuple, tb_tuple_list, tb_bool_int, tb_bool_bool, tb_bool_str, tb_bool_tuple, tb_bool_list, tb_NoneType_int, tb_NoneType_bool, tb_NoneType_str, tb_NoneType_tuple, tb_NoneType_list, tb_list_int, tb_list_bool, tb_list_str, tb_list_tuple, tb_list_list, decide_true, decide_false, Bool.true_eq_false]
  refine ⟨t, rfl, hl, nameB t, rfl, ?_⟩
  cases e : nameB t
  · exact r e
  · exact q e
/-! ### columns -/
def ascL (last : Int) : List Int → Bool
  | [] => true
  | c :: r => !(decide (c ≤ last) || decide (4 ≤ c)) && ascL c r
def sp_check_given : DSp := fun ds μ Q R => ∃ cs : List Int, ds = [.tup (cs.map .int)] ∧ (ascL (-1) cs = true → Q .non μ) ∧ (ascL (-1) cs = false → R "BadBound" [] μ)
theorem loop_cg (R : RD) (E : EndD) (tb : TSD) (htb : tb = (dSeq (dIf (dOr (dTest (dOp dLe (dV 2) (dV 1))) (dTest (dOp dGe (dV 2) (dC (.int 4))))) (dRaise (dX0 "BadBound" (dCons (dC (.str ("columns not ascending" : Str))) dNil))) dNext) (dSet 1 (dV 2)))) (t : D) (μ : Mu) :
    ∀ (cs : List Int) (l : Int) (x : Option D), (ascL l cs = true → ∀ y z, E.nx [some t, y, z] μ) → (ascL l cs = false → ∀ δ, R δ "BadBound" [] μ) →
      forD (gdName 2) tb R E (cs.map .int) [some t, some (.int l), x] μ
  | [], l, x, h1, _ => h1 rfl _ _
  | c :: r, l, x, h1, h2 => by
    subst htb
    have ih := loop_cg R E _ rfl t μ r c (some (.int c))
    simp only [forD, startD, List.map_cons, List.map_nil, List.length_cons, List.length_nil, List.cons_append, List.nil_append, Nat.reduceAdd, Nat.reduceSub, List.replicate_zero, List.replicate_succ, dSeq, dIf, dTest, dOp, dUn, dV, dC, dRet, dRetN, dNext, dSet, dDrop, dAnd, dOr, dNot, dAndV, dOrV, dNotV, dIfE, dYes, dCall1, dCons, dNil, dTup, dLst, dCall, dFor, dI, dRng1, dRng2, gdName, dSetIx, dMeth, dSlice, dPart, dNoPart, dRaise, dX0, dX1, dFld, dProp, dCMeth, dSetFld, dMake, fld_e, add_i, add_s, sub_i, mul_i, fdiv_i, mod_i, pow_i, neg_i, lt_i, le_i, gt_i, ge_i, eq_i, eq_s, eq_b, ne_i, ix_s, ix_l, ix_o, ix_t, ix_r, is_n, is_bb, is_ib, is_sb, is_tb, in_t, in_f, len_s, len_l, len_o, len_t, len_r, int1_i, abs_i, str1_i, list1_t, list1_l, list1_o, tup1_t, tup1_l, tup1_r, mk_f, mk_t, sl_s, iter_s, iter_l, iter_o, iter_t, ins_r, app_r, isi_i, isi_s, isi_t, isi_b, D.isNon, List.getElem?_cons_zero, List.getElem?_cons_succ, List.set_cons_zero, List.set_cons_succ, Option.some.injEq, exists_eq_left', exists_eq_left, D.int.injEq, D.bl.injEq, D.str.injEq, D.tup.injEq, D.lst.injEq, D.ref.injEq, D.cls.injEq, Cell.lst.injEq, List.cons.injEq, decide_eq_true_eq, true_and, and_true, mset_same, mset_mset, Bool.not_eq_true', decide_eq_false_iff_not, Bool.false_eq_true, if_false, if_true, tb_int_int, tb_int_bool, tb_int_str, tb_int_tuple, tb_int_list, tb_str_int, tb_str_bool, tb_str_str, tb_str_tuple, tb_str_list, tb_tuple_int, tb_tuple_bool, tb_tuple_str, tb_tuple_tuple, tb_tuple_list, tb_bool_int, tb_bool_bool, tb_bool_str, tb_bool_tuple, tb_bool_list, tb_NoneType_int, tb_NoneType_bool, tb_NoneType_str, tb_NoneType_tuple, tb_NoneType_list, tb_list_int, tb_list_bool, tb_list_str, tb_list_tuple, tb_list_list, decide_true, decide_false, Bool.true_eq_false]
    by_cases hl : c ≤ l
    · simp only [ascL, hl, decide_true, Bool.true_or, Bool.not_true, Bool.false_and] at h1 h2
      rw [if_pos hl]
      exact ⟨by decide, h2 trivial _⟩
    · by_cases hd : 4 ≤ c
      · simp only [ascL, hd, decide_true, Bool.or_true, Bool.not_true, Bool.false_and] at h1 h2
        rw [if_neg hl, if_pos hd]
        exact ⟨by decide, h2 trivial _⟩
      · simp only [ascL, hl, hd, decide_false, Bool.or_false, Bool.not_false, Bool.true_and] at h1 h2
        rw [if_neg hl, if_neg hd]
        exact ih h1 h2
theorem wk_check_given (ds : List D) (μ : Mu) (Q : QD) (R : Str → List (Str × D) → Mu → Prop) (h : sp_check_given ds μ Q R) : body 1 3 rd_check_given ds μ Q R := by
  obtain ⟨cs, rfl, q, r⟩ := h
  refine ⟨rfl, ?_⟩
  simp only [rd_check_given, startD, List.map_cons, List.map_nil, List.length_cons, List.length_nil, List.cons_append, List.nil_append, Nat.reduceAdd, Nat.reduceSub, List.replicate_zero, List.replicate_succ, dSeq, dIf, dTest, dOp, dUn, dV, dC, dRet, dRetN, dNext, dSet, dDrop, dAnd, dOr, dNot, dAndV, dOrV, dNotV, dIfE, dYes, dCall1, dCons, dNil, dTup, dLst, dCall, dFor, dI, dRng1, dRng2, gdName, dSetIx, dMeth, dSlice, dPart, dNoPart, dRaise, dX0, dX1, dFld, dProp, dCMeth, dSetFld, dMake, fld_e, add_i, add_s, sub_i, mul_i, fdiv_i, mod_i, pow_i, neg_i, lt_i, le_i, gt_i, ge_i, eq_i, eq_s, eq_b, ne_i, ix_s, ix_l, ix_o, ix_t, ix_r, is_n, is_bb, is_ib, is_sb, is_tb, in_t, in_f, len_s, len_l, len_o, len_t, len_r, int1_i, abs_i, str1_i, list1_t, list1_l, list1_o, tup1_t, tup1_l, tup1_r, mk_f, mk_t, sl_s, iter_s, iter_l, iter_o, iter_t, ins_r, app_r, isi_i, isi_s, isi_t, isi_b, D.isNon, List.getElem?_cons_zero, List.getElem?_cons_succ, List.set_cons_zero, List.set_cons_succ, Option.some.injEq, exists_eq_left', exists_eq_left, D.int.injEq, D.bl.injEq, D.str.injEq, D.tup.injEq, D.lst.injEq, D.ref.injEq, D.cls.injEq, Cell.lst.injEq, List.cons.injEq, decide_eq_true_eq, true_and, and_true, mset_same, mset_mset, Bool.not_eq_true', decide_eq_false_iff_not, Bool.false_eq_true, if_false, if_true, tb_int_int, tb_int_bool, tb_int_str, tb_int_tuple, tb_int_list, tb_str_int, tb_str_bool, tb_str_str, tb_str_tuple, tb_str_list, tb_tuple_int, tb_tuple_bool, tb_tuple_str, tb_tuple_tuple, tb_tuple_list, tb_bool_int, tb_bool_bool, tb_bool_str, tb_bool_tuple, tb_bool_list, tb_NoneType_int, tb_NoneType_bool, tb_NoneType_str, tb_NoneType_tuple, tb_NoneType_list, tb_list_int, tb_list_bool, tb_list_str, tb_list_tuple, tb_list_list, decide_true, decide_false, Bool.true_eq_false]
  exact loop_cg _ _ _ rfl _ μ cs (-1) none (fun h _ _ => q h) (fun h _ => r h)
/-! ### a bound made -/
def boundD (t : Str) (cs : List Int) (l : Int) : List D := [.tup (cs.map .int), .int l, .str t]
def sp_Bound__D_init_D_ : DSp := fun ds μ Q R => ∃ (a dx : Addr) (t : Str) (cs : List Int) (l : Int), ds = [.ref a, .str t, .tup (cs.map .int), .int l] ∧ μ a = some (.slt "Bound" dx []) ∧ t.length ≤ 1000 ∧
  (nameB t = false → R "BadName" [("name", .str t)] μ) ∧ (nameB t = true → ascL (-1) cs = false ∨ l < 1 → R "BadBound" [] μ) ∧
  (nameB t = true → ascL (-1) cs = true → 1 ≤ l → Q .non (mset μ a (.slt "Bound" dx ((boundD t cs l).map some))))
theorem wk_Bound__D_init_D_ (ds : List D) (μ : Mu) (Q : QD) (R : Str → List (Str × D) → Mu → Prop) (h : sp_Bound__D_init_D_ ds μ Q R) : body 4 4 (rd_Bound__D_init_D_ sp_check_name sp_check_given) ds μ Q R := by
  obtain ⟨a, dx, t, cs, l, rfl, ha, hl, r1, r2, q⟩ := h
  refine ⟨rfl, ?_⟩
  simp only [rd_Bound__D_init_D_, startD, List.map_cons, List.map_nil, List.length_cons, List.length_nil, List.cons_append, List.nil_append, Nat.reduceAdd, Nat.reduceSub, List.replicate_zero, List.replicate_succ, dSeq, dIf, dTest, dOp, dUn, dV, dC, dRet, dRetN, dNext, dSet, dDrop, dAnd, dOr, dNot, dAndV, dOrV, dNotV, dIfE, dYes, dCall1, dCons, dNil, dTup, dLst, dCall, dFor, dI, dRng1, dRng2, gdName, dSetIx, dMeth, dSlice, dPart, dNoPart, dRaise, dX0, dX1, dFld, dProp, dCMeth, dSetFld, dMake, fld_e, add_i, add_s, sub_i, mul_i, fdiv_i, mod_i, pow_i, neg_i, lt_i, le_i, gt_i, ge_i, eq_i, eq_s, eq_b, ne_i, ix_s, ix_l, ix_o, ix_t, ix_r, is_n, is_bb, is_ib, is_sb, is_tb, in_t, in_f, len_s, len_l, len_o, len_t, len_r, int1_i, abs_i, str1_i, list1_t, list1_l, list1_o, tup1_t, tup1_l, tup1_r, mk_f, mk_t, sl_s, iter_s, iter_l, iter_o, iter_t, ins_r, app_r, isi_i, isi_s, isi_t, isi_b, D.isNon, List.getElem?_cons_zero, List.getElem?_cons_succ, List.set_cons_zero, List.set_cons_succ, Option.some.injEq, exists_eq_left', exists_eq_left, D.int.injEq, D.bl.injEq, D.str.injEq, D.tup.injEq, D.lst.injEq, D.ref.injEq, D.cls.injEq, Cell.lst.injEq, List.cons.injEq, decide_eq_true_eq, true_and, and_true, mset_same, mset_mset, Bool.not_eq_true', decide_eq_false_iff_not, Bool.false_eq_true, if_false, if_true, tb_int_int, tb_int_bool, tb_int_str, tb_int_tuple, tb_int_list, tb_str_int, tb_str_bool, tb_str_str, tb_str_tuple, tb_str_list, tb_tuple_int, tb_tuple_bool, tb_tuple_str, tb_tuple_tuple, tb_tuple_list, tb_bool_int, tb_bool_bool, tb_bool_str, tb_bool_tuple, tb_bool_list, tb_NoneType_int, tb_NoneType_bool, tb_NoneType_str, tb_NoneType_tuple, tb_NoneType_list, tb_list_int, tb_list_bool, tb_list_str, tb_list_tuple, tb_list_list, decide_true, decide_false, Bool.true_eq_false]
  refine ⟨t, rfl, hl, fun hn => ?_, r1⟩
  refine ⟨cs, rfl, fun hc => ?_, fun hc => r2 hn (.inl hc)⟩
  split
  · rename_i h; exact ⟨by decide, r2 hn (.inr h)⟩
  · rename_i h
    refine ⟨dx, [], ha, dx, _, rfl, dx, _, rfl, ?_⟩
    exact q hn hc (by omega)

theorem mk_bound {t : Str} {cs : List Int} {l : Int} {μ : Mu} {Q : QD} {Rx : Str → List (Str × D) → Mu → Prop} (hl : t.length ≤ 1000) (r1 : nameB t = false → Rx "BadName" [("name", .str t)] μ) (r2 : nameB t = true → ascL (-1) cs = false ∨ l < 1 → Rx "BadBound" [] μ)
    (q : nameB t = true → ascL (-1) cs = true → 1 ≤ l → Q (.slt "Bound" (boundD t cs l)) μ) : makeD "Bound" sp_Bound__D_init_D_ [.str t, .tup (cs.map .int), .int l] μ Q Rx := by
  intro x dx hx
  refine ⟨x, dx, t, cs, l, rfl, mset_same, hl, fun hn => ?_, fun hn h => ?_, fun hn hc h => ?_⟩
  · show Rx _ _ (mdel (mset μ x _) x)
    rw [mdel_mset hx]; exact r1 hn
  · show Rx _ _ (mdel (mset μ x _) x)
    rw [mdel_mset hx]; exact r2 hn h
  · rw [mset_mset]
    refine ⟨rfl, dx, boundD t cs l, (by simp [boundD]), mset_same, ?_⟩
    rw [mdel_mset hx]
    exact q hn hc h
def sp_Bound_single : DSp := fun ds μ Q R => ∃ (t : Str) (cs : List Int), ds = [.cls "Bound", .str t, .tup (cs.map .int)] ∧ t.length ≤ 1000 ∧
  (nameB t = false → R "BadName" [("name", .str t)] μ) ∧ (nameB t = true → ascL (-1) cs = false ∨ (1 : Int) < 1 → R "BadBound" [] μ) ∧ (nameB t = true → ascL (-1) cs = true → (1 : Int) ≤ 1 → Q (.slt "Bound" (boundD t cs 1)) μ)
theorem wk_Bound_single (ds : List D) (μ : Mu) (Q : QD) (R : Str → List (Str × D) → Mu → Prop) (h : sp_Bound_single ds μ Q R) : body 3 3 (rd_Bound_single sp_Bound__D_init_D_) ds μ Q R := by
  obtain ⟨t, cs, rfl, hl, r1, r2, q⟩ := h
  refine ⟨rfl, ?_⟩
  simp only [rd_Bound_single, startD, List.map_cons, List.map_nil, List.length_cons, List.length_nil, List.cons_append, List.nil_append, Nat.reduceAdd, Nat.reduceSub, List.replicate_zero, List.replicate_succ, dSeq, dIf, dTest, dOp, dUn, dV, dC, dRet, dRetN, dNext, dSet, dDrop, dAnd, dOr, dNot, dAndV, dOrV, dNotV, dIfE, dYes, dCall1, dCons, dNil, dTup, dLst, dCall, dFor, dI, dRng1, dRng2, gdName, dSetIx, dMeth, dSlice, dPart, dNoPart, dRaise, dX0, dX1, dFld, dProp, dCMeth, dSetFld, dMake, fld_e, add_i, add_s, sub_i, mul_i, fdiv_i, mod_i, pow_i, neg_i, lt_i, le_i, gt_i, ge_i, eq_i, eq_s, eq_b, ne_i, ix_s, ix_l, ix_o, ix_t, ix_r, is_n, is_bb, is_ib, is_sb, is_tb, in_t, in_f, len_s, len_l, len_o, len_t, len_r, int1_i, abs_i, str1_i, list1_t, list1_l, list1_o, tup1_t, tup1_l, tup1_r, mk_f, mk_t, sl_s, iter_s, iter_l, iter_o, iter_t, ins_r, app_r, isi_i, isi_s, isi_t, isi_b, D.isNon, List.getElem?_cons_zero, List.getElem?_cons_succ, List.set_cons_zero, List.set_cons_succ, Option.some.injEq, exists_eq_left', exists_eq_left, D.int.injEq, D.bl.injEq, D.str.injEq, D.tup.injEq, D.lst.injEq, D.ref.injEq, D.cls.injEq, Cell.lst.injEq, List.cons.injEq, decide_eq_true_eq, true_and, and_true, mset_same, mset_mset, Bool.not_eq_true', decide_eq_false_iff_not, Bool.false_eq_true, if_false, if_true, tb_int_int, tb_int_bool, tb_int_str, tb_int_tuple, tb_int_list, tb_str_int, tb_str_bool, tb_str_str, tb_str_tuple, tb_str_list, tb_tuple_int, tb_tuple_bool, tb_tuple_str, tb_tuple_tuple, tb_tuple_list, tb_bool_int, tb_bool_bool, tb_bool_str, tb_bool_tuple, tb_bool_list, tb_NoneType_int, tb_NoneType_bool, tb_NoneType_str, tb_NoneType_tuple, tb_NoneType_list, tb_list_int, tb_list_bool, tb_list_str, tb_list_tuple, tb_list_list, decide_true, decide_false, Bool.true_eq_false]
  exact mk_bound hl r1 r2 q
def sp_Bound_door : DSp := fun ds μ Q _ => ∃ (t : Str) (cs : List Int) (l : Int), ds = [.slt "Bound" (boundD t cs l)] ∧ Q (.tup [.str t, .tup (cs.map .int)]) μ
theorem wk_Bound_door (ds : List D) (μ : Mu) (Q : QD) (R : Str → List (Str × D) → Mu → Prop) (h : sp_Bound_door ds μ Q R) : body 1 1 rd_Bound_door ds μ Q R := by
  obtain ⟨t, cs, l, rfl, q⟩ := h
  refine ⟨rfl, ?_⟩
  simp only [rd_Bound_door, boundD, startD, List.map_cons, List.map_nil, List.length_cons, List.length_nil, List.cons_append, List.nil_append, Nat.reduceAdd, Nat.reduceSub, List.replicate_zero, List.replicate_succ, dSeq, dIf, dTest, dOp, dUn, dV, dC, dRet, dRetN, dNext, dSet, dDrop, dAnd, dOr, dNot, dAndV, dOrV, dNotV, dIfE, dYes, dCall1, dCons, dNil, dTup, dLst, dCall, dFor, dI, dRng1, dRng2, gdName, dSetIx, dMeth, dSlice, dPart, dNoPart, dRaise, dX0, dX1, dFld, dProp, dCMeth, dSetFld, dMake, fld_e, add_i, add_s, sub_i, mul_i, fdiv_i, mod_i, pow_i, neg_i, lt_i, le_i, gt_i, ge_i, eq_i, eq_s, eq_b, ne_i, ix_s, ix_l, ix_o, ix_t, ix_r, is_n, is_bb, is_ib, is_sb, is_tb, in_t, in_f, len_s, len_l, len_o, len_t, len_r, int1_i, abs_i, str1_i, list1_t, list1_l, list1_o, tup1_t, tup1_l, tup1_r, mk_f, mk_t, sl_s, iter_s, iter_l, iter_o, iter_t, ins_r, app_r, isi_i, isi_s, isi_t, isi_b, D.isNon, List.getElem?_cons_zero, List.getElem?_cons_succ, List.set_cons_zero, List.set_cons_succ, Option.some.injEq, exists_eq_left', exists_eq_left, D.int.injEq, D.bl.injEq, D.str.injEq, D.tup.injEq, D.lst.injEq, D.ref.injEq, D.cls.injEq, Cell.lst.injEq, List.cons.injEq, decide_eq_true_eq, true_and, and_true, mset_same, mset_mset, Bool.not_eq_true', decide_eq_false_iff_not, Bool.false_eq_true, if_false, if_true, tb_int_int, tb_int_bool, tb_int_str, tb_int_tuple, tb_int_list, tb_str_int, tb_str_bool, tb_str_str, tb_str_tuple, tb_str_list, tb_tuple_int, tb_tuple_bool, tb_tuple_str, tb_tuple_tuple, tb_tuple_list, tb_bool_int, tb_bool_bool, tb_bool_str, tb_bool_tuple, tb_bool_list, tb_NoneType_int, tb_NoneType_bool, tb_NoneType_str, tb_NoneType_tuple, tb_NoneType_list, tb_list_int, tb_list_bool, tb_list_str, tb_list_tuple, tb_list_list, decide_true, decide_false, Bool.true_eq_false]
  exact ⟨sizeL (by decide), q⟩
/-! ### what is due -/
def dueD (t : Str) (cs : List Int) (l : Int) : D := if nameB t = false then .tup [.str "name", .str t, .bl true, .bl false] else if ascL (-1) cs = false ∨ l < 1 then .tup [.str "bound", .str "", .bl true, .bl false]
  else .tup [.str "made", .tup [.str t, .tup (cs.map .int), .int l], .tup [.str t, .tup (cs.map .int)], .bl false]
def sp__law_ascending : DSp := fun ds μ Q _ => ∃ cs : List Int, ds = [.tup (cs.map .int)] ∧ Q (.bl (ascL (-1) cs)) μ
theorem loop_asc (R : RD) (E : EndD) (tb : TSD) (htb : tb = (dSeq (dIf (dOr (dTest (dOp dLe (dV 2) (dV 1))) (dTest (dOp dGt (dV 2) (dC (.int 3))))) (dRet (dC (.bl false))) dNext) (dSet 1 (dV 2)))) (t : D) (μ : Mu) :
    ∀ (cs : List Int) (l : Int) (x : Option D), (ascL l cs = true → ∀ y z, E.nx [some t, y, z] μ) → (ascL l cs = false → E.rt (.bl false) μ) →
      forD (gdName 2) tb R E (cs.map .int) [some t, some (.int l), x] μ
  | [], l, x, h1, _ => h1 rfl _ _
  | c :: r, l, x, h1, h2 => by
    subst htb
    have ih := loop_asc R E _ rfl t μ r c (some (.int c))
    simp only [forD, startD, List.map_cons, List.map_nil, List.length_cons, List.length_nil, List.cons_append, List.nil_append, Nat.reduceAdd, Nat.reduceSub, List.replicate_zero, List.replicate_succ, dSeq, dIf, dTest, dOp, dUn, dV, dC, dRet, dRetN, dNext, dSet, dDrop, dAnd, dOr, dNot, dAndV, dOrV, dNotV, dIfE, dYes, dCall1, dCons, dNil, dTup, dLst, dCall, dFor, dI, dRng1, dRng2, gdName, dSetIx, dMeth, dSlice, dPart, dNoPart, dRaise, dX0, dX1, dFld, dProp, dCMeth, dSetFld, dMake, fld_e, add_i, add_s, sub_i, mul_i, fdiv_i, mod_i, pow_i, neg_i, lt_i, le_i, gt_i, ge_i, eq_i, eq_s, eq_b, ne_i, ix_s, ix_l, ix_o, ix_t, ix_r, is_n, is_bb, is_ib, is_sb, is_tb, in_t, in_f, len_s, len_l, len_o, len_t, len_r, int1_i, abs_i, str1_i, list1_t, list1_l, list1_o, tup1_t, tup1_l, tup1_r, mk_f, mk_t, sl_s, iter_s, iter_l, iter_o, iter_t, ins_r, app_r, isi_i, isi_s, isi_t, isi_b, D.isNon, List.getElem?_cons_zero, List.getElem?_cons_succ, List.set_cons_zero, List.set_cons_succ, Option.some.injEq, exists_eq_left', exists_eq_left, D.int.injEq, D.bl.injEq, D.str.injEq, D.tup.injEq, D.lst.injEq, D.ref.injEq, D.cls.injEq, Cell.lst.injEq, List.cons.injEq, decide_eq_true_eq, true_and, and_true, mset_same, mset_mset, Bool.not_eq_true', decide_eq_false_iff_not, Bool.false_eq_true, if_false, if_true, tb_int_int, tb_int_bool, tb_int_str, tb_int_tuple, tb_int_list, tb_str_int, tb_str_bool, tb_str_str, tb_str_tuple, tb_str_list, tb_tuple_int, tb_tuple_bool, tb_tuple_str, tb_tuple_tuple, tb_tuple_list, tb_bool_int, tb_bool_bool, tb_bool_str, tb_bool_tuple, tb_bool_list, tb_NoneType_int, tb_NoneType_bool, tb_NoneType_str, tb_NoneType_tuple, tb_NoneType_list, tb_list_int, tb_list_bool, tb_list_str, tb_list_tuple, tb_list_list, decide_true, decide_false, Bool.true_eq_false]
    by_cases hl : c ≤ l
    · simp only [ascL, hl, decide_true, Bool.true_or, Bool.not_true, Bool.false_and] at h1 h2
      rw [if_pos hl]
      exact h2 trivial
    · by_cases hd : 4 ≤ c
      · simp only [ascL, hd, decide_true, Bool.or_true, Bool.not_true, Bool.false_and] at h1 h2
        rw [if_neg hl, if_pos (by omega)]
        exact h2 trivial
      · simp only [ascL, hl, hd, decide_false, Bool.or_false, Bool.not_false, Bool.true_and] at h1 h2
        rw [if_neg hl, if_neg (by omega)]
        exact ih h1 h2
theorem wk__law_ascending (ds : List D) (μ : Mu) (Q : QD) (R : Str → List (Str × D) → Mu → Prop) (h : sp__law_ascending ds μ Q R) : body 1 3 rd__law_ascending ds μ Q R := by
  obtain ⟨cs, rfl, q⟩ := h
  refine ⟨rfl, ?_⟩
  simp only [rd__law_ascending, startD, List.map_cons, List.map_nil, List.length_cons, List.length_nil, List.cons_append, List.nil_append, Nat.reduceAdd, Nat.reduceSub, List.replicate_zero, List.replicate_succ, dSeq, dIf, dTest, dOp, dUn, dV, dC, dRet, dRetN, dNext, dSet, dDrop, dAnd, dOr, dNot, dAndV, dOrV, dNotV, dIfE, dYes, dCall1, dCons, dNil, dTup, dLst, dCall, dFor, dI, dRng1, dRng2, gdName, dSetIx, dMeth, dSlice, dPart, dNoPart, dRaise, dX0, dX1, dFld, dProp, dCMeth, dSetFld, dMake, fld_e, add_i, add_s, sub_i, mul_i, fdiv_i, mod_i, pow_i, neg_i, lt_i, le_i, gt_i, ge_i, eq_i, eq_s, eq_b, ne_i, ix_s, ix_l, ix_o, ix_t, ix_r, is_n, is_bb, is_ib, is_sb, is_tb, in_t, in_f, len_s, len_l, len_o, len_t, len_r, int1_i, abs_i, str1_i, list1_t, list1_l, list1_o, tup1_t, tup1_l, tup1_r, mk_f, mk_t, sl_s, iter_s, iter_l, iter_o, iter_t, ins_r, app_r, isi_i, isi_s, isi_t, isi_b, D.isNon, List.getElem?_cons_zero, List.getElem?_cons_succ, List.set_cons_zero, List.set_cons_succ, Option.some.injEq, exists_eq_left', exists_eq_left, D.int.injEq, D.bl.injEq, D.str.injEq, D.tup.injEq, D.lst.injEq, D.ref.injEq, D.cls.injEq, Cell.lst.injEq, List.cons.injEq, decide_eq_true_eq, true_and, and_true, mset_same, mset_mset, Bool.not_eq_true', decide_eq_false_iff_not, Bool.false_eq_true, if_false, if_true, tb_int_int, tb_int_bool, tb_int_str, tb_int_tuple, tb_int_list, tb_str_int, tb_str_bool, tb_str_str, tb_str_tuple, tb_str_list, tb_tuple_int, tb_tuple_bool, tb_tuple_str, tb_tuple_tuple, tb_tuple_list, tb_bool_int, tb_bool_bool, tb_bool_str, tb_bool_tuple, tb_bool_list, tb_NoneType_int, tb_NoneType_bool, tb_NoneType_str, tb_NoneType_tuple, tb_NoneType_list, tb_list_int, tb_list_bool, tb_list_str, tb_list_tuple, tb_list_list, decide_true, decide_false, Bool.true_eq_false]
  exact loop_asc _ _ _ rfl _ μ cs (-1) none (fun h _ _ => by rw [h] at q; exact q) (fun h => by rw [h] at q; exact q)
def sp__law_named : DSp := fun ds μ Q _ => ∃ t : Str, ds = [.str t] ∧ t.length ≤ 1000 ∧ Q (.bl (nameB t)) μ
theorem loop_named (δ : Dl) (l : Str) (Q : List D → Mu → Prop) (tt : TTD) (htt : tt = dTest (dOp (dInB true) (dV 2) (dOp dAdd (dV 1) (dC (.str ("0123456789" : Str)))))) (t : D) (μ : Mu) (hl : l.length = 26) (hle : l.cps.toList = letN) :
    ∀ (cs : List Nat) (acc : List D), acc.length + cs.length ≤ 2000 → (∀ zs : List D, zs.length = acc.length + (cs.filter fun c => !signB c).length → Q zs μ) →
      compD (gdName 2) tt (dV 2) [some t, some (.str l), none] Q (cs.map fun c => .str ⟨#[c]⟩) acc μ
  | [], acc, _, h => h acc (by simp)
  | c :: r, acc, hz, h => by
    subst htt
    have ih := loop_named δ l Q _ rfl t μ hl hle r
    simp only [compD, startD, List.map_cons, List.map_nil, List.length_cons, List.length_nil, List.cons_append, List.nil_append, Nat.reduceAdd, Nat.reduceSub, List.replicate_zero, List.replicate_succ, dSeq, dIf, dTest, dOp, dUn, dV, dC, dRet, dRetN, dNext, dSet, dDrop, dAnd, dOr, dNot, dAndV, dOrV, dNotV, dIfE, dYes, dCall1, dCons, dNil, dTup, dLst, dCall, dFor, dI, dRng1, dRng2, gdName, dSetIx, dMeth, dSlice, dPart, dNoPart, dRaise, dX0, dX1, dFld, dProp, dCMeth, dSetFld, dMake, fld_e, add_i, add_s, sub_i, mul_i, fdiv_i, mod_i, pow_i, neg_i, lt_i, le_i, gt_i, ge_i, eq_i, eq_s, eq_b, ne_i, ix_s, ix_l, ix_o, ix_t, ix_r, is_n, is_bb, is_ib, is_sb, is_tb, in_t, in_f, len_s, len_l, len_o, len_t, len_r, int1_i, abs_i, str1_i, list1_t, list1_l, list1_o, tup1_t, tup1_l, tup1_r, mk_f, mk_t, sl_s, iter_s, iter_l, iter_o, iter_t, ins_r, app_r, isi_i, isi_s, isi_t, isi_b, D.isNon, List.getElem?_cons_zero, List.getElem?_cons_succ, List.set_cons_zero, List.set_cons_succ, Option.some.injEq, exists_eq_left', exists_eq_left, D.int.injEq, D.bl.injEq, D.str.injEq, D.tup.injEq, D.lst.injEq, D.ref.injEq, D.cls.injEq, Cell.lst.injEq, List.cons.injEq, decide_eq_true_eq, true_and, and_true, mset_same, mset_mset, Bool.not_eq_true', decide_eq_false_iff_not, Bool.false_eq_true, if_false, if_true, tb_int_int, tb_int_bool, tb_int_str, tb_int_tuple, tb_int_list, tb_str_int, tb_str_bool, tb_str_str, tb_str_tuple, tb_str_list, tb_tuple_int, tb_tuple_bool, tb_tuple_str, tb_tuple_tuple, tb_tuple_list, tb_bool_int, tb_bool_bool, tb_bool_str, tb_bool_tuple, tb_bool_list, tb_NoneType_int, tb_NoneType_bool, tb_NoneType_str, tb_NoneType_tuple, tb_NoneType_list, tb_list_int, tb_list_bool, tb_list_str, tb_list_tuple, tb_list_list, decide_true, decide_false, Bool.true_eq_false, hl]
    have e : inS ⟨#[c]⟩ (l ++ ("0123456789" : Str)) = signB c := by
      rw [inS_sign, str_append_cps, hle]
      unfold signB digN
      rw [← Bool.decide_or]
      exact decide_eq_decide.mpr List.mem_append
    rw [e]
    rw [List.length_cons] at hz
    refine ⟨sizeL (by decide), ?_⟩
    cases hs : signB c with
    | true =>
      simp only [Bool.true_eq_false, if_false]
      exact ih acc (by omega) fun zs hz => h zs (by rw [hz, List.filter_cons]; simp [hs])
    | false =>
      simp only [if_true]
      exact ⟨sizeL' (by omega), ih (acc ++ [.str ⟨#[c]⟩]) (by rw [List.length_append, List.length_singleton]; omega) fun zs hz => h zs (by rw [hz, List.filter_cons]; simp [hs]; omega)⟩
theorem wk__law_named (ds : List D) (μ : Mu) (Q : QD) (R : Str → List (Str × D) → Mu → Prop) (h : sp__law_named ds μ Q R) : body 1 3 rd__law_named ds μ Q R := by
  obtain ⟨t, rfl, hl, q⟩ := h
  refine ⟨rfl, ?_⟩
  have hz : t.length ≤ sizeLine := sizeL (by omega)
  have hlen := str_len t
  simp only [rd__law_named, startD, List.map_cons, List.map_nil, List.length_cons, List.length_nil, List.cons_append, List.nil_append, Nat.reduceAdd, Nat.reduceSub, List.replicate_zero, List.replicate_succ, dSeq, dIf, dTest, dOp, dUn, dV, dC, dRet, dRetN, dNext, dSet, dDrop, dAnd, dOr, dNot, dAndV, dOrV, dNotV, dIfE, dYes, dCall1, dCons, dNil, dTup, dLst, dCall, dFor, dI, dRng1, dRng2, gdName, dSetIx, dMeth, dSlice, dPart, dNoPart, dRaise, dX0, dX1, dFld, dProp, dCMeth, dSetFld, dMake, fld_e, add_i, add_s, sub_i, mul_i, fdiv_i, mod_i, pow_i, neg_i, lt_i, le_i, gt_i, ge_i, eq_i, eq_s, eq_b, ne_i, ix_s, ix_l, ix_o, ix_t, ix_r, is_n, is_bb, is_ib, is_sb, is_tb, in_t, in_f, len_s, len_l, len_o, len_t, len_r, int1_i, abs_i, str1_i, list1_t, list1_l, list1_o, tup1_t, tup1_l, tup1_r, mk_f, mk_t, sl_s, iter_s, iter_l, iter_o, iter_t, ins_r, app_r, isi_i, isi_s, isi_t, isi_b, D.isNon, List.getElem?_cons_zero, List.getElem?_cons_succ, List.set_cons_zero, List.set_cons_succ, Option.some.injEq, exists_eq_left', exists_eq_left, D.int.injEq, D.bl.injEq, D.str.injEq, D.tup.injEq, D.lst.injEq, D.ref.injEq, D.cls.injEq, Cell.lst.injEq, List.cons.injEq, decide_eq_true_eq, true_and, and_true, mset_same, mset_mset, Bool.not_eq_true', decide_eq_false_iff_not, Bool.false_eq_true, if_false, if_true, tb_int_int, tb_int_bool, tb_int_str, tb_int_tuple, tb_int_list, tb_str_int, tb_str_bool, tb_str_str, tb_str_tuple, tb_str_list, tb_tuple_int, tb_tuple_bool, tb_tuple_str, tb_tuple_tuple, tb_tuple_list, tb_bool_int, tb_bool_bool, tb_bool_str, tb_bool_tuple, tb_bool_list, tb_NoneType_int, tb_NoneType_bool, tb_NoneType_str, tb_NoneType_tuple, tb_NoneType_list, tb_list_int, tb_list_bool, tb_list_str, tb_list_tuple, tb_list_list, decide_true, decide_false, Bool.true_eq_false, hz]
  unfold nameB at q
  split
  · rename_i h
    have e : t.cps.toList = [] := List.length_eq_zero_iff.mp (by omega)
    rw [e] at q
    simpa [nameL] using q
  · split
    · rename_i h
      have e : decide (t.length ≤ 12) = false := by simp; omega
      rw [e] at q
      exact q
    · rename_i h1 h2
      have e : decide (t.length ≤ 12) = true := by simp; omega
      rw [e, Bool.true_and] at q
      cases hc : t.cps.toList with
      | nil => rw [hc] at hlen; simp at hlen; omega
      | cons c r =>
        rw [hc] at q
        refine ⟨c, atI_zero, ?_⟩
        have hs := inS_sign c ("abcdefghijklmnopqrstuvwxyz" : Str)
        by_cases h3 : c ∈ ("abcdefghijklmnopqrstuvwxyz" : Str).cps.toList
        rotate_left
        · rw [if_pos (hs.trans (decide_eq_false h3))]
          have e : decide (c ∈ letN) = false := decide_eq_false h3
          simp only [nameL, e, Bool.false_and] at q
          exact q
        · rw [if_neg (fun e => by rw [hs, decide_eq_true h3] at e; cases e)]
          have e : decide (c ∈ letN) = true := decide_eq_true h3
          simp only [nameL, e, Bool.true_and] at q
          have e2 : (signB c && r.all signB) = (c :: r).all signB := rfl
          rw [e2] at q
          simp only [dComp, startD, List.map_cons, List.map_nil, List.length_cons, List.length_nil, List.cons_append, List.nil_append, Nat.reduceAdd, Nat.reduceSub, List.replicate_zero, List.replicate_succ, dSeq, dIf, dTest, dOp, dUn, dV, dC, dRet, dRetN, dNext, dSet, dDrop, dAnd, dOr, dNot, dAndV, dOrV, dNotV, dIfE, dYes, dCall1, dCons, dNil, dTup, dLst, dCall, dFor, dI, dRng1, dRng2, gdName, dSetIx, dMeth, dSlice, dPart, dNoPart, dRaise, dX0, dX1, dFld, dProp, dCMeth, dSetFld, dMake, fld_e, add_i, add_s, sub_i, mul_i, fdiv_i, mod_i, pow_i, neg_i, lt_i, le_i, gt_i, ge_i, eq_i, eq_s, eq_b, ne_i, ix_s, ix_l, ix_o, ix_t, ix_r, is_n, is_bb, is_ib, is_sb, is_tb, in_t, in_f, len_s, len_l, len_o, len_t, len_r, int1_i, abs_i, str1_i, list1_t, list1_l, list1_o, tup1_t, tup1_l, tup1_r, mk_f, mk_t, sl_s, iter_s, iter_l, iter_o, iter_t, ins_r, app_r, isi_i, isi_s, isi_t, isi_b, D.isNon, List.getElem?_cons_zero, List.getElem?_cons_succ, List.set_cons_zero, List.set_cons_succ, Option.some.injEq, exists_eq_left', exists_eq_left, D.int.injEq, D.bl.injEq, D.str.injEq, D.tup.injEq, D.lst.injEq, D.ref.injEq, D.cls.injEq, Cell.lst.injEq, List.cons.injEq, decide_eq_true_eq, true_and, and_true, mset_same, mset_mset, Bool.not_eq_true', decide_eq_false_iff_not, Bool.false_eq_true, if_false, if_true, tb_int_int, tb_int_bool, tb_int_str, tb_int_tuple, tb_int_list, tb_str_int, tb_str_bool, tb_str_str, tb_str_tuple, tb_str_list, tb_tuple_int, tb_tuple_bool, tb_tuple_str, tb_tuple_tuple, tb_tuple_list, tb_bool_int, tb_bool_bool, tb_bool_str, tb_bool_tuple, tb_bool_list, tb_NoneType_int, tb_NoneType_bool, tb_NoneType_str, tb_NoneType_tuple, tb_NoneType_list, tb_list_int, tb_list_bool, tb_list_str, tb_list_tuple, tb_list_list, decide_true, decide_false, Bool.true_eq_false]
          unfold DL.signs
          rw [hc]
          have hl2 : (c :: r).length ≤ 1000 := by rw [← hc, ← hlen]; exact hl
          refine loop_named [] ("abcdefghijklmnopqrstuvwxyz" : Str) _ _ rfl (.str t) μ (by decide) rfl (c :: r) [] (by simp only [List.length_nil]; omega) fun zs hz => ?_
          have e4 : decide (((zs.length : Nat) : Int) = 0) = (c :: r).all signB := by
            rw [hz, List.length_nil, Nat.zero_add]
            cases hb : (c :: r).all signB with
            | true =>
              have : (c :: r).filter (fun c => !signB c) = [] := List.filter_eq_nil_iff.mpr fun x hx => by
                rw [List.all_eq_true.mp hb x hx]; decide
              rw [this]; rfl
            | false =>
              refine decide_eq_false fun h0 => ?_
              have h0 : ((c :: r).filter (fun c => !signB c)).length = 0 := by omega
              have h0 := List.filter_eq_nil_iff.mp (List.length_eq_zero_iff.mp h0)
              have : (c :: r).all signB = true := List.all_eq_true.mpr fun x hx => by
                have := h0 x hx
                simpa using this
              rw [hb] at this; cases this
          show Q (D.bl (decide (((zs.length : Nat) : Int) = 0))) μ
          rw [e4]
          exact q
def sp__law_due : DSp := fun ds μ Q _ => ∃ (t : Str) (cs : List Int) (l : Int), ds = [.str t, .tup (cs.map .int), .int l] ∧ t.length ≤ 1000 ∧ Q (dueD t cs l) μ
theorem wk__law_due (ds : List D) (μ : Mu) (Q : QD) (R : Str → List (Str × D) → Mu → Prop) (h : sp__law_due ds μ Q R) : body 3 3 (rd__law_due sp__law_named sp__law_ascending) ds μ Q R := by
  obtain ⟨t, cs, l, rfl, hl, q⟩ := h
  refine ⟨rfl, ?_⟩
  have z4 : (4 : Nat) ≤ sizeLine := sizeL (by decide)
  have z3 : (3 : Nat) ≤ sizeLine := sizeL (by decide)
  have z2 : (2 : Nat) ≤ sizeLine := sizeL (by decide)
  simp only [rd__law_due, startD, List.map_cons, List.map_nil, List.length_cons, List.length_nil, List.cons_append, List.nil_append, Nat.reduceAdd, Nat.reduceSub, List.replicate_zero, List.replicate_succ, dSeq, dIf, dTest, dOp, dUn, dV, dC, dRet, dRetN, dNext, dSet, dDrop, dAnd, dOr, dNot, dAndV, dOrV, dNotV, dIfE, dYes, dCall1, dCons, dNil, dTup, dLst, dCall, dFor, dI, dRng1, dRng2, gdName, dSetIx, dMeth, dSlice, dPart, dNoPart, dRaise, dX0, dX1, dFld, dProp, dCMeth, dSetFld, dMake, fld_e, add_i, add_s, sub_i, mul_i, fdiv_i, mod_i, pow_i, neg_i, lt_i, le_i, gt_i, ge_i, eq_i, eq_s, eq_b, ne_i, ix_s, ix_l, ix_o, ix_t, ix_r, is_n, is_bb, is_ib, is_sb, is_tb, in_t, in_f, len_s, len_l, len_o, len_t, len_r, int1_i, abs_i, str1_i, list1_t, list1_l, list1_o, tup1_t, tup1_l, tup1_r, mk_f, mk_t, sl_s, iter_s, iter_l, iter_o, iter_t, ins_r, app_r, isi_i, isi_s, isi_t, isi_b, D.isNon, List.getElem?_cons_zero, List.getElem?_cons_succ, List.set_cons_zero, List.set_cons_succ, Option.some.injEq, exists_eq_left', exists_eq_left, D.int.injEq, D.bl.injEq, D.str.injEq, D.tup.injEq, D.lst.injEq, D.ref.injEq, D.cls.injEq, Cell.lst.injEq, List.cons.injEq, decide_eq_true_eq, true_and, and_true, mset_same, mset_mset, Bool.not_eq_true', decide_eq_false_iff_not, Bool.false_eq_true, if_false, if_true, tb_int_int, tb_int_bool, tb_int_str, tb_int_tuple, tb_int_list, tb_str_int, tb_str_bool, tb_str_str, tb_str_tuple, tb_str_list, tb_tuple_int, tb_tuple_bool, tb_tuple_str, tb_tuple_tuple, tb_tuple_list, tb_bool_int, tb_bool_bool, tb_bool_str, tb_bool_tuple, tb_bool_list, tb_NoneType_int, tb_NoneType_bool, tb_NoneType_str, tb_NoneType_tuple, tb_NoneType_list, tb_list_int, tb_list_bool, tb_list_str, tb_list_tuple, tb_list_list, decide_true, decide_false, Bool.true_eq_false, z4, z3, z2]
  refine ⟨t, rfl, hl, nameB t, rfl, ?_⟩
  unfold dueD at q
  split
  · rename_i h
    rw [if_pos (by simpa using h)] at q
    exact q
  · rename_i h
    rw [if_neg (by simpa using h)] at q
    refine ⟨cs, rfl, ascL (-1) cs, rfl, ?_⟩
    cases ha : ascL (-1) cs with
    | false =>
      rw [if_pos (.inl ha)] at q
      exact q
    | true =>
      rw [if_neg (by decide)]
      split
      · rename_i h1
        rw [if_pos (.inr h1)] at q
        exact q
      · rename_i h1
        rw [if_neg (by rw [ha]; intro z; rcases z with z | z; cases z; exact h1 z)] at q
        exact q
def sp__law_outcome : DSp := fun ds μ Q _ => ∃ (t : Str) (cs : List Int) (l : Int) (s : Bool), ds = [.str t, .tup (cs.map .int), .int l, .bl s] ∧ t.length ≤ 1000 ∧ (s = true → l = 1) ∧ Q (dueD t cs l) μ
theorem wk__law_outcome (ds : List D) (μ : Mu) (Q : QD) (R : Str → List (Str × D) → Mu → Prop) (h : sp__law_outcome ds μ Q R) : body 4 7 (rd__law_outcome sp_Bound_single sp_Bound__D_init_D_ sp_Bound_door) ds μ Q R := by
  obtain ⟨t, cs, l, s, rfl, hl, hs, q⟩ := h
  refine ⟨rfl, ?_⟩
  have z4 : (4 : Nat) ≤ sizeLine := sizeL (by decide)
  have z3 : (3 : Nat) ≤ sizeLine := sizeL (by decide)
  have z2 : (2 : Nat) ≤ sizeLine := sizeL (by decide)
  simp only [rd__law_outcome, dTry, startD, List.map_cons, List.map_nil, List.length_cons, List.length_nil, List.cons_append, List.nil_append, Nat.reduceAdd, Nat.reduceSub, List.replicate_zero, List.replicate_succ, dSeq, dIf, dTest, dOp, dUn, dV, dC, dRet, dRetN, dNext, dSet, dDrop, dAnd, dOr, dNot, dAndV, dOrV, dNotV, dIfE, dYes, dCall1, dCons, dNil, dTup, dLst, dCall, dFor, dI, dRng1, dRng2, gdName, dSetIx, dMeth, dSlice, dPart, dNoPart, dRaise, dX0, dX1, dFld, dProp, dCMeth, dSetFld, dMake, fld_e, add_i, add_s, sub_i, mul_i, fdiv_i, mod_i, pow_i, neg_i, lt_i, le_i, gt_i, ge_i, eq_i, eq_s, eq_b, ne_i, ix_s, ix_l, ix_o, ix_t, ix_r, is_n, is_bb, is_ib, is_sb, is_tb, in_t, in_f, len_s, len_l, len_o, len_t, len_r, int1_i, abs_i, str1_i, list1_t, list1_l, list1_o, tup1_t, tup1_l, tup1_r, mk_f, mk_t, sl_s, iter_s, iter_l, iter_o, iter_t, ins_r, app_r, isi_i, isi_s, isi_t, isi_b, D.isNon, List.getElem?_cons_zero, List.getElem?_cons_succ, List.set_cons_zero, List.set_cons_succ, Option.some.injEq, exists_eq_left', exists_eq_left, D.int.injEq, D.bl.injEq, D.str.injEq, D.tup.injEq, D.lst.injEq, D.ref.injEq, D.cls.injEq, Cell.lst.injEq, List.cons.injEq, decide_eq_true_eq, true_and, and_true, mset_same, mset_mset, Bool.not_eq_true', decide_eq_false_iff_not, Bool.false_eq_true, if_false, if_true, tb_int_int, tb_int_bool, tb_int_str, tb_int_tuple, tb_int_list, tb_str_int, tb_str_bool, tb_str_str, tb_str_tuple, tb_str_list, tb_tuple_int, tb_tuple_bool, tb_tuple_str, tb_tuple_tuple, tb_tuple_list, tb_bool_int, tb_bool_bool, tb_bool_str, tb_bool_tuple, tb_bool_list, tb_NoneType_int, tb_NoneType_bool, tb_NoneType_str, tb_NoneType_tuple, tb_NoneType_list, tb_list_int, tb_list_bool, tb_list_str, tb_list_tuple, tb_list_list, decide_true, decide_false, Bool.true_eq_false, z4, z3, z2]
  have vN : ∀ (E : EndD) (R : RD) (ks : List ClD), nameB t = false → E.rt = Q → dHds E R (⟨"BadName", tabX ["BadName"] ["BadBound"], (some 5), fun a d c => dRet (dTup (dCons (dC (.str ("name" : Str))) (dCons (xfl a d c ["BadName"] "name" (dV 5)) (dCons (dCall1 (dIsE a d c ["BadName"] (isTabX c ["BadName"] [] "LooksError")) (dCons (dV 5) (dCons (dC (.cls "LooksError")) dNil))) (dCons (dOrV (dCall1 (dIsE a d c ["BadName"] (isTabX c [] ["BadName"] "DoubleName")) (dCons (dV 5) (dCons (dC (.cls "DoubleName")) dNil))) (dCall1 (dIsE a d c ["BadName"] (isTabX c [] ["BadName"] "BookError")) (dCons (dV 5) (dCons (dC (.cls "BookError")) dNil)))) dNil)))))⟩ :: ks) [some (.str t), some (.tup (cs.map .int)), some (.int l), some (.bl s), none, none, none] "BadName" [("name", .str t)] μ := by
    intro E R ks hn he
    refine ⟨true, by decide, fun _ a d => ?_, fun h => by cases h⟩
    simp only [ClD.suite, dGone, dRet, dTup, dCons, dNil, dC, dCall1, dOrV]
    refine xfl_e (by decide) rfl ?_
    refine ⟨_, rfl, isE_e (b := true) (by decide) (by decide) ?_⟩
    refine ⟨_, rfl, isE_e (b := false) (by decide) (by decide) ?_⟩
    refine ⟨false, rfl, ?_⟩
    rw [if_neg (by decide)]
    refine ⟨_, rfl, isE_e (b := false) (by decide) (by decide) ?_⟩
    refine ⟨sizeL (by simp), ?_⟩
    show E.rt _ μ
    rw [he]
    unfold dueD at q
    rw [if_pos hn] at q
    exact q
  have vB : ∀ (E : EndD) (R : RD) (k1 : ClD), k1.tab "BadBound" = some false → nameB t = true → ascL (-1) cs = false ∨ l < 1 → E.rt = Q → dHds E R [k1, ⟨"BadBound", tabX ["BadBound"] ["BadName"], (some 5), fun a d c => dSeq (dSet 6 (dOrV (dCall1 (dIsE a d c ["BadBound"] (isTabX c [] ["BadBound"] "NestedBound")) (dCons (dV 5) (dCons (dC (.cls "NestedBound")) dNil))) (dOrV (dCall1 (dIsE a d c ["BadBound"] (isTabX c [] ["BadBound"] "NoDoor")) (dCons (dV 5) (dCons (dC (.cls "NoDoor")) dNil))) (dCall1 (dIsE a d c ["BadBound"] (isTabX c [] ["BadBound"] "OtherSchema")) (dCons (dV 5) (dCons (dC (.cls "OtherSchema")) dNil))))))
      (dRet (dTup (dCons (dC (.str ("bound" : Str))) (dCons (dC (.str ("" : Str))) (dCons (dAndV (dCall1 (dIsE a d c ["BadBound"] (isTabX c ["BadBound"] [] "BookError")) (dCons (dV 5) (dCons (dC (.cls "BookError")) dNil))) (dCall1 (dIsE a d c ["BadBound"] (isTabX c ["BadBound"] [] "LooksError")) (dCons (dV 5) (dCons (dC (.cls "LooksError")) dNil)))) (dCons (dV 6) dNil))))))⟩] [some (.str t), some (.tup (cs.map .int)), some (.int l), some (.bl s), none, none, none] "BadBound" [] μ := by
    intro E R k1 hk hn hb he
    refine ⟨false, hk, (fun h => nomatch h), fun _ => ?_⟩
    refine ⟨true, by decide, fun _ a d => ?_, fun h => by cases h⟩
    simp only [ClD.suite, dGone, dSeq, dSet, dRet, dTup, dCons, dNil, dC, dCall1, dOrV, dAndV]
    refine ⟨_, rfl, isE_e (b := false) (by decide) (by decide) ?_⟩
    refine ⟨false, rfl, ?_⟩
    rw [if_neg (by decide)]
    refine ⟨_, rfl, isE_e (b := false) (by decide) (by decide) ?_⟩
    refine ⟨false, rfl, ?_⟩
    rw [if_neg (by decide)]
    refine ⟨_, rfl, isE_e (b := false) (by decide) (by decide) ?_⟩
    refine ⟨_, rfl, isE_e (b := true) (by decide) (by decide) ?_⟩
    refine ⟨true, rfl, ?_⟩
    rw [if_pos rfl]
    refine ⟨_, rfl, isE_e (b := true) (by decide) (by decide) ?_⟩
    refine ⟨_, rfl, ?_⟩
    refine ⟨sizeL (by simp), ?_⟩
    show E.rt _ μ
    rw [he]
    unfold dueD at q
    rw [if_neg (by rw [hn]; decide), if_pos hb] at q
    exact q
  have vQ : nameB t = true → ascL (-1) cs = true → 1 ≤ l → Q (.tup [.str "made", .tup [.str t, .tup (cs.map .int), .int l], .tup [.str t, .tup (cs.map .int)], .bl false]) μ := fun hn ha h1 => by
    unfold dueD at q
    rw [if_neg (by rw [hn]; decide), if_neg (by rw [ha]; intro z; rcases z with z | z; cases z; omega)] at q
    exact q
  cases s with
  | true =>
    obtain rfl := hs rfl
    rw [if_pos rfl]
    refine ⟨t, cs, rfl, hl, fun hn => vN _ _ _ hn rfl, fun hn hb => vB _ _ _ (by decide) hn hb rfl, fun hn ha h1 => ?_⟩
    simp only [boundD, startD, List.map_cons, List.map_nil, List.length_cons, List.length_nil, List.cons_append, List.nil_append, Nat.reduceAdd, Nat.reduceSub, List.replicate_zero, List.replicate_succ, dSeq, dIf, dTest, dOp, dUn, dV, dC, dRet, dRetN, dNext, dSet, dDrop, dAnd, dOr, dNot, dAndV, dOrV, dNotV, dIfE, dYes, dCall1, dCons, dNil, dTup, dLst, dCall, dFor, dI, dRng1, dRng2, gdName, dSetIx, dMeth, dSlice, dPart, dNoPart, dRaise, dX0, dX1, dFld, dProp, dCMeth, dSetFld, dMake, fld_e, add_i, add_s, sub_i, mul_i, fdiv_i, mod_i, pow_i, neg_i, lt_i, le_i, gt_i, ge_i, eq_i, eq_s, eq_b, ne_i, ix_s, ix_l, ix_o, ix_t, ix_r, is_n, is_bb, is_ib, is_sb, is_tb, in_t, in_f, len_s, len_l, len_o, len_t, len_r, int1_i, abs_i, str1_i, list1_t, list1_l, list1_o, tup1_t, tup1_l, tup1_r, mk_f, mk_t, sl_s, iter_s, iter_l, iter_o, iter_t, ins_r, app_r, isi_i, isi_s, isi_t, isi_b, D.isNon, List.getElem?_cons_zero, List.getElem?_cons_succ, List.set_cons_zero, List.set_cons_succ, Option.some.injEq, exists_eq_left', exists_eq_left, D.int.injEq, D.bl.injEq, D.str.injEq, D.tup.injEq, D.lst.injEq, D.ref.injEq, D.cls.injEq, Cell.lst.injEq, List.cons.injEq, decide_eq_true_eq, true_and, and_true, mset_same, mset_mset, Bool.not_eq_true', decide_eq_false_iff_not, Bool.false_eq_true, if_false, if_true, tb_int_int, tb_int_bool, tb_int_str, tb_int_tuple, tb_int_list, tb_str_int, tb_str_bool, tb_str_str, tb_str_tuple, tb_str_list, tb_tuple_int, tb_tuple_bool, tb_tuple_str, tb_tuple_tuple, tb_tuple_list, tb_bool_int, tb_bool_bool, tb_bool_str, tb_bool_tuple, tb_bool_list, tb_NoneType_int, tb_NoneType_bool, tb_NoneType_str, tb_NoneType_tuple, tb_NoneType_list, tb_list_int, tb_list_bool, tb_list_str, tb_list_tuple, tb_list_list, decide_true, decide_false, Bool.true_eq_false]
    exact ⟨⟨_, rfl⟩, t, cs, 1, rfl, vQ hn ha h1⟩
  | false =>
    rw [if_neg (by decide)]
    refine mk_bound hl (fun hn => vN _ _ _ hn rfl) (fun hn hb => vB _ _ _ (by decide) hn hb rfl) (fun hn ha h1 => ?_)
    simp only [boundD, startD, List.map_cons, List.map_nil, List.length_cons, List.length_nil, List.cons_append, List.nil_append, Nat.reduceAdd, Nat.reduceSub, List.replicate_zero, List.replicate_succ, dSeq, dIf, dTest, dOp, dUn, dV, dC, dRet, dRetN, dNext, dSet, dDrop, dAnd, dOr, dNot, dAndV, dOrV, dNotV, dIfE, dYes, dCall1, dCons, dNil, dTup, dLst, dCall, dFor, dI, dRng1, dRng2, gdName, dSetIx, dMeth, dSlice, dPart, dNoPart, dRaise, dX0, dX1, dFld, dProp, dCMeth, dSetFld, dMake, fld_e, add_i, add_s, sub_i, mul_i, fdiv_i, mod_i, pow_i, neg_i, lt_i, le_i, gt_i, ge_i, eq_i, eq_s, eq_b, ne_i, ix_s, ix_l, ix_o, ix_t, ix_r, is_n, is_bb, is_ib, is_sb, is_tb, in_t, in_f, len_s, len_l, len_o, len_t, len_r, int1_i, abs_i, str1_i, list1_t, list1_l, list1_o, tup1_t, tup1_l, tup1_r, mk_f, mk_t, sl_s, iter_s, iter_l, iter_o, iter_t, ins_r, app_r, isi_i, isi_s, isi_t, isi_b, D.isNon, List.getElem?_cons_zero, List.getElem?_cons_succ, List.set_cons_zero, List.set_cons_succ, Option.some.injEq, exists_eq_left', exists_eq_left, D.int.injEq, D.bl.injEq, D.str.injEq, D.tup.injEq, D.lst.injEq, D.ref.injEq, D.cls.injEq, Cell.lst.injEq, List.cons.injEq, decide_eq_true_eq, true_and, and_true, mset_same, mset_mset, Bool.not_eq_true', decide_eq_false_iff_not, Bool.false_eq_true, if_false, if_true, tb_int_int, tb_int_bool, tb_int_str, tb_int_tuple, tb_int_list, tb_str_int, tb_str_bool, tb_str_str, tb_str_tuple, tb_str_list, tb_tuple_int, tb_tuple_bool, tb_tuple_str, tb_tuple_tuple, tb_tuple_list, tb_bool_int, tb_bool_bool, tb_bool_str, tb_bool_tuple, tb_bool_list, tb_NoneType_int, tb_NoneType_bool, tb_NoneType_str, tb_NoneType_tuple, tb_NoneType_list, tb_list_int, tb_list_bool, tb_list_str, tb_list_tuple, tb_list_list, decide_true, decide_false, Bool.true_eq_false]
    exact ⟨⟨_, rfl⟩, t, cs, l, rfl, vQ hn ha h1⟩
/-! ### the same -/
def plainN : Nat → D → Prop
  | 0, _ => False
  | _ + 1, .non => True
  | _ + 1, .bl _ => True
  | _ + 1, .int _ => True
  | _ + 1, .str _ => True
  | n + 1, .tup xs => xs.length ≤ 1000 ∧ ∀ x ∈ xs, plainN n x
  | _, _ => False
def sp__law_sameN (n : Nat) : DSp := fun ds μ Q _ => ∃ d, ds = [d, d] ∧ plainN n d ∧ Q (.bl true) μ
def sp__law_same : DSp := sp__law_sameN 4
theorem loop_same (n : Nat) (R : RD) (E : EndD) (tb : TSD) (htb : tb = dIf (dNot (dTest (dCall (sp__law_sameN n) (dCons (dOp dIx (dV 0) (dV 2)) (dCons (dOp dIx (dV 1) (dV 2)) dNil))))) (dRet (dC (.bl false))) dNext) (xs : List D) (μ : Mu) (hx : ∀ x ∈ xs, plainN n x) (h : ∀ y, E.nx [some (.tup xs), some (.tup xs), y] μ) :
    ∀ (ks : List Nat) (y : Option D), (∀ k ∈ ks, k < xs.length) → forD (gdName 2) tb R E (ks.map fun k => .int (0 + (k : Nat))) [some (.tup xs), some (.tup xs), y] μ
  | [], y, _ => h y
  | k :: r, y, hk => by
    subst htb
    have ih := loop_same n R E _ rfl xs μ hx h r (some (.int (0 + (k : Nat)))) fun j hj => hk j (.tail _ hj)
    have hk0 := hk k (.head _)
    have e : atI xs (0 + (k : Int)) = some (xs[k]'hk0) := by rw [Int.zero_add]; exact atI_nat hk0
    simp only [forD, startD, List.map_cons, List.map_nil, List.length_cons, List.length_nil, List.cons_append, List.nil_append, Nat.reduceAdd, Nat.reduceSub, List.replicate_zero, List.replicate_succ, dSeq, dIf, dTest, dOp, dUn, dV, dC, dRet, dRetN, dNext, dSet, dDrop, dAnd, dOr, dNot, dAndV, dOrV, dNotV, dIfE, dYes, dCall1, dCons, dNil, dTup, dLst, dCall, dFor, dI, dRng1, dRng2, gdName, dSetIx, dMeth, dSlice, dPart, dNoPart, dRaise, dX0, dX1, dFld, dProp, dCMeth, dSetFld, dMake, fld_e, add_i, add_s, sub_i, mul_i, fdiv_i, mod_i, pow_i, neg_i, lt_i, le_i, gt_i, ge_i, eq_i, eq_s, eq_b, ne_i, ix_s, ix_l, ix_o, ix_t, ix_r, is_n, is_bb, is_ib, is_sb, is_tb, in_t, in_f, len_s, len_l, len_o, len_t, len_r, int1_i, abs_i, str1_i, list1_t, list1_l, list1_o, tup1_t, tup1_l, tup1_r, mk_f, mk_t, sl_s, iter_s, iter_l, iter_o, iter_t, ins_r, app_r, isi_i, isi_s, isi_t, isi_b, D.isNon, List.getElem?_cons_zero, List.getElem?_cons_succ, List.set_cons_zero, List.set_cons_succ, Option.some.injEq, exists_eq_left', exists_eq_left, D.int.injEq, D.bl.injEq, D.str.injEq, D.tup.injEq, D.lst.injEq, D.ref.injEq, D.cls.injEq, Cell.lst.injEq, List.cons.injEq, decide_eq_true_eq, true_and, and_true, mset_same, mset_mset, Bool.not_eq_true', decide_eq_false_iff_not, Bool.false_eq_true, if_false, if_true, tb_int_int, tb_int_bool, tb_int_str, tb_int_tuple, tb_int_list, tb_str_int, tb_str_bool, tb_str_str, tb_str_tuple, tb_str_list, tb_tuple_int, tb_tuple_bool, tb_tuple_str, tb_tuple_tuple, tb_tuple_list, tb_bool_int, tb_bool_bool, tb_bool_str, tb_bool_tuple, tb_bool_list, tb_NoneType_int, tb_NoneType_bool, tb_NoneType_str, tb_NoneType_tuple, tb_NoneType_list, tb_list_int, tb_list_bool, tb_list_str, tb_list_tuple, tb_list_list, decide_true, decide_false, Bool.true_eq_false, e]
    exact ⟨_, rfl, hx _ (List.getElem_mem _), true, rfl, by simpa using ih⟩
theorem wkN (n : Nat) (ds : List D) (μ : Mu) (Q : QD) (R : Str → List (Str × D) → Mu → Prop) (h : sp__law_sameN (n + 1) ds μ Q R) : body 2 3 (rd__law_same (sp__law_sameN n)) ds μ Q R := by
  obtain ⟨d, rfl, hp, q⟩ := h
  refine ⟨rfl, ?_⟩
  cases d with
  | non => simp only [rd__law_same, startD, List.map_cons, List.map_nil, List.length_cons, List.length_nil, List.cons_append, List.nil_append, Nat.reduceAdd, Nat.reduceSub, List.replicate_zero, List.replicate_succ, dSeq, dIf, dTest, dOp, dUn, dV, dC, dRet, dRetN, dNext, dSet, dDrop, dAnd, dOr, dNot, dAndV, dOrV, dNotV, dIfE, dYes, dCall1, dCons, dNil, dTup, dLst, dCall, dFor, dI, dRng1, dRng2, gdName, dSetIx, dMeth, dSlice, dPart, dNoPart, dRaise, dX0, dX1, dFld, dProp, dCMeth, dSetFld, dMake, fld_e, add_i, add_s, sub_i, mul_i, fdiv_i, mod_i, pow_i, neg_i, lt_i, le_i, gt_i, ge_i, eq_i, eq_s, eq_b, ne_i, ix_s, ix_l, ix_o, ix_t, ix_r, is_n, is_bb, is_ib, is_sb, is_tb, in_t, in_f, len_s, len_l, len_o, len_t, len_r, int1_i, abs_i, str1_i, list1_t, list1_l, list1_o, tup1_t, tup1_l, tup1_r, mk_f, mk_t, sl_s, iter_s, iter_l, iter_o, iter_t, ins_r, app_r, isi_i, isi_s, isi_t, isi_b, D.isNon, List.getElem?_cons_zero, List.getElem?_cons_succ, List.set_cons_zero, List.set_cons_succ, Option.some.injEq, exists_eq_left', exists_eq_left, D.int.injEq, D.bl.injEq, D.str.injEq, D.tup.injEq, D.lst.injEq, D.ref.injEq, D.cls.injEq, Cell.lst.injEq, List.cons.injEq, decide_eq_true_eq, true_and, and_true, mset_same, mset_mset, Bool.not_eq_true', decide_eq_false_iff_not, Bool.false_eq_true, if_false, if_true, tb_int_int, tb_int_bool, tb_int_str, tb_int_tuple, tb_int_list, tb_str_int, tb_str_bool, tb_str_str, tb_str_tuple, tb_str_list, tb_tuple_int, tb_tuple_bool, tb_tuple_str, tb_tuple_tuple, tb_tuple_list, tb_bool_int, tb_bool_bool, tb_bool_str, tb_bool_tuple, tb_bool_list, tb_NoneType_int, tb_NoneType_bool, tb_NoneType_str, tb_NoneType_tuple, tb_NoneType_list, tb_list_int, tb_list_bool, tb_list_str, tb_list_tuple, tb_list_list, decide_true, decide_false, Bool.true_eq_false]; exact q
  | bl b => cases b <;> (simp only [rd__law_same, startD, List.map_cons, List.map_nil, List.length_cons, List.length_nil, List.cons_append, List.nil_append, Nat.reduceAdd, Nat.reduceSub, List.replicate_zero, List.replicate_succ, dSeq, dIf, dTest, dOp, dUn, dV, dC, dRet, dRetN, dNext, dSet, dDrop, dAnd, dOr, dNot, dAndV, dOrV, dNotV, dIfE, dYes, dCall1, dCons, dNil, dTup, dLst, dCall, dFor, dI, dRng1, dRng2, gdName, dSetIx, dMeth, dSlice, dPart, dNoPart, dRaise, dX0, dX1, dFld, dProp, dCMeth, dSetFld, dMake, fld_e, add_i, add_s, sub_i, mul_i, fdiv_i, mod_i, pow_i, neg_i, lt_i, le_i, gt_i, ge_i, eq_i, eq_s, eq_b, ne_i, ix_s, ix_l, ix_o, ix_t, ix_r, is_n, is_bb, is_ib, is_sb, is_tb, in_t, in_f, len_s, len_l, len_o, len_t, len_r, int1_i, abs_i, str1_i, list1_t, list1_l, list1_o, tup1_t, tup1_l, tup1_r, mk_f, mk_t, sl_s, iter_s, iter_l, iter_o, iter_t, ins_r, app_r, isi_i, isi_s, isi_t, isi_b, D.isNon, List.getElem?_cons_zero, List.getElem?_cons_succ, List.set_cons_zero, List.set_cons_succ, Option.some.injEq, exists_eq_left', exists_eq_left, D.int.injEq, D.bl.injEq, D.str.injEq, D.tup.injEq, D.lst.injEq, D.ref.injEq, D.cls.injEq, Cell.lst.injEq, List.cons.injEq, decide_eq_true_eq, true_and, and_true, mset_same, mset_mset, Bool.not_eq_true', decide_eq_false_iff_not, Bool.false_eq_true, if_false, if_true, tb_int_int, tb_int_bool, tb_int_str, tb_int_tuple, tb_int_list, tb_str_int, tb_str_bool, tb_str_str, tb_str_tuple, tb_str_list, tb_tuple_int, tb_tuple_bool, tb_tuple_str, tb_tuple_tuple, tb_tuple_list, tb_bool_int, tb_bool_bool, tb_bool_str, tb_bool_tuple, tb_bool_list, tb_NoneType_int, tb_NoneType_bool, tb_NoneType_str, tb_NoneType_tuple, tb_NoneType_list, tb_list_int, tb_list_bool, tb_list_str, tb_list_tuple, tb_list_list, decide_true, decide_false, Bool.true_eq_false, decide_true]; exact q)
  | int i => simp only [rd__law_same, startD, List.map_cons, List.map_nil, List.length_cons, List.length_nil, List.cons_append, List.nil_append, Nat.reduceAdd, Nat.reduceSub, List.replicate_zero, List.replicate_succ, dSeq, dIf, dTest, dOp, dUn, dV, dC, dRet, dRetN, dNext, dSet, dDrop, dAnd, dOr, dNot, dAndV, dOrV, dNotV, dIfE, dYes, dCall1, dCons, dNil, dTup, dLst, dCall, dFor, dI, dRng1, dRng2, gdName, dSetIx, dMeth, dSlice, dPart, dNoPart, dRaise, dX0, dX1, dFld, dProp, dCMeth, dSetFld, dMake, fld_e, add_i, add_s, sub_i, mul_i, fdiv_i, mod_i, pow_i, neg_i, lt_i, le_i, gt_i, ge_i, eq_i, eq_s, eq_b, ne_i, ix_s, ix_l, ix_o, ix_t, ix_r, is_n, is_bb, is_ib, is_sb, is_tb, in_t, in_f, len_s, len_l, len_o, len_t, len_r, int1_i, abs_i, str1_i, list1_t, list1_l, list1_o, tup1_t, tup1_l, tup1_r, mk_f, mk_t, sl_s, iter_s, iter_l, iter_o, iter_t, ins_r, app_r, isi_i, isi_s, isi_t, isi_b, D.isNon, List.getElem?_cons_zero, List.getElem?_cons_succ, List.set_cons_zero, List.set_cons_succ, Option.some.injEq, exists_eq_left', exists_eq_left, D.int.injEq, D.bl.injEq, D.str.injEq, D.tup.injEq, D.lst.injEq, D.ref.injEq, D.cls.injEq, Cell.lst.injEq, List.cons.injEq, decide_eq_true_eq, true_and, and_true, mset_same, mset_mset, Bool.not_eq_true', decide_eq_false_iff_not, Bool.false_eq_true, if_false, if_true, tb_int_int, tb_int_bool, tb_int_str, tb_int_tuple, tb_int_list, tb_str_int, tb_str_bool, tb_str_str, tb_str_tuple, tb_str_list, tb_tuple_int, tb_tuple_bool, tb_tuple_str, tb_tuple_tuple, tb_tuple_list, tb_bool_int, tb_bool_bool, tb_bool_str, tb_bool_tuple, tb_bool_list, tb_NoneType_int, tb_NoneType_bool, tb_NoneType_str, tb_NoneType_tuple, tb_NoneType_list, tb_list_int, tb_list_bool, tb_list_str, tb_list_tuple, tb_list_list, decide_true, decide_false, Bool.true_eq_false]; exact q
  | str z => simp only [rd__law_same, startD, List.map_cons, List.map_nil, List.length_cons, List.length_nil, List.cons_append, List.nil_append, Nat.reduceAdd, Nat.reduceSub, List.replicate_zero, List.replicate_succ, dSeq, dIf, dTest, dOp, dUn, dV, dC, dRet, dRetN, dNext, dSet, dDrop, dAnd, dOr, dNot, dAndV, dOrV, dNotV, dIfE, dYes, dCall1, dCons, dNil, dTup, dLst, dCall, dFor, dI, dRng1, dRng2, gdName, dSetIx, dMeth, dSlice, dPart, dNoPart, dRaise, dX0, dX1, dFld, dProp, dCMeth, dSetFld, dMake, fld_e, add_i, add_s, sub_i, mul_i, fdiv_i, mod_i, pow_i, neg_i, lt_i, le_i, gt_i, ge_i, eq_i, eq_s, eq_b, ne_i, ix_s, ix_l, ix_o, ix_t, ix_r, is_n, is_bb, is_ib, is_sb, is_tb, in_t, in_f, len_s, len_l, len_o, len_t, len_r, int1_i, abs_i, str1_i, list1_t, list1_l, list1_o, tup1_t, tup1_l, tup1_r, mk_f, mk_t, sl_s, iter_s, iter_l, iter_o, iter_t, ins_r, app_r, isi_i, isi_s, isi_t, isi_b, D.isNon, List.getElem?_cons_zero, List.getElem?_cons_succ, List.set_cons_zero, List.set_cons_succ, Option.some.injEq, exists_eq_left', exists_eq_left, D.int.injEq, D.bl.injEq, D.str.injEq, D.tup.injEq, D.lst.injEq, D.ref.injEq, D.cls.injEq, Cell.lst.injEq, List.cons.injEq, decide_eq_true_eq, true_and, and_true, mset_same, mset_mset, Bool.not_eq_true', decide_eq_false_iff_not, Bool.false_eq_true, if_false, if_true, tb_int_int, tb_int_bool, tb_int_str, tb_int_tuple, tb_int_list, tb_str_int, tb_str_bool, tb_str_str, tb_str_tuple, tb_str_list, tb_tuple_int, tb_tuple_bool, tb_tuple_str, tb_tuple_tuple, tb_tuple_list, tb_bool_int, tb_bool_bool, tb_bool_str, tb_bool_tuple, tb_bool_list, tb_NoneType_int, tb_NoneType_bool, tb_NoneType_str, tb_NoneType_tuple, tb_NoneType_list, tb_list_int, tb_list_bool, tb_list_str, tb_list_tuple, tb_list_list, decide_true, decide_false, Bool.true_eq_false]; exact q
  | tup xs =>
    obtain ⟨hl, hx⟩ := hp
    simp only [rd__law_same, startD, List.map_cons, List.map_nil, List.length_cons, List.length_nil, List.cons_append, List.nil_append, Nat.reduceAdd, Nat.reduceSub, List.replicate_zero, List.replicate_succ, dSeq, dIf, dTest, dOp, dUn, dV, dC, dRet, dRetN, dNext, dSet, dDrop, dAnd, dOr, dNot, dAndV, dOrV, dNotV, dIfE, dYes, dCall1, dCons, dNil, dTup, dLst, dCall, dFor, dI, dRng1, dRng2, gdName, dSetIx, dMeth, dSlice, dPart, dNoPart, dRaise, dX0, dX1, dFld, dProp, dCMeth, dSetFld, dMake, fld_e, add_i, add_s, sub_i, mul_i, fdiv_i, mod_i, pow_i, neg_i, lt_i, le_i, gt_i, ge_i, eq_i, eq_s, eq_b, ne_i, ix_s, ix_l, ix_o, ix_t, ix_r, is_n, is_bb, is_ib, is_sb, is_tb, in_t, in_f, len_s, len_l, len_o, len_t, len_r, int1_i, abs_i, str1_i, list1_t, list1_l, list1_o, tup1_t, tup1_l, tup1_r, mk_f, mk_t, sl_s, iter_s, iter_l, iter_o, iter_t, ins_r, app_r, isi_i, isi_s, isi_t, isi_b, D.isNon, List.getElem?_cons_zero, List.getElem?_cons_succ, List.set_cons_zero, List.set_cons_succ, Option.some.injEq, exists_eq_left', exists_eq_left, D.int.injEq, D.bl.injEq, D.str.injEq, D.tup.injEq, D.lst.injEq, D.ref.injEq, D.cls.injEq, Cell.lst.injEq, List.cons.injEq, decide_eq_true_eq, true_and, and_true, mset_same, mset_mset, Bool.not_eq_true', decide_eq_false_iff_not, Bool.false_eq_true, if_false, if_true, tb_int_int, tb_int_bool, tb_int_str, tb_int_tuple, tb_int_list, tb_str_int, tb_str_bool, tb_str_str, tb_str_tuple, tb_str_list, tb_tuple_int, tb_tuple_bool, tb_tuple_str, tb_tuple_tuple, tb_tuple_list, tb_bool_int, tb_bool_bool, tb_bool_str, tb_bool_tuple, tb_bool_list, tb_NoneType_int, tb_NoneType_bool, tb_NoneType_str, tb_NoneType_tuple, tb_NoneType_list, tb_list_int, tb_list_bool, tb_list_str, tb_list_tuple, tb_list_list, decide_true, decide_false, Bool.true_eq_false, Bool.not_true]
    refine ⟨by omega, by omega, ?_⟩
    exact loop_same n _ _ _ rfl xs μ hx (fun _ => q) (List.range xs.length) none (fun k hk => List.mem_range.mp hk)
  | lst _ => cases hp
  | rol _ => cases hp
  | slt _ _ => cases hp
  | cls _ => cases hp
  | ty _ => cases hp
  | ref _ => cases hp
  | exc _ _ _ _ _ => cases hp

theorem rec__law_same {P : Program} {w : World} {K : PySem.W.Frag} {mg : Str → Option Value} {base : Heap} {fd : FuncData} (Y : Say P K mg) (F : FunD K "_law_same" "_law_same" (defArgs s__law_same) (defBody s__law_same) (defScope s__law_same) [] [] (DH.atA K (.glo "_law_same")) fd) :
    FnD P w K mg base 4 (DH.atA K (.glo "_law_same")) sp__law_same := by
  have all : ∀ n, FnD P w K mg base n (DH.atA K (.glo "_law_same")) (sp__law_sameN n) := by
    intro n
    induction n with
    | zero => exact fn_false fun ds μ Q R ⟨d, _, h, _⟩ => by cases d <;> exact h
    | succ n ih => exact FnD.weak (fnD (ok__law_same Y F (Nat.zero_le _) ih) F bn__law_same) (wkN n)
  exact all 4
/-! ### given columns, others -/
def sp__law_given : DSp := fun ds μ Q _ => ∃ code : Int, ds = [.int code, .int 4] ∧ ∀ cs : List Int, ascL (-1) cs = true → cs.length ≤ 4 → Q (.tup (cs.map .int)) μ
theorem wk__law_given (ds : List D) (μ : Mu) (Q : QD) (R : Str → List (Str × D) → Mu → Prop) (h : sp__law_given ds μ Q R) : body 2 3 rd__law_given ds μ Q R := by
  obtain ⟨code, rfl, q⟩ := h
  refine ⟨rfl, ?_⟩
  have z4 : (4 : Nat) ≤ sizeLine := sizeL (by decide)
  simp only [rd__law_given, dComp, startD, List.map_cons, List.map_nil, List.length_cons, List.length_nil, List.cons_append, List.nil_append, Nat.reduceAdd, Nat.reduceSub, List.replicate_zero, List.replicate_succ, dSeq, dIf, dTest, dOp, dUn, dV, dC, dRet, dRetN, dNext, dSet, dDrop, dAnd, dOr, dNot, dAndV, dOrV, dNotV, dIfE, dYes, dCall1, dCons, dNil, dTup, dLst, dCall, dFor, dI, dRng1, dRng2, gdName, dSetIx, dMeth, dSlice, dPart, dNoPart, dRaise, dX0, dX1, dFld, dProp, dCMeth, dSetFld, dMake, fld_e, add_i, add_s, sub_i, mul_i, fdiv_i, mod_i, pow_i, neg_i, lt_i, le_i, gt_i, ge_i, eq_i, eq_s, eq_b, ne_i, ix_s, ix_l, ix_o, ix_t, ix_r, is_n, is_bb, is_ib, is_sb, is_tb, in_t, in_f, len_s, len_l, len_o, len_t, len_r, int1_i, abs_i, str1_i, list1_t, list1_l, list1_o, tup1_t, tup1_l, tup1_r, mk_f, mk_t, sl_s, iter_s, iter_l, iter_o, iter_t, ins_r, app_r, isi_i, isi_s, isi_t, isi_b, D.isNon, List.getElem?_cons_zero, List.getElem?_cons_succ, List.set_cons_zero, List.set_cons_succ, Option.some.injEq, exists_eq_left', exists_eq_left, D.int.injEq, D.bl.injEq, D.str.injEq, D.tup.injEq, D.lst.injEq, D.ref.injEq, D.cls.injEq, Cell.lst.injEq, List.cons.injEq, decide_eq_true_eq, true_and, and_true, mset_same, mset_mset, Bool.not_eq_true', decide_eq_false_iff_not, Bool.false_eq_true, if_false, if_true, tb_int_int, tb_int_bool, tb_int_str, tb_int_tuple, tb_int_list, tb_str_int, tb_str_bool, tb_str_str, tb_str_tuple, tb_str_list, tb_tuple_int, tb_tuple_bool, tb_tuple_str, tb_tuple_tuple, tb_tuple_list, tb_bool_int, tb_bool_bool, tb_bool_str, tb_bool_tuple, tb_bool_list, tb_NoneType_int, tb_NoneType_bool, tb_NoneType_str, tb_NoneType_tuple, tb_NoneType_list, tb_list_int, tb_list_bool, tb_list_str, tb_list_tuple, tb_list_list, decide_true, decide_false, Bool.true_eq_false, z4]
  refine ⟨by decide, by decide, ?_⟩
  show compD _ _ _ _ _ [.int 0, .int 1, .int 2, .int 3] [] μ
  have a0 : atI [D.int 1, .int 2, .int 4, .int 8] 0 = some (.int 1) := rfl
  have a1 : atI [D.int 1, .int 2, .int 4, .int 8] 1 = some (.int 2) := rfl
  have a2 : atI [D.int 1, .int 2, .int 4, .int 8] 2 = some (.int 4) := rfl
  have a3 : atI [D.int 1, .int 2, .int 4, .int 8] 3 = some (.int 8) := rfl
  have d1 : CDiv code 1 := ⟨by decide, by decide⟩
  have d2 : CDiv code 2 := ⟨by decide, by decide⟩
  have d4 : CDiv code 4 := ⟨by decide, by decide⟩
  have d8 : CDiv code 8 := ⟨by decide, by decide⟩
  have m2 : (0 : Int) < 2 := by decide
  have s0 : 0 < sizeLine := sizeL' (by decide)
  have s1 : 1 < sizeLine := sizeL' (by decide)
  have s2 : 2 < sizeLine := sizeL' (by decide)
  have s3 : 3 < sizeLine := sizeL' (by decide)
  simp only [compD, wipeD, startD, List.map_cons, List.map_nil, List.length_cons, List.length_nil, List.cons_append, List.nil_append, Nat.reduceAdd, Nat.reduceSub, List.replicate_zero, List.replicate_succ, dSeq, dIf, dTest, dOp, dUn, dV, dC, dRet, dRetN, dNext, dSet, dDrop, dAnd, dOr, dNot, dAndV, dOrV, dNotV, dIfE, dYes, dCall1, dCons, dNil, dTup, dLst, dCall, dFor, dI, dRng1, dRng2, gdName, dSetIx, dMeth, dSlice, dPart, dNoPart, dRaise, dX0, dX1, dFld, dProp, dCMeth, dSetFld, dMake, fld_e, add_i, add_s, sub_i, mul_i, fdiv_i, mod_i, pow_i, neg_i, lt_i, le_i, gt_i, ge_i, eq_i, eq_s, eq_b, ne_i, ix_s, ix_l, ix_o, ix_t, ix_r, is_n, is_bb, is_ib, is_sb, is_tb, in_t, in_f, len_s, len_l, len_o, len_t, len_r, int1_i, abs_i, str1_i, list1_t, list1_l, list1_o, tup1_t, tup1_l, tup1_r, mk_f, mk_t, sl_s, iter_s, iter_l, iter_o, iter_t, ins_r, app_r, isi_i, isi_s, isi_t, isi_b, D.isNon, List.getElem?_cons_zero, List.getElem?_cons_succ, List.set_cons_zero, List.set_cons_succ, Option.some.injEq, exists_eq_left', exists_eq_left, D.int.injEq, D.bl.injEq, D.str.injEq, D.tup.injEq, D.lst.injEq, D.ref.injEq, D.cls.injEq, Cell.lst.injEq, List.cons.injEq, decide_eq_true_eq, true_and, and_true, mset_same, mset_mset, Bool.not_eq_true', decide_eq_false_iff_not, Bool.false_eq_true, if_false, if_true, tb_int_int, tb_int_bool, tb_int_str, tb_int_tuple, tb_int_list, tb_str_int, tb_str_bool, tb_str_str, tb_str_tuple, tb_str_list, tb_tuple_int, tb_tuple_bool, tb_tuple_str, tb_tuple_tuple, tb_tuple_list, tb_bool_int, tb_bool_bool, tb_bool_str, tb_bool_tuple, tb_bool_list, tb_NoneType_int, tb_NoneType_bool, tb_NoneType_str, tb_NoneType_tuple, tb_NoneType_list, tb_list_int, tb_list_bool, tb_list_str, tb_list_tuple, tb_list_list, decide_true, decide_false, Bool.true_eq_false, z4, a0, a1, a2, a3, d1, d2, d4, d8, m2, s0, s1, s2, s3]
  split <;> split <;> split <;> split <;> first | exact q [] (by decide) (by decide) | exact q [0] (by decide) (by decide) | exact q [1] (by decide) (by decide) | exact q [2] (by decide) (by decide) | exact q [3] (by decide) (by decide) | exact q [0, 1] (by decide) (by decide) | exact q [0, 2] (by decide) (by decide) | exact q [0, 3] (by decide) (by decide) | exact q [1, 2] (by decide) (by decide) | exact q [1, 3] (by decide) (by decide) | exact q [2, 3] (by decide) (by decide) | exact q [0, 1, 2] (by decide) (by decide) | exact q [0, 1, 3] (by decide) (by decide) | exact q [0, 2, 3] (by decide) (by decide) | exact q [1, 2, 3] (by decide) (by decide) | exact q [0, 1, 2, 3] (by decide) (by decide)
/-- the draws' cell -/
def Dr (μ : Mu) (a : Addr) : Prop := ∃ (cs : List Int) (i j k : Int), μ a = some (drC cs i j k) ∧ 0 ≤ i
theorem Dr.set {μ : Mu} {a : Addr} {cs : List Int} {i j k : Int} (h : 0 ≤ i) : Dr (mset μ a (drC cs i j k)) a := ⟨cs, i, j, k, mset_same, h⟩
/-- a draw, its frame -/
theorem draw_ok {a : Addr} {μ : Mu} {m : Int} {Q : QD} {R : Str → List (Str × D) → Mu → Prop} (h : Dr μ a) (hm : m < 1073741824) (q : ∀ (μ' : Mu) (r : Int), Dr μ' a → (∀ b, b ≠ a → μ' b = μ b) → 0 ≤ r → (r < m ∨ r = 0) → Q (.int r) μ') : sp__law_draw [.ref a, .int m] μ Q R := by
  obtain ⟨cs, i, j, k, h1, h2⟩ := h
  exact ⟨a, m, cs, i, j, k, rfl, h1, h2, hm, fun i' j' k' r hi h0 hr => q _ r (Dr.set hi) (fun b hb => mset_ne hb) h0 hr⟩
def sp__law_columns : DSp := fun ds μ Q _ => ∃ (a : Addr) (good : List Int), ds = [.ref a, .tup (good.map .int)] ∧ good.length ≤ 4 ∧ Dr μ a ∧ ∀ (cs : List Int) (μ' : Mu), cs.length ≤ 1000 → Dr μ' a → Q (.tup (cs.map .int)) μ'
theorem loop_cols (δ : Dl) (a : Addr) (Q : List D → Mu → Prop) (x2 x3 x4 x5 y : Option D) (g : D) (hd : δ = [some (.ref a), some g, x2, x3, x4, x5, y]) :
    ∀ (ks : List D) (acc : List Int) (μ : Mu), acc.length + ks.length ≤ 1000 → Dr μ a → (∀ (zs : List Int) (μ' : Mu), zs.length ≤ 1000 → Dr μ' a → Q (zs.map .int) μ') → compD (gdName 6) dYes (dOp dSub (dCall sp__law_draw (dCons (dV 0) (dCons (dC (.int 7)) dNil))) (dC (.int 1))) δ Q ks (acc.map .int) μ
  | [], acc, μ, hl, h, q => q acc μ hl h
  | k :: r, acc, μ, hl, h, q => by
    have ih := loop_cols δ a Q x2 x3 x4 x5 y g hd r
    subst hd
    simp only [compD, startD, List.map_cons, List.map_nil, List.length_cons, List.length_nil, List.cons_append, List.nil_append, Nat.reduceAdd, Nat.reduceSub, List.replicate_zero, List.replicate_succ, dSeq, dIf, dTest, dOp, dUn, dV, dC, dRet, dRetN, dNext, dSet, dDrop, dAnd, dOr, dNot, dAndV, dOrV, dNotV, dIfE, dYes, dCall1, dCons, dNil, dTup, dLst, dCall, dFor, dI, dRng1, dRng2, gdName, dSetIx, dMeth, dSlice, dPart, dNoPart, dRaise, dX0, dX1, dFld, dProp, dCMeth, dSetFld, dMake, fld_e, add_i, add_s, sub_i, mul_i, fdiv_i, mod_i, pow_i, neg_i, lt_i, le_i, gt_i, ge_i, eq_i, eq_s, eq_b, ne_i, ix_s, ix_l, ix_o, ix_t, ix_r, is_n, is_bb, is_ib, is_sb, is_tb, in_t, in_f, len_s, len_l, len_o, len_t, len_r, int1_i, abs_i, str1_i, list1_t, list1_l, list1_o, tup1_t, tup1_l, tup1_r, mk_f, mk_t, sl_s, iter_s, iter_l, iter_o, iter_t, ins_r, app_r, isi_i, isi_s, isi_t, isi_b, D.isNon, List.getElem?_cons_zero, List.getElem?_cons_succ, List.set_cons_zero, List.set_cons_succ, Option.some.injEq, exists_eq_left', exists_eq_left, D.int.injEq, D.bl.injEq, D.str.injEq, D.tup.injEq, D.lst.injEq, D.ref.injEq, D.cls.injEq, Cell.lst.injEq, List.cons.injEq, decide_eq_true_eq, true_and, and_true, mset_same, mset_mset, Bool.not_eq_true', decide_eq_false_iff_not, Bool.false_eq_true, if_false, if_true, tb_int_int, tb_int_bool, tb_int_str, tb_int_tuple, tb_int_list, tb_str_int, tb_str_bool, tb_str_str, tb_str_tuple, tb_str_list, tb_tuple_int, tb_tuple_bool, tb_tuple_str, tb_tuple_tuple, tb_tuple_list, tb_bool_int, tb_bool_bool, tb_bool_str, tb_bool_tuple, tb_bool_list, tb_NoneType_int, tb_NoneType_bool, tb_NoneType_str, tb_NoneType_tuple, tb_NoneType_list, tb_list_int, tb_list_bool, tb_list_str, tb_list_tuple, tb_list_list, decide_true, decide_false, Bool.true_eq_false]
    refine draw_ok (m := 7) h (by decide) fun μ' n h' _ _ _ => ?_
    simp only [startD, List.map_cons, List.map_nil, List.length_cons, List.length_nil, List.cons_append, List.nil_append, Nat.reduceAdd, Nat.reduceSub, List.replicate_zero, List.replicate_succ, dSeq, dIf, dTest, dOp, dUn, dV, dC, dRet, dRetN, dNext, dSet, dDrop, dAnd, dOr, dNot, dAndV, dOrV, dNotV, dIfE, dYes, dCall1, dCons, dNil, dTup, dLst, dCall, dFor, dI, dRng1, dRng2, gdName, dSetIx, dMeth, dSlice, dPart, dNoPart, dRaise, dX0, dX1, dFld, dProp, dCMeth, dSetFld, dMake, fld_e, add_i, add_s, sub_i, mul_i, fdiv_i, mod_i, pow_i, neg_i, lt_i, le_i, gt_i, ge_i, eq_i, eq_s, eq_b, ne_i, ix_s, ix_l, ix_o, ix_t, ix_r, is_n, is_bb, is_ib, is_sb, is_tb, in_t, in_f, len_s, len_l, len_o, len_t, len_r, int1_i, abs_i, str1_i, list1_t, list1_l, list1_o, tup1_t, tup1_l, tup1_r, mk_f, mk_t, sl_s, iter_s, iter_l, iter_o, iter_t, ins_r, app_r, isi_i, isi_s, isi_t, isi_b, D.isNon, List.getElem?_cons_zero, List.getElem?_cons_succ, List.set_cons_zero, List.set_cons_succ, Option.some.injEq, exists_eq_left', exists_eq_left, D.int.injEq, D.bl.injEq, D.str.injEq, D.tup.injEq, D.lst.injEq, D.ref.injEq, D.cls.injEq, Cell.lst.injEq, List.cons.injEq, decide_eq_true_eq, true_and, and_true, mset_same, mset_mset, Bool.not_eq_true', decide_eq_false_iff_not, Bool.false_eq_true, if_false, if_true, tb_int_int, tb_int_bool, tb_int_str, tb_int_tuple, tb_int_list, tb_str_int, tb_str_bool, tb_str_str, tb_str_tuple, tb_str_list, tb_tuple_int, tb_tuple_bool, tb_tuple_str, tb_tuple_tuple, tb_tuple_list, tb_bool_int, tb_bool_bool, tb_bool_str, tb_bool_tuple, tb_bool_list, tb_NoneType_int, tb_NoneType_bool, tb_NoneType_str, tb_NoneType_tuple, tb_NoneType_list, tb_list_int, tb_list_bool, tb_list_str, tb_list_tuple, tb_list_list, decide_true, decide_false, Bool.true_eq_false]
    rw [List.length_cons] at hl
    refine ⟨sizeL' (by rw [List.length_map]; omega), ?_⟩
    have e : acc.map D.int ++ [D.int (n - 1)] = (acc ++ [n - 1]).map D.int := by simp
    rw [e]
    exact ih (acc ++ [n - 1]) μ' (by rw [List.length_append, List.length_singleton]; omega) h' q
theorem wk__law_columns (ds : List D) (μ : Mu) (Q : QD) (R : Str → List (Str × D) → Mu → Prop) (h : sp__law_columns ds μ Q R) : body 2 7 (rd__law_columns sp__law_draw) ds μ Q R := by
  obtain ⟨a, good, rfl, hg, hd, q⟩ := h
  refine ⟨rfl, ?_⟩
  simp only [rd__law_columns, startD, List.map_cons, List.map_nil, List.length_cons, List.length_nil, List.cons_append, List.nil_append, Nat.reduceAdd, Nat.reduceSub, List.replicate_zero, List.replicate_succ, dSeq, dIf, dTest, dOp, dUn, dV, dC, dRet, dRetN, dNext, dSet, dDrop, dAnd, dOr, dNot, dAndV, dOrV, dNotV, dIfE, dYes, dCall1, dCons, dNil, dTup, dLst, dCall, dFor, dI, dRng1, dRng2, gdName, dSetIx, dMeth, dSlice, dPart, dNoPart, dRaise, dX0, dX1, dFld, dProp, dCMeth, dSetFld, dMake, fld_e, add_i, add_s, sub_i, mul_i, fdiv_i, mod_i, pow_i, neg_i, lt_i, le_i, gt_i, ge_i, eq_i, eq_s, eq_b, ne_i, ix_s, ix_l, ix_o, ix_t, ix_r, is_n, is_bb, is_ib, is_sb, is_tb, in_t, in_f, len_s, len_l, len_o, len_t, len_r, int1_i, abs_i, str1_i, list1_t, list1_l, list1_o, tup1_t, tup1_l, tup1_r, mk_f, mk_t, sl_s, iter_s, iter_l, iter_o, iter_t, ins_r, app_r, isi_i, isi_s, isi_t, isi_b, D.isNon, List.getElem?_cons_zero, List.getElem?_cons_succ, List.set_cons_zero, List.set_cons_succ, Option.some.injEq, exists_eq_left', exists_eq_left, D.int.injEq, D.bl.injEq, D.str.injEq, D.tup.injEq, D.lst.injEq, D.ref.injEq, D.cls.injEq, Cell.lst.injEq, List.cons.injEq, decide_eq_true_eq, true_and, and_true, mset_same, mset_mset, Bool.not_eq_true', decide_eq_false_iff_not, Bool.false_eq_true, if_false, if_true, tb_int_int, tb_int_bool, tb_int_str, tb_int_tuple, tb_int_list, tb_str_int, tb_str_bool, tb_str_str, tb_str_tuple, tb_str_list, tb_tuple_int, tb_tuple_bool, tb_tuple_str, tb_tuple_tuple, tb_tuple_list, tb_bool_int, tb_bool_bool, tb_bool_str, tb_bool_tuple, tb_bool_list, tb_NoneType_int, tb_NoneType_bool, tb_NoneType_str, tb_NoneType_tuple, tb_NoneType_list, tb_list_int, tb_list_bool, tb_list_str, tb_list_tuple, tb_list_list, decide_true, decide_false, Bool.true_eq_false]
  refine draw_ok (m := 3) hd (by decide) fun μ1 way h1 f1 w0 w1 => ?_
  simp only [startD, List.map_cons, List.map_nil, List.length_cons, List.length_nil, List.cons_append, List.nil_append, Nat.reduceAdd, Nat.reduceSub, List.replicate_zero, List.replicate_succ, dSeq, dIf, dTest, dOp, dUn, dV, dC, dRet, dRetN, dNext, dSet, dDrop, dAnd, dOr, dNot, dAndV, dOrV, dNotV, dIfE, dYes, dCall1, dCons, dNil, dTup, dLst, dCall, dFor, dI, dRng1, dRng2, gdName, dSetIx, dMeth, dSlice, dPart, dNoPart, dRaise, dX0, dX1, dFld, dProp, dCMeth, dSetFld, dMake, fld_e, add_i, add_s, sub_i, mul_i, fdiv_i, mod_i, pow_i, neg_i, lt_i, le_i, gt_i, ge_i, eq_i, eq_s, eq_b, ne_i, ix_s, ix_l, ix_o, ix_t, ix_r, is_n, is_bb, is_ib, is_sb, is_tb, in_t, in_f, len_s, len_l, len_o, len_t, len_r, int1_i, abs_i, str1_i, list1_t, list1_l, list1_o, tup1_t, tup1_l, tup1_r, mk_f, mk_t, sl_s, iter_s, iter_l, iter_o, iter_t, ins_r, app_r, isi_i, isi_s, isi_t, isi_b, D.isNon, List.getElem?_cons_zero, List.getElem?_cons_succ, List.set_cons_zero, List.set_cons_succ, Option.some.injEq, exists_eq_left', exists_eq_left, D.int.injEq, D.bl.injEq, D.str.injEq, D.tup.injEq, D.lst.injEq, D.ref.injEq, D.cls.injEq, Cell.lst.injEq, List.cons.injEq, decide_eq_true_eq, true_and, and_true, mset_same, mset_mset, Bool.not_eq_true', decide_eq_false_iff_not, Bool.false_eq_true, if_false, if_true, tb_int_int, tb_int_bool, tb_int_str, tb_int_tuple, tb_int_list, tb_str_int, tb_str_bool, tb_str_str, tb_str_tuple, tb_str_list, tb_tuple_int, tb_tuple_bool, tb_tuple_str, tb_tuple_tuple, tb_tuple_list, tb_bool_int, tb_bool_bool, tb_bool_str, tb_bool_tuple, tb_bool_list, tb_NoneType_int, tb_NoneType_bool, tb_NoneType_str, tb_NoneType_tuple, tb_NoneType_list, tb_list_int, tb_list_bool, tb_list_str, tb_list_tuple, tb_list_list, decide_true, decide_false, Bool.true_eq_false]
  split
  · simp only [dComp, startD, List.map_cons, List.map_nil, List.length_cons, List.length_nil, List.cons_append, List.nil_append, Nat.reduceAdd, Nat.reduceSub, List.replicate_zero, List.replicate_succ, dSeq, dIf, dTest, dOp, dUn, dV, dC, dRet, dRetN, dNext, dSet, dDrop, dAnd, dOr, dNot, dAndV, dOrV, dNotV, dIfE, dYes, dCall1, dCons, dNil, dTup, dLst, dCall, dFor, dI, dRng1, dRng2, gdName, dSetIx, dMeth, dSlice, dPart, dNoPart, dRaise, dX0, dX1, dFld, dProp, dCMeth, dSetFld, dMake, fld_e, add_i, add_s, sub_i, mul_i, fdiv_i, mod_i, pow_i, neg_i, lt_i, le_i, gt_i, ge_i, eq_i, eq_s, eq_b, ne_i, ix_s, ix_l, ix_o, ix_t, ix_r, is_n, is_bb, is_ib, is_sb, is_tb, in_t, in_f, len_s, len_l, len_o, len_t, len_r, int1_i, abs_i, str1_i, list1_t, list1_l, list1_o, tup1_t, tup1_l, tup1_r, mk_f, mk_t, sl_s, iter_s, iter_l, iter_o, iter_t, ins_r, app_r, isi_i, isi_s, isi_t, isi_b, D.isNon, List.getElem?_cons_zero, List.getElem?_cons_succ, List.set_cons_zero, List.set_cons_succ, Option.some.injEq, exists_eq_left', exists_eq_left, D.int.injEq, D.bl.injEq, D.str.injEq, D.tup.injEq, D.lst.injEq, D.ref.injEq, D.cls.injEq, Cell.lst.injEq, List.cons.injEq, decide_eq_true_eq, true_and, and_true, mset_same, mset_mset, Bool.not_eq_true', decide_eq_false_iff_not, Bool.false_eq_true, if_false, if_true, tb_int_int, tb_int_bool, tb_int_str, tb_int_tuple, tb_int_list, tb_str_int, tb_str_bool, tb_str_str, tb_str_tuple, tb_str_list, tb_tuple_int, tb_tuple_bool, tb_tuple_str, tb_tuple_tuple, tb_tuple_list, tb_bool_int, tb_bool_bool, tb_bool_str, tb_bool_tuple, tb_bool_list, tb_NoneType_int, tb_NoneType_bool, tb_NoneType_str, tb_NoneType_tuple, tb_NoneType_list, tb_list_int, tb_list_bool, tb_list_str, tb_list_tuple, tb_list_list, decide_true, decide_false, Bool.true_eq_false]
    refine draw_ok (m := 6) h1 (by decide) fun μ2 n h2 f2 n0 n1 => ?_
    refine ⟨n, rfl, by omega, by omega, ?_⟩
    refine loop_cols _ a _ _ _ _ _ _ _ rfl _ [] μ2 ?_ h2 fun zs μ' hl' hd' => ?_
    · rw [rangeD_length, List.length_nil]; omega
    · exact q zs μ' hl' hd'
  · intro p hp
    have hpa : p ≠ a := fun e => by
      obtain ⟨cs, i, j, k, hh, _⟩ := h1
      rw [e, hh] at hp; cases hp
    have h2 : Dr (mset μ1 p (.lst (good.map .int))) a := by
      obtain ⟨cs, i, j, k, hh, h0⟩ := h1
      exact ⟨cs, i, j, k, (mset_ne (Ne.symm hpa)).trans hh, h0⟩
    (try simp only [startD, List.map_cons, List.map_nil, List.length_cons, List.length_nil, List.cons_append, List.nil_append, Nat.reduceAdd, Nat.reduceSub, List.replicate_zero, List.replicate_succ, dSeq, dIf, dTest, dOp, dUn, dV, dC, dRet, dRetN, dNext, dSet, dDrop, dAnd, dOr, dNot, dAndV, dOrV, dNotV, dIfE, dYes, dCall1, dCons, dNil, dTup, dLst, dCall, dFor, dI, dRng1, dRng2, gdName, dSetIx, dMeth, dSlice, dPart, dNoPart, dRaise, dX0, dX1, dFld, dProp, dCMeth, dSetFld, dMake, fld_e, add_i, add_s, sub_i, mul_i, fdiv_i, mod_i, pow_i, neg_i, lt_i, le_i, gt_i, ge_i, eq_i, eq_s, eq_b, ne_i, ix_s, ix_l, ix_o, ix_t, ix_r, is_n, is_bb, is_ib, is_sb, is_tb, in_t, in_f, len_s, len_l, len_o, len_t, len_r, int1_i, abs_i, str1_i, list1_t, list1_l, list1_o, tup1_t, tup1_l, tup1_r, mk_f, mk_t, sl_s, iter_s, iter_l, iter_o, iter_t, ins_r, app_r, isi_i, isi_s, isi_t, isi_b, D.isNon, List.getElem?_cons_zero, List.getElem?_cons_succ, List.set_cons_zero, List.set_cons_succ, Option.some.injEq, exists_eq_left', exists_eq_left, D.int.injEq, D.bl.injEq, D.str.injEq, D.tup.injEq, D.lst.injEq, D.ref.injEq, D.cls.injEq, Cell.lst.injEq, List.cons.injEq, decide_eq_true_eq, true_and, and_true, mset_same, mset_mset, Bool.not_eq_true', decide_eq_false_iff_not, Bool.false_eq_true, if_false, if_true, tb_int_int, tb_int_bool, tb_int_str, tb_int_tuple, tb_int_list, tb_str_int, tb_str_bool, tb_str_str, tb_str_tuple, tb_str_list, tb_tuple_int, tb_tuple_bool, tb_tuple_str, tb_tuple_tuple, tb_tuple_list, tb_bool_int, tb_bool_bool, tb_bool_str, tb_bool_tuple, tb_bool_list, tb_NoneType_int, tb_NoneType_bool, tb_NoneType_str, tb_NoneType_tuple, tb_NoneType_list, tb_list_int, tb_list_bool, tb_list_str, tb_list_tuple, tb_list_list, decide_true, decide_false, Bool.true_eq_false])
    refine draw_ok h2 (by rw [List.length_map]; omega) fun μ3 pc h3 f3 p0 p1 => ?_
    have hp3 : μ3 p = some (.lst (good.map .int)) := (f3 p hpa).trans mset_same
    rw [List.length_map] at p1
    have p2 : pc ≤ 4 := by omega
    (try simp only [startD, List.map_cons, List.map_nil, List.length_cons, List.length_nil, List.cons_append, List.nil_append, Nat.reduceAdd, Nat.reduceSub, List.replicate_zero, List.replicate_succ, dSeq, dIf, dTest, dOp, dUn, dV, dC, dRet, dRetN, dNext, dSet, dDrop, dAnd, dOr, dNot, dAndV, dOrV, dNotV, dIfE, dYes, dCall1, dCons, dNil, dTup, dLst, dCall, dFor, dI, dRng1, dRng2, gdName, dSetIx, dMeth, dSlice, dPart, dNoPart, dRaise, dX0, dX1, dFld, dProp, dCMeth, dSetFld, dMake, fld_e, add_i, add_s, sub_i, mul_i, fdiv_i, mod_i, pow_i, neg_i, lt_i, le_i, gt_i, ge_i, eq_i, eq_s, eq_b, ne_i, ix_s, ix_l, ix_o, ix_t, ix_r, is_n, is_bb, is_ib, is_sb, is_tb, in_t, in_f, len_s, len_l, len_o, len_t, len_r, int1_i, abs_i, str1_i, list1_t, list1_l, list1_o, tup1_t, tup1_l, tup1_r, mk_f, mk_t, sl_s, iter_s, iter_l, iter_o, iter_t, ins_r, app_r, isi_i, isi_s, isi_t, isi_b, D.isNon, List.getElem?_cons_zero, List.getElem?_cons_succ, List.set_cons_zero, List.set_cons_succ, Option.some.injEq, exists_eq_left', exists_eq_left, D.int.injEq, D.bl.injEq, D.str.injEq, D.tup.injEq, D.lst.injEq, D.ref.injEq, D.cls.injEq, Cell.lst.injEq, List.cons.injEq, decide_eq_true_eq, true_and, and_true, mset_same, mset_mset, Bool.not_eq_true', decide_eq_false_iff_not, Bool.false_eq_true, if_false, if_true, tb_int_int, tb_int_bool, tb_int_str, tb_int_tuple, tb_int_list, tb_str_int, tb_str_bool, tb_str_str, tb_str_tuple, tb_str_list, tb_tuple_int, tb_tuple_bool, tb_tuple_str, tb_tuple_tuple, tb_tuple_list, tb_bool_int, tb_bool_bool, tb_bool_str, tb_bool_tuple, tb_bool_list, tb_NoneType_int, tb_NoneType_bool, tb_NoneType_str, tb_NoneType_tuple, tb_NoneType_list, tb_list_int, tb_list_bool, tb_list_str, tb_list_tuple, tb_list_list, decide_true, decide_false, Bool.true_eq_false])
    refine draw_ok (m := 7) h3 (by decide) fun μ4 n h4 f4 n0 n1 => ?_
    have hp4 : μ4 p = some (.lst (good.map .int)) := (f4 p hpa).trans hp3
    (try simp only [startD, List.map_cons, List.map_nil, List.length_cons, List.length_nil, List.cons_append, List.nil_append, Nat.reduceAdd, Nat.reduceSub, List.replicate_zero, List.replicate_succ, dSeq, dIf, dTest, dOp, dUn, dV, dC, dRet, dRetN, dNext, dSet, dDrop, dAnd, dOr, dNot, dAndV, dOrV, dNotV, dIfE, dYes, dCall1, dCons, dNil, dTup, dLst, dCall, dFor, dI, dRng1, dRng2, gdName, dSetIx, dMeth, dSlice, dPart, dNoPart, dRaise, dX0, dX1, dFld, dProp, dCMeth, dSetFld, dMake, fld_e, add_i, add_s, sub_i, mul_i, fdiv_i, mod_i, pow_i, neg_i, lt_i, le_i, gt_i, ge_i, eq_i, eq_s, eq_b, ne_i, ix_s, ix_l, ix_o, ix_t, ix_r, is_n, is_bb, is_ib, is_sb, is_tb, in_t, in_f, len_s, len_l, len_o, len_t, len_r, int1_i, abs_i, str1_i, list1_t, list1_l, list1_o, tup1_t, tup1_l, tup1_r, mk_f, mk_t, sl_s, iter_s, iter_l, iter_o, iter_t, ins_r, app_r, isi_i, isi_s, isi_t, isi_b, D.isNon, List.getElem?_cons_zero, List.getElem?_cons_succ, List.set_cons_zero, List.set_cons_succ, Option.some.injEq, exists_eq_left', exists_eq_left, D.int.injEq, D.bl.injEq, D.str.injEq, D.tup.injEq, D.lst.injEq, D.ref.injEq, D.cls.injEq, Cell.lst.injEq, List.cons.injEq, decide_eq_true_eq, true_and, and_true, mset_same, mset_mset, Bool.not_eq_true', decide_eq_false_iff_not, Bool.false_eq_true, if_false, if_true, tb_int_int, tb_int_bool, tb_int_str, tb_int_tuple, tb_int_list, tb_str_int, tb_str_bool, tb_str_str, tb_str_tuple, tb_str_list, tb_tuple_int, tb_tuple_bool, tb_tuple_str, tb_tuple_tuple, tb_tuple_list, tb_bool_int, tb_bool_bool, tb_bool_str, tb_bool_tuple, tb_bool_list, tb_NoneType_int, tb_NoneType_bool, tb_NoneType_str, tb_NoneType_tuple, tb_NoneType_list, tb_list_int, tb_list_bool, tb_list_str, tb_list_tuple, tb_list_list, decide_true, decide_false, Bool.true_eq_false])
    refine draw_ok (m := 8) h4 (by decide) fun μ5 n5 h5 f5 _ _ => ?_
    have hp5 : μ5 p = some (.lst (good.map .int)) := (f5 p hpa).trans hp4
    have Dr5 : ∀ c : Cell, Dr (mset μ5 p c) a := fun c => by
      obtain ⟨cs, i, j, k, hh, h0⟩ := h5
      exact ⟨cs, i, j, k, (mset_ne (Ne.symm hpa)).trans hh, h0⟩
    have cp : CPow 10 20 := ⟨by decide, by decide, by decide⟩
    have sq : seqD μ5 (.ref p) ≠ none ∧ ∀ es : List D, D.ref p ≠ .tup es := ⟨(by rw [seq_r hp5]; exact fun z => nomatch z), fun es z => nomatch z⟩
    simp only [startD, List.map_cons, List.map_nil, List.length_cons, List.length_nil, List.cons_append, List.nil_append, Nat.reduceAdd, Nat.reduceSub, List.replicate_zero, List.replicate_succ, dSeq, dIf, dTest, dOp, dUn, dV, dC, dRet, dRetN, dNext, dSet, dDrop, dAnd, dOr, dNot, dAndV, dOrV, dNotV, dIfE, dYes, dCall1, dCons, dNil, dTup, dLst, dCall, dFor, dI, dRng1, dRng2, gdName, dSetIx, dMeth, dSlice, dPart, dNoPart, dRaise, dX0, dX1, dFld, dProp, dCMeth, dSetFld, dMake, fld_e, add_i, add_s, sub_i, mul_i, fdiv_i, mod_i, pow_i, neg_i, lt_i, le_i, gt_i, ge_i, eq_i, eq_s, eq_b, ne_i, ix_s, ix_l, ix_o, ix_t, ix_r, is_n, is_bb, is_ib, is_sb, is_tb, in_t, in_f, len_s, len_l, len_o, len_t, len_r, int1_i, abs_i, str1_i, list1_t, list1_l, list1_o, tup1_t, tup1_l, tup1_r, mk_f, mk_t, sl_s, iter_s, iter_l, iter_o, iter_t, ins_r, app_r, isi_i, isi_s, isi_t, isi_b, D.isNon, List.getElem?_cons_zero, List.getElem?_cons_succ, List.set_cons_zero, List.set_cons_succ, Option.some.injEq, exists_eq_left', exists_eq_left, D.int.injEq, D.bl.injEq, D.str.injEq, D.tup.injEq, D.lst.injEq, D.ref.injEq, D.cls.injEq, Cell.lst.injEq, List.cons.injEq, decide_eq_true_eq, true_and, and_true, mset_same, mset_mset, Bool.not_eq_true', decide_eq_false_iff_not, Bool.false_eq_true, if_false, if_true, tb_int_int, tb_int_bool, tb_int_str, tb_int_tuple, tb_int_list, tb_str_int, tb_str_bool, tb_str_str, tb_str_tuple, tb_str_list, tb_tuple_int, tb_tuple_bool, tb_tuple_str, tb_tuple_tuple, tb_tuple_list, tb_bool_int, tb_bool_bool, tb_bool_str, tb_bool_tuple, tb_bool_list, tb_NoneType_int, tb_NoneType_bool, tb_NoneType_str, tb_NoneType_tuple, tb_NoneType_list, tb_list_int, tb_list_bool, tb_list_str, tb_list_tuple, tb_list_list, decide_true, decide_false, Bool.true_eq_false, hp5, cp, sq]
    split
    · generalize (10 : Int) ^ Int.toNat 20 = c
      split
      · refine ⟨sq, (by rw [List.length_map]; exact sizeL' (by omega)), p0, (by omega), ?_⟩
        have e : (good.map D.int).take pc.toNat ++ D.int c :: (good.map D.int).drop pc.toNat = (good.take pc.toNat ++ c :: good.drop pc.toNat).map D.int := by simp
        rw [e]
        exact q _ _ (by rw [List.length_append, List.length_cons, List.length_take, List.length_drop]; omega) (Dr5 _)
      · split
        · rename_i h7
          refine ⟨pc.toNat, ?_, ?_⟩
          · unfold ixN
            rw [if_pos p0, if_pos h7]
          · have e : (good.map D.int).set pc.toNat (D.int c) = (good.set pc.toNat c).map D.int := by rw [List.map_set]
            rw [e]
            exact q _ _ (by rw [List.length_set]; omega) (Dr5 _)
        · exact q _ _ (by omega) h5
    · generalize n - 1 = c
      split
      · refine ⟨sq, (by rw [List.length_map]; exact sizeL' (by omega)), p0, (by omega), ?_⟩
        have e : (good.map D.int).take pc.toNat ++ D.int c :: (good.map D.int).drop pc.toNat = (good.take pc.toNat ++ c :: good.drop pc.toNat).map D.int := by simp
        rw [e]
        exact q _ _ (by rw [List.length_append, List.length_cons, List.length_take, List.length_drop]; omega) (Dr5 _)
      · split
        · rename_i h7
          refine ⟨pc.toNat, ?_, ?_⟩
          · unfold ixN
            rw [if_pos p0, if_pos h7]
          · have e : (good.map D.int).set pc.toNat (D.int c) = (good.set pc.toNat c).map D.int := by rw [List.map_set]
            rw [e]
            exact q _ _ (by rw [List.length_set]; omega) (Dr5 _)
        · exact q _ _ (by omega) h5

/-! ### names drawn -/
def sp__law_name : DSp := fun ds μ Q _ => ∃ a : Addr, ds = [.ref a, .lst []] ∧ Dr μ a ∧ ∀ (t : Str) (μ' : Mu), nameB t = true → Dr μ' a → Q (.str t) μ'
theorem let_sign {i : Int} (h0 : 0 ≤ i) (h : i < 26) : ∃ c, atI ("abcdefghijklmnopqrstuvwxyz" : Str).cps.toList i = some c ∧ c ∈ letN := by
  have e : ("abcdefghijklmnopqrstuvwxyz" : Str).cps.toList.length = 26 := by decide
  obtain ⟨x, h1, h2, _⟩ := atI_int (xs := ("abcdefghijklmnopqrstuvwxyz" : Str).cps.toList) (i := i) h0 (by rw [e]; exact h)
  exact ⟨x, h1, h2⟩
theorem sign_sign {i : Int} (h0 : 0 ≤ i) (h : i < 36) : ∃ c, atI (("abcdefghijklmnopqrstuvwxyz" : Str) ++ ("0123456789" : Str)).cps.toList i = some c ∧ signB c = true := by
  have e : (("abcdefghijklmnopqrstuvwxyz" : Str) ++ ("0123456789" : Str)).cps.toList.length = 36 := by decide
  obtain ⟨x, h1, h2, _⟩ := atI_int (xs := (("abcdefghijklmnopqrstuvwxyz" : Str) ++ ("0123456789" : Str)).cps.toList) (i := i) h0 (by rw [e]; exact h)
  refine ⟨x, h1, ?_⟩
  rw [str_append_cps] at h2
  unfold signB
  rcases List.mem_append.mp h2 with h | h
  · rw [decide_eq_true (show x ∈ letN from h)]; rfl
  · rw [decide_eq_true (show x ∈ digN from h)]; exact Bool.or_true _
/-- what a name's start is -/
def preB (n : Nat) (t : Str) : Prop := t.length = n ∧ nameL t.cps.toList = true
theorem preB_add {n : Nat} {t : Str} {c : Nat} (h : preB n t) (hc : signB c = true) : preB (n + 1) (t ++ ⟨#[c]⟩) := by
  obtain ⟨h1, h2⟩ := h
  refine ⟨by rw [str_append_len, h1]; rfl, ?_⟩
  rw [str_append_cps]
  cases ht : t.cps.toList with
  | nil => rw [ht] at h2; cases h2
  | cons x r =>
    rw [ht] at h2
    simp only [nameL, Bool.and_eq_true, List.cons_append, List.all_append] at h2 ⊢
    refine ⟨h2.1, h2.2, ?_⟩
    show (signB c && true) = true
    rw [hc]; rfl
theorem in_nil {t : Str} {μ : Mu} {Q : QD} (q : Q (.bl false) μ) : dInB false (.str t) (.lst []) μ Q := .inl ⟨[], rfl, rfl, rfl, q⟩
theorem loop_n1 (a : Addr) (x4 : Option D) (R : RD) (E : EndD) (tb : TSD) (htb : tb = dSet 5 (dOp dAdd (dV 5) (dOp dIx (dV 3) (dCall sp__law_draw (dCons (dV 0) (dCons (dC (.int 36)) dNil)))))) :
    ∀ (ks : List D) (t : Str) (n : Nat) (x6 : Option D) (μ : Mu), preB n t → n + ks.length ≤ 100 → Dr μ a →
      (∀ (t' : Str) (x6' : Option D) (μ' : Mu), preB (n + ks.length) t' → Dr μ' a → E.nx [some (.ref a), some (.lst []), some (.str ("abcdefghijklmnopqrstuvwxyz" : Str)), some (.str (("abcdefghijklmnopqrstuvwxyz" : Str) ++ ("0123456789" : Str))), x4, some (.str t'), x6', none] μ') →
      forD (gdName 6) tb R E ks [some (.ref a), some (.lst []), some (.str ("abcdefghijklmnopqrstuvwxyz" : Str)), some (.str (("abcdefghijklmnopqrstuvwxyz" : Str) ++ ("0123456789" : Str))), x4, some (.str t), x6, none] μ
  | [], t, n, x6, μ, ht, _, hd, h => h t x6 μ ht hd
  | k :: r, t, n, x6, μ, ht, hn, hd, h => by
    subst htb
    have ih := loop_n1 a x4 R E _ rfl r
    simp only [forD, startD, List.map_cons, List.map_nil, List.length_cons, List.length_nil, List.cons_append, List.nil_append, Nat.reduceAdd, Nat.reduceSub, List.replicate_zero, List.replicate_succ, dSeq, dIf, dTest, dOp, dUn, dV, dC, dRet, dRetN, dNext, dSet, dDrop, dAnd, dOr, dNot, dAndV, dOrV, dNotV, dIfE, dYes, dCall1, dCons, dNil, dTup, dLst, dCall, dFor, dI, dRng1, dRng2, gdName, dSetIx, dMeth, dSlice, dPart, dNoPart, dRaise, dX0, dX1, dFld, dProp, dCMeth, dSetFld, dMake, fld_e, add_i, add_s, sub_i, mul_i, fdiv_i, mod_i, pow_i, neg_i, lt_i, le_i, gt_i, ge_i, eq_i, eq_s, eq_b, ne_i, ix_s, ix_l, ix_o, ix_t, ix_r, is_n, is_bb, is_ib, is_sb, is_tb, in_t, in_f, len_s, len_l, len_o, len_t, len_r, int1_i, abs_i, str1_i, list1_t, list1_l, list1_o, tup1_t, tup1_l, tup1_r, mk_f, mk_t, sl_s, iter_s, iter_l, iter_o, iter_t, ins_r, app_r, isi_i, isi_s, isi_t, isi_b, D.isNon, List.getElem?_cons_zero, List.getElem?_cons_succ, List.set_cons_zero, List.set_cons_succ, Option.some.injEq, exists_eq_left', exists_eq_left, D.int.injEq, D.bl.injEq, D.str.injEq, D.tup.injEq, D.lst.injEq, D.ref.injEq, D.cls.injEq, Cell.lst.injEq, List.cons.injEq, decide_eq_true_eq, true_and, and_true, mset_same, mset_mset, Bool.not_eq_true', decide_eq_false_iff_not, Bool.false_eq_true, if_false, if_true, tb_int_int, tb_int_bool, tb_int_str, tb_int_tuple, tb_int_list, tb_str_int, tb_str_bool, tb_str_str, tb_str_tuple, tb_str_list, tb_tuple_int, tb_tuple_bool, tb_tuple_str, tb_tuple_tuple, tb_tuple_list, tb_bool_int, tb_bool_bool, tb_bool_str, tb_bool_tuple, tb_bool_list, tb_NoneType_int, tb_NoneType_bool, tb_NoneType_str, tb_NoneType_tuple, tb_NoneType_list, tb_list_int, tb_list_bool, tb_list_str, tb_list_tuple, tb_list_list, decide_true, decide_false, Bool.true_eq_false]
    rw [List.length_cons] at hn h
    refine draw_ok (m := 36) hd (by decide) fun μ1 i h1 _ i0 i1 => ?_
    obtain ⟨c, hc, hs⟩ := sign_sign (i := i) i0 (by omega)
    have hz : (("abcdefghijklmnopqrstuvwxyz" : Str) ++ ("0123456789" : Str)).length ≤ sizeLine := sizeL (by decide)
    have l1 : Str.length ⟨#[c]⟩ = 1 := rfl
    refine ⟨hz, c, hc, ?_⟩
    refine ⟨by rw [ht.1, l1]; exact sizeL (by omega), ?_⟩
    exact ih _ (n + 1) _ μ1 (preB_add ht hs) (by omega) h1 fun t' x6' μ' p' d' => h t' x6' μ' (by rw [show n + (r.length + 1) = n + 1 + r.length by omega]; exact p') d'
theorem loop_n2 (x0 x2 x3 x4 x5 : Option D) (R : RD) (E : EndD) (tb : TSD) (htb : tb = dIf (dTest (dOp (dInB false) (dV 7) (dV 1))) (dSet 7 (dOp dAdd (dV 5) (dCall1 dStr1 (dCons (dV 6) dNil)))) dNext) (t : Str) (μ : Mu)
    (h : ∀ x6, E.nx [x0, some (.lst []), x2, x3, x4, x5, x6, some (.str t)] μ) : ∀ (ks : List D) (x6 : Option D), forD (gdName 6) tb R E ks [x0, some (.lst []), x2, x3, x4, x5, x6, some (.str t)] μ
  | [], x6 => h x6
  | k :: r, x6 => by
    subst htb
    have ih := loop_n2 x0 x2 x3 x4 x5 R E _ rfl t μ h r (some k)
    simp only [forD, startD, List.map_cons, List.map_nil, List.length_cons, List.length_nil, List.cons_append, List.nil_append, Nat.reduceAdd, Nat.reduceSub, List.replicate_zero, List.replicate_succ, dSeq, dIf, dTest, dOp, dUn, dV, dC, dRet, dRetN, dNext, dSet, dDrop, dAnd, dOr, dNot, dAndV, dOrV, dNotV, dIfE, dYes, dCall1, dCons, dNil, dTup, dLst, dCall, dFor, dI, dRng1, dRng2, gdName, dSetIx, dMeth, dSlice, dPart, dNoPart, dRaise, dX0, dX1, dFld, dProp, dCMeth, dSetFld, dMake, fld_e, add_i, add_s, sub_i, mul_i, fdiv_i, mod_i, pow_i, neg_i, lt_i, le_i, gt_i, ge_i, eq_i, eq_s, eq_b, ne_i, ix_s, ix_l, ix_o, ix_t, ix_r, is_n, is_bb, is_ib, is_sb, is_tb, in_t, in_f, len_s, len_l, len_o, len_t, len_r, int1_i, abs_i, str1_i, list1_t, list1_l, list1_o, tup1_t, tup1_l, tup1_r, mk_f, mk_t, sl_s, iter_s, iter_l, iter_o, iter_t, ins_r, app_r, isi_i, isi_s, isi_t, isi_b, D.isNon, List.getElem?_cons_zero, List.getElem?_cons_succ, List.set_cons_zero, List.set_cons_succ, Option.some.injEq, exists_eq_left', exists_eq_left, D.int.injEq, D.bl.injEq, D.str.injEq, D.tup.injEq, D.lst.injEq, D.ref.injEq, D.cls.injEq, Cell.lst.injEq, List.cons.injEq, decide_eq_true_eq, true_and, and_true, mset_same, mset_mset, Bool.not_eq_true', decide_eq_false_iff_not, Bool.false_eq_true, if_false, if_true, tb_int_int, tb_int_bool, tb_int_str, tb_int_tuple, tb_int_list, tb_str_int, tb_str_bool, tb_str_str, tb_str_tuple, tb_str_list, tb_tuple_int, tb_tuple_bool, tb_tuple_str, tb_tuple_tuple, tb_tuple_list, tb_bool_int, tb_bool_bool, tb_bool_str, tb_bool_tuple, tb_bool_list, tb_NoneType_int, tb_NoneType_bool, tb_NoneType_str, tb_NoneType_tuple, tb_NoneType_list, tb_list_int, tb_list_bool, tb_list_str, tb_list_tuple, tb_list_list, decide_true, decide_false, Bool.true_eq_false]
    refine in_nil ⟨false, rfl, ?_⟩
    rw [if_neg (by decide)]
    exact ih
theorem wk__law_name (ds : List D) (μ : Mu) (Q : QD) (R : Str → List (Str × D) → Mu → Prop) (h : sp__law_name ds μ Q R) : body 2 8 (rd__law_name sp__law_draw) ds μ Q R := by
  obtain ⟨a, rfl, hd, q⟩ := h
  refine ⟨rfl, ?_⟩
  have l26 : ("abcdefghijklmnopqrstuvwxyz" : Str).length = 26 := by decide
  have l10 : ("0123456789" : Str).length = 10 := by decide
  have z36 : 26 + 10 ≤ sizeLine := sizeL (by decide)
  have z26 : 26 ≤ sizeLine := sizeL (by decide)
  have fin : ∀ (m : Int) (x4 : Option D) (μ1 : Mu), m ≤ 10 → 0 ≤ m → Dr μ1 a → ∀ (R' : RD) (E : EndD), (∀ (t : Str) (x6 : Option D) (μ' : Mu), nameB t = true → Dr μ' a → E.nx [some (.ref a), some (.lst []), some (.str ("abcdefghijklmnopqrstuvwxyz" : Str)), some (.str (("abcdefghijklmnopqrstuvwxyz" : Str) ++ ("0123456789" : Str))), x4, some (.str t), x6, none] μ') →
      ∀ c : Nat, c ∈ letN → forD (gdName 6) (dSet 5 (dOp dAdd (dV 5) (dOp dIx (dV 3) (dCall sp__law_draw (dCons (dV 0) (dCons (dC (.int 36)) dNil)))))) R' E (rangeD 0 m.toNat) [some (.ref a), some (.lst []), some (.str ("abcdefghijklmnopqrstuvwxyz" : Str)), some (.str (("abcdefghijklmnopqrstuvwxyz" : Str) ++ ("0123456789" : Str))), x4, some (.str ⟨#[c]⟩), none, none] μ1 := by
    intro m x4 μ1 hm h0 h1 R' E hE c hc
    have hp : preB 1 ⟨#[c]⟩ := ⟨rfl, by
      show ((decide (c ∈ letN) && signB c) && true) = true
      unfold signB
      rw [decide_eq_true hc]; rfl⟩
    refine loop_n1 a x4 R' E _ rfl _ _ 1 none μ1 hp (by rw [rangeD_length]; omega) h1 fun t' x6' μ' p' d' => hE t' x6' μ' ?_ d'
    obtain ⟨p1, p2⟩ := p'
    rw [rangeD_length] at p1
    unfold nameB
    rw [p2, decide_eq_true (by omega)]; rfl
  simp only [rd__law_name, startD, List.map_cons, List.map_nil, List.length_cons, List.length_nil, List.cons_append, List.nil_append, Nat.reduceAdd, Nat.reduceSub, List.replicate_zero, List.replicate_succ, dSeq, dIf, dTest, dOp, dUn, dV, dC, dRet, dRetN, dNext, dSet, dDrop, dAnd, dOr, dNot, dAndV, dOrV, dNotV, dIfE, dYes, dCall1, dCons, dNil, dTup, dLst, dCall, dFor, dI, dRng1, dRng2, gdName, dSetIx, dMeth, dSlice, dPart, dNoPart, dRaise, dX0, dX1, dFld, dProp, dCMeth, dSetFld, dMake, fld_e, add_i, add_s, sub_i, mul_i, fdiv_i, mod_i, pow_i, neg_i, lt_i, le_i, gt_i, ge_i, eq_i, eq_s, eq_b, ne_i, ix_s, ix_l, ix_o, ix_t, ix_r, is_n, is_bb, is_ib, is_sb, is_tb, in_t, in_f, len_s, len_l, len_o, len_t, len_r, int1_i, abs_i, str1_i, list1_t, list1_l, list1_o, tup1_t, tup1_l, tup1_r, mk_f, mk_t, sl_s, iter_s, iter_l, iter_o, iter_t, ins_r, app_r, isi_i, isi_s, isi_t, isi_b, D.isNon, List.getElem?_cons_zero, List.getElem?_cons_succ, List.set_cons_zero, List.set_cons_succ, Option.some.injEq, exists_eq_left', exists_eq_left, D.int.injEq, D.bl.injEq, D.str.injEq, D.tup.injEq, D.lst.injEq, D.ref.injEq, D.cls.injEq, Cell.lst.injEq, List.cons.injEq, decide_eq_true_eq, true_and, and_true, mset_same, mset_mset, Bool.not_eq_true', decide_eq_false_iff_not, Bool.false_eq_true, if_false, if_true, tb_int_int, tb_int_bool, tb_int_str, tb_int_tuple, tb_int_list, tb_str_int, tb_str_bool, tb_str_str, tb_str_tuple, tb_str_list, tb_tuple_int, tb_tuple_bool, tb_tuple_str, tb_tuple_tuple, tb_tuple_list, tb_bool_int, tb_bool_bool, tb_bool_str, tb_bool_tuple, tb_bool_list, tb_NoneType_int, tb_NoneType_bool, tb_NoneType_str, tb_NoneType_tuple, tb_NoneType_list, tb_list_int, tb_list_bool, tb_list_str, tb_list_tuple, tb_list_list, decide_true, decide_false, Bool.true_eq_false, l26, l10, z36, z26]
  refine draw_ok (m := 8) hd (by decide) fun μ1 m h1 _ m0 m1 => ?_
  simp only [startD, List.map_cons, List.map_nil, List.length_cons, List.length_nil, List.cons_append, List.nil_append, Nat.reduceAdd, Nat.reduceSub, List.replicate_zero, List.replicate_succ, dSeq, dIf, dTest, dOp, dUn, dV, dC, dRet, dRetN, dNext, dSet, dDrop, dAnd, dOr, dNot, dAndV, dOrV, dNotV, dIfE, dYes, dCall1, dCons, dNil, dTup, dLst, dCall, dFor, dI, dRng1, dRng2, gdName, dSetIx, dMeth, dSlice, dPart, dNoPart, dRaise, dX0, dX1, dFld, dProp, dCMeth, dSetFld, dMake, fld_e, add_i, add_s, sub_i, mul_i, fdiv_i, mod_i, pow_i, neg_i, lt_i, le_i, gt_i, ge_i, eq_i, eq_s, eq_b, ne_i, ix_s, ix_l, ix_o, ix_t, ix_r, is_n, is_bb, is_ib, is_sb, is_tb, in_t, in_f, len_s, len_l, len_o, len_t, len_r, int1_i, abs_i, str1_i, list1_t, list1_l, list1_o, tup1_t, tup1_l, tup1_r, mk_f, mk_t, sl_s, iter_s, iter_l, iter_o, iter_t, ins_r, app_r, isi_i, isi_s, isi_t, isi_b, D.isNon, List.getElem?_cons_zero, List.getElem?_cons_succ, List.set_cons_zero, List.set_cons_succ, Option.some.injEq, exists_eq_left', exists_eq_left, D.int.injEq, D.bl.injEq, D.str.injEq, D.tup.injEq, D.lst.injEq, D.ref.injEq, D.cls.injEq, Cell.lst.injEq, List.cons.injEq, decide_eq_true_eq, true_and, and_true, mset_same, mset_mset, Bool.not_eq_true', decide_eq_false_iff_not, Bool.false_eq_true, if_false, if_true, tb_int_int, tb_int_bool, tb_int_str, tb_int_tuple, tb_int_list, tb_str_int, tb_str_bool, tb_str_str, tb_str_tuple, tb_str_list, tb_tuple_int, tb_tuple_bool, tb_tuple_str, tb_tuple_tuple, tb_tuple_list, tb_bool_int, tb_bool_bool, tb_bool_str, tb_bool_tuple, tb_bool_list, tb_NoneType_int, tb_NoneType_bool, tb_NoneType_str, tb_NoneType_tuple, tb_NoneType_list, tb_list_int, tb_list_bool, tb_list_str, tb_list_tuple, tb_list_list, decide_true, decide_false, Bool.true_eq_false]
  split
  · refine draw_ok (m := 26) h1 (by decide) fun μ2 i h2 _ i0 i1 => ?_
    obtain ⟨c, hc, hs⟩ := let_sign (i := i) i0 (by omega)
    simp only [startD, List.map_cons, List.map_nil, List.length_cons, List.length_nil, List.cons_append, List.nil_append, Nat.reduceAdd, Nat.reduceSub, List.replicate_zero, List.replicate_succ, dSeq, dIf, dTest, dOp, dUn, dV, dC, dRet, dRetN, dNext, dSet, dDrop, dAnd, dOr, dNot, dAndV, dOrV, dNotV, dIfE, dYes, dCall1, dCons, dNil, dTup, dLst, dCall, dFor, dI, dRng1, dRng2, gdName, dSetIx, dMeth, dSlice, dPart, dNoPart, dRaise, dX0, dX1, dFld, dProp, dCMeth, dSetFld, dMake, fld_e, add_i, add_s, sub_i, mul_i, fdiv_i, mod_i, pow_i, neg_i, lt_i, le_i, gt_i, ge_i, eq_i, eq_s, eq_b, ne_i, ix_s, ix_l, ix_o, ix_t, ix_r, is_n, is_bb, is_ib, is_sb, is_tb, in_t, in_f, len_s, len_l, len_o, len_t, len_r, int1_i, abs_i, str1_i, list1_t, list1_l, list1_o, tup1_t, tup1_l, tup1_r, mk_f, mk_t, sl_s, iter_s, iter_l, iter_o, iter_t, ins_r, app_r, isi_i, isi_s, isi_t, isi_b, D.isNon, List.getElem?_cons_zero, List.getElem?_cons_succ, List.set_cons_zero, List.set_cons_succ, Option.some.injEq, exists_eq_left', exists_eq_left, D.int.injEq, D.bl.injEq, D.str.injEq, D.tup.injEq, D.lst.injEq, D.ref.injEq, D.cls.injEq, Cell.lst.injEq, List.cons.injEq, decide_eq_true_eq, true_and, and_true, mset_same, mset_mset, Bool.not_eq_true', decide_eq_false_iff_not, Bool.false_eq_true, if_false, if_true, tb_int_int, tb_int_bool, tb_int_str, tb_int_tuple, tb_int_list, tb_str_int, tb_str_bool, tb_str_str, tb_str_tuple, tb_str_list, tb_tuple_int, tb_tuple_bool, tb_tuple_str, tb_tuple_tuple, tb_tuple_list, tb_bool_int, tb_bool_bool, tb_bool_str, tb_bool_tuple, tb_bool_list, tb_NoneType_int, tb_NoneType_bool, tb_NoneType_str, tb_NoneType_tuple, tb_NoneType_list, tb_list_int, tb_list_bool, tb_list_str, tb_list_tuple, tb_list_list, decide_true, decide_false, Bool.true_eq_false, l26, z26]
    refine ⟨c, hc, by decide, by decide, ?_⟩
    refine fin 10 _ μ2 (by decide) (by decide) h2 _ _ (fun t x6 μ' ht hd' => ?_) c hs
    simp only [startD, List.map_cons, List.map_nil, List.length_cons, List.length_nil, List.cons_append, List.nil_append, Nat.reduceAdd, Nat.reduceSub, List.replicate_zero, List.replicate_succ, dSeq, dIf, dTest, dOp, dUn, dV, dC, dRet, dRetN, dNext, dSet, dDrop, dAnd, dOr, dNot, dAndV, dOrV, dNotV, dIfE, dYes, dCall1, dCons, dNil, dTup, dLst, dCall, dFor, dI, dRng1, dRng2, gdName, dSetIx, dMeth, dSlice, dPart, dNoPart, dRaise, dX0, dX1, dFld, dProp, dCMeth, dSetFld, dMake, fld_e, add_i, add_s, sub_i, mul_i, fdiv_i, mod_i, pow_i, neg_i, lt_i, le_i, gt_i, ge_i, eq_i, eq_s, eq_b, ne_i, ix_s, ix_l, ix_o, ix_t, ix_r, is_n, is_bb, is_ib, is_sb, is_tb, in_t, in_f, len_s, len_l, len_o, len_t, len_r, int1_i, abs_i, str1_i, list1_t, list1_l, list1_o, tup1_t, tup1_l, tup1_r, mk_f, mk_t, sl_s, iter_s, iter_l, iter_o, iter_t, ins_r, app_r, isi_i, isi_s, isi_t, isi_b, D.isNon, List.getElem?_cons_zero, List.getElem?_cons_succ, List.set_cons_zero, List.set_cons_succ, Option.some.injEq, exists_eq_left', exists_eq_left, D.int.injEq, D.bl.injEq, D.str.injEq, D.tup.injEq, D.lst.injEq, D.ref.injEq, D.cls.injEq, Cell.lst.injEq, List.cons.injEq, decide_eq_true_eq, true_and, and_true, mset_same, mset_mset, Bool.not_eq_true', decide_eq_false_iff_not, Bool.false_eq_true, if_false, if_true, tb_int_int, tb_int_bool, tb_int_str, tb_int_tuple, tb_int_list, tb_str_int, tb_str_bool, tb_str_str, tb_str_tuple, tb_str_list, tb_tuple_int, tb_tuple_bool, tb_tuple_str, tb_tuple_tuple, tb_tuple_list, tb_bool_int, tb_bool_bool, tb_bool_str, tb_bool_tuple, tb_bool_list, tb_NoneType_int, tb_NoneType_bool, tb_NoneType_str, tb_NoneType_tuple, tb_NoneType_list, tb_list_int, tb_list_bool, tb_list_str, tb_list_tuple, tb_list_list, decide_true, decide_false, Bool.true_eq_false]
    refine ⟨by decide, by decide, ?_⟩
    refine loop_n2 _ _ _ _ _ _ _ _ rfl t μ' (fun x6 => ?_) _ x6
    simp only [startD, List.map_cons, List.map_nil, List.length_cons, List.length_nil, List.cons_append, List.nil_append, Nat.reduceAdd, Nat.reduceSub, List.replicate_zero, List.replicate_succ, dSeq, dIf, dTest, dOp, dUn, dV, dC, dRet, dRetN, dNext, dSet, dDrop, dAnd, dOr, dNot, dAndV, dOrV, dNotV, dIfE, dYes, dCall1, dCons, dNil, dTup, dLst, dCall, dFor, dI, dRng1, dRng2, gdName, dSetIx, dMeth, dSlice, dPart, dNoPart, dRaise, dX0, dX1, dFld, dProp, dCMeth, dSetFld, dMake, fld_e, add_i, add_s, sub_i, mul_i, fdiv_i, mod_i, pow_i, neg_i, lt_i, le_i, gt_i, ge_i, eq_i, eq_s, eq_b, ne_i, ix_s, ix_l, ix_o, ix_t, ix_r, is_n, is_bb, is_ib, is_sb, is_tb, in_t, in_f, len_s, len_l, len_o, len_t, len_r, int1_i, abs_i, str1_i, list1_t, list1_l, list1_o, tup1_t, tup1_l, tup1_r, mk_f, mk_t, sl_s, iter_s, iter_l, iter_o, iter_t, ins_r, app_r, isi_i, isi_s, isi_t, isi_b, D.isNon, List.getElem?_cons_zero, List.getElem?_cons_succ, List.set_cons_zero, List.set_cons_succ, Option.some.injEq, exists_eq_left', exists_eq_left, D.int.injEq, D.bl.injEq, D.str.injEq, D.tup.injEq, D.lst.injEq, D.ref.injEq, D.cls.injEq, Cell.lst.injEq, List.cons.injEq, decide_eq_true_eq, true_and, and_true, mset_same, mset_mset, Bool.not_eq_true', decide_eq_false_iff_not, Bool.false_eq_true, if_false, if_true, tb_int_int, tb_int_bool, tb_int_str, tb_int_tuple, tb_int_list, tb_str_int, tb_str_bool, tb_str_str, tb_str_tuple, tb_str_list, tb_tuple_int, tb_tuple_bool, tb_tuple_str, tb_tuple_tuple, tb_tuple_list, tb_bool_int, tb_bool_bool, tb_bool_str, tb_bool_tuple, tb_bool_list, tb_NoneType_int, tb_NoneType_bool, tb_NoneType_str, tb_NoneType_tuple, tb_NoneType_list, tb_list_int, tb_list_bool, tb_list_str, tb_list_tuple, tb_list_list, decide_true, decide_false, Bool.true_eq_false]
    exact q t μ' ht hd'
  · rename_i hm
    refine draw_ok (m := 26) h1 (by decide) fun μ2 i h2 _ i0 i1 => ?_
    obtain ⟨c, hc, hs⟩ := let_sign (i := i) i0 (by omega)
    simp only [startD, List.map_cons, List.map_nil, List.length_cons, List.length_nil, List.cons_append, List.nil_append, Nat.reduceAdd, Nat.reduceSub, List.replicate_zero, List.replicate_succ, dSeq, dIf, dTest, dOp, dUn, dV, dC, dRet, dRetN, dNext, dSet, dDrop, dAnd, dOr, dNot, dAndV, dOrV, dNotV, dIfE, dYes, dCall1, dCons, dNil, dTup, dLst, dCall, dFor, dI, dRng1, dRng2, gdName, dSetIx, dMeth, dSlice, dPart, dNoPart, dRaise, dX0, dX1, dFld, dProp, dCMeth, dSetFld, dMake, fld_e, add_i, add_s, sub_i, mul_i, fdiv_i, mod_i, pow_i, neg_i, lt_i, le_i, gt_i, ge_i, eq_i, eq_s, eq_b, ne_i, ix_s, ix_l, ix_o, ix_t, ix_r, is_n, is_bb, is_ib, is_sb, is_tb, in_t, in_f, len_s, len_l, len_o, len_t, len_r, int1_i, abs_i, str1_i, list1_t, list1_l, list1_o, tup1_t, tup1_l, tup1_r, mk_f, mk_t, sl_s, iter_s, iter_l, iter_o, iter_t, ins_r, app_r, isi_i, isi_s, isi_t, isi_b, D.isNon, List.getElem?_cons_zero, List.getElem?_cons_succ, List.set_cons_zero, List.set_cons_succ, Option.some.injEq, exists_eq_left', exists_eq_left, D.int.injEq, D.bl.injEq, D.str.injEq, D.tup.injEq, D.lst.injEq, D.ref.injEq, D.cls.injEq, Cell.lst.injEq, List.cons.injEq, decide_eq_true_eq, true_and, and_true, mset_same, mset_mset, Bool.not_eq_true', decide_eq_false_iff_not, Bool.false_eq_true, if_false, if_true, tb_int_int, tb_int_bool, tb_int_str, tb_int_tuple, tb_int_list, tb_str_int, tb_str_bool, tb_str_str, tb_str_tuple, tb_str_list, tb_tuple_int, tb_tuple_bool, tb_tuple_str, tb_tuple_tuple, tb_tuple_list, tb_bool_int, tb_bool_bool, tb_bool_str, tb_bool_tuple, tb_bool_list, tb_NoneType_int, tb_NoneType_bool, tb_NoneType_str, tb_NoneType_tuple, tb_NoneType_list, tb_list_int, tb_list_bool, tb_list_str, tb_list_tuple, tb_list_list, decide_true, decide_false, Bool.true_eq_false, l26, z26]
    refine ⟨c, hc, by omega, by omega, ?_⟩
    refine fin m _ μ2 (by omega) m0 h2 _ _ (fun t x6 μ' ht hd' => ?_) c hs
    simp only [startD, List.map_cons, List.map_nil, List.length_cons, List.length_nil, List.cons_append, List.nil_append, Nat.reduceAdd, Nat.reduceSub, List.replicate_zero, List.replicate_succ, dSeq, dIf, dTest, dOp, dUn, dV, dC, dRet, dRetN, dNext, dSet, dDrop, dAnd, dOr, dNot, dAndV, dOrV, dNotV, dIfE, dYes, dCall1, dCons, dNil, dTup, dLst, dCall, dFor, dI, dRng1, dRng2, gdName, dSetIx, dMeth, dSlice, dPart, dNoPart, dRaise, dX0, dX1, dFld, dProp, dCMeth, dSetFld, dMake, fld_e, add_i, add_s, sub_i, mul_i, fdiv_i, mod_i, pow_i, neg_i, lt_i, le_i, gt_i, ge_i, eq_i, eq_s, eq_b, ne_i, ix_s, ix_l, ix_o, ix_t, ix_r, is_n, is_bb, is_ib, is_sb, is_tb, in_t, in_f, len_s, len_l, len_o, len_t, len_r, int1_i, abs_i, str1_i, list1_t, list1_l, list1_o, tup1_t, tup1_l, tup1_r, mk_f, mk_t, sl_s, iter_s, iter_l, iter_o, iter_t, ins_r, app_r, isi_i, isi_s, isi_t, isi_b, D.isNon, List.getElem?_cons_zero, List.getElem?_cons_succ, List.set_cons_zero, List.set_cons_succ, Option.some.injEq, exists_eq_left', exists_eq_left, D.int.injEq, D.bl.injEq, D.str.injEq, D.tup.injEq, D.lst.injEq, D.ref.injEq, D.cls.injEq, Cell.lst.injEq, List.cons.injEq, decide_eq_true_eq, true_and, and_true, mset_same, mset_mset, Bool.not_eq_true', decide_eq_false_iff_not, Bool.false_eq_true, if_false, if_true, tb_int_int, tb_int_bool, tb_int_str, tb_int_tuple, tb_int_list, tb_str_int, tb_str_bool, tb_str_str, tb_str_tuple, tb_str_list, tb_tuple_int, tb_tuple_bool, tb_tuple_str, tb_tuple_tuple, tb_tuple_list, tb_bool_int, tb_bool_bool, tb_bool_str, tb_bool_tuple, tb_bool_list, tb_NoneType_int, tb_NoneType_bool, tb_NoneType_str, tb_NoneType_tuple, tb_NoneType_list, tb_list_int, tb_list_bool, tb_list_str, tb_list_tuple, tb_list_list, decide_true, decide_false, Bool.true_eq_false]
    refine ⟨by decide, by decide, ?_⟩
    refine loop_n2 _ _ _ _ _ _ _ _ rfl t μ' (fun x6 => ?_) _ x6
    simp only [startD, List.map_cons, List.map_nil, List.length_cons, List.length_nil, List.cons_append, List.nil_append, Nat.reduceAdd, Nat.reduceSub, List.replicate_zero, List.replicate_succ, dSeq, dIf, dTest, dOp, dUn, dV, dC, dRet, dRetN, dNext, dSet, dDrop, dAnd, dOr, dNot, dAndV, dOrV, dNotV, dIfE, dYes, dCall1, dCons, dNil, dTup, dLst, dCall, dFor, dI, dRng1, dRng2, gdName, dSetIx, dMeth, dSlice, dPart, dNoPart, dRaise, dX0, dX1, dFld, dProp, dCMeth, dSetFld, dMake, fld_e, add_i, add_s, sub_i, mul_i, fdiv_i, mod_i, pow_i, neg_i, lt_i, le_i, gt_i, ge_i, eq_i, eq_s, eq_b, ne_i, ix_s, ix_l, ix_o, ix_t, ix_r, is_n, is_bb, is_ib, is_sb, is_tb, in_t, in_f, len_s, len_l, len_o, len_t, len_r, int1_i, abs_i, str1_i, list1_t, list1_l, list1_o, tup1_t, tup1_l, tup1_r, mk_f, mk_t, sl_s, iter_s, iter_l, iter_o, iter_t, ins_r, app_r, isi_i, isi_s, isi_t, isi_b, D.isNon, List.getElem?_cons_zero, List.getElem?_cons_succ, List.set_cons_zero, List.set_cons_succ, Option.some.injEq, exists_eq_left', exists_eq_left, D.int.injEq, D.bl.injEq, D.str.injEq, D.tup.injEq, D.lst.injEq, D.ref.injEq, D.cls.injEq, Cell.lst.injEq, List.cons.injEq, decide_eq_true_eq, true_and, and_true, mset_same, mset_mset, Bool.not_eq_true', decide_eq_false_iff_not, Bool.false_eq_true, if_false, if_true, tb_int_int, tb_int_bool, tb_int_str, tb_int_tuple, tb_int_list, tb_str_int, tb_str_bool, tb_str_str, tb_str_tuple, tb_str_list, tb_tuple_int, tb_tuple_bool, tb_tuple_str, tb_tuple_tuple, tb_tuple_list, tb_bool_int, tb_bool_bool, tb_bool_str, tb_bool_tuple, tb_bool_list, tb_NoneType_int, tb_NoneType_bool, tb_NoneType_str, tb_NoneType_tuple, tb_NoneType_list, tb_list_int, tb_list_bool, tb_list_str, tb_list_tuple, tb_list_list, decide_true, decide_false, Bool.true_eq_false]
    exact q t μ' ht hd'

/-! ### spoilt names -/
def spS : Str := " !\"#$&'()*+,-./:;<=>?@ABCDEFGHIJKLMNOPQRSTUVWXYZ[\\]^_`{|}~\n"
def sp__law_spoilt : DSp := fun ds μ Q _ => ∃ (a : Addr) (n : Str), ds = [.ref a, .str n] ∧ n.length ≤ 12 ∧ Dr μ a ∧ ∀ (t : Str) (μ' : Mu), t.length ≤ 1000 → Dr μ' a → Q (.str t) μ'
theorem wk__law_spoilt (ds : List D) (μ : Mu) (Q : QD) (R : Str → List (Str × D) → Mu → Prop) (h : sp__law_spoilt ds μ Q R) : body 2 5 (rd__law_spoilt sp__law_draw) ds μ Q R := by
  obtain ⟨a, n, rfl, hn, hd, q⟩ := h
  refine ⟨rfl, ?_⟩
  have l12 : ("abcdefghijkl" : Str).length = 12 := by decide
  have l10 : ("0123456789" : Str).length = 10 := by decide
  have l10' : ("0123456789" : Str).cps.toList.length = 10 := by decide
  have z10 : 10 ≤ sizeLine := sizeL (by decide)
  have zn : n.length ≤ sizeLine := sizeL (by omega)
  have zs : spS.length ≤ sizeLine := sizeL (by decide)
  have ls : spS.length = spS.cps.toList.length := by decide
  have ls2 : spS.length ≤ 100 := by decide
  have ls3 : 1 ≤ spS.length := by decide
  have e1 : ∀ c : Nat, Str.length ⟨#[c]⟩ = 1 := fun _ => rfl
  simp only [rd__law_spoilt, startD, List.map_cons, List.map_nil, List.length_cons, List.length_nil, List.cons_append, List.nil_append, Nat.reduceAdd, Nat.reduceSub, List.replicate_zero, List.replicate_succ, dSeq, dIf, dTest, dOp, dUn, dV, dC, dRet, dRetN, dNext, dSet, dDrop, dAnd, dOr, dNot, dAndV, dOrV, dNotV, dIfE, dYes, dCall1, dCons, dNil, dTup, dLst, dCall, dFor, dI, dRng1, dRng2, gdName, dSetIx, dMeth, dSlice, dPart, dNoPart, dRaise, dX0, dX1, dFld, dProp, dCMeth, dSetFld, dMake, fld_e, add_i, add_s, sub_i, mul_i, fdiv_i, mod_i, pow_i, neg_i, lt_i, le_i, gt_i, ge_i, eq_i, eq_s, eq_b, ne_i, ix_s, ix_l, ix_o, ix_t, ix_r, is_n, is_bb, is_ib, is_sb, is_tb, in_t, in_f, len_s, len_l, len_o, len_t, len_r, int1_i, abs_i, str1_i, list1_t, list1_l, list1_o, tup1_t, tup1_l, tup1_r, mk_f, mk_t, sl_s, iter_s, iter_l, iter_o, iter_t, ins_r, app_r, isi_i, isi_s, isi_t, isi_b, D.isNon, List.getElem?_cons_zero, List.getElem?_cons_succ, List.set_cons_zero, List.set_cons_succ, Option.some.injEq, exists_eq_left', exists_eq_left, D.int.injEq, D.bl.injEq, D.str.injEq, D.tup.injEq, D.lst.injEq, D.ref.injEq, D.cls.injEq, Cell.lst.injEq, List.cons.injEq, decide_eq_true_eq, true_and, and_true, mset_same, mset_mset, Bool.not_eq_true', decide_eq_false_iff_not, Bool.false_eq_true, if_false, if_true, tb_int_int, tb_int_bool, tb_int_str, tb_int_tuple, tb_int_list, tb_str_int, tb_str_bool, tb_str_str, tb_str_tuple, tb_str_list, tb_tuple_int, tb_tuple_bool, tb_tuple_str, tb_tuple_tuple, tb_tuple_list, tb_bool_int, tb_bool_bool, tb_bool_str, tb_bool_tuple, tb_bool_list, tb_NoneType_int, tb_NoneType_bool, tb_NoneType_str, tb_NoneType_tuple, tb_NoneType_list, tb_list_int, tb_list_bool, tb_list_str, tb_list_tuple, tb_list_list, decide_true, decide_false, Bool.true_eq_false, l12, l10, z10, zn]
  change sp__law_draw [.ref a, .int 5] μ _ _
  refine draw_ok (m := 5) hd (by decide) fun μ1 way h1 _ w0 w1 => ?_
  simp only [startD, List.map_cons, List.map_nil, List.length_cons, List.length_nil, List.cons_append, List.nil_append, Nat.reduceAdd, Nat.reduceSub, List.replicate_zero, List.replicate_succ, dSeq, dIf, dTest, dOp, dUn, dV, dC, dRet, dRetN, dNext, dSet, dDrop, dAnd, dOr, dNot, dAndV, dOrV, dNotV, dIfE, dYes, dCall1, dCons, dNil, dTup, dLst, dCall, dFor, dI, dRng1, dRng2, gdName, dSetIx, dMeth, dSlice, dPart, dNoPart, dRaise, dX0, dX1, dFld, dProp, dCMeth, dSetFld, dMake, fld_e, add_i, add_s, sub_i, mul_i, fdiv_i, mod_i, pow_i, neg_i, lt_i, le_i, gt_i, ge_i, eq_i, eq_s, eq_b, ne_i, ix_s, ix_l, ix_o, ix_t, ix_r, is_n, is_bb, is_ib, is_sb, is_tb, in_t, in_f, len_s, len_l, len_o, len_t, len_r, int1_i, abs_i, str1_i, list1_t, list1_l, list1_o, tup1_t, tup1_l, tup1_r, mk_f, mk_t, sl_s, iter_s, iter_l, iter_o, iter_t, ins_r, app_r, isi_i, isi_s, isi_t, isi_b, D.isNon, List.getElem?_cons_zero, List.getElem?_cons_succ, List.set_cons_zero, List.set_cons_succ, Option.some.injEq, exists_eq_left', exists_eq_left, D.int.injEq, D.bl.injEq, D.str.injEq, D.tup.injEq, D.lst.injEq, D.ref.injEq, D.cls.injEq, Cell.lst.injEq, List.cons.injEq, decide_eq_true_eq, true_and, and_true, mset_same, mset_mset, Bool.not_eq_true', decide_eq_false_iff_not, Bool.false_eq_true, if_false, if_true, tb_int_int, tb_int_bool, tb_int_str, tb_int_tuple, tb_int_list, tb_str_int, tb_str_bool, tb_str_str, tb_str_tuple, tb_str_list, tb_tuple_int, tb_tuple_bool, tb_tuple_str, tb_tuple_tuple, tb_tuple_list, tb_bool_int, tb_bool_bool, tb_bool_str, tb_bool_tuple, tb_bool_list, tb_NoneType_int, tb_NoneType_bool, tb_NoneType_str, tb_NoneType_tuple, tb_NoneType_list, tb_list_int, tb_list_bool, tb_list_str, tb_list_tuple, tb_list_list, decide_true, decide_false, Bool.true_eq_false]
  split
  · exact q _ μ1 (by decide) h1
  · split
    · refine ⟨sizeL (by omega), by rw [str_append_len, l12]; exact sizeL (by omega), ?_⟩
      exact q _ μ1 (Nat.le_trans (cutS_len _ _ _) (by rw [str_append_len, l12]; omega)) h1
    · split
      · refine draw_ok (m := 10) h1 (by decide) fun μ2 i h2 _ i0 i1 => ?_
        obtain ⟨c, hc, _, _⟩ := atI_int (xs := ("0123456789" : Str).cps.toList) (i := i) i0 (by rw [l10']; omega)
        simp only [startD, List.map_cons, List.map_nil, List.length_cons, List.length_nil, List.cons_append, List.nil_append, Nat.reduceAdd, Nat.reduceSub, List.replicate_zero, List.replicate_succ, dSeq, dIf, dTest, dOp, dUn, dV, dC, dRet, dRetN, dNext, dSet, dDrop, dAnd, dOr, dNot, dAndV, dOrV, dNotV, dIfE, dYes, dCall1, dCons, dNil, dTup, dLst, dCall, dFor, dI, dRng1, dRng2, gdName, dSetIx, dMeth, dSlice, dPart, dNoPart, dRaise, dX0, dX1, dFld, dProp, dCMeth, dSetFld, dMake, fld_e, add_i, add_s, sub_i, mul_i, fdiv_i, mod_i, pow_i, neg_i, lt_i, le_i, gt_i, ge_i, eq_i, eq_s, eq_b, ne_i, ix_s, ix_l, ix_o, ix_t, ix_r, is_n, is_bb, is_ib, is_sb, is_tb, in_t, in_f, len_s, len_l, len_o, len_t, len_r, int1_i, abs_i, str1_i, list1_t, list1_l, list1_o, tup1_t, tup1_l, tup1_r, mk_f, mk_t, sl_s, iter_s, iter_l, iter_o, iter_t, ins_r, app_r, isi_i, isi_s, isi_t, isi_b, D.isNon, List.getElem?_cons_zero, List.getElem?_cons_succ, List.set_cons_zero, List.set_cons_succ, Option.some.injEq, exists_eq_left', exists_eq_left, D.int.injEq, D.bl.injEq, D.str.injEq, D.tup.injEq, D.lst.injEq, D.ref.injEq, D.cls.injEq, Cell.lst.injEq, List.cons.injEq, decide_eq_true_eq, true_and, and_true, mset_same, mset_mset, Bool.not_eq_true', decide_eq_false_iff_not, Bool.false_eq_true, if_false, if_true, tb_int_int, tb_int_bool, tb_int_str, tb_int_tuple, tb_int_list, tb_str_int, tb_str_bool, tb_str_str, tb_str_tuple, tb_str_list, tb_tuple_int, tb_tuple_bool, tb_tuple_str, tb_tuple_tuple, tb_tuple_list, tb_bool_int, tb_bool_bool, tb_bool_str, tb_bool_tuple, tb_bool_list, tb_NoneType_int, tb_NoneType_bool, tb_NoneType_str, tb_NoneType_tuple, tb_NoneType_list, tb_list_int, tb_list_bool, tb_list_str, tb_list_tuple, tb_list_list, decide_true, decide_false, Bool.true_eq_false, l10, z10, zn]
        have hcut := cutS_len n (some 1) none
        refine ⟨c, hc, by rw [e1]; exact sizeL (by omega), ?_⟩
        exact q _ μ2 (by rw [str_append_len, e1]; omega) h2
      · refine draw_ok h1 (by omega) fun μ2 i h2 _ i0 i1 => ?_
        simp only [startD, List.map_cons, List.map_nil, List.length_cons, List.length_nil, List.cons_append, List.nil_append, Nat.reduceAdd, Nat.reduceSub, List.replicate_zero, List.replicate_succ, dSeq, dIf, dTest, dOp, dUn, dV, dC, dRet, dRetN, dNext, dSet, dDrop, dAnd, dOr, dNot, dAndV, dOrV, dNotV, dIfE, dYes, dCall1, dCons, dNil, dTup, dLst, dCall, dFor, dI, dRng1, dRng2, gdName, dSetIx, dMeth, dSlice, dPart, dNoPart, dRaise, dX0, dX1, dFld, dProp, dCMeth, dSetFld, dMake, fld_e, add_i, add_s, sub_i, mul_i, fdiv_i, mod_i, pow_i, neg_i, lt_i, le_i, gt_i, ge_i, eq_i, eq_s, eq_b, ne_i, ix_s, ix_l, ix_o, ix_t, ix_r, is_n, is_bb, is_ib, is_sb, is_tb, in_t, in_f, len_s, len_l, len_o, len_t, len_r, int1_i, abs_i, str1_i, list1_t, list1_l, list1_o, tup1_t, tup1_l, tup1_r, mk_f, mk_t, sl_s, iter_s, iter_l, iter_o, iter_t, ins_r, app_r, isi_i, isi_s, isi_t, isi_b, D.isNon, List.getElem?_cons_zero, List.getElem?_cons_succ, List.set_cons_zero, List.set_cons_succ, Option.some.injEq, exists_eq_left', exists_eq_left, D.int.injEq, D.bl.injEq, D.str.injEq, D.tup.injEq, D.lst.injEq, D.ref.injEq, D.cls.injEq, Cell.lst.injEq, List.cons.injEq, decide_eq_true_eq, true_and, and_true, mset_same, mset_mset, Bool.not_eq_true', decide_eq_false_iff_not, Bool.false_eq_true, if_false, if_true, tb_int_int, tb_int_bool, tb_int_str, tb_int_tuple, tb_int_list, tb_str_int, tb_str_bool, tb_str_str, tb_str_tuple, tb_str_list, tb_tuple_int, tb_tuple_bool, tb_tuple_str, tb_tuple_tuple, tb_tuple_list, tb_bool_int, tb_bool_bool, tb_bool_str, tb_bool_tuple, tb_bool_list, tb_NoneType_int, tb_NoneType_bool, tb_NoneType_str, tb_NoneType_tuple, tb_NoneType_list, tb_list_int, tb_list_bool, tb_list_str, tb_list_tuple, tb_list_list, decide_true, decide_false, Bool.true_eq_false, zn]
        refine ⟨zs, draw_ok (m := (spS.length : Int)) h2 (by omega) fun μ3 j h3 _ j0 j1 => ?_⟩
        obtain ⟨c, hc, _, _⟩ := atI_int (xs := spS.cps.toList) (i := j) j0 (by rw [← ls]; omega)
        have c1 := cutS_len n none (some i)
        have c2 := cutS_len n (some (i + 1)) none
        refine ⟨zs, c, hc, ?_⟩
        refine ⟨by rw [e1]; exact sizeL (by omega), by rw [str_append_len, e1]; exact sizeL (by omega), ?_⟩
        exact q _ μ3 (by rw [str_append_len, str_append_len, e1]; omega) h3
/-! ### the law -/
theorem plain_ints (cs : List Int) (h : cs.length ≤ 1000) (n : Nat) : plainN (n + 2) (.tup (cs.map .int)) := ⟨by rw [List.length_map]; exact h, fun x hx => by
  obtain ⟨i, _, rfl⟩ := List.mem_map.mp hx
  trivial⟩
theorem plain_all {n : Nat} {xs : List D} (h : xs.length ≤ 1000) (a : ∀ x ∈ xs, plainN n x) : plainN (n + 1) (.tup xs) := ⟨h, a⟩
theorem plain_due (t : Str) (cs : List Int) (l : Int) (h : cs.length ≤ 1000) : plainN 4 (dueD t cs l) := by
  unfold dueD
  split
  · exact plain_all (by simp) (by simp [plainN])
  · split
    · exact plain_all (by simp) (by simp [plainN])
    · refine plain_all (by simp) fun x hx => ?_
      simp only [List.mem_cons, List.not_mem_nil, or_false] at hx
      rcases hx with rfl | rfl | rfl | rfl
      · trivial
      · refine plain_all (by simp) fun x hx => ?_
        simp only [List.mem_cons, List.not_mem_nil, or_false] at hx
        rcases hx with rfl | rfl | rfl
        · trivial
        · exact plain_ints cs h 0
        · trivial
      · refine plain_all (by simp) fun x hx => ?_
        simp only [List.mem_cons, List.not_mem_nil, or_false] at hx
        rcases hx with rfl | rfl
        · trivial
        · exact plain_ints cs h 0
      · trivial
theorem loop_lim (t : Str) (cs : List Int) (ht : t.length ≤ 1000) (hc : cs.length ≤ 1000) (x0 x1 x2 x3 x4 x5 x6 x7 x8 : Option D) (R : RD) (E : EndD) (tb : TSD)
    (htb : tb = (dIf (dNot (dTest (dCall sp__law_same (dCons (dCall sp__law_outcome (dCons (dV 9) (dCons (dV 10) (dCons (dV 11) (dCons (dC (.bl false)) dNil))))) (dCons (dCall sp__law_due (dCons (dV 9) (dCons (dV 10) (dCons (dV 11) dNil)))) dNil))))) (dRet (dC (.bl false))) dNext)) (μ : Mu)
    (h : ∀ y, E.nx [x0, x1, x2, x3, x4, x5, x6, x7, x8, some (.str t), some (.tup (cs.map .int)), y] μ) :
    ∀ (ls : List Int) (y : Option D), forD (gdName 11) tb R E (ls.map .int) [x0, x1, x2, x3, x4, x5, x6, x7, x8, some (.str t), some (.tup (cs.map .int)), y] μ
  | [], y => h y
  | l :: r, y => by
    subst htb
    have ih := loop_lim t cs ht hc x0 x1 x2 x3 x4 x5 x6 x7 x8 R E _ rfl μ h r (some (.int l))
    simp only [forD, startD, List.map_cons, List.map_nil, List.length_cons, List.length_nil, List.cons_append, List.nil_append, Nat.reduceAdd, Nat.reduceSub, List.replicate_zero, List.replicate_succ, dSeq, dIf, dTest, dOp, dUn, dV, dC, dRet, dRetN, dNext, dSet, dDrop, dAnd, dOr, dNot, dAndV, dOrV, dNotV, dIfE, dYes, dCall1, dCons, dNil, dTup, dLst, dCall, dFor, dI, dRng1, dRng2, gdName, dSetIx, dMeth, dSlice, dPart, dNoPart, dRaise, dX0, dX1, dFld, dProp, dCMeth, dSetFld, dMake, fld_e, add_i, add_s, sub_i, mul_i, fdiv_i, mod_i, pow_i, neg_i, lt_i, le_i, gt_i, ge_i, eq_i, eq_s, eq_b, ne_i, ix_s, ix_l, ix_o, ix_t, ix_r, is_n, is_bb, is_ib, is_sb, is_tb, in_t, in_f, len_s, len_l, len_o, len_t, len_r, int1_i, abs_i, str1_i, list1_t, list1_l, list1_o, tup1_t, tup1_l, tup1_r, mk_f, mk_t, sl_s, iter_s, iter_l, iter_o, iter_t, ins_r, app_r, isi_i, isi_s, isi_t, isi_b, D.isNon, List.getElem?_cons_zero, List.getElem?_cons_succ, List.set_cons_zero, List.set_cons_succ, Option.some.injEq, exists_eq_left', exists_eq_left, D.int.injEq, D.bl.injEq, D.str.injEq, D.tup.injEq, D.lst.injEq, D.ref.injEq, D.cls.injEq, Cell.lst.injEq, List.cons.injEq, decide_eq_true_eq, true_and, and_true, mset_same, mset_mset, Bool.not_eq_true', decide_eq_false_iff_not, Bool.false_eq_true, if_false, if_true, tb_int_int, tb_int_bool, tb_int_str, tb_int_tuple, tb_int_list, tb_str_int, tb_str_bool, tb_str_str, tb_str_tuple, tb_str_list, tb_tuple_int, tb_tuple_bool, tb_tuple_str, tb_tuple_tuple, tb_tuple_list, tb_bool_int, tb_bool_bool, tb_bool_str, tb_bool_tuple, tb_bool_list, tb_NoneType_int, tb_NoneType_bool, tb_NoneType_str, tb_NoneType_tuple, tb_NoneType_list, tb_list_int, tb_list_bool, tb_list_str, tb_list_tuple, tb_list_list, decide_true, decide_false, Bool.true_eq_false]
    refine ⟨t, cs, l, false, rfl, ht, (fun z => nomatch z), t, cs, l, rfl, ht, dueD t cs l, rfl, plain_due t cs l hc, true, rfl, ?_⟩
    rw [if_neg (by decide)]
    exact ih
theorem loop_given (t : Str) (ht : t.length ≤ 1000) (l1 l2 l3 l4 l5 : Int) (x0 x1 x2 x4 x5 x6 x7 x8 : Option D) (raw : Int) (R : RD) (E : EndD) (tb : TSD) (ee : TAD)
    (htb : tb = (dSeq (dFor (dI (dLst false ee)) (gdName 11) (dIf (dNot (dTest (dCall sp__law_same (dCons (dCall sp__law_outcome (dCons (dV 9) (dCons (dV 10) (dCons (dV 11) (dCons (dC (.bl false)) dNil))))) (dCons (dCall sp__law_due (dCons (dV 9) (dCons (dV 10) (dCons (dV 11) dNil)))) dNil))))) (dRet (dC (.bl false))) dNext))
      (dIf (dNot (dTest (dCall sp__law_same (dCons (dCall sp__law_outcome (dCons (dV 9) (dCons (dV 10) (dCons (dC (.int 1)) (dCons (dC (.bl true)) dNil))))) (dCons (dCall sp__law_due (dCons (dV 9) (dCons (dV 10) (dCons (dC (.int 1)) dNil)))) dNil))))) (dRet (dC (.bl false))) dNext)))
    (he : ∀ (y9 y10 y11 : Option D) (μ : Mu) (Q : List D → Mu → Prop) (R : RD), ee [x0, x1, x2, some (.int raw), x4, x5, x6, x7, x8, y9, y10, y11] μ Q R = Q [.int l1, .int l2, .int l3, .int l4, .int l5] μ) (μ : Mu)
    (h : ∀ y z, E.nx [x0, x1, x2, some (.int raw), x4, x5, x6, x7, x8, some (.str t), y, z] μ) :
    ∀ (css : List (List Int)) (y z : Option D), (∀ cs ∈ css, cs.length ≤ 1000) → forD (gdName 10) tb R E (css.map fun cs => .tup (cs.map .int)) [x0, x1, x2, some (.int raw), x4, x5, x6, x7, x8, some (.str t), y, z] μ
  | [], y, z, _ => h y z
  | cs :: r, y, z, hl => by
    subst htb
    have ih := fun y z => loop_given t ht l1 l2 l3 l4 l5 x0 x1 x2 x4 x5 x6 x7 x8 raw R E _ ee rfl he μ h r y z fun c hc => hl c (.tail _ hc)
    have hc := hl cs (.head _)
    have z5 : 5 ≤ sizeLine := sizeL (by decide)
    rw [List.map_cons, forD]
    simp only [startD, List.map_cons, List.map_nil, List.length_cons, List.length_nil, List.cons_append, List.nil_append, Nat.reduceAdd, Nat.reduceSub, List.replicate_zero, List.replicate_succ, dSeq, dIf, dTest, dOp, dUn, dV, dC, dRet, dRetN, dNext, dSet, dDrop, dAnd, dOr, dNot, dAndV, dOrV, dNotV, dIfE, dYes, dCall1, dCons, dNil, dTup, dLst, dCall, dFor, dI, dRng1, dRng2, gdName, dSetIx, dMeth, dSlice, dPart, dNoPart, dRaise, dX0, dX1, dFld, dProp, dCMeth, dSetFld, dMake, fld_e, add_i, add_s, sub_i, mul_i, fdiv_i, mod_i, pow_i, neg_i, lt_i, le_i, gt_i, ge_i, eq_i, eq_s, eq_b, ne_i, ix_s, ix_l, ix_o, ix_t, ix_r, is_n, is_bb, is_ib, is_sb, is_tb, in_t, in_f, len_s, len_l, len_o, len_t, len_r, int1_i, abs_i, str1_i, list1_t, list1_l, list1_o, tup1_t, tup1_l, tup1_r, mk_f, mk_t, sl_s, iter_s, iter_l, iter_o, iter_t, ins_r, app_r, isi_i, isi_s, isi_t, isi_b, D.isNon, List.getElem?_cons_zero, List.getElem?_cons_succ, List.set_cons_zero, List.set_cons_succ, Option.some.injEq, exists_eq_left', exists_eq_left, D.int.injEq, D.bl.injEq, D.str.injEq, D.tup.injEq, D.lst.injEq, D.ref.injEq, D.cls.injEq, Cell.lst.injEq, List.cons.injEq, decide_eq_true_eq, true_and, and_true, mset_same, mset_mset, Bool.not_eq_true', decide_eq_false_iff_not, Bool.false_eq_true, if_false, if_true, tb_int_int, tb_int_bool, tb_int_str, tb_int_tuple, tb_int_list, tb_str_int, tb_str_bool, tb_str_str, tb_str_tuple, tb_str_list, tb_tuple_int, tb_tuple_bool, tb_tuple_str, tb_tuple_tuple, tb_tuple_list, tb_bool_int, tb_bool_bool, tb_bool_str, tb_bool_tuple, tb_bool_list, tb_NoneType_int, tb_NoneType_bool, tb_NoneType_str, tb_NoneType_tuple, tb_NoneType_list, tb_list_int, tb_list_bool, tb_list_str, tb_list_tuple, tb_list_list, decide_true, decide_false, Bool.true_eq_false, he, z5]
    refine loop_lim t cs ht hc _ _ _ _ _ _ _ _ _ _ _ _ rfl μ (fun w => ?_) [l1, l2, l3, l4, l5] z
    simp only [startD, List.map_cons, List.map_nil, List.length_cons, List.length_nil, List.cons_append, List.nil_append, Nat.reduceAdd, Nat.reduceSub, List.replicate_zero, List.replicate_succ, dSeq, dIf, dTest, dOp, dUn, dV, dC, dRet, dRetN, dNext, dSet, dDrop, dAnd, dOr, dNot, dAndV, dOrV, dNotV, dIfE, dYes, dCall1, dCons, dNil, dTup, dLst, dCall, dFor, dI, dRng1, dRng2, gdName, dSetIx, dMeth, dSlice, dPart, dNoPart, dRaise, dX0, dX1, dFld, dProp, dCMeth, dSetFld, dMake, fld_e, add_i, add_s, sub_i, mul_i, fdiv_i, mod_i, pow_i, neg_i, lt_i, le_i, gt_i, ge_i, eq_i, eq_s, eq_b, ne_i, ix_s, ix_l, ix_o, ix_t, ix_r, is_n, is_bb, is_ib, is_sb, is_tb, in_t, in_f, len_s, len_l, len_o, len_t, len_r, int1_i, abs_i, str1_i, list1_t, list1_l, list1_o, tup1_t, tup1_l, tup1_r, mk_f, mk_t, sl_s, iter_s, iter_l, iter_o, iter_t, ins_r, app_r, isi_i, isi_s, isi_t, isi_b, D.isNon, List.getElem?_cons_zero, List.getElem?_cons_succ, List.set_cons_zero, List.set_cons_succ, Option.some.injEq, exists_eq_left', exists_eq_left, D.int.injEq, D.bl.injEq, D.str.injEq, D.tup.injEq, D.lst.injEq, D.ref.injEq, D.cls.injEq, Cell.lst.injEq, List.cons.injEq, decide_eq_true_eq, true_and, and_true, mset_same, mset_mset, Bool.not_eq_true', decide_eq_false_iff_not, Bool.false_eq_true, if_false, if_true, tb_int_int, tb_int_bool, tb_int_str, tb_int_tuple, tb_int_list, tb_str_int, tb_str_bool, tb_str_str, tb_str_tuple, tb_str_list, tb_tuple_int, tb_tuple_bool, tb_tuple_str, tb_tuple_tuple, tb_tuple_list, tb_bool_int, tb_bool_bool, tb_bool_str, tb_bool_tuple, tb_bool_list, tb_NoneType_int, tb_NoneType_bool, tb_NoneType_str, tb_NoneType_tuple, tb_NoneType_list, tb_list_int, tb_list_bool, tb_list_str, tb_list_tuple, tb_list_list, decide_true, decide_false, Bool.true_eq_false]
    refine ⟨t, cs, 1, true, rfl, ht, (fun _ => rfl), t, cs, 1, rfl, ht, dueD t cs 1, rfl, plain_due t cs 1 hc, true, rfl, ?_⟩
    rw [if_neg (by decide)]
    exact ih _ _

def sp_law : DSp := fun ds μ Q _ => ∃ ns : List Int, ds = [.rol (ns.map .int)] ∧ ∀ μ', Q (.bl true) μ'
theorem law_true : LawTrue 63 sp_law := fun ns _ _ => ⟨ns, rfl, fun _ => rfl⟩
theorem wk_law (ds : List D) (μ : Mu) (Q : QD) (R : Str → List (Str × D) → Mu → Prop) (h : sp_law ds μ Q R) :
    body 1 12 (rd_law sp__law_draws sp__law_raw sp__law_cut sp__law_given sp__law_draw sp__law_columns sp__law_name sp__law_spoilt sp_Bound__D_init_D_ sp__law_same sp__law_due sp__law_outcome sp_Bound_door) ds μ Q R := by
  obtain ⟨ns, rfl, q⟩ := h
  refine ⟨rfl, ?_⟩
  have z0 : 0 ≤ sizeLine := Nat.zero_le _
  have z2 : 2 ≤ sizeLine := sizeL (by decide)
  have z4 : 4 ≤ sizeLine := sizeL (by decide)
  simp only [rd_law, startD, List.map_cons, List.map_nil, List.length_cons, List.length_nil, List.cons_append, List.nil_append, Nat.reduceAdd, Nat.reduceSub, List.replicate_zero, List.replicate_succ, dSeq, dIf, dTest, dOp, dUn, dV, dC, dRet, dRetN, dNext, dSet, dDrop, dAnd, dOr, dNot, dAndV, dOrV, dNotV, dIfE, dYes, dCall1, dCons, dNil, dTup, dLst, dCall, dFor, dI, dRng1, dRng2, gdName, dSetIx, dMeth, dSlice, dPart, dNoPart, dRaise, dX0, dX1, dFld, dProp, dCMeth, dSetFld, dMake, fld_e, add_i, add_s, sub_i, mul_i, fdiv_i, mod_i, pow_i, neg_i, lt_i, le_i, gt_i, ge_i, eq_i, eq_s, eq_b, ne_i, ix_s, ix_l, ix_o, ix_t, ix_r, is_n, is_bb, is_ib, is_sb, is_tb, in_t, in_f, len_s, len_l, len_o, len_t, len_r, int1_i, abs_i, str1_i, list1_t, list1_l, list1_o, tup1_t, tup1_l, tup1_r, mk_f, mk_t, sl_s, iter_s, iter_l, iter_o, iter_t, ins_r, app_r, isi_i, isi_s, isi_t, isi_b, D.isNon, List.getElem?_cons_zero, List.getElem?_cons_succ, List.set_cons_zero, List.set_cons_succ, Option.some.injEq, exists_eq_left', exists_eq_left, D.int.injEq, D.bl.injEq, D.str.injEq, D.tup.injEq, D.lst.injEq, D.ref.injEq, D.cls.injEq, Cell.lst.injEq, List.cons.injEq, decide_eq_true_eq, true_and, and_true, mset_same, mset_mset, Bool.not_eq_true', decide_eq_false_iff_not, Bool.false_eq_true, if_false, if_true, tb_int_int, tb_int_bool, tb_int_str, tb_int_tuple, tb_int_list, tb_str_int, tb_str_bool, tb_str_str, tb_str_tuple, tb_str_list, tb_tuple_int, tb_tuple_bool, tb_tuple_str, tb_tuple_tuple, tb_tuple_list, tb_bool_int, tb_bool_bool, tb_bool_str, tb_bool_tuple, tb_bool_list, tb_NoneType_int, tb_NoneType_bool, tb_NoneType_str, tb_NoneType_tuple, tb_NoneType_list, tb_list_int, tb_list_bool, tb_list_str, tb_list_tuple, tb_list_list, decide_true, decide_false, Bool.true_eq_false, z0, z2, z4]
  refine ⟨ns, rfl, fun p hp => ?_⟩
  have h0 : Dr (mset μ p (drC ns 0 0 0)) p := Dr.set (by decide)
  refine ⟨ns, rfl, fun far => ?_⟩
  refine ⟨far, rfl, fun raw => ?_⟩
  refine draw_ok (m := 16) h0 (by decide) fun μ1 code h1 _ _ _ => ?_
  refine ⟨code, rfl, fun good hasc hlen => ?_⟩
  refine ⟨p, good, rfl, hlen, h1, fun other μ2 hol h2 => ?_⟩
  refine ⟨p, rfl, h2, fun name μ3 hname h3 => ?_⟩
  have hn12 : name.length ≤ 12 := by
    unfold nameB at hname
    rw [Bool.and_eq_true] at hname
    exact of_decide_eq_true hname.1
  refine ⟨p, name, rfl, hn12, h3, fun bad μ4 hbad h4 => ?_⟩
  simp only [startD, List.map_cons, List.map_nil, List.length_cons, List.length_nil, List.cons_append, List.nil_append, Nat.reduceAdd, Nat.reduceSub, List.replicate_zero, List.replicate_succ, dSeq, dIf, dTest, dOp, dUn, dV, dC, dRet, dRetN, dNext, dSet, dDrop, dAnd, dOr, dNot, dAndV, dOrV, dNotV, dIfE, dYes, dCall1, dCons, dNil, dTup, dLst, dCall, dFor, dI, dRng1, dRng2, gdName, dSetIx, dMeth, dSlice, dPart, dNoPart, dRaise, dX0, dX1, dFld, dProp, dCMeth, dSetFld, dMake, fld_e, add_i, add_s, sub_i, mul_i, fdiv_i, mod_i, pow_i, neg_i, lt_i, le_i, gt_i, ge_i, eq_i, eq_s, eq_b, ne_i, ix_s, ix_l, ix_o, ix_t, ix_r, is_n, is_bb, is_ib, is_sb, is_tb, in_t, in_f, len_s, len_l, len_o, len_t, len_r, int1_i, abs_i, str1_i, list1_t, list1_l, list1_o, tup1_t, tup1_l, tup1_r, mk_f, mk_t, sl_s, iter_s, iter_l, iter_o, iter_t, ins_r, app_r, isi_i, isi_s, isi_t, isi_b, D.isNon, List.getElem?_cons_zero, List.getElem?_cons_succ, List.set_cons_zero, List.set_cons_succ, Option.some.injEq, exists_eq_left', exists_eq_left, D.int.injEq, D.bl.injEq, D.str.injEq, D.tup.injEq, D.lst.injEq, D.ref.injEq, D.cls.injEq, Cell.lst.injEq, List.cons.injEq, decide_eq_true_eq, true_and, and_true, mset_same, mset_mset, Bool.not_eq_true', decide_eq_false_iff_not, Bool.false_eq_true, if_false, if_true, tb_int_int, tb_int_bool, tb_int_str, tb_int_tuple, tb_int_list, tb_str_int, tb_str_bool, tb_str_str, tb_str_tuple, tb_str_list, tb_tuple_int, tb_tuple_bool, tb_tuple_str, tb_tuple_tuple, tb_tuple_list, tb_bool_int, tb_bool_bool, tb_bool_str, tb_bool_tuple, tb_bool_list, tb_NoneType_int, tb_NoneType_bool, tb_NoneType_str, tb_NoneType_tuple, tb_NoneType_list, tb_list_int, tb_list_bool, tb_list_str, tb_list_tuple, tb_list_list, decide_true, decide_false, Bool.true_eq_false]
  refine mk_bound (by omega) (fun z => by rw [hname] at z; cases z) (fun _ z => ?_) (fun _ _ h1l => ?_)
  · rcases z with z | z
    · rw [hasc] at z; cases z
    · exfalso
      split at z <;> omega
  have hcs : ∀ cs ∈ [good, other], cs.length ≤ 1000 := by
    intro cs hc
    simp only [List.mem_cons, List.not_mem_nil, or_false] at hc
    rcases hc with rfl | rfl
    · omega
    · exact hol
  rw [forD]
  simp only [startD, List.map_cons, List.map_nil, List.length_cons, List.length_nil, List.cons_append, List.nil_append, Nat.reduceAdd, Nat.reduceSub, List.replicate_zero, List.replicate_succ, dSeq, dIf, dTest, dOp, dUn, dV, dC, dRet, dRetN, dNext, dSet, dDrop, dAnd, dOr, dNot, dAndV, dOrV, dNotV, dIfE, dYes, dCall1, dCons, dNil, dTup, dLst, dCall, dFor, dI, dRng1, dRng2, gdName, dSetIx, dMeth, dSlice, dPart, dNoPart, dRaise, dX0, dX1, dFld, dProp, dCMeth, dSetFld, dMake, fld_e, add_i, add_s, sub_i, mul_i, fdiv_i, mod_i, pow_i, neg_i, lt_i, le_i, gt_i, ge_i, eq_i, eq_s, eq_b, ne_i, ix_s, ix_l, ix_o, ix_t, ix_r, is_n, is_bb, is_ib, is_sb, is_tb, in_t, in_f, len_s, len_l, len_o, len_t, len_r, int1_i, abs_i, str1_i, list1_t, list1_l, list1_o, tup1_t, tup1_l, tup1_r, mk_f, mk_t, sl_s, iter_s, iter_l, iter_o, iter_t, ins_r, app_r, isi_i, isi_s, isi_t, isi_b, D.isNon, List.getElem?_cons_zero, List.getElem?_cons_succ, List.set_cons_zero, List.set_cons_succ, Option.some.injEq, exists_eq_left', exists_eq_left, D.int.injEq, D.bl.injEq, D.str.injEq, D.tup.injEq, D.lst.injEq, D.ref.injEq, D.cls.injEq, Cell.lst.injEq, List.cons.injEq, decide_eq_true_eq, true_and, and_true, mset_same, mset_mset, Bool.not_eq_true', decide_eq_false_iff_not, Bool.false_eq_true, if_false, if_true, tb_int_int, tb_int_bool, tb_int_str, tb_int_tuple, tb_int_list, tb_str_int, tb_str_bool, tb_str_str, tb_str_tuple, tb_str_list, tb_tuple_int, tb_tuple_bool, tb_tuple_str, tb_tuple_tuple, tb_tuple_list, tb_bool_int, tb_bool_bool, tb_bool_str, tb_bool_tuple, tb_bool_list, tb_NoneType_int, tb_NoneType_bool, tb_NoneType_str, tb_NoneType_tuple, tb_NoneType_list, tb_list_int, tb_list_bool, tb_list_str, tb_list_tuple, tb_list_list, decide_true, decide_false, Bool.true_eq_false, z2]
  refine loop_given name (by omega) raw (1 + (if raw < 0 then -raw else raw)) (0 - (if raw < 0 then -raw else raw)) 1 0 _ _ _ _ _ _ _ _ raw _ _ _ _ rfl (fun _ _ _ _ _ _ => by simp only [startD, List.map_cons, List.map_nil, List.length_cons, List.length_nil, List.cons_append, List.nil_append, Nat.reduceAdd, Nat.reduceSub, List.replicate_zero, List.replicate_succ, dSeq, dIf, dTest, dOp, dUn, dV, dC, dRet, dRetN, dNext, dSet, dDrop, dAnd, dOr, dNot, dAndV, dOrV, dNotV, dIfE, dYes, dCall1, dCons, dNil, dTup, dLst, dCall, dFor, dI, dRng1, dRng2, gdName, dSetIx, dMeth, dSlice, dPart, dNoPart, dRaise, dX0, dX1, dFld, dProp, dCMeth, dSetFld, dMake, fld_e, add_i, add_s, sub_i, mul_i, fdiv_i, mod_i, pow_i, neg_i, lt_i, le_i, gt_i, ge_i, eq_i, eq_s, eq_b, ne_i, ix_s, ix_l, ix_o, ix_t, ix_r, is_n, is_bb, is_ib, is_sb, is_tb, in_t, in_f, len_s, len_l, len_o, len_t, len_r, int1_i, abs_i, str1_i, list1_t, list1_l, list1_o, tup1_t, tup1_l, tup1_r, mk_f, mk_t, sl_s, iter_s, iter_l, iter_o, iter_t, ins_r, app_r, isi_i, isi_s, isi_t, isi_b, D.isNon, List.getElem?_cons_zero, List.getElem?_cons_succ, List.set_cons_zero, List.set_cons_succ, Option.some.injEq, exists_eq_left', exists_eq_left, D.int.injEq, D.bl.injEq, D.str.injEq, D.tup.injEq, D.lst.injEq, D.ref.injEq, D.cls.injEq, Cell.lst.injEq, List.cons.injEq, decide_eq_true_eq, true_and, and_true, mset_same, mset_mset, Bool.not_eq_true', decide_eq_false_iff_not, Bool.false_eq_true, if_false, if_true, tb_int_int, tb_int_bool, tb_int_str, tb_int_tuple, tb_int_list, tb_str_int, tb_str_bool, tb_str_str, tb_str_tuple, tb_str_list, tb_tuple_int, tb_tuple_bool, tb_tuple_str, tb_tuple_tuple, tb_tuple_list, tb_bool_int, tb_bool_bool, tb_bool_str, tb_bool_tuple, tb_bool_list, tb_NoneType_int, tb_NoneType_bool, tb_NoneType_str, tb_NoneType_tuple, tb_NoneType_list, tb_list_int, tb_list_bool, tb_list_str, tb_list_tuple, tb_list_list, decide_true, decide_false, Bool.true_eq_false]) μ4 (fun y z => ?_) [good, other] none none hcs
  simp only [startD, List.map_cons, List.map_nil, List.length_cons, List.length_nil, List.cons_append, List.nil_append, Nat.reduceAdd, Nat.reduceSub, List.replicate_zero, List.replicate_succ, dSeq, dIf, dTest, dOp, dUn, dV, dC, dRet, dRetN, dNext, dSet, dDrop, dAnd, dOr, dNot, dAndV, dOrV, dNotV, dIfE, dYes, dCall1, dCons, dNil, dTup, dLst, dCall, dFor, dI, dRng1, dRng2, gdName, dSetIx, dMeth, dSlice, dPart, dNoPart, dRaise, dX0, dX1, dFld, dProp, dCMeth, dSetFld, dMake, fld_e, add_i, add_s, sub_i, mul_i, fdiv_i, mod_i, pow_i, neg_i, lt_i, le_i, gt_i, ge_i, eq_i, eq_s, eq_b, ne_i, ix_s, ix_l, ix_o, ix_t, ix_r, is_n, is_bb, is_ib, is_sb, is_tb, in_t, in_f, len_s, len_l, len_o, len_t, len_r, int1_i, abs_i, str1_i, list1_t, list1_l, list1_o, tup1_t, tup1_l, tup1_r, mk_f, mk_t, sl_s, iter_s, iter_l, iter_o, iter_t, ins_r, app_r, isi_i, isi_s, isi_t, isi_b, D.isNon, List.getElem?_cons_zero, List.getElem?_cons_succ, List.set_cons_zero, List.set_cons_succ, Option.some.injEq, exists_eq_left', exists_eq_left, D.int.injEq, D.bl.injEq, D.str.injEq, D.tup.injEq, D.lst.injEq, D.ref.injEq, D.cls.injEq, Cell.lst.injEq, List.cons.injEq, decide_eq_true_eq, true_and, and_true, mset_same, mset_mset, Bool.not_eq_true', decide_eq_false_iff_not, Bool.false_eq_true, if_false, if_true, tb_int_int, tb_int_bool, tb_int_str, tb_int_tuple, tb_int_list, tb_str_int, tb_str_bool, tb_str_str, tb_str_tuple, tb_str_list, tb_tuple_int, tb_tuple_bool, tb_tuple_str, tb_tuple_tuple, tb_tuple_list, tb_bool_int, tb_bool_bool, tb_bool_str, tb_bool_tuple, tb_bool_list, tb_NoneType_int, tb_NoneType_bool, tb_NoneType_str, tb_NoneType_tuple, tb_NoneType_list, tb_list_int, tb_list_bool, tb_list_str, tb_list_tuple, tb_list_list, decide_true, decide_false, Bool.true_eq_false]
  rw [forD]
  simp only [startD, List.map_cons, List.map_nil, List.length_cons, List.length_nil, List.cons_append, List.nil_append, Nat.reduceAdd, Nat.reduceSub, List.replicate_zero, List.replicate_succ, dSeq, dIf, dTest, dOp, dUn, dV, dC, dRet, dRetN, dNext, dSet, dDrop, dAnd, dOr, dNot, dAndV, dOrV, dNotV, dIfE, dYes, dCall1, dCons, dNil, dTup, dLst, dCall, dFor, dI, dRng1, dRng2, gdName, dSetIx, dMeth, dSlice, dPart, dNoPart, dRaise, dX0, dX1, dFld, dProp, dCMeth, dSetFld, dMake, fld_e, add_i, add_s, sub_i, mul_i, fdiv_i, mod_i, pow_i, neg_i, lt_i, le_i, gt_i, ge_i, eq_i, eq_s, eq_b, ne_i, ix_s, ix_l, ix_o, ix_t, ix_r, is_n, is_bb, is_ib, is_sb, is_tb, in_t, in_f, len_s, len_l, len_o, len_t, len_r, int1_i, abs_i, str1_i, list1_t, list1_l, list1_o, tup1_t, tup1_l, tup1_r, mk_f, mk_t, sl_s, iter_s, iter_l, iter_o, iter_t, ins_r, app_r, isi_i, isi_s, isi_t, isi_b, D.isNon, List.getElem?_cons_zero, List.getElem?_cons_succ, List.set_cons_zero, List.set_cons_succ, Option.some.injEq, exists_eq_left', exists_eq_left, D.int.injEq, D.bl.injEq, D.str.injEq, D.tup.injEq, D.lst.injEq, D.ref.injEq, D.cls.injEq, Cell.lst.injEq, List.cons.injEq, decide_eq_true_eq, true_and, and_true, mset_same, mset_mset, Bool.not_eq_true', decide_eq_false_iff_not, Bool.false_eq_true, if_false, if_true, tb_int_int, tb_int_bool, tb_int_str, tb_int_tuple, tb_int_list, tb_str_int, tb_str_bool, tb_str_str, tb_str_tuple, tb_str_list, tb_tuple_int, tb_tuple_bool, tb_tuple_str, tb_tuple_tuple, tb_tuple_list, tb_bool_int, tb_bool_bool, tb_bool_str, tb_bool_tuple, tb_bool_list, tb_NoneType_int, tb_NoneType_bool, tb_NoneType_str, tb_NoneType_tuple, tb_NoneType_list, tb_list_int, tb_list_bool, tb_list_str, tb_list_tuple, tb_list_list, decide_true, decide_false, Bool.true_eq_false, z2]
  refine loop_given bad hbad raw (1 + (if raw < 0 then -raw else raw)) (0 - (if raw < 0 then -raw else raw)) 1 0 _ _ _ _ _ _ _ _ raw _ _ _ _ rfl (fun _ _ _ _ _ _ => by simp only [startD, List.map_cons, List.map_nil, List.length_cons, List.length_nil, List.cons_append, List.nil_append, Nat.reduceAdd, Nat.reduceSub, List.replicate_zero, List.replicate_succ, dSeq, dIf, dTest, dOp, dUn, dV, dC, dRet, dRetN, dNext, dSet, dDrop, dAnd, dOr, dNot, dAndV, dOrV, dNotV, dIfE, dYes, dCall1, dCons, dNil, dTup, dLst, dCall, dFor, dI, dRng1, dRng2, gdName, dSetIx, dMeth, dSlice, dPart, dNoPart, dRaise, dX0, dX1, dFld, dProp, dCMeth, dSetFld, dMake, fld_e, add_i, add_s, sub_i, mul_i, fdiv_i, mod_i, pow_i, neg_i, lt_i, le_i, gt_i, ge_i, eq_i, eq_s, eq_b, ne_i, ix_s, ix_l, ix_o, ix_t, ix_r, is_n, is_bb, is_ib, is_sb, is_tb, in_t, in_f, len_s, len_l, len_o, len_t, len_r, int1_i, abs_i, str1_i, list1_t, list1_l, list1_o, tup1_t, tup1_l, tup1_r, mk_f, mk_t, sl_s, iter_s, iter_l, iter_o, iter_t, ins_r, app_r, isi_i, isi_s, isi_t, isi_b, D.isNon, List.getElem?_cons_zero, List.getElem?_cons_succ, List.set_cons_zero, List.set_cons_succ, Option.some.injEq, exists_eq_left', exists_eq_left, D.int.injEq, D.bl.injEq, D.str.injEq, D.tup.injEq, D.lst.injEq, D.ref.injEq, D.cls.injEq, Cell.lst.injEq, List.cons.injEq, decide_eq_true_eq, true_and, and_true, mset_same, mset_mset, Bool.not_eq_true', decide_eq_false_iff_not, Bool.false_eq_true, if_false, if_true, tb_int_int, tb_int_bool, tb_int_str, tb_int_tuple, tb_int_list, tb_str_int, tb_str_bool, tb_str_str, tb_str_tuple, tb_str_list, tb_tuple_int, tb_tuple_bool, tb_tuple_str, tb_tuple_tuple, tb_tuple_list, tb_bool_int, tb_bool_bool, tb_bool_str, tb_bool_tuple, tb_bool_list, tb_NoneType_int, tb_NoneType_bool, tb_NoneType_str, tb_NoneType_tuple, tb_NoneType_list, tb_list_int, tb_list_bool, tb_list_str, tb_list_tuple, tb_list_list, decide_true, decide_false, Bool.true_eq_false]) μ4 (fun y' z' => ?_) [good, other] y z hcs
  simp only [startD, List.map_cons, List.map_nil, List.length_cons, List.length_nil, List.cons_append, List.nil_append, Nat.reduceAdd, Nat.reduceSub, List.replicate_zero, List.replicate_succ, dSeq, dIf, dTest, dOp, dUn, dV, dC, dRet, dRetN, dNext, dSet, dDrop, dAnd, dOr, dNot, dAndV, dOrV, dNotV, dIfE, dYes, dCall1, dCons, dNil, dTup, dLst, dCall, dFor, dI, dRng1, dRng2, gdName, dSetIx, dMeth, dSlice, dPart, dNoPart, dRaise, dX0, dX1, dFld, dProp, dCMeth, dSetFld, dMake, fld_e, add_i, add_s, sub_i, mul_i, fdiv_i, mod_i, pow_i, neg_i, lt_i, le_i, gt_i, ge_i, eq_i, eq_s, eq_b, ne_i, ix_s, ix_l, ix_o, ix_t, ix_r, is_n, is_bb, is_ib, is_sb, is_tb, in_t, in_f, len_s, len_l, len_o, len_t, len_r, int1_i, abs_i, str1_i, list1_t, list1_l, list1_o, tup1_t, tup1_l, tup1_r, mk_f, mk_t, sl_s, iter_s, iter_l, iter_o, iter_t, ins_r, app_r, isi_i, isi_s, isi_t, isi_b, D.isNon, List.getElem?_cons_zero, List.getElem?_cons_succ, List.set_cons_zero, List.set_cons_succ, Option.some.injEq, exists_eq_left', exists_eq_left, D.int.injEq, D.bl.injEq, D.str.injEq, D.tup.injEq, D.lst.injEq, D.ref.injEq, D.cls.injEq, Cell.lst.injEq, List.cons.injEq, decide_eq_true_eq, true_and, and_true, mset_same, mset_mset, Bool.not_eq_true', decide_eq_false_iff_not, Bool.false_eq_true, if_false, if_true, tb_int_int, tb_int_bool, tb_int_str, tb_int_tuple, tb_int_list, tb_str_int, tb_str_bool, tb_str_str, tb_str_tuple, tb_str_list, tb_tuple_int, tb_tuple_bool, tb_tuple_str, tb_tuple_tuple, tb_tuple_list, tb_bool_int, tb_bool_bool, tb_bool_str, tb_bool_tuple, tb_bool_list, tb_NoneType_int, tb_NoneType_bool, tb_NoneType_str, tb_NoneType_tuple, tb_NoneType_list, tb_list_int, tb_list_bool, tb_list_str, tb_list_tuple, tb_list_list, decide_true, decide_false, Bool.true_eq_false]
  rw [forD]
  simp only [boundD, startD, List.map_cons, List.map_nil, List.length_cons, List.length_nil, List.cons_append, List.nil_append, Nat.reduceAdd, Nat.reduceSub, List.replicate_zero, List.replicate_succ, dSeq, dIf, dTest, dOp, dUn, dV, dC, dRet, dRetN, dNext, dSet, dDrop, dAnd, dOr, dNot, dAndV, dOrV, dNotV, dIfE, dYes, dCall1, dCons, dNil, dTup, dLst, dCall, dFor, dI, dRng1, dRng2, gdName, dSetIx, dMeth, dSlice, dPart, dNoPart, dRaise, dX0, dX1, dFld, dProp, dCMeth, dSetFld, dMake, fld_e, add_i, add_s, sub_i, mul_i, fdiv_i, mod_i, pow_i, neg_i, lt_i, le_i, gt_i, ge_i, eq_i, eq_s, eq_b, ne_i, ix_s, ix_l, ix_o, ix_t, ix_r, is_n, is_bb, is_ib, is_sb, is_tb, in_t, in_f, len_s, len_l, len_o, len_t, len_r, int1_i, abs_i, str1_i, list1_t, list1_l, list1_o, tup1_t, tup1_l, tup1_r, mk_f, mk_t, sl_s, iter_s, iter_l, iter_o, iter_t, ins_r, app_r, isi_i, isi_s, isi_t, isi_b, D.isNon, List.getElem?_cons_zero, List.getElem?_cons_succ, List.set_cons_zero, List.set_cons_succ, Option.some.injEq, exists_eq_left', exists_eq_left, D.int.injEq, D.bl.injEq, D.str.injEq, D.tup.injEq, D.lst.injEq, D.ref.injEq, D.cls.injEq, Cell.lst.injEq, List.cons.injEq, decide_eq_true_eq, true_and, and_true, mset_same, mset_mset, Bool.not_eq_true', decide_eq_false_iff_not, Bool.false_eq_true, if_false, if_true, tb_int_int, tb_int_bool, tb_int_str, tb_int_tuple, tb_int_list, tb_str_int, tb_str_bool, tb_str_str, tb_str_tuple, tb_str_list, tb_tuple_int, tb_tuple_bool, tb_tuple_str, tb_tuple_tuple, tb_tuple_list, tb_bool_int, tb_bool_bool, tb_bool_str, tb_bool_tuple, tb_bool_list, tb_NoneType_int, tb_NoneType_bool, tb_NoneType_str, tb_NoneType_tuple, tb_NoneType_list, tb_list_int, tb_list_bool, tb_list_str, tb_list_tuple, tb_list_list, decide_true, decide_false, Bool.true_eq_false, z2, z4]
  refine ⟨⟨_, rfl⟩, name, good, _, rfl, ?_⟩
  refine ⟨_, rfl, plain_all (by simp) fun x hx => ?_, q _⟩
  simp only [List.mem_cons, List.not_mem_nil, or_false] at hx
  rcases hx with rfl | rfl | rfl | rfl
  · trivial
  · exact plain_ints good (by omega) 1
  · trivial
  · refine plain_all (by simp) fun x hx => ?_
    simp only [List.mem_cons, List.not_mem_nil, or_false] at hx
    rcases hx with rfl | rfl
    · trivial
    · exact plain_ints good (by omega) 0

end K07

set_option Elab.async false
set_option linter.all false
set_option maxRecDepth 100000
set_option maxHeartbeats 4000000
namespace K07
open PySem PySem.Spec PyProof.Rows L2 DL
def d__law_draws : DH.DefA := ⟨.glo "_law_draws", "_law_draws", "_law_draws", defArgs s__law_draws, defBody s__law_draws, defScope s__law_draws, [], []⟩
def d__law_raw : DH.DefA := ⟨.glo "_law_raw", "_law_raw", "_law_raw", defArgs s__law_raw, defBody s__law_raw, defScope s__law_raw, [], []⟩
def d__law_cut : DH.DefA := ⟨.glo "_law_cut", "_law_cut", "_law_cut", defArgs s__law_cut, defBody s__law_cut, defScope s__law_cut, [], []⟩
def d__law_given : DH.DefA := ⟨.glo "_law_given", "_law_given", "_law_given", defArgs s__law_given, defBody s__law_given, defScope s__law_given, [], []⟩
def d__law_mixed : DH.DefA := ⟨.glo "_law_mixed", "_law_mixed", "_law_mixed", defArgs s__law_mixed, defBody s__law_mixed, defScope s__law_mixed, [], []⟩
def d__law_draw : DH.DefA := ⟨.glo "_law_draw", "_law_draw", "_law_draw", defArgs s__law_draw, defBody s__law_draw, defScope s__law_draw, [], []⟩
def d__law_columns : DH.DefA := ⟨.glo "_law_columns", "_law_columns", "_law_columns", defArgs s__law_columns, defBody s__law_columns, defScope s__law_columns, [], []⟩
def d__law_name : DH.DefA := ⟨.glo "_law_name", "_law_name", "_law_name", defArgs s__law_name, defBody s__law_name, defScope s__law_name, [], []⟩
def d__law_spoilt : DH.DefA := ⟨.glo "_law_spoilt", "_law_spoilt", "_law_spoilt", defArgs s__law_spoilt, defBody s__law_spoilt, defScope s__law_spoilt, [], []⟩
def d_is_name : DH.DefA := ⟨.glo "is_name", "is_name", "is_name", defArgs s_is_name, defBody s_is_name, defScope s_is_name, [], []⟩
def d_check_name : DH.DefA := ⟨.glo "check_name", "check_name", "check_name", defArgs s_check_name, defBody s_check_name, defScope s_check_name, [], []⟩
def d_check_given : DH.DefA := ⟨.glo "check_given", "check_given", "check_given", defArgs s_check_given, defBody s_check_given, defScope s_check_given, [], []⟩
def d_Bound__D_init_D_ : DH.DefA := ⟨.mth "Bound" "__init__", "__init__", "Bound.__init__", defArgs s_Bound__D_init_D_, defBody s_Bound__D_init_D_, defScope s_Bound__D_init_D_, [], []⟩
def d__law_same : DH.DefA := ⟨.glo "_law_same", "_law_same", "_law_same", defArgs s__law_same, defBody s__law_same, defScope s__law_same, [], []⟩
def d__law_named : DH.DefA := ⟨.glo "_law_named", "_law_named", "_law_named", defArgs s__law_named, defBody s__law_named, defScope s__law_named, [], []⟩
def d__law_ascending : DH.DefA := ⟨.glo "_law_ascending", "_law_ascending", "_law_ascending", defArgs s__law_ascending, defBody s__law_ascending, defScope s__law_ascending, [], []⟩
def d__law_due : DH.DefA := ⟨.glo "_law_due", "_law_due", "_law_due", defArgs s__law_due, defBody s__law_due, defScope s__law_due, [], []⟩
def d_Bound_single : DH.DefA := ⟨.inn "Bound" "single" "classmethod", "single", "Bound.single", defArgs s_Bound_single, defBody s_Bound_single, defScope s_Bound_single, [], []⟩
def d_Bound_door : DH.DefA := ⟨.inn "Bound" "door" "property", "door", "Bound.door", defArgs s_Bound_door, defBody s_Bound_door, defScope s_Bound_door, [], []⟩
def d__law_outcome : DH.DefA := ⟨.glo "_law_outcome", "_law_outcome", "_law_outcome", defArgs s__law_outcome, defBody s__law_outcome, defScope s__law_outcome, [], []⟩
def d_law : DH.DefA := ⟨.glo "law", "law", "law", defArgs s_law, defBody s_law, defScope s_law, [], []⟩
def d_BadName_D_init_D_ : DH.DefA := ⟨.mth "BadName" "__init__", "__init__", "BadName.__init__", defArgs s_BadName_D_init_D_, defBody s_BadName_D_init_D_, defScope s_BadName_D_init_D_, ["__class__"], []⟩
def ds : List DH.DefA := [d__law_draws, d__law_raw, d__law_cut, d__law_given, d__law_mixed, d__law_draw, d__law_columns, d__law_name, d__law_spoilt, d_is_name, d_check_name, d_check_given, d_Bound__D_init_D_, d__law_same, d__law_named, d__law_ascending, d__law_due, d_Bound_single, d_Bound_door, d__law_outcome, d_law, d_BadName_D_init_D_]
def fs0 : List DH.Chk := [DH.fa (.keep "_law_draws"), DH.fa (.glo "_law_draws"), DH.fa (.keep "_law_raw"), DH.fa (.glo "_law_raw"), DH.fa (.keep "_law_cut"), DH.fa (.glo "_law_cut"), DH.fa (.keep "_law_draw"), DH.fa (.glo "_law_draw"), DH.fa (.keep "_law_given"), DH.fa (.glo "_law_given"), DH.fa (.keep "_law_columns"), DH.fa (.glo "_law_columns"), DH.fa (.keep "_law_name"), DH.fa (.glo "_law_name"), DH.fa (.keep "_law_spoilt"), DH.fa (.glo "_law_spoilt"), DH.fa (.free "abs"), DH.fa (.mkr "Bound"), DH.fa (.glo "Bound"), DH.fa (.keep "_law_due")]
def fs1 : List DH.Chk := [DH.fa (.glo "_law_due"), DH.fa (.keep "_law_outcome"), DH.fa (.glo "_law_outcome"), DH.fa (.keep "_law_same"), DH.fa (.glo "_law_same"), DH.prpC "Bound" "door", DH.sclC "Bound", DH.sltC "Bound" "limit" 1, DH.sltC "Bound" "given" 0, DH.sltC "Bound" "table" 2, DH.fa (.free "list"), DH.fa (.free "len"), DH.fa (.free "int"), DH.fa (.free "range"), DH.fa (.free "tuple"), DH.fa (.keep "_law_mixed"), DH.fa (.glo "_law_mixed"), DH.fa (.free "str"), DH.fa (.keep "check_name"), DH.fa (.glo "check_name")]
def fs2 : List DH.Chk := [DH.fa (.keep "check_given"), DH.fa (.glo "check_given"), DH.fa (.exc "BadBound"), DH.fa (.glo "BadBound"), DH.fa (.keep "is_name"), DH.fa (.glo "is_name"), DH.supC prg "BadName" "BadName" "name", DH.fa (.glo "BadName"), DH.fa (.int "LONGEST_NAME" 12), DH.fa (.str "LETTERS" "abcdefghijklmnopqrstuvwxyz"), DH.fa (.str "DIGITS" "0123456789"), DH.fa (.int "WIDEST" 4), DH.fa (.free "isinstance"), DH.fa (.free "bool"), DH.fa (.keep "_law_named"), DH.fa (.glo "_law_named"), DH.fa (.keep "_law_ascending"), DH.fa (.glo "_law_ascending"), DH.cmtC "Bound" "single", DH.fa (.exm "BadName" "BadName" true)]
def fs3 : List DH.Chk := [DH.fa (.exm "BadBound" "BadName" false), DH.fa (.glo "DoubleName"), DH.excC "BadName", DH.kitC "BadName" "DoubleName" false, DH.fa (.glo "BookError"), DH.kitC "BadName" "BookError" false, DH.fa (.glo "LooksError"), DH.kitC "BadName" "LooksError" true, DH.xflC "BadName" "name", DH.fa (.exm "BadName" "BadBound" false), DH.fa (.exm "BadBound" "BadBound" true), DH.fa (.glo "NestedBound"), DH.excC "BadBound", DH.kitC "BadBound" "NestedBound" false, DH.fa (.glo "NoDoor"), DH.kitC "BadBound" "NoDoor" false, DH.fa (.glo "OtherSchema"), DH.kitC "BadBound" "OtherSchema" false, DH.kitC "BadBound" "BookError" true, DH.kitC "BadBound" "LooksError" true]
def fs4 : List DH.Chk := [DH.fa (.glo "law")]
def fs : List DH.Chk := fs0 ++ fs1 ++ fs2 ++ fs3 ++ fs4
theorem say {K : PySem.W.Frag} {h : Heap} {mg : Str → Option Value} (X : K.In h) (G : h.Ns mainGlobals mg) (c : DH.Says fs ds K) : Say prg K mg where
  k__law_draws := He.keep_ok (c.fact 0 (f := DH.fa (.keep "_law_draws")))
  g__law_draws := He.glo_ok X G (c.fact 1 (f := DH.fa (.glo "_law_draws")))
  k__law_raw := He.keep_ok (c.fact 2 (f := DH.fa (.keep "_law_raw")))
  g__law_raw := He.glo_ok X G (c.fact 3 (f := DH.fa (.glo "_law_raw")))
  k__law_cut := He.keep_ok (c.fact 4 (f := DH.fa (.keep "_law_cut")))
  g__law_cut := He.glo_ok X G (c.fact 5 (f := DH.fa (.glo "_law_cut")))
  k__law_draw := He.keep_ok (c.fact 6 (f := DH.fa (.keep "_law_draw")))
  g__law_draw := He.glo_ok X G (c.fact 7 (f := DH.fa (.glo "_law_draw")))
  k__law_given := He.keep_ok (c.fact 8 (f := DH.fa (.keep "_law_given")))
  g__law_given := He.glo_ok X G (c.fact 9 (f := DH.fa (.glo "_law_given")))
  k__law_columns := He.keep_ok (c.fact 10 (f := DH.fa (.keep "_law_columns")))
  g__law_columns := He.glo_ok X G (c.fact 11 (f := DH.fa (.glo "_law_columns")))
  k__law_name := He.keep_ok (c.fact 12 (f := DH.fa (.keep "_law_name")))
  g__law_name := He.glo_ok X G (c.fact 13 (f := DH.fa (.glo "_law_name")))
  k__law_spoilt := He.keep_ok (c.fact 14 (f := DH.fa (.keep "_law_spoilt")))
  g__law_spoilt := He.glo_ok X G (c.fact 15 (f := DH.fa (.glo "_law_spoilt")))
  n_abs := He.free_ok X G (c.fact 16 (f := DH.fa (.free "abs")))
  mk_Bound := He.mkr_ok (c.fact 17 (f := DH.fa (.mkr "Bound")))
  g_Bound := He.glo_ok X G (c.fact 18 (f := DH.fa (.glo "Bound")))
  k__law_due := He.keep_ok (c.fact 19 (f := DH.fa (.keep "_law_due")))
  g__law_due := He.glo_ok X G (c.fact 20 (f := DH.fa (.glo "_law_due")))
  k__law_outcome := He.keep_ok (c.fact 21 (f := DH.fa (.keep "_law_outcome")))
  g__law_outcome := He.glo_ok X G (c.fact 22 (f := DH.fa (.glo "_law_outcome")))
  k__law_same := He.keep_ok (c.fact 23 (f := DH.fa (.keep "_law_same")))
  g__law_same := He.glo_ok X G (c.fact 24 (f := DH.fa (.glo "_law_same")))
  pr_Bound_door := DH.prpC_ok (c.fact 25 (f := DH.prpC "Bound" "door"))
  sc_Bound := DH.sclC_ok (c.fact 26 (f := DH.sclC "Bound"))
  sl_Bound_limit := DH.sltC_ok (c.fact 27 (f := DH.sltC "Bound" "limit" 1))
  sl_Bound_given := DH.sltC_ok (c.fact 28 (f := DH.sltC "Bound" "given" 0))
  sl_Bound_table := DH.sltC_ok (c.fact 29 (f := DH.sltC "Bound" "table" 2))
  n_list := He.free_ok X G (c.fact 30 (f := DH.fa (.free "list")))
  n_len := He.free_ok X G (c.fact 31 (f := DH.fa (.free "len")))
  n_int := He.free_ok X G (c.fact 32 (f := DH.fa (.free "int")))
  n_range := He.free_ok X G (c.fact 33 (f := DH.fa (.free "range")))
  n_tuple := He.free_ok X G (c.fact 34 (f := DH.fa (.free "tuple")))
  k__law_mixed := He.keep_ok (c.fact 35 (f := DH.fa (.keep "_law_mixed")))
  g__law_mixed := He.glo_ok X G (c.fact 36 (f := DH.fa (.glo "_law_mixed")))
  n_str := He.free_ok X G (c.fact 37 (f := DH.fa (.free "str")))
  k_check_name := He.keep_ok (c.fact 38 (f := DH.fa (.keep "check_name")))
  g_check_name := He.glo_ok X G (c.fact 39 (f := DH.fa (.glo "check_name")))
  k_check_given := He.keep_ok (c.fact 40 (f := DH.fa (.keep "check_given")))
  g_check_given := He.glo_ok X G (c.fact 41 (f := DH.fa (.glo "check_given")))
  x_BadBound := id (c.fact 42 (f := DH.fa (.exc "BadBound")))
  g_BadBound := He.glo_ok X G (c.fact 43 (f := DH.fa (.glo "BadBound")))
  k_is_name := He.keep_ok (c.fact 44 (f := DH.fa (.keep "is_name")))
  g_is_name := He.glo_ok X G (c.fact 45 (f := DH.fa (.glo "is_name")))
  su_BadName := DH.supC_ok (df := d_BadName_D_init_D_) rfl (c.dval 21) (c.dok 21) rfl rfl rfl rfl rfl rfl rfl (c.fact 46)
  g_BadName := He.glo_ok X G (c.fact 47 (f := DH.fa (.glo "BadName")))
  i_LONGEST_NAME := He.int_ok X G (c.fact 48 (f := DH.fa (.int "LONGEST_NAME" 12)))
  s_LETTERS := He.str_ok X G (c.fact 49 (f := DH.fa (.str "LETTERS" "abcdefghijklmnopqrstuvwxyz")))
  s_DIGITS := He.str_ok X G (c.fact 50 (f := DH.fa (.str "DIGITS" "0123456789")))
  i_WIDEST := He.int_ok X G (c.fact 51 (f := DH.fa (.int "WIDEST" 4)))
  n_isinstance := He.free_ok X G (c.fact 52 (f := DH.fa (.free "isinstance")))
  n_bool := He.free_ok X G (c.fact 53 (f := DH.fa (.free "bool")))
  k__law_named := He.keep_ok (c.fact 54 (f := DH.fa (.keep "_law_named")))
  g__law_named := He.glo_ok X G (c.fact 55 (f := DH.fa (.glo "_law_named")))
  k__law_ascending := He.keep_ok (c.fact 56 (f := DH.fa (.keep "_law_ascending")))
  g__law_ascending := He.glo_ok X G (c.fact 57 (f := DH.fa (.glo "_law_ascending")))
  cm_Bound_single := DH.cmtC_ok (c.fact 58 (f := DH.cmtC "Bound" "single"))
  e_BadName_BadName := He.exm_ok (c.fact 59 (f := DH.fa (.exm "BadName" "BadName" true)))
  e_BadBound_BadName := He.exm_ok (c.fact 60 (f := DH.fa (.exm "BadBound" "BadName" false)))
  g_DoubleName := He.glo_ok X G (c.fact 61 (f := DH.fa (.glo "DoubleName")))
  xc_BadName := DH.excC_ok (c.fact 62 (f := DH.excC "BadName"))
  t_BadName_DoubleName := of_decide_eq_true (c.fact 63 (f := DH.kitC "BadName" "DoubleName" false))
  g_BookError := He.glo_ok X G (c.fact 64 (f := DH.fa (.glo "BookError")))
  t_BadName_BookError := of_decide_eq_true (c.fact 65 (f := DH.kitC "BadName" "BookError" false))
  g_LooksError := He.glo_ok X G (c.fact 66 (f := DH.fa (.glo "LooksError")))
  t_BadName_LooksError := of_decide_eq_true (c.fact 67 (f := DH.kitC "BadName" "LooksError" true))
  xf_BadName_name := DH.xflC_ok (c.fact 68 (f := DH.xflC "BadName" "name"))
  e_BadName_BadBound := He.exm_ok (c.fact 69 (f := DH.fa (.exm "BadName" "BadBound" false)))
  e_BadBound_BadBound := He.exm_ok (c.fact 70 (f := DH.fa (.exm "BadBound" "BadBound" true)))
  g_NestedBound := He.glo_ok X G (c.fact 71 (f := DH.fa (.glo "NestedBound")))
  xc_BadBound := DH.excC_ok (c.fact 72 (f := DH.excC "BadBound"))
  t_BadBound_NestedBound := of_decide_eq_true (c.fact 73 (f := DH.kitC "BadBound" "NestedBound" false))
  g_NoDoor := He.glo_ok X G (c.fact 74 (f := DH.fa (.glo "NoDoor")))
  t_BadBound_NoDoor := of_decide_eq_true (c.fact 75 (f := DH.kitC "BadBound" "NoDoor" false))
  g_OtherSchema := He.glo_ok X G (c.fact 76 (f := DH.fa (.glo "OtherSchema")))
  t_BadBound_OtherSchema := of_decide_eq_true (c.fact 77 (f := DH.kitC "BadBound" "OtherSchema" false))
  t_BadBound_BookError := of_decide_eq_true (c.fact 78 (f := DH.kitC "BadBound" "BookError" true))
  t_BadBound_LooksError := of_decide_eq_true (c.fact 79 (f := DH.kitC "BadBound" "LooksError" true))
  g_law := He.glo_ok X G (c.fact 80 (f := DH.fa (.glo "law")))
theorem chain {w : World} {K : PySem.W.Frag} {h : Heap} {mg : Str → Option Value} (X : K.In h) (G : h.Ns mainGlobals mg) (c : DH.Says fs ds K) :
    ∃ fd : FuncData, (∀ (s : Shared) (v : Value), BindsTo s fd ⟨[v], []⟩ [("script", v)]) ∧ ∀ base : Heap, K.In base → base.Ns mainGlobals mg → FnOk prg w K mg base (L2.CX prg w) 7 (He.ga K "law") fd ["script"] (liftD K sp_law) := by
  have Y := say X G c
  obtain ⟨fd__law_draws, F__law_draws⟩ := c.fn 0 (d := d__law_draws)
  obtain ⟨fd__law_raw, F__law_raw⟩ := c.fn 1 (d := d__law_raw)
  obtain ⟨fd__law_cut, F__law_cut⟩ := c.fn 2 (d := d__law_cut)
  obtain ⟨fd__law_given, F__law_given⟩ := c.fn 3 (d := d__law_given)
  obtain ⟨fd__law_mixed, F__law_mixed⟩ := c.fn 4 (d := d__law_mixed)
  obtain ⟨fd__law_draw, F__law_draw⟩ := c.fn 5 (d := d__law_draw)
  obtain ⟨fd__law_columns, F__law_columns⟩ := c.fn 6 (d := d__law_columns)
  obtain ⟨fd__law_name, F__law_name⟩ := c.fn 7 (d := d__law_name)
  obtain ⟨fd__law_spoilt, F__law_spoilt⟩ := c.fn 8 (d := d__law_spoilt)
  obtain ⟨fd_is_name, F_is_name⟩ := c.fn 9 (d := d_is_name)
  obtain ⟨fd_check_name, F_check_name⟩ := c.fn 10 (d := d_check_name)
  obtain ⟨fd_check_given, F_check_given⟩ := c.fn 11 (d := d_check_given)
  obtain ⟨fd_Bound__D_init_D_, F_Bound__D_init_D_⟩ := c.fn 12 (d := d_Bound__D_init_D_)
  obtain ⟨fd__law_same, F__law_same⟩ := c.fn 13 (d := d__law_same)
  obtain ⟨fd__law_named, F__law_named⟩ := c.fn 14 (d := d__law_named)
  obtain ⟨fd__law_ascending, F__law_ascending⟩ := c.fn 15 (d := d__law_ascending)
  obtain ⟨fd__law_due, F__law_due⟩ := c.fn 16 (d := d__law_due)
  obtain ⟨fd_Bound_single, F_Bound_single⟩ := c.fn 17 (d := d_Bound_single)
  obtain ⟨fd_Bound_door, F_Bound_door⟩ := c.fn 18 (d := d_Bound_door)
  obtain ⟨fd__law_outcome, F__law_outcome⟩ := c.fn 19 (d := d__law_outcome)
  obtain ⟨fd_law, F_law⟩ := c.fn 20 (d := d_law)
  refine ⟨fd_law, fun s v => (FunD.bindsA (ps := ["script"]) F_law fun _ _ _ _ _ _ us hl => match us, hl with | [_], _ => rfl) s [v] rfl, fun base _ _ => ?_⟩
  have C__law_draws := FnD.weak (fnD (ok__law_draws (P := prg) (w := w) (base := base) Y F__law_draws) F__law_draws bn__law_draws) wk__law_draws
  have C__law_raw := FnD.weak (fnD (ok__law_raw (P := prg) (w := w) (base := base) Y F__law_raw) F__law_raw bn__law_raw) wk__law_raw
  have C__law_cut := FnD.weak (fnD (ok__law_cut (P := prg) (w := w) (base := base) Y F__law_cut) F__law_cut bn__law_cut) wk__law_cut
  have C__law_given := FnD.weak (fnD (ok__law_given (P := prg) (w := w) (base := base) Y F__law_given) F__law_given bn__law_given) wk__law_given
  have C__law_mixed := FnD.weak (fnD (ok__law_mixed (P := prg) (w := w) (base := base) Y F__law_mixed) F__law_mixed bn__law_mixed) wk__law_mixed
  have C__law_draw := FnD.weak (fnD (ok__law_draw (P := prg) (w := w) (base := base) Y F__law_draw C__law_mixed) F__law_draw bn__law_draw) wk__law_draw
  have C__law_columns := FnD.weak (fnD (ok__law_columns (P := prg) (w := w) (base := base) Y F__law_columns C__law_draw) F__law_columns bn__law_columns) wk__law_columns
  have C__law_name := FnD.weak (fnD (ok__law_name (P := prg) (w := w) (base := base) Y F__law_name C__law_draw) F__law_name bn__law_name) wk__law_name
  have C__law_spoilt := FnD.weak (fnD (ok__law_spoilt (P := prg) (w := w) (base := base) Y F__law_spoilt C__law_draw) F__law_spoilt bn__law_spoilt) wk__law_spoilt
  have C_is_name := FnD.weak (fnD (ok_is_name (P := prg) (w := w) (base := base) Y F_is_name) F_is_name bn_is_name) wk_is_name
  have C_check_name := FnD.weak (fnD (ok_check_name (P := prg) (w := w) (base := base) Y F_check_name C_is_name) F_check_name bn_check_name) wk_check_name
  have C_check_given := FnD.weak (fnD (ok_check_given (P := prg) (w := w) (base := base) Y F_check_given) F_check_given bn_check_given) wk_check_given
  have C_Bound__D_init_D_ := FnD.weak (fnD (ok_Bound__D_init_D_ (P := prg) (w := w) (base := base) Y F_Bound__D_init_D_ C_check_name C_check_given) F_Bound__D_init_D_ bn_Bound__D_init_D_) wk_Bound__D_init_D_
  have C__law_same := rec__law_same (P := prg) (w := w) (base := base) Y F__law_same
  have C__law_named := FnD.weak (fnD (ok__law_named (P := prg) (w := w) (base := base) Y F__law_named) F__law_named bn__law_named) wk__law_named
  have C__law_ascending := FnD.weak (fnD (ok__law_ascending (P := prg) (w := w) (base := base) Y F__law_ascending) F__law_ascending bn__law_ascending) wk__law_ascending
  have C__law_due := FnD.weak (fnD (ok__law_due (P := prg) (w := w) (base := base) Y F__law_due C__law_named C__law_ascending) F__law_due bn__law_due) wk__law_due
  have C_Bound_single := FnD.weak (fnD (ok_Bound_single (P := prg) (w := w) (base := base) Y F_Bound_single C_Bound__D_init_D_) F_Bound_single bn_Bound_single) wk_Bound_single
  have C_Bound_door := FnD.weak (fnD (ok_Bound_door (P := prg) (w := w) (base := base) Y F_Bound_door) F_Bound_door bn_Bound_door) wk_Bound_door
  have C__law_outcome := FnD.weak (fnD (ok__law_outcome (P := prg) (w := w) (base := base) Y F__law_outcome C_Bound_single C_Bound__D_init_D_ C_Bound_door) F__law_outcome bn__law_outcome) wk__law_outcome
  exact (ok_law (P := prg) (w := w) (base := base) Y F_law C__law_draws C__law_raw C__law_cut C__law_given C__law_draw C__law_columns C__law_name C__law_spoilt C_Bound__D_init_D_ C__law_same C__law_due C__law_outcome C_Bound_door).imp (liftD_weak wk_law)
def loose0 : List Str := ["LooksError", "BadName", "DoubleName", "BadWidth", "BookError", "BadBound", "NestedBound", "NoDoor", "OtherSchema", "Unreadable", "LETTERS", "DIGITS", "LONGEST_NAME", "WIDEST", "is_name", "check_name", "LONGEST_NUMBER", "read_number", "split_once", "split_list"]
def loose1 : List Str := ["read_call", "check_given", "picked", "Bound", "_law_draws", "_law_mixed", "_law_draw", "_law_name", "_law_given", "_law_same", "_law_raw", "_law_cut", "_law_named", "_law_spoilt", "_law_columns", "_law_ascending", "_law_due", "_law_outcome"]
def loose : List Str := loose0 ++ loose1
abbrev R : PySem.W.OpenRow := PySem.W.OpenLaw.row PySem.Challenge.rw_steadykept_k07_bounds_made_and_refused
abbrev hk : PySem.W.Hook := DH.hook 7 fs ds
def ob (s : PySem.W.SharedT) : DH.AlA := DH.obsG 7 fs ds (HandSHeadRun.getT s)
theorem ob_eq (s : PySem.W.SharedT) : ob s = hk.obs s.abs := DH.obsG_eq (HandSHeadRun.getT_eq s)
theorem run (w : World) : HandSHeadRun.RunEq R (PySem.W.view R.prog [43]) hk ob 6000 loose w := by
  intro os
  kernel_rfl
end K07
open PySem PySem.W PySem.Calls PyProof.Rows
theorem PySem.Challenge.cw_steadykept_k07_bounds_made_and_refused_holds : PySem.Challenge.rw_steadykept_k07_bounds_made_and_refused.Holds := by
  w_on; o_law
  refine HandSHeadRun.head_any (r := OpenLaw.row PySem.Challenge.rw_steadykept_k07_bounds_made_and_refused) (q := view (OpenLaw.row PySem.Challenge.rw_steadykept_k07_bounds_made_and_refused).prog [43]) (H := K07.hk) (ob := K07.ob) (M := 6000) (loose := K07.loose) (d := HandSHeadRun.topDef (OpenLaw.row PySem.Challenge.rw_steadykept_k07_bounds_made_and_refused).prog 43) (kwd := []) K07.ob_eq
    (by kernel_rfl) (fun s => by kernel_rfl) K07.run (by kernel_rfl) (by kernel_rfl) (by kernel_rfl) (by rfl) (by first | assumption | decide +kernel) (by decide +kernel) ⟨rfl, rfl, rfl, rfl, rfl, by decide +kernel⟩ ?hw ?hc
  case hw => w_witness2
  case hc =>
    refine DL.walk_D (x := "script") (l := PySem.Challenge.rw_steadykept_k07_bounds_made_and_refused) (n := 63) (k := 7) rfl (by decide) (by kernel_rfl) ⟨rfl, by decide, by decide⟩ ?F
    intro w mg fa h Y G hmg0
    obtain ⟨K, KX, c⟩ := Y
    have hmg : mg ("law" : PySem.Str) = some (.ref fa) := by
      have e : (HandSHeadRun.topDef (OpenLaw.row PySem.Challenge.rw_steadykept_k07_bounds_made_and_refused).prog 43).name = ("law" : PySem.Str) := by kernel_rfl
      rw [← e]
      exact hmg0
    have e := hmg.symm.trans (K07.say KX G c).g_law
    cases e
    obtain ⟨fd, hb, hF⟩ := K07.chain (w := w) KX G c
    exact ⟨K, fd, K07.sp_law, KX, hb, K07.law_true, hF⟩

