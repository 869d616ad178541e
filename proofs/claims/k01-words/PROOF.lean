import PyProof.Rows.All
import HandS.ForMost
import HandS.ForExc
import HandS.IsInst
import HandS.Style
import HandS.TupAny
import HandS.TupMul
import HandS.Deep
import HandS.Flow
import HandS.CallSlots
import HandS.Defaults
import HandS.Head0
import HandS.Head1
import HandS.Head2
import HandS.HeadEnd
import HandS.HeadHook1
import HandS.HeadHook2
import KE.KxText
import PySem.Challenge.RW_ineditions_k01_words_ways_maps_tables
set_option Elab.async false
set_option linter.all false
set_option maxRecDepth 100000
/-! ML1: mirrors by value. A def's mirror is a partial function over slots that hold data; where it gives a value the def does. -/
namespace ML
open PySem PySem.Spec PyProof.Rows L2

abbrev D := PyData
abbrev St := L2.St
/-- what a slot holds: nothing known, data that never change, a list of the def's own (it may change), a list handed in to be changed -/
inductive Sl where
  | no | frz (d : D) | own (ds : List D) | io (ds : List D)
abbrev Rh := List Sl
/-- what an expression gives: data, a new list, the list that stands in a slot -/
inductive Out where
  | v (d : D) | fr (ds : List D) | bor (i : Nat)

/-! ### data in a heap -/
mutual
inductive Rp (K : PySem.W.Frag) (F : Hp) : V → D → Prop
  | non : Rp K F .non .none
  | bl (b : Bool) : Rp K F (.bl b) (.bool b)
  | int (i : Int) : Rp K F (.int i) (.int i)
  | str (x : Str) : Rp K F (.str x) (.str x)
  | lst {a : Addr} {xs : List V} {ds : List D} : SqL K F a xs → Rps K F xs ds → Rp K F (.ref a) (.list ds)
  | tup {a : Addr} {xs : List V} {ds : List D} : SqT K F a xs → Rps K F xs ds → Rp K F (.ref a) (.tuple ds)
inductive Rps (K : PySem.W.Frag) (F : Hp) : List V → List D → Prop
  | nil : Rps K F [] []
  | cons {v : V} {vs : List V} {d : D} {ds : List D} : Rp K F v d → Rps K F vs ds → Rps K F (v :: vs) (d :: ds)
end
section
variable {K : PySem.W.Frag} {F F' H : Hp}
theorem Rd.mono (h : Same F F') {a : Addr} {u : HO} (r : Rd F a u) : Rd F' a u := by
  rcases r with r | ⟨o, r⟩
  · exact .inl (h _ _ r)
  · exact .inr ⟨o, h _ _ r⟩
theorem SqL.mono (h : Same F F') {a : Addr} {xs : List V} (r : SqL K F a xs) : SqL K F' a xs := by
  rcases r with r | r
  · exact .inl (Rd.mono h r)
  · exact .inr r
theorem SqT.mono (h : Same F F') {a : Addr} {xs : List V} (r : SqT K F a xs) : SqT K F' a xs := by
  rcases r with r | r
  · exact .inl (Rd.mono h r)
  · exact .inr r
mutual
theorem Rp.mono (h : Same F F') : ∀ {v : V} {d : D}, Rp K F v d → Rp K F' v d
  | _, _, .non => .non
  | _, _, .bl b => .bl b
  | _, _, .int i => .int i
  | _, _, .str x => .str x
  | _, _, .lst r rs => .lst (SqL.mono h r) (Rps.mono h rs)
  | _, _, .tup r rs => .tup (SqT.mono h r) (Rps.mono h rs)
theorem Rps.mono (h : Same F F') : ∀ {vs : List V} {ds : List D}, Rps K F vs ds → Rps K F' vs ds
  | _, _, .nil => .nil
  | _, _, .cons r rs => .cons (Rp.mono h r) (Rps.mono h rs)
end
mutual
theorem Rp.dp : ∀ {v : V} {d : D}, Rp K F v d → Dp K F v d
  | _, _, .non => .non
  | _, _, .bl b => .bl b
  | _, _, .int i => .int i
  | _, _, .str x => .str x
  | _, _, .lst r rs => .lst r (Rps.dp rs)
  | _, _, .tup r rs => .tup r (Rps.dp rs)
theorem Rps.dp : ∀ {vs : List V} {ds : List D}, Rps K F vs ds → DpAll K F vs ds
  | _, _, .nil => .nil
  | _, _, .cons r rs => .cons (Rp.dp r) (Rps.dp rs)
end
theorem Rps.length : ∀ {vs : List V} {ds : List D}, Rps K F vs ds → vs.length = ds.length
  | _, _, .nil => rfl
  | _, _, .cons _ rs => by simp [Rps.length rs]
theorem Rps.get : ∀ {vs : List V} {ds : List D} {i : Nat} {d : D}, Rps K F vs ds → ds[i]? = some d → ∃ v, vs[i]? = some v ∧ Rp K F v d
  | _, _, _, _, .nil, e => by simp at e
  | _, _, 0, _, .cons r _, e => by simp at e; subst e; exact ⟨_, rfl, r⟩
  | _, _, i + 1, d, .cons _ t, e => by
    obtain ⟨u, h1, h2⟩ := Rps.get (i := i) (d := d) t (by simpa using e)
    exact ⟨u, by simpa using h1, h2⟩
theorem Rps.getV : ∀ {vs : List V} {ds : List D} {i : Nat} {v : V}, Rps K F vs ds → vs[i]? = some v → ∃ d, ds[i]? = some d ∧ Rp K F v d
  | _, _, _, _, .nil, e => by simp at e
  | _, _, 0, _, .cons r _, e => by simp at e; subst e; exact ⟨_, rfl, r⟩
  | _, _, i + 1, v, .cons _ t, e => by
    obtain ⟨u, h1, h2⟩ := Rps.getV (i := i) (v := v) t (by simpa using e)
    exact ⟨u, by simpa using h1, h2⟩
theorem Rps.append : ∀ {xs ys : List V} {us ws : List D}, Rps K F xs us → Rps K F ys ws → Rps K F (xs ++ ys) (us ++ ws)
  | _, _, _, _, .nil, s => s
  | _, _, _, _, .cons r t, s => .cons r (Rps.append t s)
theorem Rps.one {v : V} {d : D} (r : Rp K F v d) : Rps K F [v] [d] := .cons r .nil
theorem Rps.take : ∀ {xs : List V} {us : List D} (n : Nat), Rps K F xs us → Rps K F (xs.take n) (us.take n)
  | _, _, 0, _ => .nil
  | _, _, _ + 1, .nil => .nil
  | _, _, n + 1, .cons r t => .cons r (Rps.take n t)
theorem Rps.drop : ∀ {xs : List V} {us : List D} (n : Nat), Rps K F xs us → Rps K F (xs.drop n) (us.drop n)
  | _, _, 0, r => r
  | _, _, _ + 1, .nil => .nil
  | _, _, n + 1, .cons _ t => Rps.drop n t
theorem Rps.set {x : V} {u : D} (r : Rp K F x u) : ∀ {xs : List V} {us : List D} (i : Nat), Rps K F xs us → Rps K F (xs.set i x) (us.set i u)
  | _, _, _, .nil => .nil
  | _, _, 0, .cons _ t => .cons r t
  | _, _, i + 1, .cons q t => .cons q (Rps.set r i t)
theorem Rps.rep {xs : List V} {us : List D} (h : Rps K F xs us) : ∀ k : Nat, Rps K F (List.replicate k xs).flatten (List.replicate k us).flatten
  | 0 => .nil
  | k + 1 => by
    rw [List.replicate_succ, List.replicate_succ, List.flatten_cons, List.flatten_cons]
    exact h.append (Rps.rep h k)
theorem Rps.nil_iff {xs : List V} {us : List D} (h : Rps K F xs us) : xs = [] ↔ us = [] := by
  cases h <;> simp
theorem Rps.isEmpty {xs : List V} {us : List D} (h : Rps K F xs us) : xs.isEmpty = us.isEmpty := by
  cases h <;> rfl
theorem Rps.ints : ∀ (ns : List Int), Rps K F (ns.map V.int) (ns.map PyData.int)
  | [] => .nil
  | n :: ns => .cons (.int n) (Rps.ints ns)
end

/-! ### the state -/
/-- the entry: heap, what never changes, the lists handed in to be changed, the slots -/
structure Gh where
  H0 : Hp
  F0 : Hp
  io : List Addr
  s0 : St
def Sl.cont : Sl → Option (List D)
  | .own ds => some ds
  | .io ds => some ds
  | _ => none
/-- slot i holds a list of its own at a -/
def Own (ρ : Rh) (σ : St) (i : Nat) (a : Addr) : Prop := (∃ (s : Sl) (ds : List D), ρ[i]? = some s ∧ s.cont = some ds) ∧ σ[i]? = some (some (.ref a))
structure Rl (K : PySem.W.Frag) (G : Gh) (F : Hp) (ρ : Rh) (σ : St) (H : Hp) : Prop where
  len : ρ.length = σ.length
  sub : Same F H
  base : Same G.F0 F
  keep : ∀ a o, G.H0 a = some o → a ∉ G.io → H a = some o
  ext : ∀ a, F a ≠ none → G.F0 a ≠ none ∨ G.H0 a = none ∨ a ∈ G.io
  frz : ∀ (i : Nat) (d : D), ρ[i]? = some (.frz d) → ∃ v, σ[i]? = some (some v) ∧ Rp K F v d
  own : ∀ (i : Nat) (s : Sl) (ds : List D), ρ[i]? = some s → s.cont = some ds → ∃ (a : Addr) (vs : List V), σ[i]? = some (some (V.ref a)) ∧ H a = some (.lst vs) ∧ F a = none ∧ Rps K F vs ds ∧ (G.H0 a = none ∨ a ∈ G.io)
  sep : ∀ (i j : Nat) (a : Addr), Own ρ σ i a → Own ρ σ j a → i = j
  pin : ∀ (i : Nat) (ds : List D), ρ[i]? = some (.io ds) → σ[i]? = G.s0[i]?
/-- what an expression's value is -/
def OutOk (K : PySem.W.Frag) (G : Gh) (F : Hp) (ρ : Rh) (σ : St) (H : Hp) (v : V) : Out → Prop
  | .v d => Rp K F v d
  | .fr ds => ∃ a vs, v = .ref a ∧ H a = some (.lst vs) ∧ F a = none ∧ Rps K F vs ds ∧ (G.H0 a = none ∨ a ∈ G.io) ∧ ∀ i, ¬ Own ρ σ i a
  | .bor i => σ[i]? = some (some v)
/-- data that can be read, now -/
def RdV (K : PySem.W.Frag) (F H : Hp) (v : V) (d : D) : Prop := Rp K F v d ∨ ∃ (a : Addr) (vs : List V) (ds : List D), v = .ref a ∧ d = .list ds ∧ H a = some (.lst vs) ∧ Rps K F vs ds
def rd (ρ : Rh) : Out → Option D
  | .v d => some d
  | .fr ds => some (.list ds)
  | .bor i => match ρ[i]? with
    | some (.frz d) => some d
    | some (.own ds) => some (.list ds)
    | some (.io ds) => some (.list ds)
    | _ => none
section
variable {K : PySem.W.Frag} {G : Gh} {F F' H H' : Hp} {ρ ρ' : Rh} {σ : St} {v : V} {d : D} {r : Out}
theorem RdV.dp (h : RdV K F H v d) (s : Same F H) : Dp K H v d := by
  rcases h with h | ⟨a, vs, ds, rfl, rfl, h1, h2⟩
  · exact (Rp.mono s h).dp
  · exact .lst (.inl (.inl h1)) (Rps.mono s h2).dp
theorem RdV.int {i : Int} (h : RdV K F H v (.int i)) : v = .int i := by
  rcases h with h | ⟨_, _, _, _, e, _⟩
  · cases h; rfl
  · cases e
theorem RdV.bl {i : Bool} (h : RdV K F H v (.bool i)) : v = .bl i := by
  rcases h with h | ⟨_, _, _, _, e, _⟩
  · cases h; rfl
  · cases e
theorem RdV.str {i : Str} (h : RdV K F H v (.str i)) : v = .str i := by
  rcases h with h | ⟨_, _, _, _, e, _⟩
  · cases h; rfl
  · cases e
theorem RdV.non (h : RdV K F H v .none) : v = .non := by
  rcases h with h | ⟨_, _, _, _, e, _⟩
  · cases h; rfl
  · cases e
theorem RdV.list {ds : List D} (h : RdV K F H v (.list ds)) (s : Same F H) : ∃ a vs, v = .ref a ∧ SqL K H a vs ∧ Rps K F vs ds := by
  rcases h with h | ⟨a, vs, ds', rfl, e, h1, h2⟩
  · cases h with
    | lst h1 h2 => exact ⟨_, _, rfl, SqL.mono s h1, h2⟩
  · cases e
    exact ⟨a, vs, rfl, .inl (.inl h1), h2⟩
theorem RdV.tup {ds : List D} (h : RdV K F H v (.tuple ds)) (s : Same F H) : ∃ a vs, v = .ref a ∧ SqT K H a vs ∧ Rps K F vs ds := by
  rcases h with h | ⟨a, vs, ds', rfl, e, h1, h2⟩
  · cases h with
    | tup h1 h2 => exact ⟨_, _, rfl, SqT.mono s h1, h2⟩
  · cases e
theorem RdV.mono (h : RdV K F H v d) (s : Same F F') (e : ∀ a xs, H a = some (.lst xs) → H' a = some (.lst xs)) : RdV K F' H' v d := by
  rcases h with h | ⟨a, vs, ds', rfl, e1, h1, h2⟩
  · exact .inl (Rp.mono s h)
  · exact .inr ⟨a, vs, ds', rfl, e1, e _ _ h1, Rps.mono s h2⟩
/-- what is read of an expression's value -/
theorem Rl.rdV (R : Rl K G F ρ σ H) (o : OutOk K G F ρ σ H v r) (e : rd ρ r = some d) : RdV K F H v d := by
  cases r with
  | v d' =>
    cases e
    exact .inl o
  | fr ds =>
    cases e
    obtain ⟨a, vs, rfl, h1, _, h2, _⟩ := o
    exact .inr ⟨a, vs, ds, rfl, rfl, h1, h2⟩
  | bor i =>
    have o' : σ[i]? = some (some v) := o
    cases hs : ρ[i]? with
    | none => simp [rd, hs] at e
    | some s =>
      cases s with
      | no => simp [rd, hs] at e
      | frz d' =>
        simp [rd, hs] at e
        subst e
        obtain ⟨v', h1, h2⟩ := R.frz i _ hs
        rw [o'] at h1; cases h1
        exact .inl h2
      | own ds =>
        simp [rd, hs] at e
        subst e
        obtain ⟨a, vs, h1, h2, _, h3, _⟩ := R.own i _ ds hs rfl
        rw [o'] at h1; cases h1
        exact .inr ⟨a, vs, ds, rfl, rfl, h2, h3⟩
      | io ds =>
        simp [rd, hs] at e
        subst e
        obtain ⟨a, vs, h1, h2, _, h3, _⟩ := R.own i _ ds hs rfl
        rw [o'] at h1; cases h1
        exact .inr ⟨a, vs, ds, rfl, rfl, h2, h3⟩
theorem Rl.ownNe (R : Rl K G F ρ σ H) {i : Nat} {a : Addr} (o : Own ρ σ i a) : ∃ vs, H a = some (.lst vs) ∧ F a = none := by
  obtain ⟨⟨s, ds, h1, h2⟩, h3⟩ := o
  obtain ⟨a', vs, e, h4, h5, _⟩ := R.own i s ds h1 h2
  rw [h3] at e; cases e
  exact ⟨vs, h4, h5⟩
/-- a new object is laid that never changes -/
theorem Rl.layF {p : Addr} {o : HO} (R : Rl K G F ρ σ H) (hp : H p = none) (hn : F p = none := by assumption) : Rl K G (upd F p o) ρ σ (upd H p o) ∧ Same F (upd F p o) := by
  have s1 : Same F (upd F p o) := fun b u e => by
    rw [upd_ne (ne_of_none e hn)]; exact e
  have own_ne : ∀ {i a}, Own ρ σ i a → a ≠ p := fun {i a} h z => by
    obtain ⟨vs, h1, _⟩ := R.ownNe h
    rw [z, hp] at h1; cases h1
  refine ⟨⟨R.len, fun b u e => ?_, fun b u e => s1 b u (R.base b u e), fun b u e h => ?_, fun b h => ?_, fun i d e => ?_, fun i s ds e c => ?_, R.sep, R.pin⟩, s1⟩
  · by_cases hb : b = p
    · subst hb; rw [upd_same] at e ⊢; exact e
    · rw [upd_ne hb] at e ⊢; exact R.sub b u e
  · have q := R.keep b u e h
    rw [upd_ne (ne_of_none q hp)]; exact q
  · by_cases hb : b = p
    · subst hb
      by_cases hio : b ∈ G.io
      · exact .inr (.inr hio)
      · refine .inr (.inl ?_)
        cases q : G.H0 b with
        | none => rfl
        | some u =>
          have := R.keep b u q hio
          rw [hp] at this; cases this
    · rw [upd_ne hb] at h; exact R.ext b h
  · obtain ⟨v, h1, h2⟩ := R.frz i d e
    exact ⟨v, h1, Rp.mono s1 h2⟩
  · obtain ⟨a, vs, h1, h2, h3, h4, h5⟩ := R.own i s ds e c
    have na : a ≠ p := own_ne ⟨⟨s, ds, e, c⟩, h1⟩
    exact ⟨a, vs, h1, by rw [upd_ne na]; exact h2, by rw [upd_ne na]; exact h3, Rps.mono s1 h4, h5⟩
theorem Rl.freeF (R : Rl K G F ρ σ H) {p : Addr} (hp : H p = none) : F p = none := R.sub.free hp
/-- a new list that may change -/
theorem Rl.lay {p : Addr} {o : HO} (R : Rl K G F ρ σ H) (hp : H p = none) : Rl K G F ρ σ (upd H p o) := by
  refine ⟨R.len, fun b u e => ?_, R.base, fun b u e h => ?_, R.ext, R.frz, fun i s ds e c => ?_, R.sep, R.pin⟩
  · have q := R.sub b u e
    rw [upd_ne (ne_of_none q hp)]; exact q
  · have q := R.keep b u e h
    rw [upd_ne (ne_of_none q hp)]; exact q
  · obtain ⟨a, vs, h1, h2, h3, h4, h5⟩ := R.own i s ds e c
    exact ⟨a, vs, h1, by rw [upd_ne (ne_of_none h2 hp)]; exact h2, h3, h4, h5⟩
theorem Rl.new0 (R : Rl K G F ρ σ H) {p : Addr} (hp : H p = none) : G.H0 p = none ∨ p ∈ G.io := by
  by_cases hio : p ∈ G.io
  · exact .inr hio
  · refine .inl ?_
    cases q : G.H0 p with
    | none => rfl
    | some u =>
      have := R.keep p u q hio
      rw [hp] at this; cases this
end
end ML

set_option Elab.async false
set_option linter.all false
set_option maxRecDepth 100000
/-! ML2: freezing, expressions. -/
namespace ML
open PySem PySem.Spec PyProof.Rows L2

section
variable {K : PySem.W.Frag} {G : Gh} {F F' H H' : Hp} {ρ ρ' : Rh} {σ : St} {v : V} {d : D} {r : Out}
theorem getSet {α : Type} {l : List α} {i j : Nat} {x y : α} (h : (l.set i x)[j]? = some y) : (j = i ∧ y = x) ∨ (j ≠ i ∧ l[j]? = some y) := by
  by_cases e : i = j
  · subst e
    by_cases hl : i < l.length
    · rw [List.getElem?_set_self hl] at h; cases h; exact .inl ⟨rfl, rfl⟩
    · rw [List.getElem?_eq_none (by simpa using hl)] at h; cases h
  · rw [List.getElem?_set_ne e] at h
    exact .inr ⟨fun z => e z.symm, h⟩
theorem Own.of_set {i j : Nat} {s : Sl} {a : Addr} (h : Own (ρ.set i s) σ j a) (hs : s.cont = none) : Own ρ σ j a ∧ j ≠ i := by
  obtain ⟨⟨s', ds, h1, h2⟩, h3⟩ := h
  rcases getSet h1 with ⟨_, e⟩ | ⟨ne, e⟩
  · subst e; rw [hs] at h2; cases h2
  · exact ⟨⟨⟨s', ds, e, h2⟩, h3⟩, ne⟩
theorem Own.of_setC {i j : Nat} {s s0 : Sl} {a : Addr} {ds0 : List D} (h : Own (ρ.set i s) σ j a) (h0 : ρ[i]? = some s0) (c0 : s0.cont = some ds0) : Own ρ σ j a := by
  obtain ⟨⟨s', ds, h1, h2⟩, h3⟩ := h
  rcases getSet h1 with ⟨e, _⟩ | ⟨ne, e⟩
  · subst e; exact ⟨⟨s0, ds0, h0, c0⟩, h3⟩
  · exact ⟨⟨s', ds, e, h2⟩, h3⟩
/-- a slot is forgotten -/
theorem Rl.forget (R : Rl K G F ρ σ H) (i : Nat) : Rl K G F (ρ.set i .no) σ H := by
  refine ⟨by rw [List.length_set]; exact R.len, R.sub, R.base, R.keep, R.ext, fun j d e => ?_, fun j s ds e c => ?_, fun j k a h1 h2 => ?_, fun j ds e => ?_⟩
  · rcases getSet e with ⟨_, e⟩ | ⟨_, e⟩
    · cases e
    · exact R.frz j d e
  · rcases getSet e with ⟨_, e⟩ | ⟨_, e⟩
    · subst e; cases c
    · exact R.own j s ds e c
  · exact R.sep j k a (h1.of_set rfl).1 (h2.of_set rfl).1
  · rcases getSet e with ⟨_, e⟩ | ⟨_, e⟩
    · cases e
    · exact R.pin j ds e
/-- a list of one's own never changes from now on -/
theorem Rl.freeze {i : Nat} {ds : List D} (R : Rl K G F ρ σ H) (e : ρ[i]? = some (.own ds)) : ∃ F', Same F F' ∧ Rl K G F' (ρ.set i (.frz (.list ds))) σ H ∧ ∃ a, σ[i]? = some (some (.ref a)) ∧ Rp K F' (.ref a) (.list ds) := by
  obtain ⟨a, vs, h1, h2, h3, h4, h5⟩ := R.own i _ ds e rfl
  have s1 : Same F (upd F a (.lst vs)) := fun b u q => by rw [upd_ne (ne_of_none q h3)]; exact q
  have rp : Rp K (upd F a (.lst vs)) (.ref a) (.list ds) := .lst (.inl (.inl upd_same)) (Rps.mono s1 h4)
  refine ⟨upd F a (.lst vs), s1, ⟨by rw [List.length_set]; exact R.len, fun b u q => ?_, fun b u q => s1 b u (R.base b u q), R.keep, fun b q => ?_, fun j d e' => ?_, fun j s ds' e' c => ?_, fun j k b o1 o2 => ?_, fun j ds' e' => ?_⟩, a, h1, rp⟩
  · by_cases hb : b = a
    · subst hb; rw [upd_same] at q; cases q; exact h2
    · rw [upd_ne hb] at q; exact R.sub b u q
  · by_cases hb : b = a
    · subst hb; exact .inr h5
    · rw [upd_ne hb] at q; exact R.ext b q
  · rcases getSet e' with ⟨e1, e2⟩ | ⟨_, e2⟩
    · subst e1; cases e2
      exact ⟨_, h1, rp⟩
    · obtain ⟨v, q1, q2⟩ := R.frz j d e2
      exact ⟨v, q1, Rp.mono s1 q2⟩
  · rcases getSet e' with ⟨_, e2⟩ | ⟨ne, e2⟩
    · subst e2; cases c
    · obtain ⟨b, ws, q1, q2, q3, q4, q5⟩ := R.own j s ds' e2 c
      have nb : b ≠ a := fun z => ne (R.sep j i a ⟨⟨s, ds', e2, c⟩, z ▸ q1⟩ ⟨⟨_, _, e, rfl⟩, h1⟩)
      exact ⟨b, ws, q1, q2, by rw [upd_ne nb]; exact q3, Rps.mono s1 q4, q5⟩
  · exact R.sep j k b (o1.of_set rfl).1 (o2.of_set rfl).1
  · rcases getSet e' with ⟨_, e2⟩ | ⟨_, e2⟩
    · cases e2
    · exact R.pin j ds' e2
/-- a new list never changes from now on -/
theorem Rl.freezeNew {a : Addr} {vs : List V} (R : Rl K G F ρ σ H) (h2 : H a = some (.lst vs)) (h3 : F a = none) (h5 : G.H0 a = none ∨ a ∈ G.io) (no : ∀ i, ¬ Own ρ σ i a) : Same F (upd F a (.lst vs)) ∧ Rl K G (upd F a (.lst vs)) ρ σ H := by
  have s1 : Same F (upd F a (.lst vs)) := fun b u q => by rw [upd_ne (ne_of_none q h3)]; exact q
  refine ⟨s1, R.len, fun b u q => ?_, fun b u q => s1 b u (R.base b u q), R.keep, fun b q => ?_, fun j d e' => ?_, fun j s ds' e' c => ?_, R.sep, R.pin⟩
  · by_cases hb : b = a
    · subst hb; rw [upd_same] at q; cases q; exact h2
    · rw [upd_ne hb] at q; exact R.sub b u q
  · by_cases hb : b = a
    · subst hb; exact .inr h5
    · rw [upd_ne hb] at q; exact R.ext b q
  · obtain ⟨v, q1, q2⟩ := R.frz j d e'
    exact ⟨v, q1, Rp.mono s1 q2⟩
  · obtain ⟨b, ws, q1, q2, q3, q4, q5⟩ := R.own j s ds' e' c
    have nb : b ≠ a := fun z => no j ⟨⟨s, ds', e', c⟩, z ▸ q1⟩
    exact ⟨b, ws, q1, q2, by rw [upd_ne nb]; exact q3, Rps.mono s1 q4, q5⟩
/-- a list of one's own is changed -/
theorem Rl.write {i : Nat} {s s' : Sl} {ds ds' : List D} {a : Addr} {ws : List V} (R : Rl K G F ρ σ H) (e : ρ[i]? = some s) (c : s.cont = some ds) (hs : (∃ x, s = .own x ∧ s' = .own ds') ∨ (∃ x, s = .io x ∧ s' = .io ds')) (ha : σ[i]? = some (some (.ref a))) (rw' : Rps K F ws ds') :
    Rl K G F (ρ.set i s') σ (upd H a (.lst ws)) := by
  obtain ⟨a', vs, h1, h2, h3, h4, h5⟩ := R.own i s ds e c
  rw [ha] at h1; cases h1
  have c' : s'.cont = some ds' := by rcases hs with ⟨_, _, z⟩ | ⟨_, _, z⟩ <;> subst z <;> rfl
  refine ⟨by rw [List.length_set]; exact R.len, fun b u q => ?_, R.base, fun b u q n => ?_, R.ext, fun j d e' => ?_, fun j t dt e' ct => ?_, fun j k b o1 o2 => R.sep j k b (o1.of_setC e c) (o2.of_setC e c), fun j dt e' => ?_⟩
  · have nb : b ≠ a := fun z => by rw [z, h3] at q; cases q
    rw [upd_ne nb]; exact R.sub b u q
  · have nb : b ≠ a := fun z => by
      rcases h5 with h5 | h5
      · rw [z, h5] at q; cases q
      · exact n (z ▸ h5)
    rw [upd_ne nb]; exact R.keep b u q n
  · rcases getSet e' with ⟨_, e2⟩ | ⟨_, e2⟩
    · subst e2; cases c'
    · exact R.frz j d e2
  · rcases getSet e' with ⟨e1, e2⟩ | ⟨ne, e2⟩
    · subst e1; subst e2
      rw [c'] at ct; cases ct
      exact ⟨a, ws, ha, upd_same, h3, rw', h5⟩
    · obtain ⟨b, xs, q1, q2, q3, q4, q5⟩ := R.own j t dt e2 ct
      have nb : b ≠ a := fun z => ne (R.sep j i a ⟨⟨t, dt, e2, ct⟩, z ▸ q1⟩ ⟨⟨s, ds, e, c⟩, ha⟩)
      exact ⟨b, xs, q1, by rw [upd_ne nb]; exact q2, q3, q4, q5⟩
  · rcases getSet e' with ⟨e1, e2⟩ | ⟨_, e2⟩
    · subst e1
      rcases hs with ⟨x, z1, z2⟩ | ⟨x, z1, z2⟩
      · rw [← e2] at z2; cases z2
      · subst z1; exact R.pin j x e
    · exact R.pin j dt e2
/-- a slot is set to data that never change -/
theorem Rl.setF {i : Nat} (R : Rl K G F ρ σ H) (h : Rp K F v d) (hi : ∀ ds, ρ[i]? ≠ some (.io ds)) (hl : i < ρ.length) : Rl K G F (ρ.set i (.frz d)) (σ.set i (some v)) H := by
  have hl' : i < σ.length := by rw [← R.len]; exact hl
  refine ⟨by rw [List.length_set, List.length_set]; exact R.len, R.sub, R.base, R.keep, R.ext, fun j d' e' => ?_, fun j s ds' e' c => ?_, fun j k b o1 o2 => ?_, fun j ds' e' => ?_⟩
  · rcases getSet e' with ⟨e1, e2⟩ | ⟨ne, e2⟩
    · subst e1; cases e2
      exact ⟨v, by rw [List.getElem?_set_self hl'], h⟩
    · obtain ⟨w, q1, q2⟩ := R.frz j d' e2
      exact ⟨w, by rw [List.getElem?_set_ne (Ne.symm ne)]; exact q1, q2⟩
  · rcases getSet e' with ⟨_, e2⟩ | ⟨ne, e2⟩
    · subst e2; cases c
    · obtain ⟨b, ws, q1, q2⟩ := R.own j s ds' e2 c
      exact ⟨b, ws, by rw [List.getElem?_set_ne (Ne.symm ne)]; exact q1, q2⟩
  · have cut : ∀ {j b}, Own (ρ.set i (.frz d)) (σ.set i (some v)) j b → Own ρ σ j b := fun {j b} ⟨⟨s, ds, h1, h2⟩, h3⟩ => by
      rcases getSet h1 with ⟨_, e2⟩ | ⟨ne, e2⟩
      · subst e2; cases h2
      · rw [List.getElem?_set_ne (Ne.symm ne)] at h3
        exact ⟨⟨s, ds, e2, h2⟩, h3⟩
    exact R.sep j k b (cut o1) (cut o2)
  · rcases getSet e' with ⟨_, e2⟩ | ⟨ne, e2⟩
    · cases e2
    · rw [List.getElem?_set_ne (Ne.symm ne)]
      exact R.pin j ds' e2
/-- a slot is set to a new list -/
theorem Rl.setN {i : Nat} {a : Addr} {vs : List V} {ds : List D} (R : Rl K G F ρ σ H) (h2 : H a = some (.lst vs)) (h3 : F a = none) (h4 : Rps K F vs ds) (h5 : G.H0 a = none ∨ a ∈ G.io) (no : ∀ j, ¬ Own ρ σ j a) (hi : ∀ ds, ρ[i]? ≠ some (.io ds)) (hl : i < ρ.length) :
    Rl K G F (ρ.set i (.own ds)) (σ.set i (some (.ref a))) H := by
  have hl' : i < σ.length := by rw [← R.len]; exact hl
  have cut : ∀ {j b}, Own (ρ.set i (.own ds)) (σ.set i (some (.ref a))) j b → (j = i ∧ b = a) ∨ (j ≠ i ∧ Own ρ σ j b) := fun {j b} ⟨⟨s, ds', h1, h2⟩, h3⟩ => by
    rcases getSet h1 with ⟨e1, e2⟩ | ⟨ne, e2⟩
    · subst e1
      rw [List.getElem?_set_self hl'] at h3
      cases h3
      exact .inl ⟨rfl, rfl⟩
    · rw [List.getElem?_set_ne (Ne.symm ne)] at h3
      exact .inr ⟨ne, ⟨s, ds', e2, h2⟩, h3⟩
  refine ⟨by rw [List.length_set, List.length_set]; exact R.len, R.sub, R.base, R.keep, R.ext, fun j d' e' => ?_, fun j s ds' e' c => ?_, fun j k b o1 o2 => ?_, fun j ds' e' => ?_⟩
  · rcases getSet e' with ⟨_, e2⟩ | ⟨ne, e2⟩
    · cases e2
    · obtain ⟨w, q1, q2⟩ := R.frz j d' e2
      exact ⟨w, by rw [List.getElem?_set_ne (Ne.symm ne)]; exact q1, q2⟩
  · rcases getSet e' with ⟨e1, e2⟩ | ⟨ne, e2⟩
    · subst e1; subst e2; cases c
      exact ⟨a, vs, by rw [List.getElem?_set_self hl'], h2, h3, h4, h5⟩
    · obtain ⟨b, ws, q1, q2⟩ := R.own j s ds' e2 c
      exact ⟨b, ws, by rw [List.getElem?_set_ne (Ne.symm ne)]; exact q1, q2⟩
  · rcases cut o1 with ⟨e1, e2⟩ | ⟨e1, e2⟩
    · rcases cut o2 with ⟨e3, _⟩ | ⟨_, e4⟩
      · rw [e1, e3]
      · exact absurd (e2 ▸ e4) (no k)
    · rcases cut o2 with ⟨_, e4⟩ | ⟨_, e4⟩
      · exact absurd (e4 ▸ e2) (no j)
      · exact R.sep j k b e2 e4
  · rcases getSet e' with ⟨_, e2⟩ | ⟨ne, e2⟩
    · cases e2
    · rw [List.getElem?_set_ne (Ne.symm ne)]
      exact R.pin j ds' e2
/-- another entry for a part: what it must keep is all that is no list of one's own -/
def Gh.at (F H : Hp) (σ : St) (own : List Addr) : Gh := ⟨H, F, own, σ⟩
open Classical in
theorem Rl.rebase (R : Rl K G F ρ σ H) : ∃ io, (∀ a, a ∈ io ↔ ∃ i, Own ρ σ i a) ∧ Rl K ⟨H, F, io, G.s0⟩ F ρ σ H := by
  have fin : ∃ io : List Addr, ∀ a, a ∈ io ↔ ∃ i, Own ρ σ i a := by
    refine ⟨(List.range σ.length).filterMap fun i => if h : ∃ a, Own ρ σ i a then some h.choose else none, fun a => ?_⟩
    rw [List.mem_filterMap]
    constructor
    · rintro ⟨i, _, h⟩
      by_cases hx : ∃ a, Own ρ σ i a
      · rw [dif_pos hx] at h
        cases h
        exact ⟨i, hx.choose_spec⟩
      · rw [dif_neg hx] at h; cases h
    · rintro ⟨i, ho⟩
      have h3 := ho.2
      refine ⟨i, List.mem_range.mpr (List.getElem?_eq_some_iff.mp h3).1, ?_⟩
      have hx : ∃ a, Own ρ σ i a := ⟨a, ho⟩
      rw [dif_pos hx]
      have q := hx.choose_spec.2
      rw [h3] at q
      cases q
      rfl
  obtain ⟨io, hio⟩ := fin
  refine ⟨io, hio, R.len, R.sub, Same.refl _, fun a o e _ => e, fun a e => .inl e, R.frz, fun i s ds e c => ?_, R.sep, R.pin⟩
  obtain ⟨a, vs, h1, h2, h3, h4, h5⟩ := R.own i s ds e c
  exact ⟨a, vs, h1, h2, h3, h4, .inr ((hio a).mpr ⟨i, ⟨s, ds, e, c⟩, h1⟩)⟩
theorem Rl.unbase {io : List Addr} {σ' : St} (R : Rl K G F ρ σ H) (hio : ∀ a, a ∈ io ↔ ∃ i, Own ρ σ i a) (R' : Rl K ⟨H, F, io, G.s0⟩ F' ρ' σ' H') : Rl K G F' ρ' σ' H' := by
  have own0 : ∀ {i a}, Own ρ σ i a → G.H0 a = none ∨ a ∈ G.io := fun {i a} ⟨⟨s, ds, h1, h2⟩, h3⟩ => by
    obtain ⟨b, vs, q1, _, _, _, q5⟩ := R.own i s ds h1 h2
    rw [h3] at q1; cases q1
    exact q5
  have kk : ∀ a, H a = none → G.H0 a = none ∨ a ∈ G.io := fun a h => R.new0 h
  refine ⟨R'.len, R'.sub, fun b u q => R'.base b u (R.base b u q), fun a o q n => ?_, fun a q => ?_, R'.frz, fun i s ds e c => ?_, R'.sep, R'.pin⟩
  · refine R'.keep a o (R.keep a o q n) fun z => ?_
    obtain ⟨i, ho⟩ := (hio a).mp z
    rcases own0 ho with h | h
    · rw [h] at q; cases q
    · exact n h
  · rcases R'.ext a q with h | h | h
    · exact R.ext a h
    · exact .inr (kk a h)
    · obtain ⟨i, ho⟩ := (hio a).mp h
      exact .inr (own0 ho)
  · obtain ⟨a, vs, h1, h2, h3, h4, h5⟩ := R'.own i s ds e c
    refine ⟨a, vs, h1, h2, h3, h4, ?_⟩
    rcases h5 with h | h
    · exact kk a h
    · obtain ⟨i, ho⟩ := (hio a).mp h
      exact own0 ho
end

/-! ### outcomes -/
/-- an error of the program's own: its class by name, its fields -/
structure Xd where
  cls : Str
  fs : List (Str × D)
/-- it went through, or an error is in the air -/
inductive Ro (α : Type) where
  | ok (a : α) (ρ : Rh)
  | er (x : Xd) (ρ : Rh)
def bnd {α β : Type} (o : Option (Ro α)) (k : α → Rh → Option (Ro β)) : Option (Ro β) := match o with
  | some (.ok a ρ) => k a ρ
  | some (.er x ρ) => some (.er x ρ)
  | none => none
theorem bnd_ok {α β : Type} {a : α} {ρ : Rh} {k : α → Rh → Option (Ro β)} : bnd (some (.ok a ρ)) k = k a ρ := rfl
theorem bnd_er {α β : Type} {x : Xd} {ρ : Rh} {k : α → Rh → Option (Ro β)} : bnd (some (.er x ρ)) k = some (.er x ρ) := rfl
theorem bnd_none {α β : Type} {k : α → Rh → Option (Ro β)} : bnd none k = none := rfl
theorem bnd_some {α β : Type} {o : Option (Ro α)} {k : α → Rh → Option (Ro β)} {p : Ro β} (h : bnd o k = some p) : (∃ a ρ, o = some (.ok a ρ) ∧ k a ρ = some p) ∨ ∃ x ρ, o = some (.er x ρ) ∧ p = .er x ρ := by
  cases o with
  | none => cases h
  | some q =>
    cases q with
    | ok a ρ => exact .inl ⟨a, ρ, rfl, h⟩
    | er x ρ => cases h; exact .inr ⟨x, ρ, rfl, rfl⟩
/-- an answer or nothing -/
def opt {α : Type} (o : Option α) (ρ : Rh) : Option (Ro α) := match o with
  | some a => some (.ok a ρ)
  | none => none
theorem opt_some {α : Type} {o : Option α} {ρ : Rh} {p : Ro α} (h : opt o ρ = some p) : ∃ a, o = some a ∧ p = .ok a ρ := by
  cases o with
  | none => cases h
  | some a => cases h; exact ⟨a, rfl, rfl⟩
inductive RpF (K : PySem.W.Frag) (F : Hp) : List (Str × V) → List (Str × D) → Prop
  | nil : RpF K F [] []
  | cons {n : Str} {v : V} {d : D} {fs : List (Str × V)} {gs : List (Str × D)} : Rp K F v d → RpF K F fs gs → RpF K F ((n, v) :: fs) ((n, d) :: gs)
/-- how an error lies -/
def XOk (K : PySem.W.Frag) (F H : Hp) (cls : Value) (d : Option Addr) (x : Xd) : Prop :=
  (∃ C, PySem.W.nsIn K mainGlobals x.cls = some (some (.ref C)) ∧ cls = .ref C) ∧ ∃ dx fs, d = some dx ∧ H dx = some (.xd fs) ∧ RpF K F fs x.fs
abbrev WX := Value → Option Addr → St → Hp → Prop

/-! ### expressions -/
abbrev ME := Rh → Option (Ro Out)
def PostX (K : PySem.W.Frag) (W : WX) (G : Gh) (F : Hp) (σ : St) (x : Xd) (ρ' : Rh) : Prop := ∀ F' cls d H', Same F F' → Rl K G F' ρ' σ H' → XOk K F' H' cls d x → W cls d σ H'
def PostE (K : PySem.W.Frag) (W : WX) (G : Gh) (F : Hp) (σ : St) (Q : VK) : Ro Out → Prop
  | .ok r ρ' => ∀ F' v H', Same F F' → Rl K G F' ρ' σ H' → OutOk K G F' ρ' σ H' v r → Q v H'
  | .er x ρ' => PostX K W G F σ x ρ'
/-- the reading t does what the mirror m says -/
def SimE (K : PySem.W.Frag) (W : WX) (t : TE) (m : ME) : Prop := ∀ (G : Gh) (F : Hp) (ρ : Rh) (σ : St) (H : Hp) (Q : VK), Rl K G F ρ σ H → ∀ o, m ρ = some o → PostE K W G F σ Q o → t σ H Q
structure MEx (X : Cx) (W : WX) (e : Expr) (m : ME) : Prop where
  ex : ∃ t, PE X e t ∧ SimE X.K W t m

section
variable {K : PySem.W.Frag} {W : WX} {t ta tb : TE} {m ma mb : ME}
theorem PostX.mono {G : Gh} {F F1 : Hp} {σ : St} {x : Xd} {ρ' : Rh} (h : PostX K W G F σ x ρ') (s : Same F F1) : PostX K W G F1 σ x ρ' := fun F' cls d H' s' R o => h F' cls d H' (s.trans s') R o
/-- a name -/
def mVar (i : Nat) : ME := fun ρ => match ρ[i]? with
  | some (.frz d) => some (.ok (.v d) ρ)
  | some (.own _) => some (.ok (.bor i) ρ)
  | some (.io _) => some (.ok (.bor i) ρ)
  | _ => none
theorem sim_var (i : Nat) : SimE K W (tVar i) (mVar i) := by
  intro G F ρ σ H Q R o h k
  cases hs : ρ[i]? with
  | none => simp [mVar, hs] at h
  | some s =>
    cases s with
    | no => simp [mVar, hs] at h
    | frz d =>
      simp [mVar, hs] at h
      subst h
      obtain ⟨v, h1, h2⟩ := R.frz i d hs
      exact ⟨v, h1, k F v H (Same.refl _) R h2⟩
    | own ds =>
      simp [mVar, hs] at h
      subst h
      obtain ⟨a, vs, h1, _⟩ := R.own i _ ds hs rfl
      exact ⟨_, h1, k F _ H (Same.refl _) R h1⟩
    | io ds =>
      simp [mVar, hs] at h
      subst h
      obtain ⟨a, vs, h1, _⟩ := R.own i _ ds hs rfl
      exact ⟨_, h1, k F _ H (Same.refl _) R h1⟩
/-- a constant -/
def mC (d : D) : ME := fun ρ => some (.ok (.v d) ρ)
theorem sim_c {v : V} {d : D} (h : ∀ F, Rp K F v d) : SimE K W (tC v) (mC d) := by
  intro G F ρ σ H Q R o e k
  simp [mC] at e
  subst e
  exact k F v H (Same.refl _) R (h F)
/-- from now on it never changes -/
def frzO : Out → Rh → Option (D × Rh)
  | .v d, ρ => some (d, ρ)
  | .fr ds, ρ => some (.list ds, ρ)
  | .bor i, ρ => match ρ[i]? with
    | some (.frz d) => some (d, ρ)
    | some (.own ds) => some (.list ds, ρ.set i (.frz (.list ds)))
    | _ => none
theorem frz_out {G : Gh} {F H : Hp} {ρ ρ' : Rh} {σ : St} {v : V} {r : Out} {d : D} (R : Rl K G F ρ σ H) (o : OutOk K G F ρ σ H v r) (h : frzO r ρ = some (d, ρ')) : ∃ F', Same F F' ∧ Rl K G F' ρ' σ H ∧ Rp K F' v d := by
  cases r with
  | v d' =>
    simp [frzO] at h
    obtain ⟨rfl, rfl⟩ := h
    exact ⟨F, Same.refl _, R, o⟩
  | fr ds =>
    simp [frzO] at h
    obtain ⟨rfl, rfl⟩ := h
    obtain ⟨a, vs, rfl, h1, h2, h3, h4, h5⟩ := o
    obtain ⟨s1, R1⟩ := R.freezeNew h1 h2 h4 h5
    exact ⟨_, s1, R1, .lst (.inl (.inl upd_same)) (Rps.mono s1 h3)⟩
  | bor i =>
    have o' : σ[i]? = some (some v) := o
    cases hs : ρ[i]? with
    | none => simp [frzO, hs] at h
    | some s =>
      cases s with
      | no => simp [frzO, hs] at h
      | io ds => simp [frzO, hs] at h
      | frz d' =>
        simp [frzO, hs] at h
        obtain ⟨rfl, rfl⟩ := h
        obtain ⟨w, h1, h2⟩ := R.frz i _ hs
        rw [o'] at h1; cases h1
        exact ⟨F, Same.refl _, R, h2⟩
      | own ds =>
        simp [frzO, hs] at h
        obtain ⟨rfl, rfl⟩ := h
        obtain ⟨F', s1, R1, a, h1, h2⟩ := R.freeze hs
        rw [o'] at h1; cases h1
        exact ⟨F', s1, R1, h2⟩
def mFrz (m : ME) : ME := fun ρ => bnd (m ρ) fun r ρ1 => match frzO r ρ1 with
  | some (d, ρ2) => some (.ok (.v d) ρ2)
  | none => none
theorem sim_frz (h : SimE K W t m) : SimE K W t (mFrz m) := by
  intro G F ρ σ H Q R o e k
  rcases bnd_some e with ⟨r1, ρ1, h1, h2⟩ | ⟨x, ρ1, h1, rfl⟩
  · refine h G F ρ σ H Q R _ h1 fun F1 v H1 s1 R1 o1 => ?_
    cases h3 : frzO r1 ρ1 with
    | none => rw [h3] at h2; cases h2
    | some q =>
      obtain ⟨d, ρ2⟩ := q
      rw [h3] at h2
      cases h2
      obtain ⟨F2, s2, R2, o2⟩ := frz_out R1 o1 h3
      exact k F2 v H1 (s1.trans s2) R2 o2
  · exact h G F ρ σ H Q R _ h1 k
/-- a new list is held as data; a list of one's own may be read as it stands later -/
def hold : Out → Out
  | .fr ds => .v (.list ds)
  | r => r
def mHold (m : ME) : ME := fun ρ => bnd (m ρ) fun r ρ1 => some (.ok (hold r) ρ1)
theorem sim_hold (h : SimE K W t m) : SimE K W t (mHold m) := by
  intro G F ρ σ H Q R o e k
  rcases bnd_some e with ⟨r1, ρ1, h1, h2⟩ | ⟨x, ρ1, h1, rfl⟩
  · cases h2
    refine h G F ρ σ H Q R _ h1 fun F1 v H1 s1 R1 o1 => ?_
    cases r1 with
    | v d => exact k F1 v H1 s1 R1 o1
    | bor i => exact k F1 v H1 s1 R1 o1
    | fr ds =>
      obtain ⟨F2, s2, R2, o2⟩ := frz_out (r := .fr ds) (d := .list ds) R1 o1 rfl
      exact k F2 v H1 (s1.trans s2) R2 o2
  · exact h G F ρ σ H Q R _ h1 k
theorem mHold_noFr {ρ ρ' : Rh} {r : Out} (h : mHold m ρ = some (.ok r ρ')) : ∀ ds, r ≠ .fr ds := by
  intro ds z
  rcases bnd_some h with ⟨r1, ρ1, h1, h2⟩ | ⟨x, ρ1, h1, h2⟩
  · cases h2
    cases r1 <;> cases z
  · cases h2
/-- what was held is still what it is -/
theorem OutOk.held {G : Gh} {F F' H H' : Hp} {ρ ρ' : Rh} {σ : St} {v : V} {r : Out} (o : OutOk K G F ρ σ H v r) (s : Same F F') (hr : ∀ ds, r ≠ .fr ds) : OutOk K G F' ρ' σ H' v r := by
  cases r with
  | v d => exact Rp.mono s o
  | fr ds => exact absurd rfl (hr ds)
  | bor i => exact o

/-! ### operators of two values -/
/-- the operator's reading does what f says of data -/
def Op2 (K : PySem.W.Frag) (rop : R2) (f : D → D → Option Out) : Prop := ∀ (G : Gh) (F : Hp) (ρ : Rh) (σ : St) (H : Hp) (x y : V) (d e : D) (r : Out) (Q : VK), Rl K G F ρ σ H → RdV K F H x d → RdV K F H y e → f d e = some r →
  (∀ F' v H', Same F F' → Rl K G F' ρ σ H' → OutOk K G F' ρ σ H' v r → Q v H') → rop x y H Q
def rd2 (f : D → D → Option Out) (ρ : Rh) (r1 r2 : Out) : Option Out := match rd ρ r1, rd ρ r2 with
  | some d, some e => f d e
  | _, _ => none
theorem rd2_some {f : D → D → Option Out} {ρ : Rh} {r1 r2 r : Out} (h : rd2 f ρ r1 r2 = some r) : ∃ d e, rd ρ r1 = some d ∧ rd ρ r2 = some e ∧ f d e = some r := by
  unfold rd2 at h
  cases h1 : rd ρ r1 with
  | none => rw [h1] at h; cases h
  | some d =>
    cases h2 : rd ρ r2 with
    | none => rw [h1, h2] at h; cases h
    | some e =>
      rw [h1, h2] at h
      exact ⟨d, e, rfl, rfl, h⟩
def mBin (f : D → D → Option Out) (ma mb : ME) : ME := fun ρ => bnd (mHold ma ρ) fun r1 ρ1 => bnd (mHold mb ρ1) fun r2 ρ2 => opt (rd2 f ρ2 r1 r2) ρ2
theorem sim_bin {rop : R2} {f : D → D → Option Out} (o : Op2 K rop f) (ha : SimE K W ta ma) (hb : SimE K W tb mb) : SimE K W (tOp rop ta tb) (mBin f ma mb) := by
  intro G F ρ σ H Q R p h k
  rcases bnd_some h with ⟨r1, ρ1, h1, h2⟩ | ⟨x, ρ1, h1, rfl⟩
  · refine sim_hold ha G F ρ σ H _ R _ h1 fun F1 x H1 s1 R1 o1 => ?_
    rcases bnd_some h2 with ⟨r2, ρ2, h3, h4⟩ | ⟨z, ρ2, h3, rfl⟩
    · refine sim_hold hb G F1 ρ1 σ H1 _ R1 _ h3 fun F2 y H2 s2 R2 o2 => ?_
      obtain ⟨r, h5, rfl⟩ := opt_some h4
      obtain ⟨d, e, q1, q2, q3⟩ := rd2_some h5
      have o1' : OutOk K G F2 ρ2 σ H2 x r1 := o1.held s2 (mHold_noFr h1)
      exact o G F2 ρ2 σ H2 x y d e r Q R2 (R2.rdV o1' q1) (R2.rdV o2 q2) q3 fun F' v H' s' R' o' => k F' v H' ((s1.trans s2).trans s') R' o'
    · exact sim_hold hb G F1 ρ1 σ H1 _ R1 _ h3 (PostX.mono k s1)
  · exact sim_hold ha G F ρ σ H _ R _ h1 k
/-- of one value -/
def Op1 (K : PySem.W.Frag) (rop : V → Hp → VK → Prop) (f : D → Option Out) : Prop := ∀ (G : Gh) (F : Hp) (ρ : Rh) (σ : St) (H : Hp) (x : V) (d : D) (r : Out) (Q : VK), Rl K G F ρ σ H → RdV K F H x d → f d = some r →
  (∀ F' v H', Same F F' → Rl K G F' ρ σ H' → OutOk K G F' ρ σ H' v r → Q v H') → rop x H Q
def rd1 (f : D → Option Out) (ρ : Rh) (r1 : Out) : Option Out := match rd ρ r1 with
  | some d => f d
  | none => none
theorem rd1_some {f : D → Option Out} {ρ : Rh} {r1 r : Out} (h : rd1 f ρ r1 = some r) : ∃ d, rd ρ r1 = some d ∧ f d = some r := by
  unfold rd1 at h
  cases h1 : rd ρ r1 with
  | none => rw [h1] at h; cases h
  | some d => rw [h1] at h; exact ⟨d, rfl, h⟩
def mUn (f : D → Option Out) (ma : ME) : ME := fun ρ => bnd (mHold ma ρ) fun r1 ρ1 => opt (rd1 f ρ1 r1) ρ1
theorem sim_un {rop : V → Hp → VK → Prop} {f : D → Option Out} (o : Op1 K rop f) (ha : SimE K W ta ma) : SimE K W (tUn rop ta) (mUn f ma) := by
  intro G F ρ σ H Q R p h k
  rcases bnd_some h with ⟨r1, ρ1, h1, h2⟩ | ⟨x, ρ1, h1, rfl⟩
  · refine sim_hold ha G F ρ σ H _ R _ h1 fun F1 x H1 s1 R1 o1 => ?_
    obtain ⟨r, h5, rfl⟩ := opt_some h2
    obtain ⟨d, q1, q3⟩ := rd1_some h5
    exact o G F1 ρ1 σ H1 x d r Q R1 (R1.rdV o1 q1) q3 fun F' v H' s' R' o' => k F' v H' (s1.trans s') R' o'
  · exact sim_hold ha G F ρ σ H _ R _ h1 k

/-! ### argument lists -/
abbrev MA := Rh → Option (Ro (List Out))
def PostA (K : PySem.W.Frag) (W : WX) (G : Gh) (F : Hp) (σ : St) (Q : List V → Hp → Prop) : Ro (List Out) → Prop
  | .ok rs ρ' => ∀ F' vs H', Same F F' → Rl K G F' ρ' σ H' → vs.length = rs.length → (∀ (i : Nat) (r : Out) (v : V), rs[i]? = some r → vs[i]? = some v → OutOk K G F' ρ' σ H' v r ∧ ∀ ds, r ≠ .fr ds) → Q vs H'
  | .er x ρ' => PostX K W G F σ x ρ'
def SimA (K : PySem.W.Frag) (W : WX) (t : TA) (m : MA) : Prop := ∀ (G : Gh) (F : Hp) (ρ : Rh) (σ : St) (H : Hp) (Q : List V → Hp → Prop), Rl K G F ρ σ H → ∀ o, m ρ = some o → PostA K W G F σ Q o → t σ H Q
structure MAx (X : Cx) (W : WX) (es : List Expr) (m : MA) : Prop where
  ex : ∃ t, PA X es t ∧ SimA X.K W t m
def aNil : MA := fun ρ => some (.ok [] ρ)
def aCons (m : ME) (a : MA) : MA := fun ρ => bnd (mHold m ρ) fun r ρ1 => bnd (a ρ1) fun rs ρ2 => some (.ok (r :: rs) ρ2)
theorem sim_anil : SimA K W tNil aNil := by
  intro G F ρ σ H Q R o h k
  simp [aNil] at h
  subst h
  exact k F [] H (Same.refl _) R rfl fun i r v e => by simp at e
theorem sim_acons {te : TE} {tr : TA} {a : MA} (h : SimE K W te m) (hr : SimA K W tr a) : SimA K W (tCons te tr) (aCons m a) := by
  intro G F ρ σ H Q R o e k
  rcases bnd_some e with ⟨r, ρ1, h1, h2⟩ | ⟨x, ρ1, h1, rfl⟩
  · refine sim_hold h G F ρ σ H _ R _ h1 fun F1 x H1 s1 R1 o1 => ?_
    rcases bnd_some h2 with ⟨rs', ρ2, h3, h4⟩ | ⟨z, ρ2, h3, rfl⟩
    · cases h4
      refine hr G F1 ρ1 σ H1 _ R1 _ h3 fun F2 vs H2 s2 R2 hl ho => ?_
      refine k F2 (x :: vs) H2 (s1.trans s2) R2 (by simp [hl]) fun i r' v e1 e2 => ?_
      cases i with
      | zero =>
        simp at e1 e2
        subst e1; subst e2
        exact ⟨o1.held s2 (mHold_noFr h1), mHold_noFr h1⟩
      | succ i => exact ho i r' v (by simpa using e1) (by simpa using e2)
    · exact hr G F1 ρ1 σ H1 _ R1 _ h3 (PostX.mono k s1)
  · exact sim_hold h G F ρ σ H _ R _ h1 k
/-- all of them as data that never change (each argument under mFrz) -/
def outsV : List Out → Option (List D)
  | [] => some []
  | .v d :: rs => (match outsV rs with
    | some ds => some (d :: ds)
    | none => none)
  | _ => none
theorem outsV_rps {G : Gh} {F H : Hp} {ρ : Rh} {σ : St} : ∀ {rs : List Out} {vs : List V} {ds : List D}, outsV rs = some ds → vs.length = rs.length → (∀ (i : Nat) (r : Out) (v : V), rs[i]? = some r → vs[i]? = some v → OutOk K G F ρ σ H v r ∧ ∀ ds, r ≠ .fr ds) → Rps K F vs ds
  | [], [], _, h, _, _ => by simp [outsV] at h; subst h; exact .nil
  | [], _ :: _, _, _, l, _ => by simp at l
  | _ :: _, [], _, _, l, _ => by simp at l
  | .v d :: rs, v :: vs, ds, h, l, o => by
    unfold outsV at h
    cases q : outsV rs with
    | none => rw [q] at h; cases h
    | some ds' =>
      rw [q] at h
      cases h
      refine .cons (o 0 (.v d) v rfl rfl).1 (outsV_rps q (by simpa using l) fun i r w e1 e2 => o (i + 1) r w (by simpa using e1) (by simpa using e2))
  | .fr _ :: _, _, _, h, _, _ => by cases h
  | .bor _ :: _, _, _, h, _, _ => by cases h
/-- what stands in them is read -/
def rdAll (ρ : Rh) : List Out → Option (List D)
  | [] => some []
  | r :: rs => (match rd ρ r, rdAll ρ rs with
    | some d, some ds => some (d :: ds)
    | _, _ => none)
/-- n values read -/
inductive RdVs (K : PySem.W.Frag) (F H : Hp) : List V → List D → Prop
  | nil : RdVs K F H [] []
  | cons {v : V} {vs : List V} {d : D} {ds : List D} : RdV K F H v d → RdVs K F H vs ds → RdVs K F H (v :: vs) (d :: ds)
theorem rdAll_ok {G : Gh} {F H : Hp} {ρ : Rh} {σ : St} (R : Rl K G F ρ σ H) : ∀ {rs : List Out} {vs : List V} {ds : List D}, rdAll ρ rs = some ds → vs.length = rs.length → (∀ (i : Nat) (r : Out) (v : V), rs[i]? = some r → vs[i]? = some v → OutOk K G F ρ σ H v r ∧ ∀ ds, r ≠ .fr ds) → RdVs K F H vs ds
  | [], [], _, h, _, _ => by simp [rdAll] at h; subst h; exact .nil
  | [], _ :: _, _, _, l, _ => by simp at l
  | _ :: _, [], _, _, l, _ => by simp at l
  | r :: rs, v :: vs, ds, h, l, o => by
    unfold rdAll at h
    cases q1 : rd ρ r with
    | none => rw [q1] at h; cases h
    | some d =>
      cases q : rdAll ρ rs with
      | none => rw [q1, q] at h; cases h
      | some ds' =>
        rw [q1, q] at h
        cases h
        exact .cons (R.rdV (o 0 r v rfl rfl).1 q1) (rdAll_ok R q (by simpa using l) fun i r w e1 e2 => o (i + 1) r w (by simpa using e1) (by simpa using e2))
/-- a call of a built-in by values -/
def OpN (K : PySem.W.Frag) (rop : List V → Hp → VK → Prop) (f : List D → Option Out) : Prop := ∀ (G : Gh) (F : Hp) (ρ : Rh) (σ : St) (H : Hp) (xs : List V) (ds : List D) (r : Out) (Q : VK), Rl K G F ρ σ H → RdVs K F H xs ds → f ds = some r →
  (∀ F' v H', Same F F' → Rl K G F' ρ σ H' → OutOk K G F' ρ σ H' v r → Q v H') → rop xs H Q
def rdN (f : List D → Option Out) (ρ : Rh) (rs : List Out) : Option Out := match rdAll ρ rs with
  | some ds => f ds
  | none => none
def mCB (f : List D → Option Out) (a : MA) : ME := fun ρ => bnd (a ρ) fun rs ρ1 => opt (rdN f ρ1 rs) ρ1
theorem sim_cb {rop : List V → Hp → VK → Prop} {f : List D → Option Out} {ta : TA} {a : MA} (o : OpN K rop f) (ha : SimA K W ta a) : SimE K W (tCB rop ta) (mCB f a) := by
  intro G F ρ σ H Q R p h k
  rcases bnd_some h with ⟨rs, ρ1, h1, h2⟩ | ⟨x, ρ1, h1, rfl⟩
  · refine ha G F ρ σ H _ R _ h1 fun F1 vs H1 s1 R1 l ho => ?_
    obtain ⟨r, h5, rfl⟩ := opt_some h2
    unfold rdN at h5
    cases q : rdAll ρ1 rs with
    | none => rw [q] at h5; cases h5
    | some ds =>
      rw [q] at h5
      exact o G F1 ρ1 σ H1 vs ds r Q R1 (rdAll_ok R1 q l ho) h5 fun F' v H' s' R' o' => k F' v H' (s1.trans s') R' o'
  · exact ha G F ρ σ H _ R _ h1 k
/-- a tuple display, a list display -/
def tupO (rs : List Out) : Option Out := match outsV rs with
  | some ds => if ds.length ≤ sizeLine then some (.v (.tuple ds)) else none
  | none => none
def lstO (rs : List Out) : Option Out := match outsV rs with
  | some ds => if ds.length ≤ sizeLine then some (.fr ds) else none
  | none => none
def mTup (a : MA) : ME := fun ρ => bnd (a ρ) fun rs ρ1 => opt (tupO rs) ρ1
def mLst (a : MA) : ME := fun ρ => bnd (a ρ) fun rs ρ1 => opt (lstO rs) ρ1
theorem Rl.noOwn {G : Gh} {F H : Hp} {ρ : Rh} {σ : St} (R : Rl K G F ρ σ H) {p : Addr} (hp : H p = none) : ∀ i, ¬ Own ρ σ i p := fun i h => by
  obtain ⟨vs, h1, _⟩ := R.ownNe h
  rw [hp] at h1; cases h1
theorem Rl.frOk {G : Gh} {F H : Hp} {ρ : Rh} {σ : St} (R : Rl K G F ρ σ H) {p : Addr} (hp : H p = none) {vs : List V} {ds : List D} (r : Rps K F vs ds) : OutOk K G F ρ σ (upd H p (.lst vs)) (.ref p) (.fr ds) :=
  ⟨p, vs, rfl, upd_same, R.freeF hp, r, R.new0 hp, R.noOwn hp⟩
/-- what an operator gives that lays a new tuple, a new list -/
theorem Rl.newTup {G : Gh} {F H : Hp} {ρ : Rh} {σ : St} {Q : VK} (R : Rl K G F ρ σ H) {vs : List V} {ds : List D} (rp : Rps K F vs ds) (k : ∀ F' v H', Same F F' → Rl K G F' ρ σ H' → OutOk K G F' ρ σ H' v (.v (.tuple ds)) → Q v H') :
    ∀ p, H p = none → Q (.ref p) (upd H p (.tup vs)) := fun p hp => by
  obtain ⟨R2, s2⟩ := R.layF (o := .tup vs) hp (R.freeF hp)
  exact k _ _ _ s2 R2 (.tup (SqT.of upd_same) (Rps.mono s2 rp))
theorem Rl.newLst {G : Gh} {F H : Hp} {ρ : Rh} {σ : St} {Q : VK} (R : Rl K G F ρ σ H) {vs : List V} {ds : List D} (rp : Rps K F vs ds) (k : ∀ F' v H', Same F F' → Rl K G F' ρ σ H' → OutOk K G F' ρ σ H' v (.fr ds) → Q v H') :
    ∀ p, H p = none → Q (.ref p) (upd H p (.lst vs)) := fun p hp => k _ _ _ (Same.refl _) (R.lay hp) (R.frOk hp rp)
theorem sim_tup {t : TA} {a : MA} (h : SimA K W t a) : SimE K W (tTup t) (mTup a) := by
  intro G F ρ σ H Q R o e k
  rcases bnd_some e with ⟨rs, ρ1, h1, h2⟩ | ⟨x, ρ1, h1, rfl⟩
  · obtain ⟨r, h5, rfl⟩ := opt_some h2
    unfold tupO at h5
    cases q : outsV rs with
    | none => rw [q] at h5; cases h5
    | some ds =>
      rw [q] at h5
      simp only at h5
      by_cases hz : ds.length ≤ sizeLine
      · rw [if_pos hz] at h5
        cases h5
        refine h G F ρ σ H _ R _ h1 fun F1 vs H1 s1 R1 l o => ?_
        have rp := outsV_rps q l o
        exact ⟨by rw [rp.length]; exact hz, R1.newTup rp fun F' v H' s' R' o' => k F' v H' (s1.trans s') R' o'⟩
      · rw [if_neg hz] at h5; cases h5
  · exact h G F ρ σ H _ R _ h1 k
theorem sim_lst {t : TA} {a : MA} (h : SimA K W t a) : SimE K W (tLst t) (mLst a) := by
  intro G F ρ σ H Q R o e k
  rcases bnd_some e with ⟨rs, ρ1, h1, h2⟩ | ⟨x, ρ1, h1, rfl⟩
  · obtain ⟨r, h5, rfl⟩ := opt_some h2
    unfold lstO at h5
    cases q : outsV rs with
    | none => rw [q] at h5; cases h5
    | some ds =>
      rw [q] at h5
      simp only at h5
      by_cases hz : ds.length ≤ sizeLine
      · rw [if_pos hz] at h5
        cases h5
        refine h G F ρ σ H _ R _ h1 fun F1 vs H1 s1 R1 l o => ?_
        have rp := outsV_rps q l o
        exact ⟨by rw [rp.length]; exact hz, R1.newLst rp fun F' v H' s' R' o' => k F' v H' (s1.trans s') R' o'⟩
      · rw [if_neg hz] at h5; cases h5
  · exact h G F ρ σ H _ R _ h1 k

/-! ### tests -/
abbrev MT := Rh → Option (Ro Bool)
def PostT (K : PySem.W.Frag) (W : WX) (G : Gh) (F : Hp) (σ : St) (Q : Bool → Hp → Prop) : Ro Bool → Prop
  | .ok b ρ' => ∀ F' H', Same F F' → Rl K G F' ρ' σ H' → Q b H'
  | .er x ρ' => PostX K W G F σ x ρ'
def SimT (K : PySem.W.Frag) (W : WX) (t : TT) (m : MT) : Prop := ∀ (G : Gh) (F : Hp) (ρ : Rh) (σ : St) (H : Hp) (Q : Bool → Hp → Prop), Rl K G F ρ σ H → ∀ o, m ρ = some o → PostT K W G F σ Q o → t σ H Q
structure MTx (X : Cx) (W : WX) (e : Expr) (m : MT) : Prop where
  ex : ∃ t, PT X e t ∧ SimT X.K W t m
structure MWx (X : Cx) (W : WX) (e : Expr) (m : MT) : Prop where
  ex : ∃ t, PW X e t ∧ SimT X.K W t m
def boolO (ρ : Rh) (r : Out) : Option Bool := match rd ρ r with
  | some (.bool b) => some b
  | _ => none
/-- a value that is True or False, as a test -/
def mB (m : ME) : MT := fun ρ => bnd (mHold m ρ) fun r ρ1 => opt (boolO ρ1 r) ρ1
theorem sim_b (h : SimE K W t m) : SimT K W (tB t) (mB m) := by
  intro G F ρ σ H Q R o e k
  rcases bnd_some e with ⟨r, ρ1, h1, h2⟩ | ⟨x, ρ1, h1, rfl⟩
  · refine sim_hold h G F ρ σ H _ R _ h1 fun F1 v H1 s1 R1 o1 => ?_
    obtain ⟨b, h5, rfl⟩ := opt_some h2
    unfold boolO at h5
    split at h5
    · rename_i c hc
      cases h5
      have q := R1.rdV o1 hc
      exact ⟨_, q.bl, k F1 H1 s1 R1⟩
    · cases h5
  · exact sim_hold h G F ρ σ H _ R _ h1 k
/-- truth of any value -/
def truD : D → Option Bool
  | .none => some false
  | .bool b => some b
  | .int i => some (i != 0)
  | .str x => if x.length ≤ sizeLine then some ((x.length : Int) != 0) else none
  | .list ds => some (!ds.isEmpty)
  | .tuple ds => some (!ds.isEmpty)
  | .dict _ => none
def truO (ρ : Rh) (r : Out) : Option Bool := match rd ρ r with
  | some d => truD d
  | none => none
def mTru (m : ME) : MT := fun ρ => bnd (mHold m ρ) fun r ρ1 => opt (truO ρ1 r) ρ1
theorem truD_ok {F H : Hp} {v : V} {d : D} {b : Bool} (s : Same F H) (h : RdV K F H v d) (e : truD d = some b) : TruV K v H b := by
  cases d with
  | none => rw [h.non]; cases e; rfl
  | bool c => rw [h.bl]; cases e; rfl
  | int i => rw [h.int]; cases e; rfl
  | str x =>
    rw [h.str]
    have e : (if x.length ≤ sizeLine then some ((x.length : Int) != 0) else none) = some b := e
    by_cases z : x.length ≤ sizeLine
    · rw [if_pos z] at e; cases e; exact ⟨z, rfl⟩
    · rw [if_neg z] at e; cases e
  | list ds =>
    obtain ⟨a, vs, rfl, h1, h2⟩ := h.list s
    cases e
    exact .inl ⟨vs, h1, by rw [h2.isEmpty]⟩
  | tuple ds =>
    obtain ⟨a, vs, rfl, h1, h2⟩ := h.tup s
    cases e
    exact .inr (.inl ⟨vs, h1, by rw [h2.isEmpty]⟩)
  | dict _ => cases e
theorem sim_tru (h : SimE K W t m) : SimT K W (fun σ H Q => t σ H fun x H1 => ∃ k, TruV K x H1 k ∧ Q k H1) (mTru m) := by
  intro G F ρ σ H Q R o e k
  rcases bnd_some e with ⟨r, ρ1, h1, h2⟩ | ⟨x, ρ1, h1, rfl⟩
  · refine sim_hold h G F ρ σ H _ R _ h1 fun F1 v H1 s1 R1 o1 => ?_
    obtain ⟨b, h5, rfl⟩ := opt_some h2
    unfold truO at h5
    split at h5
    · rename_i d hd
      exact ⟨b, truD_ok R1.sub (R1.rdV o1 hd) h5, k F1 H1 s1 R1⟩
    · cases h5
  · exact sim_hold h G F ρ σ H _ R _ h1 k
def mAnd (a b : MT) : MT := fun ρ => bnd (a ρ) fun c ρ1 => if c = true then b ρ1 else some (.ok false ρ1)
def mOr (a b : MT) : MT := fun ρ => bnd (a ρ) fun c ρ1 => if c = true then some (.ok true ρ1) else b ρ1
def mNot (a : MT) : MT := fun ρ => bnd (a ρ) fun c ρ1 => some (.ok (!c) ρ1)
theorem PostT.mono {G : Gh} {F F1 : Hp} {σ : St} {Q : Bool → Hp → Prop} {o : Ro Bool} (h : PostT K W G F σ Q o) (s : Same F F1) : PostT K W G F1 σ Q o := by
  cases o with
  | ok b ρ' => exact fun F' H' s' R => h F' H' (s.trans s') R
  | er x ρ' => exact PostX.mono h s
theorem PostE.mono {G : Gh} {F F1 : Hp} {σ : St} {Q : VK} {o : Ro Out} (h : PostE K W G F σ Q o) (s : Same F F1) : PostE K W G F1 σ Q o := by
  cases o with
  | ok b ρ' => exact fun F' v H' s' R oo => h F' v H' (s.trans s') R oo
  | er x ρ' => exact PostX.mono h s
section
variable {t u : TT} {a b : MT}
theorem sim_and (h : SimT K W t a) (h' : SimT K W u b) : SimT K W (tAnd t u) (mAnd a b) := by
  intro G F ρ σ H Q R o e k
  rcases bnd_some e with ⟨c, ρ1, h1, h2⟩ | ⟨x, ρ1, h1, rfl⟩
  · refine h G F ρ σ H _ R _ h1 fun F1 H1 s1 R1 => ?_
    cases c with
    | true => exact h' G F1 ρ1 σ H1 Q R1 o h2 (k.mono s1)
    | false => cases h2; exact k F1 H1 s1 R1
  · exact h G F ρ σ H _ R _ h1 k
theorem sim_or (h : SimT K W t a) (h' : SimT K W u b) : SimT K W (tOr t u) (mOr a b) := by
  intro G F ρ σ H Q R o e k
  rcases bnd_some e with ⟨c, ρ1, h1, h2⟩ | ⟨x, ρ1, h1, rfl⟩
  · refine h G F ρ σ H _ R _ h1 fun F1 H1 s1 R1 => ?_
    cases c with
    | false => exact h' G F1 ρ1 σ H1 Q R1 o h2 (k.mono s1)
    | true => cases h2; exact k F1 H1 s1 R1
  · exact h G F ρ σ H _ R _ h1 k
theorem sim_not (h : SimT K W t a) : SimT K W (tNot t) (mNot a) := by
  intro G F ρ σ H Q R o e k
  rcases bnd_some e with ⟨c, ρ1, h1, h2⟩ | ⟨x, ρ1, h1, rfl⟩
  · refine h G F ρ σ H _ R _ h1 fun F1 H1 s1 R1 => ?_
    cases h2
    exact k F1 H1 s1 R1
  · exact h G F ρ σ H _ R _ h1 k
end
/-- and, or, not as values: all but the last True or False -/
def mAndV (a b : ME) : ME := fun ρ => bnd (mB a ρ) fun c ρ1 => if c = true then b ρ1 else some (.ok (.v (.bool false)) ρ1)
def mOrV (a b : ME) : ME := fun ρ => bnd (mB a ρ) fun c ρ1 => if c = true then some (.ok (.v (.bool true)) ρ1) else b ρ1
def mNotV (a : ME) : ME := fun ρ => bnd (mB a ρ) fun c ρ1 => some (.ok (.v (.bool (!c))) ρ1)
theorem sim_andV (ha : SimE K W ta ma) (hb : SimE K W tb mb) : SimE K W (tAndV ta tb) (mAndV ma mb) := by
  intro G F ρ σ H Q R o e k
  rcases bnd_some e with ⟨c, ρ1, h1, h2⟩ | ⟨x, ρ1, h1, rfl⟩
  · refine sim_b ha G F ρ σ H (fun c H1 => if c = true then tb σ H1 Q else Q (.bl false) H1) R _ h1 fun F1 H1 s1 R1 => ?_
    cases c with
    | true => exact hb G F1 ρ1 σ H1 Q R1 o h2 (k.mono s1)
    | false => cases h2; exact k F1 _ H1 s1 R1 (.bl false)
  · exact sim_b ha G F ρ σ H (fun c H1 => if c = true then tb σ H1 Q else Q (.bl false) H1) R _ h1 k
theorem sim_orV (ha : SimE K W ta ma) (hb : SimE K W tb mb) : SimE K W (tOrV ta tb) (mOrV ma mb) := by
  intro G F ρ σ H Q R o e k
  rcases bnd_some e with ⟨c, ρ1, h1, h2⟩ | ⟨x, ρ1, h1, rfl⟩
  · refine sim_b ha G F ρ σ H (fun c H1 => if c = true then Q (.bl true) H1 else tb σ H1 Q) R _ h1 fun F1 H1 s1 R1 => ?_
    cases c with
    | false => exact hb G F1 ρ1 σ H1 Q R1 o h2 (k.mono s1)
    | true => cases h2; exact k F1 _ H1 s1 R1 (.bl true)
  · exact sim_b ha G F ρ σ H (fun c H1 => if c = true then Q (.bl true) H1 else tb σ H1 Q) R _ h1 k
theorem sim_notV (ha : SimE K W ta ma) : SimE K W (tNotV ta) (mNotV ma) := by
  intro G F ρ σ H Q R o e k
  rcases bnd_some e with ⟨c, ρ1, h1, h2⟩ | ⟨x, ρ1, h1, rfl⟩
  · refine sim_b ha G F ρ σ H (fun c H1 => Q (.bl (!c)) H1) R _ h1 fun F1 H1 s1 R1 => ?_
    cases h2
    exact k F1 _ H1 s1 R1 (.bl _)
  · exact sim_b ha G F ρ σ H (fun c H1 => Q (.bl (!c)) H1) R _ h1 k
/-- a if c else b -/
def mIf (c : MT) (a b : ME) : ME := fun ρ => bnd (c ρ) fun x ρ1 => if x = true then a ρ1 else b ρ1
theorem sim_if {tc : TT} {mc : MT} (hc : SimT K W tc mc) (ha : SimE K W ta ma) (hb : SimE K W tb mb) : SimE K W (tIf tc ta tb) (mIf mc ma mb) := by
  intro G F ρ σ H Q R o e k
  rcases bnd_some e with ⟨c, ρ1, h1, h2⟩ | ⟨x, ρ1, h1, rfl⟩
  · refine hc G F ρ σ H _ R _ h1 fun F1 H1 s1 R1 => ?_
    cases c with
    | true => exact ha G F1 ρ1 σ H1 Q R1 o h2 (k.mono s1)
    | false => exact hb G F1 ρ1 σ H1 Q R1 o h2 (k.mono s1)
  · exact hc G F ρ σ H _ R _ h1 k
/-- a < b < c -/
def Op2B (K : PySem.W.Frag) (rop : R2) (f : D → D → Option Bool) : Prop := Op2 K rop fun d e => (f d e).map fun b => .v (.bool b)
def rd2B (f : D → D → Option Bool) (ρ : Rh) (r1 r2 : Out) : Option Bool := match rd ρ r1, rd ρ r2 with
  | some d, some e => f d e
  | _, _ => none
def mChain (f g : D → D → Option Bool) (ma mb mc : ME) : ME := fun ρ => bnd (mHold ma ρ) fun r1 ρ1 => bnd (mHold mb ρ1) fun r2 ρ2 => bnd (opt (rd2B f ρ2 r1 r2) ρ2) fun b ρ2 =>
  if b = true then bnd (mHold mc ρ2) fun r3 ρ3 => opt ((rd2B g ρ3 r2 r3).map fun b => .v (.bool b)) ρ3 else some (.ok (.v (.bool false)) ρ2)
theorem rd2B_some {f : D → D → Option Bool} {ρ : Rh} {r1 r2 : Out} {b : Bool} (h : rd2B f ρ r1 r2 = some b) : ∃ d e, rd ρ r1 = some d ∧ rd ρ r2 = some e ∧ f d e = some b := by
  unfold rd2B at h
  cases h1 : rd ρ r1 with
  | none => rw [h1] at h; cases h
  | some d =>
    cases h2 : rd ρ r2 with
    | none => rw [h1, h2] at h; cases h
    | some e =>
      rw [h1, h2] at h
      exact ⟨d, e, rfl, rfl, h⟩
theorem sim_chain {r1 r2 : R2} {f g : D → D → Option Bool} {tc : TE} {mc : ME} (o1 : Op2B K r1 f) (o2 : Op2B K r2 g) (ha : SimE K W ta ma) (hb : SimE K W tb mb) (hc : SimE K W tc mc) : SimE K W (tChain r1 r2 ta tb tc) (mChain f g ma mb mc) := by
  intro G F ρ σ H Q R p h k
  rcases bnd_some h with ⟨x1, ρ1, h1, h⟩ | ⟨x, ρ1, h1, rfl⟩
  · refine sim_hold ha G F ρ σ H _ R _ h1 fun F1 v1 H1 s1 R1 q1 => ?_
    rcases bnd_some h with ⟨x2, ρ2, h2, h⟩ | ⟨x, ρ2, h2, rfl⟩
    · refine sim_hold hb G F1 ρ1 σ H1 _ R1 _ h2 fun F2 v2 H2 s2 R2 q2 => ?_
      have q1' : OutOk K G F2 ρ2 σ H2 v1 x1 := q1.held s2 (mHold_noFr h1)
      rcases bnd_some h with ⟨c, ρ3, h3, h⟩ | ⟨x, ρ3, h3, rfl⟩
      · obtain ⟨c', h3', e3⟩ := opt_some h3
        cases e3
        obtain ⟨d, e, d1, d2, d3⟩ := rd2B_some h3'
        refine o1 G F2 ρ2 σ H2 v1 v2 d e (.v (.bool c)) _ R2 (R2.rdV q1' d1) (R2.rdV q2 d2) (by show Option.map _ (f d e) = _; rw [d3]; rfl) fun F3 v3 H3 s3 R3 q3 => ?_
        have q2' : OutOk K G F3 ρ2 σ H3 v2 x2 := q2.held s3 (mHold_noFr h2)
        have e3 : v3 = .bl c := RdV.bl (F := F3) (H := H3) (.inl q3)
        refine ⟨c, e3, ?_⟩
        cases c with
        | false =>
          cases h
          exact k F3 _ H3 ((s1.trans s2).trans s3) R3 (.bl false)
        | true =>
          rw [if_pos rfl]
          rw [if_pos rfl] at h
          rcases bnd_some h with ⟨x4, ρ4, h4, h⟩ | ⟨x, ρ4, h4, rfl⟩
          · refine sim_hold hc G F3 ρ2 σ H3 _ R3 _ h4 fun F4 v4 H4 s4 R4 q4 => ?_
            obtain ⟨r, h5, rfl⟩ := opt_some h
            cases h6 : rd2B g ρ4 x2 x4 with
            | none => rw [h6] at h5; cases h5
            | some b =>
              rw [h6] at h5
              cases h5
              obtain ⟨d', e', d1', d2', d3'⟩ := rd2B_some h6
              have q2'' : OutOk K G F4 ρ4 σ H4 v2 x2 := q2'.held s4 (mHold_noFr h2)
              exact o2 G F4 ρ4 σ H4 v2 v4 d' e' (.v (.bool b)) Q R4 (R4.rdV q2'' d1') (R4.rdV q4 d2') (by show Option.map _ (g d' e') = _; rw [d3']; rfl) fun F' v H' s' R' o' => k F' v H' ((((s1.trans s2).trans s3).trans s4).trans s') R' o'
          · exact sim_hold hc G F3 ρ2 σ H3 _ R3 _ h4 (PostX.mono k ((s1.trans s2).trans s3))
      · obtain ⟨_, _, e3⟩ := opt_some h3
        cases e3
    · exact sim_hold hb G F1 ρ1 σ H1 _ R1 _ h2 (PostX.mono k s1)
  · exact sim_hold ha G F ρ σ H _ R _ h1 k
end
end ML

set_option Elab.async false
set_option linter.all false
set_option maxRecDepth 100000
/-! ML3: targets, statements, loops, comprehensions. -/
namespace ML
open PySem PySem.Spec PyProof.Rows L2

inductive Fl where
  | nx | bk | ct | rt (r : Out)
abbrev MS := Rh → Option (Ro Fl)
def PostF (K : PySem.W.Frag) (G : Gh) (D : Ends) (F' : Hp) (ρ' : Rh) (σ' : St) (H' : Hp) : Fl → Prop
  | .nx => D.nx σ' H'
  | .bk => D.bk σ' H'
  | .ct => D.ct σ' H'
  | .rt r => ∀ v, OutOk K G F' ρ' σ' H' v r → D.rt v H'
def PostS (K : PySem.W.Frag) (W : WX) (G : Gh) (F : Hp) (D : Ends) : Ro Fl → Prop
  | .ok f ρ' => ∀ F' σ' H', Same F F' → Rl K G F' ρ' σ' H' → PostF K G D F' ρ' σ' H' f
  | .er x ρ' => ∀ σ', PostX K W G F σ' x ρ'
def SimS (K : PySem.W.Frag) (W : WX) (t : TS) (m : MS) : Prop := ∀ (G : Gh) (F : Hp) (ρ : Rh) (σ : St) (H : Hp) (D : Ends), Rl K G F ρ σ H → ∀ o, m ρ = some o → PostS K W G F D o → t D σ H
structure MSx (X : Cx) (W : WX) (st : Stmt) (m : MS) : Prop where
  ex : ∃ t, PS X st t ∧ SimS X.K W t m
structure MSs (X : Cx) (W : WX) (sts : List Stmt) (m : MS) : Prop where
  ex : ∃ t, PSs X sts t ∧ SimS X.K W t m
/-- targets -/
abbrev MG := Out → Rh → Option (Ro Unit)
def PostG (K : PySem.W.Frag) (W : WX) (G : Gh) (F : Hp) (Q : St → Hp → Prop) : Ro Unit → Prop
  | .ok _ ρ' => ∀ F' σ' H', Same F F' → Rl K G F' ρ' σ' H' → Q σ' H'
  | .er x ρ' => ∀ σ', PostX K W G F σ' x ρ'
def SimG (K : PySem.W.Frag) (W : WX) (g : TG) (m : MG) : Prop := ∀ (G : Gh) (F : Hp) (ρ : Rh) (σ : St) (H : Hp) (v : V) (r : Out) (Q : St → Hp → Prop), Rl K G F ρ σ H → OutOk K G F ρ σ H v r → ∀ o, m r ρ = some o → PostG K W G F Q o → g v σ H Q
structure MGx (X : Cx) (W : WX) (e : Expr) (m : MG) : Prop where
  ex : ∃ g, PG X e g ∧ SimG X.K W g m

section
variable {K : PySem.W.Frag} {W : WX}
theorem PostS.mono {G : Gh} {F F1 : Hp} {D : Ends} {o : Ro Fl} (h : PostS K W G F D o) (s : Same F F1) : PostS K W G F1 D o := by
  cases o with
  | ok b ρ' => exact fun F' σ' H' s' R => h F' σ' H' (s.trans s') R
  | er x ρ' => exact fun σ' => (h σ').mono s
theorem PostG.mono {G : Gh} {F F1 : Hp} {Q : St → Hp → Prop} {o : Ro Unit} (h : PostG K W G F Q o) (s : Same F F1) : PostG K W G F1 Q o := by
  cases o with
  | ok b ρ' => exact fun F' σ' H' s' R => h F' σ' H' (s.trans s') R
  | er x ρ' => exact fun σ' => (h σ').mono s

/-! ### targets -/
def isIo (ρ : Rh) (i : Nat) : Bool := match ρ[i]? with
  | some (.io _) => true
  | none => true
  | _ => false
theorem isIo_no {ρ : Rh} {i : Nat} (h : isIo ρ i = false) : (∀ ds, ρ[i]? ≠ some (.io ds)) ∧ i < ρ.length := by
  unfold isIo at h
  cases q : ρ[i]? with
  | none => rw [q] at h; cases h
  | some s =>
    refine ⟨fun ds e => ?_, (List.getElem?_eq_some_iff.mp q).1⟩
    cases e
    rw [q] at h; cases h
/-- name = value -/
def mSet (i : Nat) : MG := fun r ρ => if isIo ρ i = true then none else match r with
  | .v d => some (.ok () (ρ.set i (.frz d)))
  | .fr ds => some (.ok () (ρ.set i (.own ds)))
  | .bor j => (match frzO (.bor j) ρ with
    | some (d, ρ1) => some (.ok () (ρ1.set i (.frz d)))
    | none => none)
theorem isIo_frz {ρ ρ1 : Rh} {i j : Nat} {d : D} (h : isIo ρ i = false) (e : frzO (.bor j) ρ = some (d, ρ1)) : isIo ρ1 i = false := by
  obtain ⟨h1, h2⟩ := isIo_no h
  unfold frzO at e
  cases q : ρ[j]? with
  | none => simp [q] at e
  | some s =>
    cases s with
    | no => simp [q] at e
    | io ds => simp [q] at e
    | frz d' => simp [q] at e; obtain ⟨_, rfl⟩ := e; exact h
    | own ds =>
      simp [q] at e
      obtain ⟨_, rfl⟩ := e
      unfold isIo
      by_cases hij : j = i
      · subst hij
        rw [List.getElem?_set_self h2]
      · rw [List.getElem?_set_ne hij]
        exact h
theorem sim_gname (i : Nat) : SimG K W (gName i) (mSet i) := by
  intro G F ρ σ H v r Q R o p h k
  unfold mSet at h
  cases hi : isIo ρ i with
  | true => rw [hi] at h; cases h
  | false =>
    rw [hi] at h
    simp only [Bool.false_eq_true, if_false] at h
    obtain ⟨n1, n2⟩ := isIo_no hi
    cases r with
    | v d =>
      cases h
      exact k F _ H (Same.refl _) (R.setF o n1 n2)
    | fr ds =>
      cases h
      obtain ⟨a, vs, rfl, h1, h2, h3, h4, h5⟩ := o
      exact k F _ H (Same.refl _) (R.setN h1 h2 h3 h4 h5 n1 n2)
    | bor j =>
      simp only at h
      cases hf : frzO (.bor j) ρ with
      | none => rw [hf] at h; cases h
      | some q =>
        obtain ⟨d, ρ1⟩ := q
        rw [hf] at h
        cases h
        obtain ⟨F1, s1, R1, rp⟩ := frz_out R o hf
        obtain ⟨m1, m2⟩ := isIo_no (isIo_frz hi hf)
        exact k F1 _ H s1 (R1.setF rp m1 m2)
/-- several targets -/
abbrev MGs := List D → Rh → Option (Ro Unit)
def SimGs (K : PySem.W.Frag) (W : WX) (g : TGs) (m : MGs) : Prop := ∀ (G : Gh) (F : Hp) (ρ : Rh) (σ : St) (H : Hp) (vs : List V) (ds : List D) (Q : St → Hp → Prop), Rl K G F ρ σ H → Rps K F vs ds → ∀ o, m ds ρ = some o → PostG K W G F Q o → g vs σ H Q
def mgNil : MGs := fun ds ρ => match ds with
  | [] => some (.ok () ρ)
  | _ => none
def mgCons (g : MG) (gs : MGs) : MGs := fun ds ρ => match ds with
  | d :: ds => bnd (g (.v d) ρ) fun _ ρ1 => gs ds ρ1
  | [] => none
theorem sim_gnil : SimGs K W gNil mgNil := by
  intro G F ρ σ H vs ds Q R rp o h k
  cases rp with
  | nil => cases h; exact ⟨rfl, k F σ H (Same.refl _) R⟩
  | cons _ _ => cases h
theorem sim_gcons {g : TG} {gs : TGs} {m : MG} {ms : MGs} (h1 : SimG K W g m) (h2 : SimGs K W gs ms) : SimGs K W (gCons g gs) (mgCons m ms) := by
  intro G F ρ σ H vs ds Q R rp o h k
  cases rp with
  | nil => cases h
  | cons r rs =>
    refine ⟨_, _, rfl, ?_⟩
    rcases bnd_some h with ⟨u, ρ1, q1, q2⟩ | ⟨x, ρ1, q1, rfl⟩
    · refine h1 G F ρ σ H _ (.v _) _ R r _ q1 fun F1 σ1 H1 s1 R1 => ?_
      exact h2 G F1 ρ1 σ1 H1 _ _ Q R1 (Rps.mono s1 rs) o q2 (k.mono s1)
    · exact h1 G F ρ σ H _ (.v _) _ R r _ q1 k
def mgTup (n : Nat) (gs : MGs) : MG := fun r ρ => match rd ρ r with
  | some (.tuple ds) => if ds.length = n then gs ds ρ else none
  | _ => none
theorem sim_gtup {n : Nat} {gs : TGs} {ms : MGs} (h2 : SimGs K W gs ms) : SimG K W (gTup K n gs) (mgTup n ms) := by
  intro G F ρ σ H v r Q R o p h k
  unfold mgTup at h
  split at h
  · rename_i ds hd
    split at h
    · rename_i hn
      have q := R.rdV o hd
      rcases q with q | ⟨_, _, _, _, e, _⟩
      · cases q with
        | tup q1 q2 =>
          refine ⟨_, _, rfl, SqT.mono R.sub q1, by rw [q2.length]; exact hn, ?_⟩
          exact h2 G F ρ σ H _ ds Q R q2 p h k
      · cases e
    · cases h
  · cases h
/-- name[i] = value -/
def Sl.put (s : Sl) (ds : List D) : Sl := match s with
  | .own _ => .own ds
  | .io _ => .io ds
  | s => s
def putAt (ρ : Rh) (j : Nat) (k : D) (d : D) : Option Rh := match k, ρ[j]? with
  | .int k, some s => (match s.cont with
    | some ds => (match ixN ds.length k with
      | some n => some (ρ.set j (s.put (ds.set n d)))
      | none => none)
    | none => none)
  | _, _ => none
def contAt (ρ : Rh) (j : Nat) : Option (List D) := match ρ[j]? with
  | some s => s.cont
  | none => none
theorem contAt_some {ρ : Rh} {j : Nat} {ds : List D} (h : contAt ρ j = some ds) : ∃ s, ρ[j]? = some s ∧ s.cont = some ds := by
  unfold contAt at h
  cases q : ρ[j]? with
  | none => rw [q] at h; cases h
  | some s => rw [q] at h; exact ⟨s, rfl, h⟩
def mgSub (j : Nat) (mi : ME) : MG := fun r ρ => match frzO r ρ with
  | some (d, ρ1) => if (contAt ρ1 j).isSome = true then bnd (mHold mi ρ1) fun ri ρ2 => (match rd ρ2 ri with
    | some k => (match putAt ρ2 j k d with
      | some ρ3 => some (.ok () ρ3)
      | none => none)
    | none => none) else none
  | none => none
theorem Sl.put_ok {s : Sl} {ds ds' : List D} (c : s.cont = some ds) : (∃ x, s = .own x ∧ s.put ds' = .own ds') ∨ ∃ x, s = .io x ∧ s.put ds' = .io ds' := by
  cases s with
  | own x => exact .inl ⟨x, rfl, rfl⟩
  | io x => exact .inr ⟨x, rfl, rfl⟩
  | no => cases c
  | frz _ => cases c
theorem sim_gsub {j : Nat} {ti : TE} {mi : ME} (hi : SimE K W ti mi) : SimG K W (gSub (tVar j) ti rSetL) (mgSub j mi) := by
  intro G F ρ σ H v r Q R o p h k
  unfold mgSub at h
  cases hf : frzO r ρ with
  | none => rw [hf] at h; cases h
  | some q =>
    obtain ⟨d, ρ1⟩ := q
    rw [hf] at h
    simp only at h
    obtain ⟨F1, s1, R1, rp⟩ := frz_out R o hf
    split at h
    · rename_i hcs
      obtain ⟨ds0, hc0⟩ := Option.isSome_iff_exists.mp hcs
      obtain ⟨s0, hs0, hc0⟩ := contAt_some hc0
      obtain ⟨a, vs0, e1, _⟩ := R1.own j s0 ds0 hs0 hc0
      refine ⟨.ref a, e1, ?_⟩
      rcases bnd_some h with ⟨ri, ρ2, h1, h2⟩ | ⟨x, ρ2, h1, rfl⟩
      · refine sim_hold hi G F1 ρ1 σ H _ R1 _ h1 fun F2 y H2 s2 R2 o2 => ?_
        cases h3 : rd ρ2 ri with
        | none => rw [h3] at h2; cases h2
        | some kd =>
          rw [h3] at h2
          simp only at h2
          cases h4 : putAt ρ2 j kd d with
          | none => rw [h4] at h2; cases h2
          | some ρ3 =>
            rw [h4] at h2
            cases h2
            unfold putAt at h4
            split at h4
            · rename_i kk s hs
              cases hc : s.cont with
              | none => rw [hc] at h4; cases h4
              | some ds =>
                rw [hc] at h4
                simp only at h4
                cases hn : ixN ds.length kk with
                | none => rw [hn] at h4; cases h4
                | some n =>
                  rw [hn] at h4
                  cases h4
                  obtain ⟨a', vs, e1', e2, e3, e4, e5⟩ := R2.own j s ds hs hc
                  rw [e1] at e1'; cases e1'
                  have ey := (R2.rdV o2 h3).int
                  refine ⟨a, vs, kk, n, rfl, ey, e2, by rw [e4.length]; exact hn, ?_⟩
                  exact k F2 σ _ (s1.trans s2) (R2.write hs hc (Sl.put_ok hc) e1 (Rps.set (Rp.mono s2 rp) n e4))
            · cases h4
      · exact sim_hold hi G F1 ρ1 σ H _ R1 _ h1 (PostX.mono (k σ) s1)
    · cases h

/-! ### blocks and small statements -/
def sNil : MS := fun ρ => some (.ok .nx ρ)
def sSeq (a b : MS) : MS := fun ρ => bnd (a ρ) fun f ρ1 => match f with
  | .nx => b ρ1
  | f => some (.ok f ρ1)
def sBrk : MS := fun ρ => some (.ok .bk ρ)
def sCnt : MS := fun ρ => some (.ok .ct ρ)
theorem sim_nil : SimS K W tNext sNil := by
  intro G F ρ σ H D R o h k
  cases h
  exact k F σ H (Same.refl _) R
theorem sim_brk : SimS K W tBreak sBrk := by
  intro G F ρ σ H D R o h k
  cases h
  exact k F σ H (Same.refl _) R
theorem sim_cnt : SimS K W tCont sCnt := by
  intro G F ρ σ H D R o h k
  cases h
  exact k F σ H (Same.refl _) R
section
variable {t u : TS} {a b : MS} {te : TE} {m : ME}
theorem sim_seq (h1 : SimS K W t a) (h2 : SimS K W u b) : SimS K W (tSeq t u) (sSeq a b) := by
  intro G F ρ σ H D R o h k
  rcases bnd_some h with ⟨f, ρ1, q1, q2⟩ | ⟨x, ρ1, q1, rfl⟩
  · refine h1 G F ρ σ H _ R _ q1 fun F1 σ1 H1 s1 R1 => ?_
    cases f with
    | nx => exact h2 G F1 ρ1 σ1 H1 D R1 o q2 (k.mono s1)
    | bk => cases q2; exact k F1 σ1 H1 s1 R1
    | ct => cases q2; exact k F1 σ1 H1 s1 R1
    | rt r => cases q2; exact k F1 σ1 H1 s1 R1
  · exact h1 G F ρ σ H _ R _ q1 k
/-- an expression whose value is dropped -/
def sDrop (m : ME) : MS := fun ρ => bnd (m ρ) fun _ ρ1 => some (.ok .nx ρ1)
theorem sim_drop (h1 : SimE K W te m) : SimS K W (tDrop te) (sDrop m) := by
  intro G F ρ σ H D R o h k
  rcases bnd_some h with ⟨f, ρ1, q1, q2⟩ | ⟨x, ρ1, q1, rfl⟩
  · cases q2
    exact h1 G F ρ σ H _ R _ q1 fun F1 v H1 s1 R1 _ => k F1 σ H1 s1 R1
  · exact h1 G F ρ σ H _ R _ q1 (k σ)
/-- return e: a list of the def's own is handed out -/
def retO : Out → Rh → Option (Out × Rh)
  | .v d, ρ => some (.v d, ρ)
  | .fr ds, ρ => some (.fr ds, ρ)
  | .bor i, ρ => match ρ[i]? with
    | some (.frz d) => some (.v d, ρ)
    | some (.own ds) => some (.fr ds, ρ.set i .no)
    | _ => none
theorem ret_out {G : Gh} {F H : Hp} {ρ ρ' : Rh} {σ : St} {v : V} {r r' : Out} (R : Rl K G F ρ σ H) (o : OutOk K G F ρ σ H v r) (h : retO r ρ = some (r', ρ')) : Rl K G F ρ' σ H ∧ OutOk K G F ρ' σ H v r' := by
  cases r with
  | v d => cases h; exact ⟨R, o⟩
  | fr ds => cases h; exact ⟨R, o⟩
  | bor i =>
    have o' : σ[i]? = some (some v) := o
    cases hs : ρ[i]? with
    | none => simp [retO, hs] at h
    | some s =>
      cases s with
      | no => simp [retO, hs] at h
      | io ds => simp [retO, hs] at h
      | frz d' =>
        simp [retO, hs] at h
        obtain ⟨rfl, rfl⟩ := h
        obtain ⟨w, h1, h2⟩ := R.frz i _ hs
        rw [o'] at h1; cases h1
        exact ⟨R, h2⟩
      | own ds =>
        simp [retO, hs] at h
        obtain ⟨rfl, rfl⟩ := h
        obtain ⟨a, vs, h1, h2, h3, h4, h5⟩ := R.own i _ ds hs rfl
        rw [o'] at h1; cases h1
        refine ⟨R.forget i, a, vs, rfl, h2, h3, h4, h5, fun j hj => ?_⟩
        obtain ⟨q1, q2⟩ := hj.of_set rfl
        exact q2 (R.sep j i a q1 ⟨⟨_, _, hs, rfl⟩, o'⟩)
def sRet (m : ME) : MS := fun ρ => bnd (m ρ) fun r ρ1 => match retO r ρ1 with
  | some (r', ρ2) => some (.ok (.rt r') ρ2)
  | none => none
theorem sim_ret (h1 : SimE K W te m) : SimS K W (tRet te) (sRet m) := by
  intro G F ρ σ H D R o h k
  rcases bnd_some h with ⟨r, ρ1, q1, q2⟩ | ⟨x, ρ1, q1, rfl⟩
  · refine h1 G F ρ σ H _ R _ q1 fun F1 v H1 s1 R1 o1 => ?_
    cases q3 : retO r ρ1 with
    | none => rw [q3] at q2; cases q2
    | some p =>
      obtain ⟨r', ρ2⟩ := p
      rw [q3] at q2
      cases q2
      obtain ⟨R2, o2⟩ := ret_out R1 o1 q3
      exact k F1 σ H1 s1 R2 v o2
  · exact h1 G F ρ σ H _ R _ q1 (k σ)
def sRetN : MS := fun ρ => some (.ok (.rt (.v .none)) ρ)
theorem sim_retN : SimS K W tRetN sRetN := by
  intro G F ρ σ H D R o h k
  cases h
  exact k F σ H (Same.refl _) R .non .non
def sIf (c : MT) (a b : MS) : MS := fun ρ => bnd (c ρ) fun x ρ1 => if x = true then a ρ1 else b ρ1
theorem sim_ifS {tc : TT} {mc : MT} (hc : SimT K W tc mc) (ha : SimS K W t a) (hb : SimS K W u b) : SimS K W (tIfS tc t u) (sIf mc a b) := by
  intro G F ρ σ H D R o e k
  rcases bnd_some e with ⟨c, ρ1, h1, h2⟩ | ⟨x, ρ1, h1, rfl⟩
  · refine hc G F ρ σ H _ R _ h1 fun F1 H1 s1 R1 => ?_
    cases c with
    | true => exact ha G F1 ρ1 σ H1 D R1 o h2 (k.mono s1)
    | false => exact hb G F1 ρ1 σ H1 D R1 o h2 (k.mono s1)
  · exact hc G F ρ σ H _ R _ h1 (k σ)
/-- target = e -/
def sAsg (m : ME) (g : MG) : MS := fun ρ => bnd (m ρ) fun r ρ1 => bnd (g r ρ1) fun _ ρ2 => some (.ok .nx ρ2)
theorem sim_asg {tg : TG} {g : MG} (h1 : SimE K W te m) (h2 : SimG K W tg g) : SimS K W (tAsg te tg) (sAsg m g) := by
  intro G F ρ σ H D R o h k
  rcases bnd_some h with ⟨r, ρ1, q1, q2⟩ | ⟨x, ρ1, q1, rfl⟩
  · refine h1 G F ρ σ H _ R _ q1 fun F1 v H1 s1 R1 o1 => ?_
    rcases bnd_some q2 with ⟨_, ρ2, q3, q4⟩ | ⟨x, ρ2, q3, rfl⟩
    · cases q4
      exact h2 G F1 ρ1 σ H1 v r _ R1 o1 _ q3 fun F2 σ2 H2 s2 R2 => k F2 σ2 H2 (s1.trans s2) R2
    · exact h2 G F1 ρ1 σ H1 v r _ R1 o1 _ q3 fun σ' => (k σ').mono s1
  · exact h1 G F ρ σ H _ R _ q1 (k σ)
/-- name op= e, no list -/
def sAug (i : Nat) (f : D → D → Option Out) (m : ME) : MS := fun ρ => match ρ[i]? with
  | some (.frz d) => bnd (mHold m ρ) fun r ρ1 => (match rd ρ1 r with
    | some e => (match f d e with
      | some r' => bnd (mSet i r' ρ1) fun _ ρ2 => some (.ok .nx ρ2)
      | none => none)
    | none => none)
  | _ => none
theorem sim_aug {i : Nat} {f : D → D → Option Out} {ti : TIp} (o2 : Op2 K ti f) (h1 : SimE K W te m) : SimS K W (tAug i te ti) (sAug i f m) := by
  intro G F ρ σ H D R o h k
  unfold sAug at h
  split at h
  · rename_i d hd
    obtain ⟨v, e1, e2⟩ := R.frz i d hd
    refine ⟨v, e1, ?_⟩
    rcases bnd_some h with ⟨r, ρ1, q1, q2⟩ | ⟨x, ρ1, q1, rfl⟩
    · refine sim_hold h1 G F ρ σ H _ R _ q1 fun F1 y H1 s1 R1 o1 => ?_
      cases q3 : rd ρ1 r with
      | none => rw [q3] at q2; cases q2
      | some e =>
        rw [q3] at q2
        simp only at q2
        cases q4 : f d e with
        | none => rw [q4] at q2; cases q2
        | some r' =>
          rw [q4] at q2
          simp only at q2
          refine o2 G F1 ρ1 σ H1 v y d e r' _ R1 (.inl (Rp.mono s1 e2)) (R1.rdV o1 q3) q4 fun F2 z H2 s2 R2 o2 => ?_
          rcases bnd_some q2 with ⟨_, ρ2, q5, q6⟩ | ⟨x, ρ2, q5, rfl⟩
          · cases q6
            exact sim_gname (W := W) i G F2 ρ1 σ H2 z r' _ R2 o2 _ q5 fun F3 σ3 H3 s3 R3 => k F3 σ3 H3 ((s1.trans s2).trans s3) R3
          · exact sim_gname (W := W) i G F2 ρ1 σ H2 z r' _ R2 o2 _ q5 fun σ' => (k σ').mono (s1.trans s2)
    · exact sim_hold h1 G F ρ σ H _ R _ q1 (k σ)
  · cases h
end

/-! ### what is walked -/
def ItOk (K : PySem.W.Frag) (F : Hp) (J : It) (ds : List D) : Prop := ∀ i : Nat, (ds.length ≤ i → ∀ H, Same F H → J.stop i H) ∧ ∀ d, ds[i]? = some d → ∀ H, Same F H → J.go i H ∧
  ∀ x H', J.yld i H x H' → ∀ G F1 ρ σ, Same F F1 → Rl K G F1 ρ σ H → ∃ F2, Same F1 F2 ∧ Rl K G F2 ρ σ H' ∧ Rp K F2 x d
abbrev MI := Rh → Option (Ro (List D))
def PostI (K : PySem.W.Frag) (W : WX) (G : Gh) (F : Hp) (σ : St) (Q : It → Hp → Prop) : Ro (List D) → Prop
  | .ok ds ρ' => ∀ F' H' J, Same F F' → Rl K G F' ρ' σ H' → ItOk K F' J ds → Q J H'
  | .er x ρ' => PostX K W G F σ x ρ'
def SimI (K : PySem.W.Frag) (W : WX) (wi : TI) (m : MI) : Prop := ∀ (G : Gh) (F : Hp) (ρ : Rh) (σ : St) (H : Hp) (Q : It → Hp → Prop), Rl K G F ρ σ H → ∀ o, m ρ = some o → PostI K W G F σ Q o → wi σ H Q
structure MIx (X : Cx) (W : WX) (tg iter : Expr) (m : MI) : Prop where
  ex : ∃ wi, PI X tg iter wi ∧ SimI X.K W wi m
theorem Itl_inj {a : Addr} {xs ys : List V} {H : Hp} (h : Rd H a (.lst xs)) (h' : Rd H a (.lst ys)) : xs = ys := by
  rcases h with h | ⟨o, h⟩ <;> rcases h' with h' | ⟨o', h'⟩ <;> rw [h] at h' <;> cases h' <;> rfl
theorem itOk_list {F : Hp} {a : Addr} {xs : List V} {ds : List D} (h : SqL K F a xs) (rp : Rps K F xs ds) : ItOk K F (Itl K a) ds := by
  intro i
  refine ⟨fun hi H s => ⟨xs, SqL.mono s h, by rw [rp.length]; exact hi⟩, fun d hd H s => ?_⟩
  obtain ⟨v, h1, h2⟩ := rp.get hd
  refine ⟨⟨xs, v, SqL.mono s h, h1⟩, fun x H' y G F1 ρ σ s1 R => ?_⟩
  obtain ⟨rfl, y⟩ := y
  have e := y xs (SqL.mono s h)
  rw [h1] at e; cases e
  exact ⟨F1, Same.refl _, R, Rp.mono s1 h2⟩
theorem itOk_tup {F : Hp} {a : Addr} {xs : List V} {ds : List D} (h : SqT K F a xs) (rp : Rps K F xs ds) : ItOk K F (Itt K a) ds := by
  intro i
  refine ⟨fun hi H s => ⟨xs, SqT.mono s h, by rw [rp.length]; exact hi⟩, fun d hd H s => ?_⟩
  obtain ⟨v, h1, h2⟩ := rp.get hd
  refine ⟨⟨xs, v, SqT.mono s h, h1⟩, fun x H' y G F1 ρ σ s1 R => ?_⟩
  obtain ⟨rfl, y⟩ := y
  have e := y xs (SqT.mono s h)
  rw [h1] at e; cases e
  exact ⟨F1, Same.refl _, R, Rp.mono s1 h2⟩
def rgD (lo : Int) (n : Nat) : List D := (List.range n).map fun (i : Nat) => PyData.int (lo + (i : Int))
theorem itOk_rng {F : Hp} {lo : Int} {n : Nat} : ItOk K F (Itr lo n) (rgD lo n) := by
  intro i
  have hl : (rgD lo n).length = n := by unfold rgD; rw [List.length_map, List.length_range]
  refine ⟨fun hi H s => by rw [hl] at hi; exact hi, fun d hd H s => ?_⟩
  have hi : i < n := by rw [← hl]; exact (List.getElem?_eq_some_iff.mp hd).1
  have e : d = .int (lo + (i : Int)) := by
    unfold rgD at hd
    rw [List.getElem?_map, List.getElem?_range hi] at hd
    cases hd; rfl
  subst e
  refine ⟨hi, fun x H' y G F1 ρ σ s1 R => ?_⟩
  obtain ⟨rfl, rfl⟩ := y
  exact ⟨F1, Same.refl _, R, .int _⟩
/-- a list, a tuple -/
def iL (m : ME) : MI := fun ρ => bnd (mFrz m ρ) fun r ρ1 => match r with
  | .v (.list ds) => some (.ok ds ρ1)
  | _ => none
def iT (m : ME) : MI := fun ρ => bnd (mFrz m ρ) fun r ρ1 => match r with
  | .v (.tuple ds) => some (.ok ds ρ1)
  | _ => none
theorem sim_il {te : TE} {m : ME} (h1 : SimE K W te m) : SimI K W (iList K te) (iL m) := by
  intro G F ρ σ H Q R o h k
  rcases bnd_some h with ⟨r, ρ1, q1, q2⟩ | ⟨x, ρ1, q1, rfl⟩
  · refine sim_frz h1 G F ρ σ H _ R _ q1 fun F1 v H1 s1 R1 o1 => ?_
    split at q2
    · cases q2
      have o1' : Rp K F1 v (.list _) := o1
      cases o1' with
      | lst r1 r2 => exact ⟨_, rfl, ⟨_, SqL.mono R1.sub r1⟩, k F1 H1 _ s1 R1 (itOk_list r1 r2)⟩
    · cases q2
  · exact sim_frz h1 G F ρ σ H _ R _ q1 k
theorem sim_it {te : TE} {m : ME} (h1 : SimE K W te m) : SimI K W (iTup K te) (iT m) := by
  intro G F ρ σ H Q R o h k
  rcases bnd_some h with ⟨r, ρ1, q1, q2⟩ | ⟨x, ρ1, q1, rfl⟩
  · refine sim_frz h1 G F ρ σ H _ R _ q1 fun F1 v H1 s1 R1 o1 => ?_
    split at q2
    · cases q2
      have o1' : Rp K F1 v (.tuple _) := o1
      cases o1' with
      | tup r1 r2 => exact ⟨_, rfl, ⟨_, SqT.mono R1.sub r1⟩, k F1 H1 _ s1 R1 (itOk_tup r1 r2)⟩
    · cases q2
  · exact sim_frz h1 G F ρ σ H _ R _ q1 k
def rg1O (ρ : Rh) (rs : List Out) : Option (List D) := match rdAll ρ rs with
  | some [.int j] => if -(2 ^ 62) ≤ j ∧ j < 2 ^ 62 then some (rgD 0 j.toNat) else none
  | _ => none
def rg2O (ρ : Rh) (rs : List Out) : Option (List D) := match rdAll ρ rs with
  | some [.int i, .int j] => if -(2 ^ 62) ≤ i ∧ i < 2 ^ 62 ∧ -(2 ^ 62) ≤ j ∧ j < 2 ^ 62 then some (rgD i (j - i).toNat) else none
  | _ => none
def iR1 (a : MA) : MI := fun ρ => bnd (a ρ) fun rs ρ1 => opt (rg1O ρ1 rs) ρ1
def iR2 (a : MA) : MI := fun ρ => bnd (a ρ) fun rs ρ1 => opt (rg2O ρ1 rs) ρ1
theorem sim_ir1 {ta : TA} {a : MA} (ha : SimA K W ta a) : SimI K W (iRng1 ta) (iR1 a) := by
  intro G F ρ σ H Q R o h k
  rcases bnd_some h with ⟨rs, ρ1, q1, q2⟩ | ⟨x, ρ1, q1, rfl⟩
  · refine ha G F ρ σ H _ R _ q1 fun F1 vs H1 s1 R1 l ho => ?_
    obtain ⟨ds, q3, rfl⟩ := opt_some q2
    unfold rg1O at q3
    split at q3
    · rename_i j hj
      split at q3
      · rename_i hb
        cases q3
        have z := rdAll_ok R1 hj l ho
        cases z with
        | cons z1 z2 =>
          cases z2
          exact ⟨j, by rw [z1.int], hb.1, hb.2, k F1 H1 _ s1 R1 itOk_rng⟩
      · cases q3
    · cases q3
  · exact ha G F ρ σ H _ R _ q1 k
theorem sim_ir2 {ta : TA} {a : MA} (ha : SimA K W ta a) : SimI K W (iRng2 ta) (iR2 a) := by
  intro G F ρ σ H Q R o h k
  rcases bnd_some h with ⟨rs, ρ1, q1, q2⟩ | ⟨x, ρ1, q1, rfl⟩
  · refine ha G F ρ σ H _ R _ q1 fun F1 vs H1 s1 R1 l ho => ?_
    obtain ⟨ds, q3, rfl⟩ := opt_some q2
    unfold rg2O at q3
    split at q3
    · rename_i i j hj
      split at q3
      · rename_i hb
        cases q3
        have z := rdAll_ok R1 hj l ho
        cases z with
        | cons z1 z2 =>
          cases z2 with
          | cons z2 z3 =>
            cases z3
            exact ⟨i, j, by rw [z1.int, z2.int], hb, k F1 H1 _ s1 R1 itOk_rng⟩
      · cases q3
    · cases q3
  · exact ha G F ρ σ H _ R _ q1 k

/-! ### for, while -/
def mLoop (g : MG) (b : MS) : List D → MS
  | [] => fun ρ => some (.ok .nx ρ)
  | d :: ds => fun ρ => bnd (g (.v d) ρ) fun _ ρ1 => bnd (b ρ1) fun f ρ2 => match f with
    | .nx => mLoop g b ds ρ2
    | .ct => mLoop g b ds ρ2
    | .bk => some (.ok .nx ρ2)
    | .rt r => some (.ok (.rt r) ρ2)
def sFor (mi : MI) (g : MG) (b : MS) : MS := fun ρ => bnd (mi ρ) fun ds ρ1 => mLoop g b ds ρ1
theorem sim_for {wi : TI} {mi : MI} {tg : TG} {g : MG} {tb : TS} {b : MS} (hi : SimI K W wi mi) (hg : SimG K W tg g) (hb : SimS K W tb b) : SimS K W (tFor wi tg tb) (sFor mi g b) := by
  intro G F ρ σ H D R o h k
  rcases bnd_some h with ⟨ds, ρ1, q1, q2⟩ | ⟨x, ρ1, q1, rfl⟩
  · refine hi G F ρ σ H _ R _ q1 fun F1 H1 J s1 R1 it => ?_
    refine ⟨fun i m σ H => m = ds.length - i ∧ i ≤ ds.length ∧ ∃ F' ρ', Same F1 F' ∧ Rl K G F' ρ' σ H ∧ mLoop g b (ds.drop i) ρ' = some o, ⟨ds.length, rfl, Nat.zero_le _, F1, ρ1, Same.refl _, R1, q2⟩, ?_⟩
    rintro i m σ2 H2 ⟨rfl, hi, F2, ρ2, s2, R2, e⟩
    by_cases hlt : i < ds.length
    · have hd : ds[i]? = some ds[i] := List.getElem?_eq_getElem hlt
      obtain ⟨go, yl⟩ := (it i).2 _ hd H2 (fun c u z => R2.sub c u (s2 c u z))
      refine .inr ⟨go, fun σ' H' => i + 1 ≤ ds.length ∧ ∃ F' ρ', Same F1 F' ∧ Rl K G F' ρ' σ' H' ∧ mLoop g b (ds.drop (i + 1)) ρ' = some o, fun σ' H' n => ⟨ds.length - (i + 1), by omega, rfl, n.1, n.2⟩, fun x H' y => ?_⟩
      obtain ⟨F3, s3, R3, rp⟩ := yl x H' y G F2 ρ2 σ2 s2 R2
      rw [List.drop_eq_getElem_cons hlt] at e
      have e : bnd (g (.v ds[i]) ρ2) (fun _ ρ1 => bnd (b ρ1) fun f ρ2 => match f with
        | .nx => mLoop g b (ds.drop (i + 1)) ρ2
        | .ct => mLoop g b (ds.drop (i + 1)) ρ2
        | .bk => some (.ok .nx ρ2)
        | .rt r => some (.ok (.rt r) ρ2)) = some o := e
      have s13 : Same F F3 := (s1.trans s2).trans s3
      rcases bnd_some e with ⟨_, ρ4, e1, e2⟩ | ⟨x, ρ4, e1, rfl⟩
      · refine hg G F3 ρ2 σ2 H' x (.v ds[i]) _ R3 rp _ e1 fun F4 σ4 H4 s4 R4 => ?_
        rcases bnd_some e2 with ⟨f, ρ5, e3, e4⟩ | ⟨x, ρ5, e3, rfl⟩
        · refine hb G F4 ρ4 σ4 H4 _ R4 _ e3 fun F5 σ5 H5 s5 R5 => ?_
          have s15 : Same F1 F5 := ((s2.trans s3).trans s4).trans s5
          cases f with
          | nx => exact ⟨hlt, F5, ρ5, s15, R5, e4⟩
          | ct => exact ⟨hlt, F5, ρ5, s15, R5, e4⟩
          | bk => cases e4; exact k F5 σ5 H5 (s1.trans s15) R5
          | rt r => cases e4; exact k F5 σ5 H5 (s1.trans s15) R5
        · exact hb G F4 ρ4 σ4 H4 _ R4 _ e3 fun σ' => (k σ').mono (s13.trans s4)
      · exact hg G F3 ρ2 σ2 H' _ (.v ds[i]) _ R3 rp _ e1 fun σ' => (k σ').mono s13
    · have e0 : ds.drop i = [] := List.drop_eq_nil_of_le (by omega)
      rw [e0] at e
      cases e
      exact .inl ⟨(it i).1 (by omega) H2 (fun c u z => R2.sub c u (s2 c u z)), k F2 σ2 H2 (s1.trans s2) R2⟩
  · exact hi G F ρ σ H _ R _ q1 (k σ)
def mWhile (c : MT) (b : MS) : Nat → MS
  | 0 => fun _ => none
  | n + 1 => fun ρ => bnd (c ρ) fun x ρ1 => if x = true then bnd (b ρ1) fun f ρ2 => (match f with
    | .nx => mWhile c b n ρ2
    | .ct => mWhile c b n ρ2
    | .bk => some (.ok .nx ρ2)
    | .rt r => some (.ok (.rt r) ρ2)) else some (.ok .nx ρ1)
theorem sim_while {n : Nat} {tc : TT} {c : MT} {tb : TS} {b : MS} (hc : SimT K W tc c) (hb : SimS K W tb b) : SimS K W (tWhile tc tb) (mWhile c b n) := by
  intro G F ρ σ H D R o h k
  refine ⟨fun m σ H => ∃ F' ρ', Same F F' ∧ Rl K G F' ρ' σ H ∧ mWhile c b m ρ' = some o, ⟨n, F, ρ, Same.refl _, R, h⟩, ?_⟩
  rintro m σ1 H1 ⟨F1, ρ1, s1, R1, e⟩
  cases m with
  | zero => cases e
  | succ m =>
    have e : bnd (c ρ1) (fun x ρ1 => if x = true then bnd (b ρ1) fun f ρ2 => (match f with
      | .nx => mWhile c b m ρ2
      | .ct => mWhile c b m ρ2
      | .bk => some (.ok .nx ρ2)
      | .rt r => some (.ok (.rt r) ρ2)) else some (.ok .nx ρ1)) = some o := e
    rcases bnd_some e with ⟨x, ρ2, e1, e2⟩ | ⟨x, ρ2, e1, rfl⟩
    · refine hc G F1 ρ1 σ1 H1 _ R1 _ e1 fun F2 H2 s2 R2 => ?_
      cases x with
      | false => cases e2; exact k F2 σ1 H2 (s1.trans s2) R2
      | true =>
        rw [if_pos rfl] at e2
        rw [if_pos rfl]
        refine ⟨fun σ' H' => ∃ F' ρ', Same F F' ∧ Rl K G F' ρ' σ' H' ∧ mWhile c b m ρ' = some o, fun σ' H' q => ⟨m, Nat.lt_succ_self _, q⟩, ?_⟩
        rcases bnd_some e2 with ⟨f, ρ3, e3, e4⟩ | ⟨x, ρ3, e3, rfl⟩
        · refine hb G F2 ρ2 σ1 H2 _ R2 _ e3 fun F3 σ3 H3 s3 R3 => ?_
          have s13 := (s1.trans s2).trans s3
          cases f with
          | nx => exact ⟨F3, ρ3, s13, R3, e4⟩
          | ct => exact ⟨F3, ρ3, s13, R3, e4⟩
          | bk => cases e4; exact k F3 σ3 H3 s13 R3
          | rt r => cases e4; exact k F3 σ3 H3 s13 R3
        · exact hb G F2 ρ2 σ1 H2 _ R2 _ e3 fun σ' => (k σ').mono (s1.trans s2)
    · exact hc G F1 ρ1 σ1 H1 _ R1 _ e1 ((k σ1).mono s1)
end
end ML

set_option Elab.async false
set_option linter.all false
set_option maxRecDepth 100000
/-! ML4: comprehensions, calls of defs, a def by its body. -/
namespace ML
open PySem PySem.Spec PyProof.Rows L2

section
variable {K : PySem.W.Frag} {W : WX} {G : Gh} {F F' H H' : Hp} {ρ ρ' : Rh} {σ σ' : St}
/-! ### comprehensions -/
def wipeR (ρ : Rh) : List Nat → Rh
  | [] => ρ
  | v :: vs => (wipeR ρ vs).set v .no
/-- what a slot of which nothing is known holds does not matter -/
theorem Rl.reslot (R : Rl K G F ρ σ H) (hl : σ'.length = σ.length) (h : ∀ (i : Nat) (s : Sl), ρ[i]? = some s → s ≠ .no → σ'[i]? = σ[i]?) : Rl K G F ρ σ' H := by
  have own : ∀ {i a}, Own ρ σ' i a → Own ρ σ i a := fun {i a} ⟨⟨s, ds, h1, h2⟩, h3⟩ => by
    refine ⟨⟨s, ds, h1, h2⟩, ?_⟩
    rw [← h i s h1 (fun z => by subst z; cases h2)]; exact h3
  refine ⟨by rw [hl]; exact R.len, R.sub, R.base, R.keep, R.ext, fun i d e => ?_, fun i s ds e c => ?_, fun i j a h1 h2 => R.sep i j a (own h1) (own h2), fun i ds e => ?_⟩
  · rw [h i _ e (fun z => by cases z)]; exact R.frz i d e
  · rw [h i _ e (fun z => by subst z; cases c)]; exact R.own i s ds e c
  · rw [h i _ e (fun z => by cases z)]; exact R.pin i ds e
theorem wipeR_len : ∀ vs : List Nat, (wipeR ρ vs).length = ρ.length
  | [] => rfl
  | v :: vs => by unfold wipeR; rw [List.length_set, wipeR_len vs]
theorem wipeR_get {i : Nat} {s : Sl} : ∀ {vs : List Nat}, (wipeR ρ vs)[i]? = some s → s = .no ∨ (i ∉ vs ∧ ρ[i]? = some s)
  | [], h => .inr ⟨by simp, h⟩
  | v :: vs, h => by
    unfold wipeR at h
    rcases getSet h with ⟨_, e⟩ | ⟨ne, e⟩
    · exact .inl e
    · rcases wipeR_get e with h | ⟨h1, h2⟩
      · exact .inl h
      · exact .inr ⟨by simp only [List.mem_cons, not_or]; exact ⟨ne, h1⟩, h2⟩
theorem Rl.wipes (R : Rl K G F ρ σ H) : ∀ vs : List Nat, Rl K G F (wipeR ρ vs) σ H
  | [] => R
  | v :: vs => (Rl.wipes R vs).forget v
theorem wipe_get {i : Nat} : ∀ {vs : List Nat}, i ∉ vs → (wipe σ vs)[i]? = σ[i]?
  | [], _ => rfl
  | v :: vs, h => by
    unfold wipe
    simp only [List.mem_cons, not_or] at h
    rw [List.getElem?_set_ne (Ne.symm h.1)]
    exact wipe_get h.2
theorem Rl.toWipe (R : Rl K G F ρ σ H) (vs : List Nat) : Rl K G F (wipeR ρ vs) (wipe σ vs) H :=
  (R.wipes vs).reslot (wipe_length σ vs) fun i s h1 h2 => by
    rcases wipeR_get h1 with z | ⟨z, _⟩
    · exact absurd z h2
    · exact wipe_get z
theorem Rl.ofWipe {vs : List Nat} (R : Rl K G F (wipeR ρ vs) (wipe σ vs) H) : Rl K G F (wipeR ρ vs) σ H :=
  R.reslot (wipe_length σ vs).symm fun i s h1 h2 => by
    rcases wipeR_get h1 with z | ⟨z, _⟩
    · exact absurd z h2
    · exact (wipe_get z).symm
/-- a target that stores into vs alone -/
def GIn (g : TG) (vs : List Nat) : Prop := ∀ (v : V) (σ : St) (H : Hp) (Q : St → Hp → Prop), g v σ H Q → g v σ H fun σ' H' => wipe σ' vs = wipe σ vs ∧ Q σ' H'
def GsIn (g : TGs) (vs : List Nat) : Prop := ∀ (ws : List V) (σ : St) (H : Hp) (Q : St → Hp → Prop), g ws σ H Q → g ws σ H fun σ' H' => wipe σ' vs = wipe σ vs ∧ Q σ' H'
theorem wipe_set {i : Nat} {x : Option V} : ∀ {vs : List Nat}, i ∈ vs → ∀ σ : St, wipe (σ.set i x) vs = wipe σ vs
  | v :: vs, h, σ => by
    by_cases hv : i = v
    · subst hv
      by_cases hm : i ∈ vs
      · unfold wipe; rw [wipe_set hm]
      · have : ∀ (vs : List Nat) (σ : St), (wipe (σ.set i x) vs).set i none = (wipe σ vs).set i none := by
          intro vs
          induction vs with
          | nil => intro σ; show ((σ.set i x).set i none) = σ.set i none; rw [List.set_set]
          | cons w ws ih =>
            intro σ
            show ((wipe (σ.set i x) ws).set w none).set i none = ((wipe σ ws).set w none).set i none
            by_cases hw : w = i
            · subst hw; rw [List.set_set, List.set_set]; exact ih σ
            · rw [List.set_comm _ _ hw, ih σ, List.set_comm _ _ (Ne.symm hw)]
        exact this vs σ
    · have hm : i ∈ vs := by
        rcases List.mem_cons.mp h with z | z
        · exact absurd z hv
        · exact z
      unfold wipe; rw [wipe_set hm]
theorem gin_name {i : Nat} {vs : List Nat} (h : i ∈ vs) : GIn (gName i) vs := fun v σ H Q q => ⟨wipe_set h σ, q⟩
theorem gin_nil {vs : List Nat} : GsIn gNil vs := fun ws σ H Q q => ⟨q.1, rfl, q.2⟩
theorem gin_mono {g : TG} (hm : ∀ v σ H Q Q', (∀ σ' H', Q σ' H' → Q' σ' H') → g v σ H Q → g v σ H Q') : True := trivial
/-- the targets used are monotone -/
def GMono (g : TG) : Prop := ∀ v σ H (Q Q' : St → Hp → Prop), (∀ σ' H', Q σ' H' → Q' σ' H') → g v σ H Q → g v σ H Q'
def GsMono (g : TGs) : Prop := ∀ v σ H (Q Q' : St → Hp → Prop), (∀ σ' H', Q σ' H' → Q' σ' H') → g v σ H Q → g v σ H Q'
theorem gm_name {i : Nat} : GMono (gName i) := fun _ _ _ _ _ h q => h _ _ q
theorem gm_nil : GsMono gNil := fun _ _ _ _ _ h q => ⟨q.1, h _ _ q.2⟩
theorem gm_cons {g : TG} {gs : TGs} (h1 : GMono g) (h2 : GsMono gs) : GsMono (gCons g gs) := fun _ _ _ _ _ h ⟨v, r, e, q⟩ => ⟨v, r, e, h1 _ _ _ _ _ (fun _ _ q => h2 _ _ _ _ _ h q) q⟩
theorem gm_tup {n : Nat} {gs : TGs} (h2 : GsMono gs) : GMono (gTup K n gs) := fun _ _ _ _ _ h ⟨a, xs, e, q1, q2, q⟩ => ⟨a, xs, e, q1, q2, h2 _ _ _ _ _ h q⟩
theorem gin_cons {g : TG} {gs : TGs} {vs : List Nat} (h1 : GIn g vs) (m1 : GMono g) (h2 : GsIn gs vs) (m2 : GsMono gs) : GsIn (gCons g gs) vs := fun ws σ H Q ⟨v, r, e, q⟩ =>
  ⟨v, r, e, m1 _ _ _ _ _ (fun σ' H' ⟨e1, q1⟩ => m2 _ _ _ _ _ (fun σ2 H2 ⟨e2, q2⟩ => ⟨e2.trans e1, q2⟩) (h2 _ _ _ _ q1)) (h1 _ _ _ _ q)⟩
theorem gin_tup {n : Nat} {gs : TGs} {vs : List Nat} (h2 : GsIn gs vs) : GIn (gTup K n gs) vs := fun _ _ _ _ ⟨a, xs, e, q1, q2, q⟩ => ⟨a, xs, e, q1, q2, h2 _ _ _ _ q⟩
/-- the error-free outcome -/
def pur {α : Type} (o : Option (Ro α)) : Option (α × Rh) := match o with
  | some (.ok a ρ) => some (a, ρ)
  | _ => none
theorem pur_some {α : Type} {o : Option (Ro α)} {a : α} {ρ : Rh} (h : pur o = some (a, ρ)) : o = some (.ok a ρ) := by
  unfold pur at h
  split at h
  · cases h; rfl
  · cases h
/-- the items that are made, n of them before -/
def mComp (g : MG) (tt : MT) (te : ME) (vs : List Nat) : List D → Nat → Rh → Option (List D × Rh)
  | [], _, ρ => some ([], ρ)
  | d :: ds, n, ρ => match pur (g (.v d) ρ) with
    | some (_, ρ1) => (match pur (tt ρ1) with
      | some (true, ρ2) => (match pur (mFrz te ρ2) with
        | some (.v y, ρ3) => if n < sizeLine then (match mComp g tt te vs ds (n + 1) (wipeR ρ3 vs) with
          | some (ys, ρ4) => some (y :: ys, ρ4)
          | none => none) else none
        | _ => none)
      | some (false, ρ2) => mComp g tt te vs ds n (wipeR ρ2 vs)
      | none => none)
    | none => none
def mLc (mi : MI) (g : MG) (tt : MT) (te : ME) (vs : List Nat) : ME := fun ρ => bnd (mi ρ) fun ds ρ1 => match mComp g tt te vs ds 0 (wipeR ρ1 vs) with
  | some (ys, ρ2) => some (.ok (.fr ys) ρ2)
  | none => none
theorem Rl.updFree {a : Addr} {o : HO} (R : Rl K G F ρ σ H) (h1 : F a = none) (h2 : G.H0 a = none ∨ a ∈ G.io) (h3 : ∀ i, ¬ Own ρ σ i a) : Rl K G F ρ σ (upd H a o) := by
  refine ⟨R.len, fun b u e => ?_, R.base, fun b u e h => ?_, R.ext, R.frz, fun i s ds e c => ?_, R.sep, R.pin⟩
  · have nb : b ≠ a := fun z => by rw [z, h1] at e; cases e
    rw [upd_ne nb]; exact R.sub b u e
  · have nb : b ≠ a := fun z => by
      rcases h2 with h2 | h2
      · rw [z, h2] at e; cases e
      · exact h (z ▸ h2)
    rw [upd_ne nb]; exact R.keep b u e h
  · obtain ⟨b, vs, q1, q2, q3⟩ := R.own i s ds e c
    have nb : b ≠ a := fun z => h3 i ⟨⟨s, ds, e, c⟩, z ▸ q1⟩
    exact ⟨b, vs, q1, by rw [upd_ne nb]; exact q2, q3⟩
/-- a list that stands aside while a part runs -/
structure Aside (K : PySem.W.Frag) (G : Gh) (F : Hp) (ρ : Rh) (σ : St) (H : Hp) (a : Addr) (ds : List D) : Prop where
  at_ : ∃ vs, H a = some (.lst vs) ∧ Rps K F vs ds
  no : F a = none
  g : G.H0 a = none ∨ a ∈ G.io
  ow : ∀ i, ¬ Own ρ σ i a
abbrev W0 : WX := fun _ _ _ _ => False
theorem Aside.keep {a : Addr} {ds : List D} {io : List Addr} (A : Aside K G F ρ σ H a ds) (hio : ∀ b, b ∈ io ↔ ∃ i, Own ρ σ i b) (s : Same F F') (R' : Rl K ⟨H, F, io, G.s0⟩ F' ρ' σ' H') : Aside K G F' ρ' σ' H' a ds := by
  obtain ⟨vs, h1, h2⟩ := A.at_
  have nio : a ∉ io := fun z => by
    obtain ⟨i, hi⟩ := (hio a).mp z
    exact A.ow i hi
  refine ⟨⟨vs, R'.keep a _ h1 nio, Rps.mono s h2⟩, ?_, A.g, fun i ⟨⟨s, ds', e1, e2⟩, e3⟩ => ?_⟩
  · cases q : F' a with
    | none => rfl
    | some u =>
      rcases R'.ext a (by rw [q]; simp) with z | z | z
      · exact absurd A.no z
      · have z : H a = none := z
        rw [h1] at z; cases z
      · exact absurd z nio
  · obtain ⟨b, ws, q1, _, _, _, q5⟩ := R'.own i s ds' e1 e2
    rw [e3] at q1; cases q1
    rcases q5 with z | z
    · have z : H a = none := z
      rw [h1] at z; cases z
    · exact nio z
theorem SimT.aside {tt : TT} {mt : MT} {a : Addr} {ds : List D} {b : Bool} {Q : Bool → Hp → Prop} (h : SimT K W0 tt mt) (R : Rl K G F ρ σ H) (A : Aside K G F ρ σ H a ds) (e : mt ρ = some (.ok b ρ'))
    (k : ∀ F' H', Same F F' → Rl K G F' ρ' σ H' → Aside K G F' ρ' σ H' a ds → Q b H') : tt σ H Q := by
  obtain ⟨io, hio, Rb⟩ := R.rebase
  exact h _ F ρ σ H Q Rb _ e fun F' H' s R' => k F' H' s (R.unbase hio R') (A.keep hio s R')
theorem SimG.aside {g : TG} {mg : MG} {a : Addr} {ds : List D} {v : V} {d : D} {u : Unit} {Q : St → Hp → Prop} (h : SimG K W0 g mg) (R : Rl K G F ρ σ H) (A : Aside K G F ρ σ H a ds) (rp : Rp K F v d) (e : mg (.v d) ρ = some (.ok u ρ'))
    (k : ∀ F' σ' H', Same F F' → Rl K G F' ρ' σ' H' → Aside K G F' ρ' σ' H' a ds → Q σ' H') : g v σ H Q := by
  obtain ⟨io, hio, Rb⟩ := R.rebase
  exact h _ F ρ σ H v (.v d) Q Rb rp _ e fun F' σ' H' s R' => k F' σ' H' s (R.unbase hio R') (A.keep hio s R')
theorem SimE.aside {t : TE} {m : ME} {a : Addr} {ds : List D} {d : D} {Q : VK} (h : SimE K W0 t m) (R : Rl K G F ρ σ H) (A : Aside K G F ρ σ H a ds) (e : mFrz m ρ = some (.ok (.v d) ρ'))
    (k : ∀ F' v H', Same F F' → Rl K G F' ρ' σ H' → Aside K G F' ρ' σ H' a ds → Rp K F' v d → Q v H') : t σ H Q := by
  obtain ⟨io, hio, Rb⟩ := R.rebase
  exact sim_frz h _ F ρ σ H Q Rb _ e fun F' v H' s R' o => k F' v H' s (R.unbase hio R') (A.keep hio s R') o
theorem wipe_eq (σ : St) {i : Nat} : ∀ vs : List Nat, (wipe σ vs)[i]? = if i ∈ vs then (σ[i]?).map (fun _ => none) else σ[i]?
  | [] => rfl
  | v :: vs => by
    unfold wipe
    have ih := wipe_eq σ (i := i) vs
    by_cases hv : v = i
    · subst hv
      rw [if_pos List.mem_cons_self]
      by_cases hl : v < σ.length
      · rw [List.getElem?_set_self (by rw [wipe_length]; exact hl), List.getElem?_eq_getElem hl]; rfl
      · rw [List.getElem?_eq_none (by rw [List.length_set, wipe_length]; omega), List.getElem?_eq_none (by omega)]; rfl
    · rw [List.getElem?_set_ne hv, ih]
      by_cases hm : i ∈ vs
      · rw [if_pos hm, if_pos (List.mem_cons_of_mem _ hm)]
      · rw [if_neg hm, if_neg (by simp only [List.mem_cons, not_or]; exact ⟨fun z => hv z.symm, hm⟩)]
theorem wipe_wipe (vs : List Nat) : wipe (wipe σ vs) vs = wipe σ vs := by
  apply List.ext_getElem?
  intro i
  rw [wipe_eq, wipe_eq]
  by_cases hm : i ∈ vs
  · rw [if_pos hm, if_pos hm]
    cases σ[i]? <;> rfl
  · rw [if_neg hm, if_neg hm]
theorem Aside.wiped {a : Addr} {ds : List D} {vs : List Nat} (A : Aside K G F ρ σ H a ds) : Aside K G F (wipeR ρ vs) (wipe σ vs) H a ds :=
  ⟨A.at_, A.no, A.g, fun i ⟨⟨s, ds', e1, e2⟩, e3⟩ => by
    rcases wipeR_get e1 with z | ⟨z1, z2⟩
    · subst z; cases e2
    · rw [wipe_get z1] at e3
      exact A.ow i ⟨⟨s, ds', z2, e2⟩, e3⟩⟩
theorem Aside.app {a : Addr} {ds : List D} {v : V} {d : D} (R : Rl K G F ρ σ H) (A : Aside K G F ρ σ H a ds) (rp : Rp K F v d) : ∃ acc, H a = some (.lst acc) ∧ acc.length = ds.length ∧ Rl K G F ρ σ (upd H a (.lst (acc ++ [v]))) ∧ Aside K G F ρ σ (upd H a (.lst (acc ++ [v]))) a (ds ++ [d]) := by
  obtain ⟨vs, h1, h2⟩ := A.at_
  exact ⟨vs, h1, h2.length, R.updFree A.no A.g A.ow, ⟨vs ++ [v], upd_same, h2.append (.one rp)⟩, A.no, A.g, A.ow⟩
theorem sim_lc {wi : TI} {mi : MI} {tg : TG} {g : MG} {tt : TT} {mt : MT} {te : TE} {me : ME} {vs : List Nat} (hi : SimI K W wi mi) (hg : SimG K W0 tg g) (hin : GIn tg vs) (hmo : GMono tg) (ht : SimT K W0 tt mt) (he : SimE K W0 te me) : SimE K W (tLc wi tg tt te vs) (mLc mi g mt me vs) := by
  intro G F ρ σ H Q R o h k
  rcases bnd_some h with ⟨ds, ρ1, q1, q2⟩ | ⟨x, ρ1, q1, rfl⟩
  · refine hi G F ρ σ H _ R _ q1 fun F1 H1 J s1 R1 it => ?_
    intro D hD
    cases q3 : mComp g mt me vs ds 0 (wipeR ρ1 vs) with
    | none => rw [q3] at q2; cases q2
    | some p =>
      obtain ⟨ys, ρe⟩ := p
      rw [q3] at q2
      cases q2
      have R2 := R1.toWipe vs
      have a0 : Aside K G F1 (wipeR ρ1 vs) (wipe σ vs) (upd H1 D (.lst [])) D [] := ⟨⟨[], upd_same, .nil⟩, R2.freeF hD, R2.new0 hD, R2.noOwn hD⟩
      refine ⟨fun i m H => m = ds.length - i ∧ i ≤ ds.length ∧ ∃ F' ρ' acc rest, Same F1 F' ∧ Rl K G F' (wipeR ρ' vs) (wipe σ vs) H ∧ Aside K G F' (wipeR ρ' vs) (wipe σ vs) H D acc ∧ mComp g mt me vs (ds.drop i) acc.length (wipeR ρ' vs) = some (rest, ρe) ∧ ys = acc ++ rest,
        ⟨ds.length, rfl, Nat.zero_le _, F1, ρ1, [], ys, Same.refl _, R2.lay hD, a0, q3, rfl⟩, ?_⟩
      rintro i m H2 ⟨rfl, hi, F2, ρ2, acc, rest, s2, R3, A3, e, ey⟩
      by_cases hlt : i < ds.length
      · have hd : ds[i]? = some ds[i] := List.getElem?_eq_getElem hlt
        obtain ⟨go, yl⟩ := (it i).2 _ hd H2 (fun c u z => R3.sub c u (s2 c u z))
        refine .inr ⟨go, fun H' => i + 1 ≤ ds.length ∧ ∃ F' ρ' acc rest, Same F1 F' ∧ Rl K G F' (wipeR ρ' vs) (wipe σ vs) H' ∧ Aside K G F' (wipeR ρ' vs) (wipe σ vs) H' D acc ∧ mComp g mt me vs (ds.drop (i + 1)) acc.length (wipeR ρ' vs) = some (rest, ρe) ∧ ys = acc ++ rest,
          fun H' n => ⟨ds.length - (i + 1), by omega, rfl, n.1, n.2⟩, fun x H' y => ?_⟩
        obtain ⟨io3, hio3, Rb3⟩ := R3.rebase
        obtain ⟨F3, s3, Rb4, rp⟩ := yl x H' y _ F2 _ _ s2 Rb3
        have A4 := A3.keep hio3 s3 Rb4
        have R4 := R3.unbase hio3 Rb4
        rw [List.drop_eq_getElem_cons hlt] at e
        unfold mComp at e
        cases e1 : pur (g (.v ds[i]) (wipeR ρ2 vs)) with
        | none => rw [e1] at e; cases e
        | some p1 =>
          obtain ⟨_, ρ5⟩ := p1
          rw [e1] at e
          simp only at e
          refine hmo _ _ _ _ _ (fun σ5 H5 (z : wipe σ5 vs = wipe (wipe σ vs) vs ∧ (wipe σ5 vs = wipe σ vs → _)) => ⟨z.1.trans (wipe_wipe vs), z.2 (z.1.trans (wipe_wipe vs))⟩) (hin _ _ _ _ (hg.aside R4 A4 rp (pur_some e1) fun F5 σ5 H5 s5 R5 A5 hw => ?_))
          cases e2 : pur (mt ρ5) with
          | none => rw [e2] at e; cases e
          | some p2 =>
            obtain ⟨b, ρ6⟩ := p2
            rw [e2] at e
            refine ht.aside R5 A5 (pur_some e2) fun F6 H6 s6 R6 A6 => ?_
            have s16 : Same F1 F6 := ((s2.trans s3).trans s5).trans s6
            cases b with
            | false =>
              simp only at e
              rw [if_neg Bool.false_ne_true]
              have R7 := R6.toWipe vs
              have A7 := A6.wiped (vs := vs)
              rw [hw] at R7 A7
              exact ⟨hlt, F6, ρ6, acc, rest, s16, R7, A7, e, ey⟩
            | true =>
              simp only at e
              rw [if_pos rfl]
              cases e3 : pur (mFrz me ρ6) with
              | none => rw [e3] at e; cases e
              | some p3 =>
                obtain ⟨r, ρ7⟩ := p3
                rw [e3] at e
                cases r with
                | fr _ => cases e
                | bor _ => cases e
                | v d =>
                  simp only at e
                  refine he.aside R6 A6 (pur_some e3) fun F7 w H7 s7 R7 A7 rw7 => ?_
                  obtain ⟨av, h71, h72, R8, A8⟩ := A7.app R7 rw7
                  by_cases hz : acc.length < sizeLine
                  · rw [if_pos hz] at e
                    cases e4 : mComp g mt me vs (ds.drop (i + 1)) (acc.length + 1) (wipeR ρ7 vs) with
                    | none => rw [e4] at e; cases e
                    | some p4 =>
                      obtain ⟨ys', ρ8⟩ := p4
                      rw [e4] at e
                      cases e
                      have R9 := R8.toWipe vs
                      have A9 := A8.wiped (vs := vs)
                      rw [hw] at R9 A9
                      exact ⟨av, h71, by rw [h72]; exact hz, hlt, F7, ρ7, acc ++ [d], ys', s16.trans s7, R9, A9, by rw [List.length_append]; exact e4, by rw [ey, List.append_assoc]; rfl⟩
                  · rw [if_neg hz] at e; cases e
      · have e0 : ds.drop i = [] := List.drop_eq_nil_of_le (by omega)
        rw [e0] at e
        cases e
        refine .inl ⟨(it i).1 (by omega) H2 (fun c u z => R3.sub c u (s2 c u z)), ?_⟩
        rw [List.append_nil] at ey
        subst ey
        obtain ⟨av, h1, h2⟩ := A3.at_
        refine k F2 _ H2 (s1.trans s2) R3.ofWipe ⟨D, av, rfl, h1, A3.no, h2, A3.g, fun j ⟨⟨s, ds', z1, z2⟩, z3⟩ => ?_⟩
        refine A3.ow j ⟨⟨s, ds', z1, z2⟩, ?_⟩
        rcases wipeR_get z1 with z | ⟨z, _⟩
        · subst z; cases z2
        · rw [wipe_get z]; exact z3
  · exact hi G F ρ σ H _ R _ q1 k

/-! ### defs -/
/-- a def's mirror: the arguments as slots; what it returns, the arguments behind it -/
abbrev MF := Rh → Option (Ro Out)
def spM (K : PySem.W.Frag) (n : Nat) (mf : MF) : Sp := fun vs H Q E => vs.length = n ∧ ∃ F io args, Rl K ⟨H, F, io, vs.map some⟩ F args (vs.map some) H ∧ ∃ o, mf args = some o ∧ PostE K (fun cls d _ H => E cls d H) ⟨H, F, io, vs.map some⟩ F (vs.map some) Q o
/-- the arguments behind the call: what was handed in to be changed as it is now -/
def finR : Rh → Rh → Rh
  | a :: as, s :: ss => (match a, s with
    | .io _, .io ds => .io ds
    | .frz d, _ => .frz d
    | _, _ => .no) :: finR as ss
  | [], _ => []
  | a :: as, [] => .no :: finR as []
theorem finR_len : ∀ (as ss : Rh), (finR as ss).length = as.length
  | [], _ => rfl
  | a :: as, s :: ss => by unfold finR; simp [finR_len as ss]
  | a :: as, [] => by unfold finR; simp [finR_len as []]
theorem finR_get : ∀ {as ss : Rh} {i : Nat} {s : Sl}, (finR as ss)[i]? = some s → s = .no ∨ (∃ d, s = .frz d ∧ as[i]? = some (.frz d)) ∨ ∃ ds ds', s = .io ds ∧ as[i]? = some (.io ds') ∧ ss[i]? = some (.io ds)
  | [], _, i, s, h => by unfold finR at h; simp at h
  | a :: as, s' :: ss, 0, s, h => by
    unfold finR at h
    simp only [List.getElem?_cons_zero, Option.some.injEq] at h
    split at h
    · exact .inr (.inr ⟨_, _, h.symm, rfl, rfl⟩)
    · exact .inr (.inl ⟨_, h.symm, rfl⟩)
    · exact .inl h.symm
  | a :: as, s' :: ss, i + 1, s, h => by
    unfold finR at h
    simp only [List.getElem?_cons_succ] at h ⊢
    exact finR_get h
  | a :: as, [], 0, s, h => by
    unfold finR at h
    simp only [List.getElem?_cons_zero, Option.some.injEq] at h
    exact .inl h.symm
  | a :: as, [], i + 1, s, h => by
    unfold finR at h
    simp only [List.getElem?_cons_succ] at h ⊢
    rcases finR_get h with z | z | ⟨ds, ds', z1, z2, z3⟩
    · exact .inl z
    · exact .inr (.inl z)
    · simp at z3
/-- what comes behind a body -/
def endO (args : Rh) : Option (Ro Fl) → Option (Ro Out)
  | some (.ok (.rt (.v d)) ρ) => some (.ok (.v d) (finR args ρ))
  | some (.ok (.rt (.fr ds)) ρ) => some (.ok (.fr ds) (finR args ρ))
  | some (.ok .nx ρ) => some (.ok (.v .none) (finR args ρ))
  | some (.er x ρ) => some (.er x (finR args ρ))
  | _ => none
/-- the mirror of a def of n names by its body -/
def mDef (n : Nat) (b : MS) : MF := fun args => endO args (b (args ++ List.replicate (n - args.length) .no))
theorem Rl.enter {vs : List V} {F H : Hp} {io : List Addr} {args : Rh} {N : List Str} (R : Rl K ⟨H, F, io, vs.map some⟩ F args (vs.map some) H) : Rl K ⟨H, F, io, start N vs⟩ F (args ++ List.replicate (N.length - vs.length) .no) (start N vs) H := by
  have hl : args.length = vs.length := by rw [R.len, List.length_map]
  have get : ∀ {i : Nat} {s : Sl}, (args ++ List.replicate (N.length - vs.length) Sl.no)[i]? = some s → s = .no ∨ (args[i]? = some s ∧ (start N vs)[i]? = (vs.map some)[i]?) := fun {i s} h => by
    by_cases hi : i < args.length
    · rw [List.getElem?_append_left hi] at h
      refine .inr ⟨h, ?_⟩
      unfold L2.start
      rw [List.getElem?_append_left (by rw [List.length_map]; omega)]
    · rw [List.getElem?_append_right (by omega)] at h
      rw [List.getElem?_replicate] at h
      split at h
      · cases h; exact .inl rfl
      · cases h
  have own : ∀ {i a}, Own (args ++ List.replicate (N.length - vs.length) Sl.no) (start N vs) i a → Own args (vs.map some) i a := fun {i a} ⟨⟨s, ds, e1, e2⟩, e3⟩ => by
    rcases get e1 with z | ⟨z1, z2⟩
    · subst z; cases e2
    · rw [z2] at e3; exact ⟨⟨s, ds, z1, e2⟩, e3⟩
  refine ⟨by unfold L2.start; simp [hl], R.sub, R.base, R.keep, R.ext, fun i d e => ?_, fun i s ds e c => ?_, fun i j a h1 h2 => R.sep i j a (own h1) (own h2), fun i ds e => rfl⟩
  · rcases get e with z | ⟨z1, z2⟩
    · cases z
    · rw [z2]; exact R.frz i d z1
  · rcases get e with z | ⟨z1, z2⟩
    · subst z; cases c
    · rw [z2]; exact R.own i s ds z1 c
theorem Rl.leave {vs : List V} {F F' H H' : Hp} {io : List Addr} {args : Rh} {N : List Str} (R : Rl K ⟨H, F, io, vs.map some⟩ F args (vs.map some) H) (R' : Rl K ⟨H, F, io, start N vs⟩ F' ρ' σ' H') : Rl K ⟨H, F, io, vs.map some⟩ F' (finR args ρ') (vs.map some) H' ∧ ∀ i a, Own (finR args ρ') (vs.map some) i a → Own ρ' σ' i a := by
  have hl : args.length = vs.length := by rw [R.len, List.length_map]
  have st : ∀ {i : Nat} {s : Sl}, args[i]? = some s → (start N vs)[i]? = (vs.map some)[i]? := fun {i s} h => by
    have hi := (List.getElem?_eq_some_iff.mp h).1
    unfold L2.start
    rw [List.getElem?_append_left (by rw [List.length_map]; omega)]
  have own : ∀ i a, Own (finR args ρ') (vs.map some) i a → Own ρ' σ' i a := fun i a ⟨⟨s, ds, e1, e2⟩, e3⟩ => by
    rcases finR_get e1 with z | ⟨d, z, _⟩ | ⟨es, es', z1, z2, z3⟩
    · subst z; cases e2
    · subst z; cases e2
    · subst z1
      have p := R'.pin i es z3
      exact ⟨⟨_, es, z3, rfl⟩, p.trans ((st z2).trans e3)⟩
  refine ⟨⟨by rw [finR_len, R.len], R'.sub, R'.base, R'.keep, R'.ext, fun i d e => ?_, fun i s ds e c => ?_, fun i j a h1 h2 => R'.sep i j a (own i a h1) (own j a h2), fun i ds e => rfl⟩, own⟩
  · rcases finR_get e with z | ⟨d', z, z2⟩ | ⟨es, es', z1, z2, z3⟩
    · cases z
    · cases z
      obtain ⟨v, h1, h2⟩ := R.frz i d z2
      exact ⟨v, h1, Rp.mono R'.base h2⟩
    · cases z1
  · rcases finR_get e with z | ⟨d', z, z2⟩ | ⟨es, es', z1, z2, z3⟩
    · subst z; cases c
    · subst z; cases c
    · subst z1
      cases c
      obtain ⟨a, ws, h1, h2⟩ := R'.own i _ ds z3 rfl
      have p := R'.pin i ds z3
      exact ⟨a, ws, by rw [← st z2, ← p]; exact h1, h2⟩
theorem OutOk.leave {vs : List V} {F F' H H' : Hp} {io : List Addr} {args : Rh} {N : List Str} {v : V} {r : Out} (own : ∀ i a, Own (finR args ρ') (vs.map some) i a → Own ρ' σ' i a) (nb : ∀ i, r ≠ .bor i) (o : OutOk K ⟨H, F, io, start N vs⟩ F' ρ' σ' H' v r) : OutOk K ⟨H, F, io, vs.map some⟩ F' (finR args ρ') (vs.map some) H' v r := by
  cases r with
  | v d => exact o
  | bor i => exact absurd rfl (nb i)
  | fr ds =>
    obtain ⟨a, ws, e, h1, h2, h3, h4, h5⟩ := o
    exact ⟨a, ws, e, h1, h2, h3, h4, fun i hi => h5 i (own i a hi)⟩
end
end ML

set_option Elab.async false
set_option linter.all false
set_option maxRecDepth 100000
/-! ML5: calls of defs, methods of lists. -/
namespace ML
open PySem PySem.Spec PyProof.Rows L2

section
variable {K : PySem.W.Frag} {W : WX} {G : Gh} {F F1 F' H H1 H' : Hp} {ρ ρ1 ρ' fin : Rh} {σ : St}
theorem frz_enter {vs : List V} {ds : List D} (R1 : Rl K G F1 ρ1 σ H1) (rp : Rps K F1 vs ds) : Rl K ⟨H1, F1, [], vs.map some⟩ F1 (ds.map Sl.frz) (vs.map some) H1 := by
  have at_ : ∀ {i : Nat} {s : Sl}, (ds.map Sl.frz)[i]? = some s → ∃ d, s = .frz d ∧ ds[i]? = some d := fun {i s} h => by
    rw [List.getElem?_map] at h
    cases q : ds[i]? with
    | none => rw [q] at h; cases h
    | some d => rw [q] at h; cases h; exact ⟨d, rfl, rfl⟩
  refine ⟨by simp [rp.length], R1.sub, Same.refl _, fun a o e _ => e, fun a e => .inl e, fun i d e => ?_, fun i s ds' e c => ?_, fun i j a h1 _ => ?_, fun i ds' e => rfl⟩
  · obtain ⟨d', e1, e2⟩ := at_ e
    cases e1
    obtain ⟨v, q1, q2⟩ := rp.get e2
    exact ⟨v, by rw [List.getElem?_map, q1]; rfl, q2⟩
  · obtain ⟨d', e1, e2⟩ := at_ e
    subst e1; cases c
  · obtain ⟨⟨s, ds', e, c⟩, _⟩ := h1
    obtain ⟨d', e1, e2⟩ := at_ e
    subst e1; cases c
theorem Rl.after0 {s0 : St} {σ1 : St} (R1 : Rl K G F1 ρ1 σ H1) (R' : Rl K ⟨H1, F1, [], s0⟩ F' fin σ1 H') : Rl K G F' ρ1 σ H' := by
  refine ⟨R1.len, R'.sub, fun b u e => R'.base b u (R1.base b u e), fun a o e n => R'.keep a o (R1.keep a o e n) (by simp), fun a e => ?_, fun i d e => ?_, fun i s ds e c => ?_, R1.sep, R1.pin⟩
  · rcases R'.ext a e with z | z | z
    · exact R1.ext a z
    · exact .inr (R1.new0 z)
    · exact absurd z (by simp)
  · obtain ⟨v, h1, h2⟩ := R1.frz i d e
    exact ⟨v, h1, Rp.mono R'.base h2⟩
  · obtain ⟨a, vs, h1, h2, h3, h4, h5⟩ := R1.own i s ds e c
    refine ⟨a, vs, h1, R'.keep a _ h2 (by simp), ?_, Rps.mono R'.base h4, h5⟩
    cases q : F' a with
    | none => rfl
    | some u =>
      rcases R'.ext a (by rw [q]; simp) with z | z | z
      · exact absurd h3 z
      · have z : H1 a = none := z
        rw [h2] at z; cases z
      · exact absurd z (by simp)
theorem OutOk.after0 {s0 : St} {σ1 : St} {v : V} {r : Out} (R1 : Rl K G F1 ρ1 σ H1) (o : OutOk K ⟨H1, F1, [], s0⟩ F' fin σ1 H' v r) (nb : ∀ i, r ≠ .bor i) : OutOk K G F' ρ1 σ H' v r := by
  cases r with
  | v d => exact o
  | bor i => exact absurd rfl (nb i)
  | fr ds =>
    obtain ⟨a, ws, e, h1, h2, h3, h4, h5⟩ := o
    have hn : H1 a = none := by
      rcases h4 with z | z
      · exact z
      · exact absurd z (by simp)
    exact ⟨a, ws, e, h1, h2, h3, R1.new0 hn, R1.noOwn hn⟩
/-- what a def's mirror gives -/
def noB : Out → Bool
  | .bor _ => false
  | _ => true
theorem noB_ok {r : Out} (h : noB r = true) : ∀ i, r ≠ .bor i := fun i z => by subst z; cases h
/-- f(..), nothing is handed in to be changed -/
def call0 (mf : MF) (rs : List Out) (ρ1 : Rh) : Option (Ro Out) := match outsV rs with
  | some ds => (match mf (ds.map .frz) with
    | some (.ok r _) => if noB r = true then some (.ok r ρ1) else none
    | some (.er x _) => some (.er x ρ1)
    | none => none)
  | none => none
def mCall (mf : MF) (a : MA) : ME := fun ρ => bnd (a ρ) fun rs ρ1 => call0 mf rs ρ1
theorem sim_call {mf : MF} {n : Nat} {ta : TA} {a : MA} (ha : SimA K W ta a) (hn : ∀ ρ rs ρ', a ρ = some (.ok rs ρ') → rs.length = n) : SimE K W (tCallSD (spM K n mf) [] (WE W) ta) (mCall mf a) := by
  intro G F ρ σ H Q R p h k
  rcases bnd_some h with ⟨rs, ρ1, h1, h2⟩ | ⟨x, ρ1, h1, rfl⟩
  · refine ha G F ρ σ H _ R _ h1 fun F1 vs H1 s1 R1 l ho => ?_
    rw [List.append_nil]
    refine ⟨l.trans (hn _ _ _ h1), ?_⟩
    unfold call0 at h2
    cases q : outsV rs with
    | none => rw [q] at h2; cases h2
    | some ds =>
      rw [q] at h2
      simp only at h2
      have rp := outsV_rps q l ho
      refine ⟨F1, [], ds.map .frz, frz_enter R1 rp, ?_⟩
      cases q2 : mf (ds.map .frz) with
      | none => rw [q2] at h2; cases h2
      | some o =>
        rw [q2] at h2
        refine ⟨o, rfl, ?_⟩
        cases o with
        | er x fin =>
          cases h2
          exact fun F' cls d H' s' R' xo => k F' cls d H' (s1.trans s') (R1.after0 R') xo
        | ok r fin =>
          simp only at h2
          by_cases hb : noB r = true
          · rw [if_pos hb] at h2
            cases h2
            exact fun F' v H' s' R' oo => k F' v H' (s1.trans s') (R1.after0 R') (oo.after0 R1 (noB_ok hb))
          · rw [if_neg hb] at h2; cases h2
  · exact ha G F ρ σ H _ R _ h1 k
/-- the first argument is a list that the def changes -/
theorem io_enter {vs : List V} {ds c : List D} {i : Nat} {s : Sl} {a : Addr} (R1 : Rl K G F1 ρ1 σ H1) (rp : Rps K F1 vs ds) (hs : ρ1[i]? = some s) (hc : s.cont = some c) (ha : σ[i]? = some (some (.ref a))) :
    Rl K ⟨H1, F1, [a], (V.ref a :: vs).map some⟩ F1 (.io c :: ds.map Sl.frz) ((V.ref a :: vs).map some) H1 := by
  have R0 := frz_enter R1 rp
  obtain ⟨a', ws, h1, h2, h3, h4, h5⟩ := R1.own i s c hs hc
  rw [ha] at h1; cases h1
  have no : ∀ {j b}, Own (Sl.io c :: ds.map Sl.frz) ((V.ref a :: vs).map some) j b → j = 0 := fun {j b} ⟨⟨s', ds', e, c'⟩, _⟩ => by
    cases j with
    | zero => rfl
    | succ j =>
      rw [List.getElem?_cons_succ, List.getElem?_map] at e
      cases q : ds[j]? with
      | none => rw [q] at e; cases e
      | some d => rw [q] at e; cases e; cases c'
  refine ⟨by simp [rp.length], R1.sub, Same.refl _, fun b o e _ => e, fun b e => .inl e, fun j d e => ?_, fun j s' ds' e c' => ?_, fun j j' b q1 q2 => (no q1).trans (no q2).symm, fun j ds' e => rfl⟩
  · cases j with
    | zero => cases e
    | succ j =>
      rw [List.getElem?_cons_succ] at e
      obtain ⟨v, q1, q2⟩ := R0.frz j d e
      exact ⟨v, by rw [List.map_cons, List.getElem?_cons_succ]; exact q1, q2⟩
  · cases j with
    | zero =>
      cases e; cases c'
      exact ⟨a, ws, rfl, h2, h3, h4, .inr (by simp)⟩
    | succ j =>
      rw [List.getElem?_cons_succ, List.getElem?_map] at e
      cases q : ds[j]? with
      | none => rw [q] at e; cases e
      | some d => rw [q] at e; cases e; cases c'
theorem Rl.afterIo {s0 : St} {vs : List V} {c c' : List D} {i : Nat} {s : Sl} {a : Addr} {fin' : Rh} (R1 : Rl K G F1 ρ1 σ H1) (hs : ρ1[i]? = some s) (hc : s.cont = some c) (ha : σ[i]? = some (some (.ref a)))
    (R' : Rl K ⟨H1, F1, [a], s0⟩ F' (.io c' :: fin') ((V.ref a :: vs).map some) H') : Rl K G F' (ρ1.set i (s.put c')) σ H' := by
  obtain ⟨a', ws, h1, h2, h3, h4, h5⟩ := R1.own i s c hs hc
  rw [ha] at h1; cases h1
  obtain ⟨a', ws', h1', h2', h3', h4', _⟩ := R'.own 0 _ c' rfl rfl
  have h1' : some (some (V.ref a)) = some (some (V.ref a')) := h1'
  cases h1'
  have cp : (s.put c').cont = some c' := by
    cases s with
    | own x => rfl
    | io x => rfl
    | no => cases hc
    | frz _ => cases hc
  have nf : ∀ d, s.put c' ≠ .frz d := fun d z => by rw [z] at cp; cases cp
  have ow : ∀ {j b}, Own (ρ1.set i (s.put c')) σ j b → Own ρ1 σ j b := fun {j b} o => o.of_setC hs hc
  refine ⟨by rw [List.length_set]; exact R1.len, R'.sub, fun b u e => R'.base b u (R1.base b u e), fun b o e n => ?_, fun b e => ?_, fun j d e => ?_, fun j t ds e ct => ?_, fun j j' b q1 q2 => R1.sep j j' b (ow q1) (ow q2), fun j ds e => ?_⟩
  · refine R'.keep b o (R1.keep b o e n) fun z => ?_
    have z : b = a := by simpa using z
    subst z
    rcases h5 with h5 | h5
    · rw [h5] at e; cases e
    · exact n h5
  · rcases R'.ext b e with z | z | z
    · exact R1.ext b z
    · exact .inr (R1.new0 z)
    · have z : b = a := by simpa using z
      subst z
      exact .inr h5
  · rcases getSet e with ⟨_, e2⟩ | ⟨_, e2⟩
    · exact absurd e2.symm (nf d)
    · obtain ⟨v, q1, q2⟩ := R1.frz j d e2
      exact ⟨v, q1, Rp.mono R'.base q2⟩
  · rcases getSet e with ⟨e1, e2⟩ | ⟨ne, e2⟩
    · subst e1; subst e2
      rw [cp] at ct; cases ct
      exact ⟨a, ws', ha, h2', h3', h4', h5⟩
    · obtain ⟨b, xs, q1, q2, q3, q4, q5⟩ := R1.own j t ds e2 ct
      have nb : b ≠ a := fun z => ne (R1.sep j i a ⟨⟨t, ds, e2, ct⟩, z ▸ q1⟩ ⟨⟨s, c, hs, hc⟩, ha⟩)
      have nio : b ∉ [a] := by simpa using nb
      refine ⟨b, xs, q1, R'.keep b _ q2 nio, ?_, Rps.mono R'.base q4, q5⟩
      cases q : F' b with
      | none => rfl
      | some u =>
        rcases R'.ext b (by rw [q]; simp) with z | z | z
        · exact absurd q3 z
        · have z : H1 b = none := z
          rw [q2] at z; cases z
        · exact absurd z nio
  · rcases getSet e with ⟨e1, e2⟩ | ⟨_, e2⟩
    · subst e1
      cases s with
      | own x => cases e2
      | io x => exact R1.pin j x hs
      | no => cases hc
      | frz _ => cases hc
    · exact R1.pin j ds e2
theorem OutOk.afterIo {s0 : St} {vs : List V} {c c' : List D} {i : Nat} {s : Sl} {a : Addr} {fin' : Rh} {v : V} {r : Out} (R1 : Rl K G F1 ρ1 σ H1) (hs : ρ1[i]? = some s) (hc : s.cont = some c) (ha : σ[i]? = some (some (.ref a)))
    (o : OutOk K ⟨H1, F1, [a], s0⟩ F' (.io c' :: fin') ((V.ref a :: vs).map some) H' v r) (nb : ∀ i, r ≠ .bor i) : OutOk K G F' (ρ1.set i (s.put c')) σ H' v r := by
  cases r with
  | v d => exact o
  | bor i => exact absurd rfl (nb i)
  | fr ds =>
    obtain ⟨b, ws, e, h1, h2, h3, h4, h5⟩ := o
    have nb : b ≠ a := fun z => h5 0 ⟨⟨.io c', c', rfl, rfl⟩, by rw [z]; rfl⟩
    have hn : H1 b = none := by
      rcases h4 with z | z
      · exact z
      · exact absurd z (by simpa using nb)
    exact ⟨b, ws, e, h1, h2, h3, R1.new0 hn, fun j hj => R1.noOwn hn j (hj.of_setC hs hc)⟩
def callIo (mf : MF) : List Out → Rh → Option (Ro Out)
  | .bor i :: rs, ρ1 => (match ρ1[i]?, outsV rs with
    | some s, some ds => (match s.cont with
      | some c => (match mf (.io c :: ds.map .frz) with
        | some (.ok r (.io c' :: _)) => if noB r = true then some (.ok r (ρ1.set i (s.put c'))) else none
        | some (.er x (.io c' :: _)) => some (.er x (ρ1.set i (s.put c')))
        | _ => none)
      | none => none)
    | _, _ => none)
  | _, _ => none
def mCallIo (mf : MF) (a : MA) : ME := fun ρ => bnd (a ρ) fun rs ρ1 => callIo mf rs ρ1
theorem sim_callIo {mf : MF} {n : Nat} {ta : TA} {a : MA} (ha : SimA K W ta a) (hn : ∀ ρ rs ρ', a ρ = some (.ok rs ρ') → rs.length = n) : SimE K W (tCallSD (spM K n mf) [] (WE W) ta) (mCallIo mf a) := by
  intro G F ρ σ H Q R p h k
  rcases bnd_some h with ⟨rs, ρ1, h1, h2⟩ | ⟨x, ρ1, h1, rfl⟩
  · refine ha G F ρ σ H _ R _ h1 fun F1 vs H1 s1 R1 l ho => ?_
    rw [List.append_nil]
    refine ⟨l.trans (hn _ _ _ h1), ?_⟩
    cases rs with
    | nil => cases h2
    | cons r0 rs =>
      cases r0 with
      | v _ => cases h2
      | fr _ => cases h2
      | bor i =>
        cases vs with
        | nil => simp at l
        | cons v0 vs =>
          simp only [callIo] at h2
          cases q0 : ρ1[i]? with
          | none => rw [q0] at h2; cases h2
          | some s =>
            cases q : outsV rs with
            | none => rw [q0, q] at h2; cases h2
            | some ds =>
              rw [q0, q] at h2
              simp only at h2
              cases qc : s.cont with
              | none => rw [qc] at h2; cases h2
              | some c =>
                rw [qc] at h2
                simp only at h2
                have rp := outsV_rps q (by simpa using l) fun j r v e1 e2 => ho (j + 1) r v (by simpa using e1) (by simpa using e2)
                obtain ⟨a, ws, e1, _⟩ := R1.own i s c q0 qc
                have e0 : σ[i]? = some (some v0) := (ho 0 (.bor i) v0 rfl rfl).1
                rw [e1] at e0; cases e0
                refine ⟨F1, [a], .io c :: ds.map .frz, io_enter R1 rp q0 qc e1, ?_⟩
                cases q2 : mf (.io c :: ds.map .frz) with
                | none => rw [q2] at h2; cases h2
                | some o =>
                  rw [q2] at h2
                  refine ⟨o, rfl, ?_⟩
                  cases o with
                  | er x fin =>
                    cases fin with
                    | nil => cases h2
                    | cons f0 fin =>
                      cases f0 with
                      | io c' =>
                        cases h2
                        exact fun F' cls d H' s' R' xo => k F' cls d H' (s1.trans s') (R1.afterIo q0 qc e1 R') xo
                      | _ => cases h2
                  | ok r fin =>
                    cases fin with
                    | nil => cases h2
                    | cons f0 fin =>
                      cases f0 with
                      | io c' =>
                        simp only at h2
                        by_cases hb : noB r = true
                        · rw [if_pos hb] at h2
                          cases h2
                          exact fun F' v H' s' R' oo => k F' v H' (s1.trans s') (R1.afterIo q0 qc e1 R') (oo.afterIo R1 q0 qc e1 (noB_ok hb))
                        · rw [if_neg hb] at h2; cases h2
                      | _ => cases h2
  · exact ha G F ρ σ H _ R _ h1 k

/-! ### methods of a list that stands in a slot -/
/-- by values: the result, the new content -/
def OpM (K : PySem.W.Frag) (rop : V → List V → Hp → VK → Prop) (f : List D → List D → Option (D × List D)) : Prop := ∀ (F H : Hp) (a : Addr) (vs ws : List V) (ds args : List D) (res : D) (ds' : List D) (Q : VK), Same F H → H a = some (.lst vs) → Rps K F vs ds → Rps K F ws args → f ds args = some (res, ds') →
  (∀ y vs', Rp K F y res → Rps K F vs' ds' → Q y (upd H a (.lst vs'))) → rop (.ref a) ws H Q
def metO (f : List D → List D → Option (D × List D)) (j : Nat) (rs : List Out) (ρ1 : Rh) : Option (Ro Out) := match ρ1[j]?, outsV rs with
  | some s, some args => (match s.cont with
    | some c => (match f c args with
      | some (res, c') => some (.ok (.v res) (ρ1.set j (s.put c')))
      | none => none)
    | none => none)
  | _, _ => none
def mMet (f : List D → List D → Option (D × List D)) (j : Nat) (a : MA) : ME := fun ρ => if (contAt ρ j).isSome = true then bnd (a ρ) fun rs ρ1 => metO f j rs ρ1 else none
theorem sim_met {f : List D → List D → Option (D × List D)} {j : Nat} {rop : V → List V → Hp → VK → Prop} {ta : TA} {a : MA} (o : OpM K rop f) (ha : SimA K W ta a) : SimE K W (tBM K "list" rop (tVar j) ta) (mMet f j a) := by
  intro G F ρ σ H Q R p h k
  unfold mMet at h
  split at h
  · rename_i hcs
    obtain ⟨c0, hc0⟩ := Option.isSome_iff_exists.mp hcs
    obtain ⟨s0, hs0, hc0⟩ := contAt_some hc0
    obtain ⟨b, vs0, e1, e2, _⟩ := R.own j s0 c0 hs0 hc0
    refine ⟨.ref b, e1, .inl ⟨rfl, vs0, SqL.of e2⟩, ?_⟩
    rcases bnd_some h with ⟨rs, ρ1, h1, h2⟩ | ⟨x, ρ1, h1, rfl⟩
    · refine ha G F ρ σ H _ R _ h1 fun F1 vs H1 s1 R1 l ho => ?_
      unfold metO at h2
      cases q0 : ρ1[j]? with
      | none => rw [q0] at h2; cases h2
      | some s =>
        cases q : outsV rs with
        | none => rw [q0, q] at h2; cases h2
        | some args =>
          rw [q0, q] at h2
          simp only at h2
          cases qc : s.cont with
          | none => rw [qc] at h2; cases h2
          | some c =>
            rw [qc] at h2
            simp only at h2
            cases qf : f c args with
            | none => rw [qf] at h2; cases h2
            | some pr =>
              obtain ⟨res, c'⟩ := pr
              rw [qf] at h2
              cases h2
              have rp := outsV_rps q l ho
              obtain ⟨b', ws, e1', e2', e3', e4', e5'⟩ := R1.own j s c q0 qc
              rw [e1] at e1'; cases e1'
              exact o F1 H1 b ws vs c args res c' Q R1.sub e2' e4' rp qf fun y vs' ry rv => k F1 y _ s1 (R1.write q0 qc (Sl.put_ok qc) e1 rv) ry
    · exact ha G F ρ σ H _ R _ h1 k
  · cases h
def mMet0 (f : List D → List D → Option (D × List D)) (j : Nat) : ME := fun ρ => metO f j [] ρ
theorem sim_met0 {f : List D → List D → Option (D × List D)} {j : Nat} {rop : V → List V → Hp → VK → Prop} (o : OpM K rop f) : SimE K W (tBM0 K "list" rop (tVar j)) (mMet0 f j) := by
  intro G F ρ σ H Q R p h2 k
  unfold mMet0 metO at h2
  cases q0 : ρ[j]? with
  | none => rw [q0] at h2; cases h2
  | some s =>
    rw [q0] at h2
    simp only [outsV] at h2
    cases qc : s.cont with
    | none => rw [qc] at h2; cases h2
    | some c =>
      rw [qc] at h2
      simp only at h2
      cases qf : f c [] with
      | none => rw [qf] at h2; cases h2
      | some pr =>
        obtain ⟨res, c'⟩ := pr
        rw [qf] at h2
        cases h2
        obtain ⟨b, ws, e1, e2, e3, e4, e5⟩ := R.own j s c q0 qc
        exact ⟨.ref b, e1, .inl ⟨rfl, ws, SqL.of e2⟩, o F H b ws [] c [] res c' Q R.sub e2 e4 .nil qf fun y vs' ry rv => k F y _ (Same.refl _) (R.write q0 qc (Sl.put_ok qc) e1 rv) ry⟩
/-- methods that only read, of any value -/
def OpR1 (K : PySem.W.Frag) (T : String) (rop : V → List V → Hp → VK → Prop) (f : D → List D → Option Out) : Prop := ∀ (G : Gh) (F : Hp) (ρ : Rh) (σ : St) (H : Hp) (x : V) (xs : List V) (d : D) (ds : List D) (r : Out) (Q : VK), Rl K G F ρ σ H → RdV K F H x d → RdVs K F H xs ds → f d ds = some r →
  (∀ F' v H', Same F F' → Rl K G F' ρ σ H' → OutOk K G F' ρ σ H' v r → Q v H') → rop x xs H Q
end
end ML

set_option Elab.async false
set_option linter.all false
set_option maxRecDepth 100000
set_option maxHeartbeats 4000000
/-! ML6: rules of operators over the layer that were lacking; operators on data. -/
namespace ML
open PySem PySem.Spec PyProof.Rows L2

/-! ### rules over values -/
section
variable {X : Cx}
/-- xs + ys, whatever lists -/
def rCatR (K : PySem.W.Frag) : R2 := fun x y H Q => ∃ l b xs zs, x = .ref l ∧ y = .ref b ∧ SqL K H l xs ∧ SqL K H b zs ∧ xs.length + zs.length ≤ sizeLine ∧
  ∀ p, H p = none → Q (.ref p) (upd H p (.lst (xs ++ zs)))
theorem op_catR : OpR X (binaryOp .Add) (rCatR X.K) := by
  intro pins s σ H x y v u Q I rx ry h
  obtain ⟨l, b, xs, zs, rfl, rfl, hH, hB, hz, q⟩ := h
  cases rx
  cases ry
  obtain ⟨its, r, ⟨⟨cl, dd, da, sl⟩, n, ho, hc, _, hd⟩, _⟩ := I.list hH
  obtain ⟨its2, r2, ⟨⟨cl2, dd2, da2, sl2⟩, n2, ho2, hc2, _, hd2⟩, _⟩ := I.list hB
  simp only at hc hd hc2 hd2
  subst hc hd hc2 hd2
  have hsz : its.toArray.size + its2.toArray.size ≤ sizeLine := by
    rw [List.size_toArray, List.size_toArray, ← r.length, ← r2.length]
    exact hz
  refine concat_meets ⟨_, ho, rfl⟩ ⟨_, ho2, rfl⟩ noFill_list_add seq_list_add PySem.F.slot_list_add PySem.F.entry_list_add (PySem.F.args_list_add_2 _ _)
    (list_addW l b its.toArray its2.toArray n n2 dd dd2 sl sl2 hsz) ⟨ho, ho2, ?_⟩
  rw [show its.toArray ++ its2.toArray = (its ++ its2).toArray by simp]
  exact ⟨.ref _, _, I.lnew (t' := s.toks) (r.append r2) (by rw [List.length_append]; omega), rfl, q _ I.fresh⟩
/-! xs * n, whatever list -/
theorem int_rmul_listW (a : Int) (t : Tok) (l : Addr) (items : Array Value) (n : Nat) (dd : Option Addr) (sl : Array (Option Value)) :
    Meets (Builtin.«int.__rmul__» ⟨[.int a t, .ref l], []⟩) (fun _ R s => s.heap.get? l = some { cls := .type "list", dict := dd, data := .seq items n, slots := sl } ∧
      R (.ok (.ret Value.notImplemented)) s) :=
  .of_wp fun prog w A R s h => by
    obtain ⟨hp, g, d, tk, os⟩ := s
    obtain ⟨hl, h⟩ := h
    wp_walk using wpAny_loadPart' hl
    exact ⟨_, rfl, h⟩
theorem list_mulW (l : Addr) (items : Array Value) (n : Nat) (dd : Option Addr) (sl : Array (Option Value)) (x : Int) (u : Tok) (c0 : ¬(!Builtin.List.listFitsIndex x) = true) (c1 : ¬items.size * x.toNat > (2 ^ 63 - 1) / 8) (c2 : ¬Builtin.List.listTooLong (items.size * x.toNat) = true)
    (hsz : (List.foldl (fun x1 x2 => x1 ++ x2) #[] (List.replicate (if items.isEmpty = true then 0 else x.toNat) items)).size ≤ sizeLine) :
    Meets (Builtin.«list.__mul__» ⟨[.ref l, .int x u], []⟩) (fun _ R s => s.heap.get? l = some { cls := .type "list", dict := dd, data := .seq items n, slots := sl } ∧
      R (.ok (.ret (Value.ref s.heap.objs.size))) { s with heap := s.heap.push { cls := Value.type "list", data := Data.seq (List.foldl (fun x1 x2 => x1 ++ x2) #[] (List.replicate (if items.isEmpty = true then 0 else x.toNat) items)) }, toks := s.toks }) :=
  .of_wp fun prog w A R s h => by
    obtain ⟨hp, g, d, tk, os⟩ := s
    obtain ⟨hl, h⟩ := h
    have f1 := AutoSeq1.idx_int
    wp_walk using wpAny_loadPart' hl
    repeat (first
      | (refine wpAny_ite_false (decide_eq_false c0) ?_; wp_walk using wpAny_loadPart' hl)
      | (refine wpAny_ite_false (decide_eq_false c1) ?_; wp_walk using wpAny_loadPart' hl)
      | (refine wpAny_ite_false (decide_eq_false c2) ?_; wp_walk using wpAny_loadPart' hl)
      | (refine wpAny_ite_false (decide_eq_false (Nat.not_lt.mpr hsz)) ?_; wp_walk using wpAny_loadPart' hl))
    exact ⟨_, rfl, h⟩
def rRepR (K : PySem.W.Frag) : R2 := fun x y H Q => ∃ l k xs, x = .ref l ∧ y = .int k ∧ SqL K H l xs ∧ -(2 ^ 63) ≤ k ∧ k < 2 ^ 63 ∧ xs.length * k.toNat ≤ sizeLine ∧
  ∀ p, H p = none → Q (.ref p) (upd H p (.lst (List.replicate k.toNat xs).flatten))
theorem op_repR : OpR X (binaryOp .Mult) (rRepR X.K) := by
  intro pins s σ H x y v u Q I rx ry h
  obtain ⟨l, k, xs, rfl, rfl, hH, h1, h2, hz, q⟩ := h
  cases rx
  obtain ⟨t, rfl⟩ := ry
  obtain ⟨its, r, ⟨⟨cl, dd, da, sl⟩, n, ho, hc, _, hd⟩, _⟩ := I.list hH
  simp only at hc hd
  subst hc hd
  have hl := r.length
  have hn : its.toArray.size * k.toNat ≤ sizeLine := by
    rw [List.size_toArray, ← hl]
    exact hz
  have hcap : ¬ its.toArray.size * k.toNat > (2 ^ 63 - 1) / 8 := by
    have z : (sizeLine : Nat) ≤ (2 ^ 63 - 1) / 8 := by decide
    omega
  have hfit : ¬ (!Builtin.List.listFitsIndex k) = true := by
    rw [fitsIndex_both h1 h2]
    simp
  have hlong : ¬ Builtin.List.listTooLong (its.toArray.size * k.toNat) = true := by
    rw [notLongL hn]
    simp
  have hnew : List.foldl (fun x1 x2 => x1 ++ x2) #[] (List.replicate (if its.toArray.isEmpty = true then 0 else k.toNat) its.toArray) = (List.replicate k.toNat its).flatten.toArray := by
    rw [size_rep]
    cases its with
    | nil => simp
    | cons a r' => rw [if_neg (by simp)]
  have hfl : (List.replicate k.toNat its).flatten.length ≤ sizeLine := by
    rw [PyProof.Rows.lm_len_rep_flat, Nat.mul_comm, ← hl]
    exact hz
  refine wpAny_binaryOp_repeat_ref (T := "list") (U := "int") (by decide) ⟨_, ho, rfl⟩ (fun s' => typeIs_int s' k t) noFill_list_mul F.fills_int_mul F.slot_int_rmul repeat_list F.slot_int_index.lookup
    (call_meets F.slot_int_rmul (typeIs_int s k t) F.entry_int_rmul (F.args_int_rmul_2 _ _) (int_rmul_listW k t l its.toArray n dd sl)
      ⟨ho, rfl, ⟨_, ho, rfl⟩, call_meets F.slot_list_mul ⟨_, ho, rfl⟩ F.entry_list_mul (F.args_list_mul_2 _ _) (list_mulW l its.toArray n dd sl k t hfit hcap hlong (by rw [hnew, List.size_toArray]; exact hfl)) ⟨ho, ?_⟩⟩)
  rw [hnew]
  exact ⟨.ref _, _, I.lnew (t' := s.toks) (r.rep k.toNat) (by rw [PyProof.Rows.lm_len_rep_flat, Nat.mul_comm]; exact hz), rfl, q _ I.fresh⟩
/-- s * n -/
def repS (x : Str) (n : Int) : Str := ⟨(List.replicate n.toNat x.cps).foldl (· ++ ·) #[]⟩
def rMulS : R2 := fun x y H Q => ∃ z n, x = .str z ∧ y = .int n ∧ 2 ≤ n ∧ n ≤ 1000 ∧ z.length ≤ 1000 ∧ z.length ≠ 0 ∧ Q (.str (repS z n)) H
theorem op_mulS : OpR X (binaryOp .Mult) rMulS := by
  intro pins s σ H x y v u Q I rx ry h
  obtain ⟨z, n, rfl, rfl, h1, h2, h3, h4, q⟩ := h
  obtain ⟨t, rfl⟩ := rx
  obtain ⟨t', rfl⟩ := ry
  have e1 : (n == 1 || z.length == 0) = false := by
    rw [Bool.or_eq_false_iff]
    exact ⟨beq_eq_false_iff_ne.mpr (by omega), beq_eq_false_iff_ne.mpr h4⟩
  have hm : z.length * n.toNat ≤ 1000 * 1000 := Nat.mul_le_mul h3 (by omega)
  have hl : Builtin.Str.tooLong (z.length * n.toNat) = false := by
    unfold Builtin.Str.tooLong
    rw [sizeLine_eq]
    exact decide_eq_false (by omega)
  refine PySem.P.mul_str (by rw [decide_eq_false (by omega), decide_eq_false (by omega)]; rfl) (fun _ _ z' => ?_) (fun _ _ => hl) ?_
  · have : (2 ^ 63 - 1 : Int) / n ≥ (2 ^ 63 - 1) / 1000 := by
      have a1 : (1000 : Int) * ((2 ^ 63 - 1) / 1000) ≤ 2 ^ 63 - 1 := by decide
      apply Int.le_ediv_of_mul_le (by omega)
      have a2 : (2 ^ 63 - 1 : Int) / 1000 * n ≤ (2 ^ 63 - 1) / 1000 * 1000 := Int.mul_le_mul_of_nonneg_left h2 (by decide)
      have a3 : (2 ^ 63 - 1 : Int) / 1000 * 1000 ≤ 2 ^ 63 - 1 := by decide
      omega
    have a4 : (1000 : Int) < (2 ^ 63 - 1) / 1000 := by decide
    omega
  · rw [if_neg (by omega), e1, if_neg Bool.false_ne_true]
    refine ⟨?_, ⟨.str _, H, I.tok _, ⟨_, rfl⟩, q⟩⟩
    have : ∀ (m : Nat) (acc : Array Nat), ((List.replicate m z.cps).foldl (· ++ ·) acc).size = acc.size + m * z.cps.size := by
      intro m
      induction m with
      | zero => intro acc; simp
      | succ m ih => intro acc; rw [List.replicate_succ, List.foldl_cons, ih, Array.size_append, Nat.succ_mul]; omega
    have e2 : (⟨(List.replicate n.toNat z.cps).foldl (· ++ ·) #[]⟩ : Str).length = n.toNat * z.length := by
      show ((List.replicate n.toNat z.cps).foldl (· ++ ·) #[]).size = _
      rw [this]
      show 0 + _ = _
      rw [Nat.zero_add]; rfl
    rw [e2, Nat.mul_comm, sizeLine_eq]
    omega
/-- is True, is False -/
def rIsC : R2 := fun x y H Q => ∃ b : Bool, y = .bl b ∧ Q (.bl (decide (x = .bl b))) H
theorem op_isC : OpR X (compareOp .Is) rIsC := by
  intro pins s σ H x y v u Q I rx ry h
  obtain ⟨b, rfl, q⟩ := h
  cases (show u = Value.bool b from ry)
  cases x with
  | bl a =>
    cases (show v = Value.bool a from rx)
    by_cases e : a = b
    · subst e
      exact wpAny_is_self rfl ⟨.bl true, H, I, rfl, by simpa using q⟩
    · exact wpAny_is_other rfl (fun z => e (Value.bool.inj z)) ⟨.bl false, H, I, rfl, by simpa [e] using q⟩
  | non => cases rx; exact wpAny_is_other rfl (fun z => by cases z) ⟨.bl false, H, I, rfl, by simpa using q⟩
  | int i => obtain ⟨t, rfl⟩ := rx; exact wpAny_is_other rfl (fun z => by cases z) ⟨.bl false, H, I, rfl, by simpa using q⟩
  | str i => obtain ⟨t, rfl⟩ := rx; exact wpAny_is_other rfl (fun z => by cases z) ⟨.bl false, H, I, rfl, by simpa using q⟩
  | byt i => obtain ⟨t, rfl⟩ := rx; exact wpAny_is_other rfl (fun z => by cases z) ⟨.bl false, H, I, rfl, by simpa using q⟩
  | flt i => obtain ⟨t, rfl⟩ := rx; exact wpAny_is_other rfl (fun z => by cases z) ⟨.bl false, H, I, rfl, by simpa using q⟩
  | ref i => cases rx; exact wpAny_is_other rfl (fun z => by cases z) ⟨.bl false, H, I, rfl, by simpa using q⟩
  | ty i => cases rx; exact wpAny_is_other rfl (fun z => by cases z) ⟨.bl false, H, I, rfl, by simpa using q⟩
/-- x in t -/
def rInT (K : PySem.W.Frag) (neg : Bool) : R2 := fun x y H Q => ∃ d ds, Dp K H x d ∧ Dp K H y (.tuple ds) ∧ SeqAt.shaped d = true ∧ SeqAt.shaped (.tuple ds) = true ∧ Q (.bl (if neg then !(ds.any fun z => PyData.eqv z d) else ds.any fun z => PyData.eqv z d)) H
theorem room_inT {A : Around} {d : PyData} {ds : List PyData} (sd : SeqAt.shaped d = true) (hu : A.units + 65 < cLine) : A.units + 1 + min (PyData.depthAll ds) d.depth < cLine := by
  have h1 := SeqAt.depth_of_shaped sd
  have h2 : min (PyData.depthAll ds) d.depth ≤ d.depth := Nat.min_le_right _ _
  omega
theorem op_inT (hu : X.A.units + 65 < cLine) : OpR X (compareOp .In) (rInT X.K false) := by
  intro pins s σ H x y v u Q I rx ry h
  obtain ⟨d, ds, hd, he, sd, se, q⟩ := h
  obtain ⟨as, r1⟩ := Dp.reads I d x v hd rx
  obtain ⟨bs, r2⟩ := Dp.reads I (.tuple ds) y u he ry
  exact SeqAt.in_tuple_reads r2 r1 (SeqAt.canLay_of_shaped se) (SeqAt.canLay_of_shaped sd) (room_inT sd hu) ⟨.bl _, H, I, rfl, q⟩
theorem op_notInT (hu : X.A.units + 65 < cLine) : OpR X (compareOp .NotIn) (rInT X.K true) := by
  intro pins s σ H x y v u Q I rx ry h
  obtain ⟨d, ds, hd, he, sd, se, q⟩ := h
  obtain ⟨as, r1⟩ := Dp.reads I d x v hd rx
  obtain ⟨bs, r2⟩ := Dp.reads I (.tuple ds) y u he ry
  exact SeqAt.notIn_tuple_reads r2 r1 (SeqAt.canLay_of_shaped se) (SeqAt.canLay_of_shaped sd) (room_inT sd hu) ⟨.bl _, H, I, rfl, q⟩
end
/-! ### t * n, any n -/
section
variable {X : Cx}
theorem tuple_mul1 (l : Addr) (items : Array Value) (n : Nat) (dd : Option Addr) (sl : Array (Option Value)) (x : Int) (u : Tok) (c0 : (decide (x < -(2 ^ 63)) || decide (x ≥ 2 ^ 63)) = false) (c1 : (items.isEmpty || x == 1) = true) :
    Meets (Builtin.«tuple.__mul__» ⟨[.ref l, .int x u], []⟩) (fun _ R s => s.heap.get? l = some { cls := .type "tuple", dict := dd, data := .seq items n, slots := sl } ∧
      R (.ok (.ret (Value.ref l))) s) :=
  .of_wp fun prog w A R s h => by
    obtain ⟨hp, g, d, tk, os⟩ := s
    obtain ⟨hl, h⟩ := h
    have f1 := AutoSeq1.idx_int
    wp_walk using wpAny_loadPart' hl
    repeat (first
      | (refine wpAny_ite_false (decide_eq_false (by rw [c0]; exact Bool.false_ne_true)) ?_; wp_walk using wpAny_loadPart' hl)
      | (refine wpAny_ite_true (decide_eq_true (by rw [c1])) ?_; wp_walk using wpAny_loadPart' hl))
    exact ⟨_, rfl, h⟩
theorem tuple_mul0 (l : Addr) (items : Array Value) (n : Nat) (dd : Option Addr) (sl : Array (Option Value)) (x : Int) (u : Tok) (c0 : (decide (x < -(2 ^ 63)) || decide (x ≥ 2 ^ 63)) = false) (c1 : (items.isEmpty || x == 1) = false) (c2 : (decide (x ≤ 0) || items.isEmpty) = true) :
    Meets (Builtin.«tuple.__mul__» ⟨[.ref l, .int x u], []⟩) (fun _ R s => s.heap.get? l = some { cls := .type "tuple", dict := dd, data := .seq items n, slots := sl } ∧
      R (.ok (.ret (Value.ref s.heap.objs.size))) { s with heap := s.heap.push { cls := Value.type "tuple", data := Data.seq #[] }, toks := s.toks }) :=
  .of_wp fun prog w A R s h => by
    obtain ⟨hp, g, d, tk, os⟩ := s
    obtain ⟨hl, h⟩ := h
    have f1 := AutoSeq1.idx_int
    wp_walk using wpAny_loadPart' hl
    repeat (first
      | (refine wpAny_ite_false (decide_eq_false (by rw [c0]; exact Bool.false_ne_true)) ?_; wp_walk using wpAny_loadPart' hl)
      | (refine wpAny_ite_false (decide_eq_false (by rw [c1]; exact Bool.false_ne_true)) ?_; wp_walk using wpAny_loadPart' hl)
      | (refine wpAny_ite_true (decide_eq_true (by rw [c2])) ?_; wp_walk using wpAny_loadPart' hl))
    exact ⟨_, rfl, h⟩
end
end ML

set_option Elab.async false
set_option linter.all false
set_option maxRecDepth 100000
set_option maxHeartbeats 4000000
/-! ML7: operators on data. -/
namespace ML
open PySem PySem.Spec PyProof.Rows L2

/-- t * n -/
def rRepA (K : PySem.W.Frag) : R2 := fun x y H Q => ∃ l k xs, x = .ref l ∧ y = .int k ∧ SqT K H l xs ∧ -1000 ≤ k ∧ k ≤ 1000 ∧ xs.length ≤ 1000 ∧
  ((xs = [] ∨ k = 1) → Q (.ref l) H) ∧ (¬ (xs = [] ∨ k = 1) → ∀ p, H p = none → Q (.ref p) (upd H p (.tup (List.replicate k.toNat xs).flatten)))
theorem op_repA {X : Cx} : OpR X (binaryOp .Mult) (rRepA X.K) := by
  intro pins s σ H x y v u Q I rx ry h
  obtain ⟨l, k, xs, rfl, rfl, hT, h1, h2, hz, q1, q2⟩ := h
  by_cases hk : 2 ≤ k ∧ xs ≠ []
  · exact op_repT pins s σ H _ _ v u Q I rx ry ⟨l, k, xs, rfl, rfl, hT, hk.2, hk.1, h2, hz, q2 (fun z => by
      rcases z with z | z
      · exact hk.2 z
      · omega)⟩
  cases rx
  obtain ⟨t, rfl⟩ := ry
  obtain ⟨its, r, ⟨⟨cls, dd, data, sl⟩, ho, hc, n, hd⟩, hs⟩ := I.tuple hT
  simp only at hc hd
  subst hc hd
  have hle : its.length = xs.length := r.length.symm
  have c0 : (decide (k < -(2 ^ 63)) || decide (k ≥ 2 ^ 63)) = false := by
    rw [decide_eq_false (by omega), decide_eq_false (by omega)] <;> rfl
  have he : its.toArray.isEmpty = true ↔ xs = [] := by
    cases r with
    | nil => simp
    | cons _ _ => simp
  by_cases hs1 : xs = [] ∨ k = 1
  · have c1 : (its.toArray.isEmpty || k == 1) = true := by
      rcases hs1 with z | z
      · rw [he.mpr z]; rfl
      · rw [Bool.or_eq_true]; exact .inr (beq_iff_eq.mpr z)
    exact wpAny_binaryOp_repeat_ref (T := "tuple") (U := "int") (by decide) ⟨_, ho, rfl⟩ (fun s' => typeIs_int s' k t) noFill_tuple_mul F.fills_int_mul F.slot_int_rmul repeat_tuple F.slot_int_index.lookup
      (call_meets F.slot_int_rmul (typeIs_int s k t) F.entry_int_rmul (F.args_int_rmul_2 _ _) (int_rmul_tuple k t l its.toArray n dd sl)
        ⟨ho, rfl, ⟨_, ho, rfl⟩, call_meets F.slot_tuple_mul ⟨_, ho, rfl⟩ F.entry_tuple_mul (F.args_tuple_mul_2 _ _) (tuple_mul1 l its.toArray n dd sl k t c0 c1) ⟨ho, ⟨.ref l, H, I, rfl, q1 hs1⟩⟩⟩)
  · have hne : xs ≠ [] := fun z => hs1 (.inl z)
    have hk0 : k ≤ 0 := by
      have : ¬ k = 1 := fun z => hs1 (.inr z)
      have : ¬ 2 ≤ k := fun z => hk ⟨z, hne⟩
      omega
    have hi : its.toArray.isEmpty = false := by
      cases q : its.toArray.isEmpty with
      | false => rfl
      | true => exact absurd (he.mp q) hne
    have c1 : (its.toArray.isEmpty || k == 1) = false := by
      rw [hi, Bool.false_or]
      exact beq_eq_false_iff_ne.mpr (by omega)
    have c2 : (decide (k ≤ 0) || its.toArray.isEmpty) = true := by
      rw [decide_eq_true hk0]; rfl
    refine wpAny_binaryOp_repeat_ref (T := "tuple") (U := "int") (by decide) ⟨_, ho, rfl⟩ (fun s' => typeIs_int s' k t) noFill_tuple_mul F.fills_int_mul F.slot_int_rmul repeat_tuple F.slot_int_index.lookup
      (call_meets F.slot_int_rmul (typeIs_int s k t) F.entry_int_rmul (F.args_int_rmul_2 _ _) (int_rmul_tuple k t l its.toArray n dd sl)
        ⟨ho, rfl, ⟨_, ho, rfl⟩, call_meets F.slot_tuple_mul ⟨_, ho, rfl⟩ F.entry_tuple_mul (F.args_tuple_mul_2 _ _) (tuple_mul0 l its.toArray n dd sl k t c0 c1 c2) ⟨ho, ?_⟩⟩)
    have e0 : k.toNat = 0 := by omega
    have q3 := q2 hs1 _ (I.hok.fresh (Nat.le_refl _))
    rw [e0] at q3
    exact ⟨.ref s.heap.objs.size, _, I.laid (t' := s.toks) (o := .tup []) (fun b ob q => Heap.get?_push_of_some _ q) (Nat.le_refl _) ⟨Nat.zero_le _, [], .nil, IsTup.new _ _⟩, rfl, q3⟩

section
variable {K : PySem.W.Frag}
theorem RdV.tupF {F H : Hp} {v : V} {ds : List D} (h : RdV K F H v (.tuple ds)) : Rp K F v (.tuple ds) := by
  rcases h with h | ⟨_, _, _, _, e, _⟩
  · exact h
  · cases e
theorem RdV.strF {F H : Hp} {v : V} {x : Str} (h : RdV K F H v (.str x)) : Rp K F v (.str x) := by
  rw [h.str]; exact .str x
/-- how a scalar is handed on -/
theorem Rl.giv {G : Gh} {F H : Hp} {ρ : Rh} {σ : St} {Q : VK} {v : V} {d : D} (R : Rl K G F ρ σ H) (h : Rp K F v d) (k : ∀ F' v H', Same F F' → Rl K G F' ρ σ H' → OutOk K G F' ρ σ H' v (.v d) → Q v H') : Q v H := k F v H (Same.refl _) R h
/-! ### + -/
def addD : D → D → Option Out
  | .int i, .int j => some (.v (.int (i + j)))
  | .str x, .str y => if x.length + y.length ≤ sizeLine then some (.v (.str (x ++ y))) else none
  | .list xs, .list ys => if xs.length + ys.length ≤ sizeLine then some (.fr (xs ++ ys)) else none
  | .tuple xs, .tuple ys => if xs.length + ys.length ≤ sizeLine then some (.v (.tuple (xs ++ ys))) else none
  | _, _ => none
def rAddI : R2 := rI0 fun i j => .int (i + j)
def rAddS : R2 := fun x y H Q => ∃ i j, x = .str i ∧ y = .str j ∧ i.length + j.length ≤ sizeLine ∧ Q (.str (i ++ j)) H
def rAdd (K : PySem.W.Frag) : R2 := fun x y H Q => rAddI x y H Q ∨ rAddS x y H Q ∨ rCatR K x y H Q ∨ rCatA K x y H Q
theorem op_addA {X : Cx} : OpR X (binaryOp .Add) (rAdd X.K) := op_add.or (op_add_str.or (op_catR.or op_catA))
theorem o_add : Op2 K (rAdd K) addD := by
  intro G F ρ σ H x y d e r Q R hx hy h k
  unfold addD at h
  split at h
  · cases h
    exact .inl ⟨_, _, hx.int, hy.int, R.giv (.int _) k⟩
  · split at h
    · rename_i z
      cases h
      exact .inr (.inl ⟨_, _, hx.str, hy.str, z, R.giv (.str _) k⟩)
    · cases h
  · split at h
    · rename_i z
      cases h
      obtain ⟨a, vs, rfl, h1, h2⟩ := hx.list R.sub
      obtain ⟨b, ws, rfl, h3, h4⟩ := hy.list R.sub
      exact .inr (.inr (.inl ⟨a, b, vs, ws, rfl, rfl, h1, h3, by rw [h2.length, h4.length]; exact z, R.newLst (h2.append h4) k⟩))
    · cases h
  · split at h
    · rename_i z
      cases h
      have fx := hx.tupF
      have fy := hy.tupF
      obtain ⟨a, vs, rfl, h1, h2⟩ := hx.tup R.sub
      obtain ⟨b, ws, rfl, h3, h4⟩ := hy.tup R.sub
      refine .inr (.inr (.inr ⟨a, b, vs, ws, rfl, rfl, h1, h3, by rw [h2.length, h4.length]; exact z, fun z => ?_, fun z1 z2 => ?_, fun z1 z2 => R.newTup (h2.append h4) k⟩))
      · have z' := h2.nil_iff.mp z
        subst z'
        exact R.giv fy k
      · have z' := h4.nil_iff.mp z2
        subst z'
        rw [List.append_nil] at k
        exact R.giv fx k
    · cases h
  · cases h
/-! ### - * // % ** -/
def subD : D → D → Option Out
  | .int i, .int j => some (.v (.int (i - j)))
  | _, _ => none
theorem o_sub : Op2 K (rI0 fun i j => .int (i - j)) subD := by
  intro G F ρ σ H x y d e r Q R hx hy h k
  unfold subD at h
  split at h
  · cases h
    exact ⟨_, _, hx.int, hy.int, R.giv (.int _) k⟩
  · cases h
def small64 (i : Int) : Bool := decide (-(2 ^ 64) < i) && decide (i < 2 ^ 64)
theorem small64_ok {i : Int} (h : small64 i = true) : -(2 ^ 64) < i ∧ i < 2 ^ 64 := by
  unfold small64 at h
  rw [Bool.and_eq_true] at h
  exact ⟨of_decide_eq_true h.1, of_decide_eq_true h.2⟩
def mulD : D → D → Option Out
  | .int i, .int j => if (small64 i || small64 j) = true then some (.v (.int (i * j))) else none
  | .str x, .int n => if 2 ≤ n ∧ n ≤ 1000 ∧ x.length ≤ 1000 ∧ x.length ≠ 0 then some (.v (.str (repS x n))) else none
  | .list xs, .int k => if -(2 ^ 63) ≤ k ∧ k < 2 ^ 63 ∧ xs.length * k.toNat ≤ sizeLine then some (.fr (List.replicate k.toNat xs).flatten) else none
  | .tuple xs, .int k => if -1000 ≤ k ∧ k ≤ 1000 ∧ xs.length ≤ 1000 then some (.v (.tuple (List.replicate k.toNat xs).flatten)) else none
  | _, _ => none
def rMulI : R2 := rI CMul fun i j => .int (i * j)
def rMul (K : PySem.W.Frag) : R2 := fun x y H Q => rMulI x y H Q ∨ rMulS x y H Q ∨ rRepR K x y H Q ∨ rRepA K x y H Q
theorem op_mulA {X : Cx} : OpR X (binaryOp .Mult) (rMul X.K) := op_mul.or (op_mulS.or (op_repR.or op_repA))
theorem o_mul : Op2 K (rMul K) mulD := by
  intro G F ρ σ H x y d e r Q R hx hy h k
  unfold mulD at h
  split at h
  · split at h
    · rename_i z
      cases h
      refine .inl ⟨_, _, hx.int, hy.int, ?_, R.giv (.int _) k⟩
      rw [Bool.or_eq_true] at z
      rcases z with z | z
      · exact .inl (small64_ok z)
      · exact .inr (small64_ok z)
    · cases h
  · split at h
    · rename_i z
      cases h
      exact .inr (.inl ⟨_, _, hx.str, hy.int, z.1, z.2.1, z.2.2.1, z.2.2.2, R.giv (.str _) k⟩)
    · cases h
  · split at h
    · rename_i z
      cases h
      obtain ⟨a, vs, rfl, h1, h2⟩ := hx.list R.sub
      exact .inr (.inr (.inl ⟨a, _, vs, rfl, hy.int, h1, z.1, z.2.1, by rw [h2.length]; exact z.2.2, R.newLst (h2.rep _) k⟩))
    · cases h
  · split at h
    · rename_i xs kk z
      cases h
      have fx := hx.tupF
      obtain ⟨a, vs, rfl, h1, h2⟩ := hx.tup R.sub
      refine .inr (.inr (.inr ⟨a, _, vs, rfl, hy.int, h1, z.1, z.2.1, by rw [h2.length]; exact z.2.2, fun z1 => ?_, fun _ => R.newTup (h2.rep _) k⟩))
      have e1 : (List.replicate kk.toNat xs).flatten = xs := by
        rcases z1 with z1 | z1
        · have z2 := h2.nil_iff.mp z1
          subst z2
          have : ∀ n : Nat, (List.replicate n ([] : List D)).flatten = [] := by
            intro n
            induction n with
            | zero => rfl
            | succ n ih => rw [List.replicate_succ, List.flatten_cons, ih]; rfl
          exact this _
        · subst z1
          simp
      rw [e1] at k
      exact R.giv fx k
    · cases h
  · cases h
/-- the divisor positive -/
def modD : D → D → Option Out
  | .int i, .int j => if 0 < j then some (.v (.int (i % j))) else none
  | _, _ => none
theorem o_mod : Op2 K (rI (fun _ j => 0 < j) fun i j => .int (i % j)) modD := by
  intro G F ρ σ H x y d e r Q R hx hy h k
  unfold modD at h
  split at h
  · split at h
    · rename_i z
      cases h
      exact ⟨_, _, hx.int, hy.int, z, R.giv (.int _) k⟩
    · cases h
  · cases h
def fdivD : D → D → Option Out
  | .int i, .int j => if 0 < j ∧ j < 1073741824 then some (.v (.int (i / j))) else none
  | _, _ => none
theorem o_fdiv : Op2 K (rI CDiv fun i j => .int (i / j)) fdivD := by
  intro G F ρ σ H x y d e r Q R hx hy h k
  unfold fdivD at h
  split at h
  · split at h
    · rename_i z
      cases h
      exact ⟨_, _, hx.int, hy.int, z, R.giv (.int _) k⟩
    · cases h
  · cases h
def powD : D → D → Option Out
  | .int i, .int j => if 0 ≤ j ∧ j ≤ 1000000 ∧ i.natAbs < 2 ^ 64 then some (.v (.int (i ^ j.toNat))) else none
  | _, _ => none
theorem o_pow : Op2 K (rI CPow fun i j => .int (i ^ j.toNat)) powD := by
  intro G F ρ σ H x y d e r Q R hx hy h k
  unfold powD at h
  split at h
  · split at h
    · rename_i z
      cases h
      exact ⟨_, _, hx.int, hy.int, z, R.giv (.int _) k⟩
    · cases h
  · cases h
/-! ### comparisons -/
def shapedB (d e : D) : Bool := SeqAt.shaped d && SeqAt.shaped e
def eqB (d e : D) : Option Bool := if shapedB d e = true then some (PyData.eqv d e) else none
def neB (d e : D) : Option Bool := if shapedB d e = true then some (!PyData.eqv d e) else none
def bo (f : D → D → Option Bool) : D → D → Option Out := fun d e => (f d e).map fun b => .v (.bool b)
theorem op2B {rop : R2} {f : D → D → Option Bool} (h : ∀ (F H : Hp) (x y : V) (d e : D) (b : Bool) (Q : VK), Same F H → RdV K F H x d → RdV K F H y e → f d e = some b → Q (.bl b) H → rop x y H Q) : Op2B K rop f := by
  intro G F ρ σ H x y d e r Q R hx hy e1 k
  have e1 : (f d e).map (fun b => Out.v (.bool b)) = some r := e1
  cases q : f d e with
  | none => rw [q] at e1; cases e1
  | some b =>
    rw [q] at e1
    cases e1
    exact h F H x y d e b Q R.sub hx hy q (R.giv (.bl b) k)
theorem o_eq : Op2B K (rEqD K) eqB := op2B fun F H x y d e b Q s hx hy h q => by
  unfold eqB at h
  by_cases z : shapedB d e = true
  · rw [if_pos z] at h
    cases h
    obtain ⟨z1, z2⟩ := Bool.and_eq_true_iff.mp z
    exact ⟨d, e, hx.dp s, hy.dp s, z1, z2, q⟩
  · rw [if_neg z] at h; cases h
theorem o_ne : Op2B K (rNeD K) neB := op2B fun F H x y d e b Q s hx hy h q => by
  unfold neB at h
  by_cases z : shapedB d e = true
  · rw [if_pos z] at h
    cases h
    obtain ⟨z1, z2⟩ := Bool.and_eq_true_iff.mp z
    exact ⟨d, e, hx.dp s, hy.dp s, z1, z2, q⟩
  · rw [if_neg z] at h; cases h
def sLt (x y : Str) : Bool := decide (x.cps.toList < y.cps.toList)
def ltB : D → D → Option Bool
  | .int i, .int j => some (decide (i < j))
  | .str x, .str y => some (sLt x y)
  | _, _ => none
def leB : D → D → Option Bool
  | .int i, .int j => some (decide (i ≤ j))
  | .str x, .str y => some (!sLt y x)
  | _, _ => none
def gtB : D → D → Option Bool
  | .int i, .int j => some (decide (j < i))
  | .str x, .str y => some (sLt y x)
  | _, _ => none
def geB : D → D → Option Bool
  | .int i, .int j => some (decide (j ≤ i))
  | .str x, .str y => some (!sLt x y)
  | _, _ => none
def rLtA : R2 := fun x y H Q => rI0 (fun i j => .bl (decide (i < j))) x y H Q ∨ ∃ i j, x = .str i ∧ y = .str j ∧ Q (.bl (decide (i.cps.toList < j.cps.toList))) H
def rLeA : R2 := fun x y H Q => rI0 (fun i j => .bl (decide (i ≤ j))) x y H Q ∨ ∃ i j, x = .str i ∧ y = .str j ∧ Q (.bl (!decide (j.cps.toList < i.cps.toList))) H
def rGtA : R2 := fun x y H Q => rI0 (fun i j => .bl (decide (j < i))) x y H Q ∨ ∃ i j, x = .str i ∧ y = .str j ∧ Q (.bl (decide (j.cps.toList < i.cps.toList))) H
def rGeA : R2 := fun x y H Q => rI0 (fun i j => .bl (decide (j ≤ i))) x y H Q ∨ ∃ i j, x = .str i ∧ y = .str j ∧ Q (.bl (!decide (i.cps.toList < j.cps.toList))) H
theorem op_ltA {X : Cx} : OpR X (compareOp .Lt) rLtA := op_lt.or op_lt_str
theorem op_leA {X : Cx} : OpR X (compareOp .LtE) rLeA := op_le.or op_le_str
theorem op_gtA {X : Cx} : OpR X (compareOp .Gt) rGtA := op_gt.or op_gt_str
theorem op_geA {X : Cx} : OpR X (compareOp .GtE) rGeA := op_ge.or op_ge_str
theorem o_lt : Op2B K rLtA ltB := op2B fun F H x y d e b Q s hx hy h q => by
  unfold ltB at h
  split at h
  · cases h; exact .inl ⟨_, _, hx.int, hy.int, q⟩
  · cases h; exact .inr ⟨_, _, hx.str, hy.str, q⟩
  · cases h
theorem o_le : Op2B K rLeA leB := op2B fun F H x y d e b Q s hx hy h q => by
  unfold leB at h
  split at h
  · cases h; exact .inl ⟨_, _, hx.int, hy.int, q⟩
  · cases h; exact .inr ⟨_, _, hx.str, hy.str, q⟩
  · cases h
theorem o_gt : Op2B K rGtA gtB := op2B fun F H x y d e b Q s hx hy h q => by
  unfold gtB at h
  split at h
  · cases h; exact .inl ⟨_, _, hx.int, hy.int, q⟩
  · cases h; exact .inr ⟨_, _, hx.str, hy.str, q⟩
  · cases h
theorem o_ge : Op2B K rGeA geB := op2B fun F H x y d e b Q s hx hy h q => by
  unfold geB at h
  split at h
  · cases h; exact .inl ⟨_, _, hx.int, hy.int, q⟩
  · cases h; exact .inr ⟨_, _, hx.str, hy.str, q⟩
  · cases h
/-! ### in, not in -/
def inD (d e : D) : Option Bool := match d, e with
  | .str x, .str z => (match x.cps.toList with
    | [c] => some (decide (c ∈ z.cps.toList))
    | _ => none)
  | d, .list ds => if shapedB d (.list ds) = true then some (ds.any fun z => PyData.eqv z d) else none
  | d, .tuple ds => if shapedB d (.tuple ds) = true then some (ds.any fun z => PyData.eqv z d) else none
  | _, _ => none
def ninD (d e : D) : Option Bool := (inD d e).map not
def rSgn (neg : Bool) : R2 := fun x y H Q => ∃ (c : Nat) (z : Str), x = .str ⟨#[c]⟩ ∧ y = .str z ∧ Q (.bl (if neg then !decide (c ∈ z.cps.toList) else decide (c ∈ z.cps.toList))) H
def rLs (K : PySem.W.Frag) (neg : Bool) : R2 := fun x y H Q => ∃ d ds, Dp K H x d ∧ Dp K H y (.list ds) ∧ SeqAt.shaped d = true ∧ SeqAt.shaped (.list ds) = true ∧ Q (.bl (if neg then !(ds.any fun z => PyData.eqv z d) else ds.any fun z => PyData.eqv z d)) H
def rInA (K : PySem.W.Frag) (neg : Bool) : R2 := fun x y H Q => rSgn neg x y H Q ∨ rLs K neg x y H Q ∨ rInT K neg x y H Q
theorem op_inA {X : Cx} (hu : X.A.units + 65 < cLine) : OpR X (compareOp .In) (rInA X.K false) := OpR.or (r := rSgn false) op_in_sign (OpR.or (r := rLs X.K false) (op_inD hu) (op_inT hu))
theorem op_ninA {X : Cx} (hu : X.A.units + 65 < cLine) : OpR X (compareOp .NotIn) (rInA X.K true) := OpR.or (r := rSgn true) op_notIn_sign (OpR.or (r := rLs X.K true) (op_notInD hu) (op_notInT hu))
theorem sgn_of {x : Str} {c : Nat} (h : x.cps.toList = [c]) : x = ⟨#[c]⟩ := by
  cases x with
  | mk cps =>
    have : cps = #[c] := by
      cases cps with
      | mk l =>
        have : l = [c] := h
        rw [this]
    rw [this]
theorem in_ok {F H : Hp} {x y : V} {d e : D} {b : Bool} {neg : Bool} {Q : VK} (s : Same F H) (hx : RdV K F H x d) (hy : RdV K F H y e) (h : inD d e = some b) (q : Q (.bl (if neg then !b else b)) H) : rInA K neg x y H Q := by
  unfold inD at h
  split at h
  · rename_i sx sz
    cases qq : sx.cps.toList with
    | nil => rw [qq] at h; cases h
    | cons c cs =>
      cases cs with
      | nil =>
        rw [qq] at h
        cases h
        exact .inl ⟨c, sz, by rw [hx.str, ← sgn_of qq], hy.str, q⟩
      | cons _ _ => rw [qq] at h; cases h
  · rename_i ds
    by_cases z : shapedB d (.list ds) = true
    · rw [if_pos z] at h
      cases h
      obtain ⟨z1, z2⟩ := Bool.and_eq_true_iff.mp z
      exact .inr (.inl ⟨d, ds, hx.dp s, hy.dp s, z1, z2, q⟩)
    · rw [if_neg z] at h; cases h
  · rename_i ds
    by_cases z : shapedB d (.tuple ds) = true
    · rw [if_pos z] at h
      cases h
      obtain ⟨z1, z2⟩ := Bool.and_eq_true_iff.mp z
      exact .inr (.inr ⟨d, ds, hx.dp s, hy.dp s, z1, z2, q⟩)
    · rw [if_neg z] at h; cases h
  · cases h
theorem o_in : Op2B K (rInA K false) inD := op2B fun F H x y d e b Q s hx hy h q => in_ok s hx hy h q
theorem o_nin : Op2B K (rInA K true) ninD := op2B fun F H x y d e b Q s hx hy h q => by
  unfold ninD at h
  cases z : inD d e with
  | none => rw [z] at h; cases h
  | some c =>
    rw [z] at h
    cases h
    exact in_ok s hx hy z q
/-! ### is -/
def isNB : D → D → Option Bool
  | .none, .none => some true
  | _, .none => some false
  | _, _ => none
def notNB (d e : D) : Option Bool := (isNB d e).map not
def isCB : D → D → Option Bool
  | .bool a, .bool b => some (a == b)
  | _, .bool _ => some false
  | _, _ => none
theorem RdV.isN {F H : Hp} {v : V} {d : D} (h : RdV K F H v d) : decide (v = .non) = (match d with | .none => true | _ => false) := by
  rcases h with h | ⟨_, _, _, rfl, rfl, _⟩
  · cases h <;> rfl
  · rfl
theorem RdV.isB {F H : Hp} {v : V} {d : D} (h : RdV K F H v d) (b : Bool) : decide (v = .bl b) = (match d with | .bool a => a == b | _ => false) := by
  rcases h with h | ⟨_, _, _, rfl, rfl, _⟩
  · cases h with
    | bl a => exact dec_bl
    | _ => rfl
  · rfl
def rIsNo : R2 := fun x y H Q => y = .non ∧ Q (.bl (decide (x = .non))) H
def rNotNo : R2 := fun x y H Q => y = .non ∧ Q (.bl (!decide (x = .non))) H
theorem o_isN : Op2B K rIsNo isNB := op2B fun F H x y d e b Q s hx hy h q => by
  unfold isNB at h
  split at h
  · cases h
    refine ⟨hy.non, ?_⟩
    rw [hx.isN]; exact q
  · cases h
    refine ⟨hy.non, ?_⟩
    rw [hx.isN]
    cases d with
    | none => rename_i z; exact absurd rfl z
    | _ => exact q
  · cases h
theorem o_notN : Op2B K rNotNo notNB := op2B fun F H x y d e b Q s hx hy h q => by
  unfold notNB isNB at h
  split at h
  · cases h
    refine ⟨hy.non, ?_⟩
    rw [hx.isN]; exact q
  · cases h
    refine ⟨hy.non, ?_⟩
    rw [hx.isN]
    cases d with
    | none => rename_i z; exact absurd rfl z
    | _ => exact q
  · cases h
theorem o_isC : Op2B K rIsC isCB := op2B fun F H x y d e b Q s hx hy h q => by
  unfold isCB at h
  split at h
  · cases h
    refine ⟨_, hy.bl, ?_⟩
    rw [hx.isB]; exact q
  · cases h
    refine ⟨_, hy.bl, ?_⟩
    rw [hx.isB]
    cases d with
    | bool a => rename_i z; exact absurd rfl (z a)
    | _ => exact q
  · cases h
/-! ### subscripts -/
def ixD : D → D → Option Out
  | .list ds, .int i => (atI ds i).map .v
  | .tuple ds, .int i => (atI ds i).map .v
  | .str z, .int i => if z.length ≤ sizeLine then (atI z.cps.toList i).map fun c => .v (.str ⟨#[c]⟩) else none
  | _, _ => none
theorem atI_rps {F : Hp} {vs : List V} {ds : List D} (h : Rps K F vs ds) {i : Int} {d : D} (e : atI ds i = some d) : ∃ v, atI vs i = some v ∧ Rp K F v d := by
  unfold atI at e ⊢
  rw [h.length]
  cases q : ixN ds.length i with
  | none => rw [q] at e; cases e
  | some j =>
    rw [q] at e
    exact h.get e
theorem o_ix : Op2 K (rIx K) ixD := by
  intro G F ρ σ H x y d e r Q R hx hy h k
  unfold ixD at h
  split at h
  · rename_i ds i
    cases q : atI ds i with
    | none => rw [q] at h; cases h
    | some z =>
      rw [q] at h
      cases h
      obtain ⟨a, vs, rfl, h1, h2⟩ := hx.list R.sub
      obtain ⟨v, q1, q2⟩ := atI_rps h2 q
      exact .inl ⟨a, vs, i, v, rfl, hy.int, h1, q1, R.giv q2 k⟩
  · rename_i ds i
    cases q : atI ds i with
    | none => rw [q] at h; cases h
    | some z =>
      rw [q] at h
      cases h
      obtain ⟨a, vs, rfl, h1, h2⟩ := hx.tup R.sub
      obtain ⟨v, q1, q2⟩ := atI_rps h2 q
      exact .inr (.inl ⟨a, vs, i, v, rfl, hy.int, h1, q1, R.giv q2 k⟩)
  · rename_i z i
    split at h
    · rename_i hz
      cases q : atI z.cps.toList i with
      | none => rw [q] at h; cases h
      | some c =>
        rw [q] at h
        cases h
        exact .inr (.inr ⟨z, i, c, hx.str, hy.int, hz, q, R.giv (.str _) k⟩)
    · cases h
  · cases h
end
end ML

set_option Elab.async false
set_option linter.all false
set_option maxRecDepth 100000
set_option maxHeartbeats 4000000
/-! ML8: calls of built-ins on data, slices, text methods. -/
namespace ML
open PySem PySem.Spec PyProof.Rows L2
section
variable {K : PySem.W.Frag} {W : WX}
def rLenA (K : PySem.W.Frag) : List V → Hp → VK → Prop := fun xs H Q => ∃ x n, xs = [x] ∧ LenV K x H n ∧ Q (.int n) H
def lenD : List D → Option Out
  | [.str x] => if x.length ≤ sizeLine then some (.v (.int x.length)) else none
  | [.list ds] => some (.v (.int ds.length))
  | [.tuple ds] => some (.v (.int ds.length))
  | _ => none
theorem RdVs.one {F H : Hp} {xs : List V} {d : D} (h : RdVs K F H xs [d]) : ∃ x, xs = [x] ∧ RdV K F H x d := by
  cases h with
  | cons h t => cases t; exact ⟨_, rfl, h⟩
theorem RdVs.two {F H : Hp} {xs : List V} {d e : D} (h : RdVs K F H xs [d, e]) : ∃ x y, xs = [x, y] ∧ RdV K F H x d ∧ RdV K F H y e := by
  cases h with
  | cons h t =>
    cases t with
    | cons h' t => cases t; exact ⟨_, _, rfl, h, h'⟩
theorem o_len : OpN K (rLenA K) lenD := by
  intro G F ρ σ H xs ds r Q R hx h k
  unfold lenD at h
  split at h
  · obtain ⟨x, rfl, h1⟩ := hx.one
    split at h
    · rename_i z
      cases h
      refine ⟨x, _, rfl, ?_, R.giv (.int _) k⟩
      rw [h1.str]; exact ⟨z, rfl⟩
    · cases h
  · obtain ⟨x, rfl, h1⟩ := hx.one
    cases h
    obtain ⟨a, vs, rfl, q1, q2⟩ := h1.list R.sub
    exact ⟨_, _, rfl, .inl ⟨vs, q1, q2.length.symm⟩, R.giv (.int _) k⟩
  · obtain ⟨x, rfl, h1⟩ := hx.one
    cases h
    obtain ⟨a, vs, rfl, q1, q2⟩ := h1.tup R.sub
    exact ⟨_, _, rfl, .inr ⟨vs, q1, q2.length.symm⟩, R.giv (.int _) k⟩
  · cases h
def absI (i : Int) : Int := if i < 0 then -i else i
def rAbs : List V → Hp → VK → Prop := fun xs H Q => ∃ i, xs = [.int i] ∧ Q (.int (if i < 0 then -i else i)) H
def absD : List D → Option Out
  | [.int i] => some (.v (.int (absI i)))
  | _ => none
theorem o_abs : OpN K rAbs absD := by
  intro G F ρ σ H xs ds r Q R hx h k
  unfold absD at h
  split at h
  · obtain ⟨x, rfl, h1⟩ := hx.one
    cases h
    exact ⟨_, by rw [h1.int], R.giv (.int _) k⟩
  · cases h
def rIntA : List V → Hp → VK → Prop := fun xs H Q => (∃ i, xs = [.int i] ∧ Q (.int i) H) ∨ ∃ k, xs = [.bl k] ∧ Q (.int (if k then 1 else 0)) H
def intD : List D → Option Out
  | [.int i] => some (.v (.int i))
  | [.bool b] => some (.v (.int (if b then 1 else 0)))
  | _ => none
theorem o_int : OpN K rIntA intD := by
  intro G F ρ σ H xs ds r Q R hx h k
  unfold intD at h
  split at h
  · obtain ⟨x, rfl, h1⟩ := hx.one
    cases h
    exact .inl ⟨_, by rw [h1.int], R.giv (.int _) k⟩
  · obtain ⟨x, rfl, h1⟩ := hx.one
    cases h
    exact .inr ⟨_, by rw [h1.bl], R.giv (.int _) k⟩
  · cases h
def rListA (K : PySem.W.Frag) : List V → Hp → VK → Prop := fun xs H Q => ∃ p ys, xs = [.ref p] ∧ (SqL K H p ys ∨ SqT K H p ys) ∧ ∀ l, H l = none → Q (.ref l) (upd H l (.lst ys))
def listD : List D → Option Out
  | [.list ds] => some (.fr ds)
  | [.tuple ds] => some (.fr ds)
  | _ => none
theorem o_list : OpN K (rListA K) listD := by
  intro G F ρ σ H xs ds r Q R hx h k
  unfold listD at h
  split at h
  · obtain ⟨x, rfl, h1⟩ := hx.one
    cases h
    obtain ⟨a, vs, rfl, q1, q2⟩ := h1.list R.sub
    exact ⟨a, vs, rfl, .inl q1, R.newLst q2 k⟩
  · obtain ⟨x, rfl, h1⟩ := hx.one
    cases h
    obtain ⟨a, vs, rfl, q1, q2⟩ := h1.tup R.sub
    exact ⟨a, vs, rfl, .inr q1, R.newLst q2 k⟩
  · cases h
def rTupA (K : PySem.W.Frag) : List V → Hp → VK → Prop := fun xs H Q => ∃ p ys, xs = [.ref p] ∧ ((SqL K H p ys ∧ ∀ l, H l = none → Q (.ref l) (upd H l (.tup ys))) ∨ (SqT K H p ys ∧ Q (.ref p) H))
def tupD : List D → Option Out
  | [.list ds] => some (.v (.tuple ds))
  | [.tuple ds] => some (.v (.tuple ds))
  | _ => none
theorem o_tup : OpN K (rTupA K) tupD := by
  intro G F ρ σ H xs ds r Q R hx h k
  unfold tupD at h
  split at h
  · obtain ⟨x, rfl, h1⟩ := hx.one
    cases h
    obtain ⟨a, vs, rfl, q1, q2⟩ := h1.list R.sub
    exact ⟨a, vs, rfl, .inl ⟨q1, R.newTup q2 k⟩⟩
  · obtain ⟨x, rfl, h1⟩ := hx.one
    cases h
    have f1 := h1.tupF
    obtain ⟨a, vs, rfl, q1, q2⟩ := h1.tup R.sub
    exact ⟨a, vs, rfl, .inr ⟨q1, R.giv f1 k⟩⟩
  · cases h
def boolsOf : List D → Option (List Bool)
  | [] => some []
  | .bool b :: ds => (boolsOf ds).map (b :: ·)
  | _ => none
theorem boolsOf_ok {F : Hp} : ∀ {vs : List V} {ds : List D} {bs : List Bool}, Rps K F vs ds → boolsOf ds = some bs → vs = bs.map V.bl
  | [], _, bs, .nil, e => by cases e; rfl
  | v :: vs, d :: ds, bs, .cons r t, e => by
    cases d with
    | bool b =>
      unfold boolsOf at e
      cases q : boolsOf ds with
      | none => rw [q] at e; cases e
      | some cs =>
        rw [q] at e
        cases e
        cases r
        rw [boolsOf_ok t q]; rfl
    | _ => cases e
def allD : List D → Option Out
  | [.list ds] => (boolsOf ds).map fun bs => .v (.bool (bs.all id))
  | _ => none
def anyD : List D → Option Out
  | [.list ds] => (boolsOf ds).map fun bs => .v (.bool (bs.any id))
  | _ => none
theorem o_all : OpN K (rAll K) allD := by
  intro G F ρ σ H xs ds r Q R hx h k
  unfold allD at h
  split at h
  · rename_i ds
    obtain ⟨x, rfl, h1⟩ := hx.one
    cases q : boolsOf ds with
    | none => rw [q] at h; cases h
    | some bs =>
      rw [q] at h
      cases h
      obtain ⟨a, vs, rfl, q1, q2⟩ := h1.list R.sub
      exact ⟨a, bs, rfl, by rw [← boolsOf_ok q2 q]; exact q1, R.giv (.bl _) k⟩
  · cases h
theorem o_any : OpN K (rAny K) anyD := by
  intro G F ρ σ H xs ds r Q R hx h k
  unfold anyD at h
  split at h
  · rename_i ds
    obtain ⟨x, rfl, h1⟩ := hx.one
    cases q : boolsOf ds with
    | none => rw [q] at h; cases h
    | some bs =>
      rw [q] at h
      cases h
      obtain ⟨a, vs, rfl, q1, q2⟩ := h1.list R.sub
      exact ⟨a, bs, rfl, by rw [← boolsOf_ok q2 q]; exact q1, R.giv (.bl _) k⟩
  · cases h
/-! ### isinstance(x, T), T a built-in type -/
def tyN : D → String
  | .none => "NoneType"
  | .bool _ => "bool"
  | .int _ => "int"
  | .str _ => "str"
  | .list _ => "list"
  | .tuple _ => "tuple"
  | .dict _ => "dict"
inductive Tn where
  | int | bool | str | list | tuple
def Tn.s : Tn → String
  | .int => "int"
  | .bool => "bool"
  | .str => "str"
  | .list => "list"
  | .tuple => "tuple"
def isT : Tn → D → Bool
  | .int, .int _ => true
  | .int, .bool _ => true
  | .bool, .bool _ => true
  | .str, .str _ => true
  | .list, .list _ => true
  | .tuple, .tuple _ => true
  | _, _ => false
theorem isT_kit (T : Tn) (d : D) : kitB (tyN d) T.s = some (isT T d) := by
  cases T <;> cases d <;> (first | decide +kernel | rfl)
theorem RdV.tyX {F H : Hp} {v : V} {d : D} (s : Same F H) (h : RdV K F H v d) : TyX K H v (.type (tyN d)) := by
  cases d with
  | none => rw [h.non]; exact .base .non
  | bool b => rw [h.bl]; exact .base (.bl b)
  | int i => rw [h.int]; exact .base (.int i)
  | str x => rw [h.str]; exact .base (.str x)
  | list ds =>
    obtain ⟨a, vs, rfl, (h1 | ⟨o, h1⟩) | ⟨o, its, n, h1, h3, _⟩, h2⟩ := h.list s
    · exact .base (.lst h1)
    · exact .base (.frz h1)
    · exact .kList h1 h3
  | tuple ds =>
    obtain ⟨a, vs, rfl, (h1 | ⟨o, h1⟩) | ⟨o, its, n, h1, h3, _⟩, h2⟩ := h.tup s
    · exact .base (.tup h1)
    · exact .fTuple h1
    · exact .kTuple h1 h3
  | dict _ =>
    rcases h with h | ⟨_, _, _, _, e, _⟩
    · cases h
    · cases e
def mIsi (T : Tn) (m : ME) : ME := mUn (fun d => some (.v (.bool (isT T d)))) m
theorem sim_isi {T : Tn} {t : TE} {m : ME} (h : SimE K W t m) : SimE K W (tCB (rIsi K) (tCons t (tCons (tC (.ty T.s)) tNil))) (mIsi T m) := by
  intro G F ρ σ H Q R p e k
  rcases bnd_some e with ⟨r1, ρ1, h1, h2⟩ | ⟨x, ρ1, h1, rfl⟩
  · refine sim_hold h G F ρ σ H _ R _ h1 fun F1 v H1 s1 R1 o1 => ?_
    obtain ⟨r, h5, rfl⟩ := opt_some h2
    obtain ⟨d, q1, q3⟩ := rd1_some h5
    cases q3
    exact ⟨v, .ty T.s, .type (tyN d), .type T.s, isT T d, rfl, .ty _, (R1.rdV o1 q1).tyX R1.sub, kit_ty (isT_kit T d), k F1 _ H1 s1 R1 (.bl _)⟩
  · exact sim_hold h G F ρ σ H _ R _ h1 k
/-! ### slices -/
abbrev MO := Rh → Option (Ro (Option Int))
def PostO (K : PySem.W.Frag) (W : WX) (G : Gh) (F : Hp) (σ : St) (Q : Option Int → Hp → Prop) : Ro (Option Int) → Prop
  | .ok b ρ' => ∀ F' H', Same F F' → Rl K G F' ρ' σ H' → Q b H'
  | .er x ρ' => PostX K W G F σ x ρ'
def SimO (K : PySem.W.Frag) (W : WX) (t : TO) (m : MO) : Prop := ∀ (G : Gh) (F : Hp) (ρ : Rh) (σ : St) (H : Hp) (Q : Option Int → Hp → Prop), Rl K G F ρ σ H → ∀ o, m ρ = some o → PostO K W G F σ Q o → t σ H Q
def mNo : MO := fun ρ => some (.ok none ρ)
def intO (ρ : Rh) (r : Out) : Option Int := match rd ρ r with
  | some (.int i) => some i
  | _ => none
def mPart (m : ME) : MO := fun ρ => bnd (mHold m ρ) fun r ρ1 => opt ((intO ρ1 r).map some) ρ1
theorem sim_no : SimO K W tNoPart mNo := by
  intro G F ρ σ H Q R o h k
  cases h
  exact k F H (Same.refl _) R
theorem sim_part {t : TE} {m : ME} (h : SimE K W t m) : SimO K W (tPart t) (mPart m) := by
  intro G F ρ σ H Q R p e k
  rcases bnd_some e with ⟨r1, ρ1, h1, h2⟩ | ⟨x, ρ1, h1, rfl⟩
  · refine sim_hold h G F ρ σ H _ R _ h1 fun F1 v H1 s1 R1 o1 => ?_
    obtain ⟨r, h5, rfl⟩ := opt_some h2
    unfold intO at h5
    split at h5
    · rename_i i hi
      cases h5
      exact ⟨i, (R1.rdV o1 hi).int, k F1 H1 s1 R1⟩
    · cases h5
  · exact sim_hold h G F ρ σ H _ R _ h1 k
def cutD (ds : List D) (lo hi : Option Int) : List D := (ds.drop (HT.sIx ds.length 0 lo)).take (HT.sIx ds.length ds.length hi - HT.sIx ds.length 0 lo)
theorem cutD_whole {ds : List D} {lo hi : Option Int} (h1 : HT.sIx ds.length 0 lo = 0) (h2 : HT.sIx ds.length ds.length hi = ds.length) : cutD ds lo hi = ds := by
  unfold cutD
  rw [h1, h2, List.drop_zero, Nat.sub_zero, List.take_length]
def slD : D → Option Int → Option Int → Option Out
  | .list ds, lo, hi => some (.fr (cutD ds lo hi))
  | .tuple ds, lo, hi => some (.v (.tuple (cutD ds lo hi)))
  | .str z, lo, hi => if z.length ≤ sizeLine then some (.v (.str (cutS z lo hi))) else none
  | _, _, _ => none
theorem cut_rps {F : Hp} {vs : List V} {ds : List D} (h : Rps K F vs ds) (lo hi : Option Int) : Rps K F (cutV vs lo hi) (cutD ds lo hi) := by
  unfold cutV cutD
  rw [h.length]
  exact (h.drop _).take _
def rSlAll (K : PySem.W.Frag) : V → Option Int → Option Int → Hp → VK → Prop := fun x lo hi H Q => rSlL K x lo hi H Q ∨ rSlA K x lo hi H Q ∨ rSlS x lo hi H Q
theorem sl_all {X : Cx} : SlR X (rSlAll X.K) := sl_list.or (sl_tupA.or sl_str)
def sl3 (ρ : Rh) (r : Out) (lo hi : Option Int) : Option Out := match rd ρ r with
  | some d => slD d lo hi
  | none => none
def mSl (m : ME) (a b : MO) : ME := fun ρ => bnd (mHold m ρ) fun r ρ1 => bnd (a ρ1) fun lo ρ2 => bnd (b ρ2) fun hi ρ3 => opt (sl3 ρ3 r lo hi) ρ3
theorem sim_sl {t : TE} {m : ME} {ta tb : TO} {a b : MO} (h : SimE K W t m) (ha : SimO K W ta a) (hb : SimO K W tb b) : SimE K W (tSl (rSlAll K) t ta tb) (mSl m a b) := by
  intro G F ρ σ H Q R p e k
  rcases bnd_some e with ⟨r1, ρ1, h1, e⟩ | ⟨x, ρ1, h1, rfl⟩
  · refine sim_hold h G F ρ σ H _ R _ h1 fun F1 v H1 s1 R1 o1 => ?_
    rcases bnd_some e with ⟨lo, ρ2, h2, e⟩ | ⟨x, ρ2, h2, rfl⟩
    · refine ha G F1 ρ1 σ H1 _ R1 _ h2 fun F2 H2 s2 R2 => ?_
      rcases bnd_some e with ⟨hi, ρ3, h3, e⟩ | ⟨x, ρ3, h3, rfl⟩
      · refine hb G F2 ρ2 σ H2 _ R2 _ h3 fun F3 H3 s3 R3 => ?_
        obtain ⟨r, h5, rfl⟩ := opt_some e
        have s13 := (s1.trans s2).trans s3
        have o1' : OutOk K G F3 ρ3 σ H3 v r1 := o1.held (s2.trans s3) (mHold_noFr h1)
        unfold sl3 at h5
        cases q : rd ρ3 r1 with
        | none => rw [q] at h5; cases h5
        | some d =>
          rw [q] at h5
          have rv := R3.rdV o1' q
          have k' : ∀ F' v H', Same F3 F' → Rl K G F' ρ3 σ H' → OutOk K G F' ρ3 σ H' v r → Q v H' := fun F' v H' s' R' o' => k F' v H' (s13.trans s') R' o'
          simp only at h5
          unfold slD at h5
          split at h5
          · cases h5
            obtain ⟨a, vs, rfl, q1, q2⟩ := rv.list R3.sub
            exact .inl ⟨a, vs, rfl, q1, R3.newLst (cut_rps q2 _ _) k'⟩
          · cases h5
            have f1 := rv.tupF
            obtain ⟨a, vs, rfl, q1, q2⟩ := rv.tup R3.sub
            refine .inr (.inl ⟨a, vs, rfl, q1, fun z => ?_, fun _ => R3.newTup (cut_rps q2 _ _) k'⟩)
            rw [q2.length] at z
            rw [cutD_whole z.1 z.2] at k'
            exact R3.giv f1 k'
          · split at h5
            · rename_i hz
              cases h5
              exact .inr (.inr ⟨_, rv.str, hz, R3.giv (.str _) k'⟩)
            · cases h5
          · cases h5
      · exact hb G F2 ρ2 σ H2 _ R2 _ h3 (PostX.mono k (s1.trans s2))
    · exact ha G F1 ρ1 σ H1 _ R1 _ h2 (PostX.mono k s1)
  · exact sim_hold h G F ρ σ H _ R _ h1 k
/-! ### sep.join(xs) -/
def strsOf : List D → Option (List Str)
  | [] => some []
  | .str b :: ds => (strsOf ds).map (b :: ·)
  | _ => none
theorem strsOf_ok {F : Hp} : ∀ {vs : List V} {ds : List D} {bs : List Str}, Rps K F vs ds → strsOf ds = some bs → vs = bs.map V.str
  | [], _, bs, .nil, e => by cases e; rfl
  | v :: vs, d :: ds, bs, .cons r t, e => by
    cases d with
    | str b =>
      unfold strsOf at e
      cases q : strsOf ds with
      | none => rw [q] at e; cases e
      | some cs =>
        rw [q] at e
        cases e
        cases r
        rw [strsOf_ok t q]; rfl
    | _ => cases e
def joinD (a : D) (b : D) : Option Out := match a, b with
  | .str a, .list ds => (match strsOf ds with
    | some ys => if (ys.map (·.length)).sum + ys.length * a.length ≤ 16777216 then some (.v (.str (Txt.join a ys))) else none
    | none => none)
  | _, _ => none
def rJoin (K : PySem.W.Frag) : V → List V → Hp → VK → Prop := fun x xs H Q => ∃ a p, ∃ ys : List Str, x = .str a ∧ xs = [.ref p] ∧ (SqL K H p (ys.map V.str) ∨ SqT K H p (ys.map V.str)) ∧
      (ys.map (·.length)).sum + ys.length * a.length ≤ 16777216 ∧ Q (.str (Txt.join a ys)) H
/-- a method of a text with one argument -/
def OpM1 (K : PySem.W.Frag) (rop : V → List V → Hp → VK → Prop) (f : D → D → Option Out) : Prop := ∀ (G : Gh) (F : Hp) (ρ : Rh) (σ : St) (H : Hp) (x y : V) (d e : D) (r : Out) (Q : VK), Rl K G F ρ σ H → RdV K F H x d → RdV K F H y e → f d e = some r →
  (∀ F' v H', Same F F' → Rl K G F' ρ σ H' → OutOk K G F' ρ σ H' v r → Q v H') → rop x [y] H Q
def strO (ρ : Rh) (r : Out) : Option Str := match rd ρ r with
  | some (.str z) => some z
  | _ => none
def mMs (f : D → D → Option Out) (mo ma : ME) : ME := fun ρ => bnd (mHold mo ρ) fun r1 ρ1 => bnd (opt (strO ρ1 r1) ρ1) fun z ρ1 => bnd (mHold ma ρ1) fun r2 ρ2 => opt (rd1 (f (.str z)) ρ2 r2) ρ2
theorem sim_ms {rop : V → List V → Hp → VK → Prop} {f : D → D → Option Out} {to te : TE} {mo ma : ME} (o : OpM1 K rop f) (h : SimE K W to mo) (ha : SimE K W te ma) : SimE K W (tM1 rop to te) (mMs f mo ma) := by
  intro G F ρ σ H Q R p e k
  rcases bnd_some e with ⟨r1, ρ1, h1, e⟩ | ⟨x, ρ1, h1, rfl⟩
  · refine sim_hold h G F ρ σ H _ R _ h1 fun F1 v H1 s1 R1 o1 => ?_
    rcases bnd_some e with ⟨z, ρ1', h2, e⟩ | ⟨x, ρ2, h2, rfl⟩
    · obtain ⟨z', h2', e2⟩ := opt_some h2
      cases e2
      unfold strO at h2'
      split at h2'
      · rename_i zz hz
        cases h2'
        have ez := (R1.rdV o1 hz).str
        refine ⟨⟨_, ez⟩, ?_⟩
        rcases bnd_some e with ⟨r2, ρ2, h3, e⟩ | ⟨x, ρ3, h3, rfl⟩
        · refine sim_hold ha G F1 ρ1 σ H1 _ R1 _ h3 fun F2 w H2 s2 R2 o2 => ?_
          obtain ⟨r, h5, rfl⟩ := opt_some e
          obtain ⟨d, q1, q3⟩ := rd1_some h5
          exact o G F2 ρ2 σ H2 v w (.str z) d r Q R2 (by rw [ez]; exact .inl (.str _)) (R2.rdV o2 q1) q3 fun F' v H' s' R' o' => k F' v H' ((s1.trans s2).trans s') R' o'
        · exact sim_hold ha G F1 ρ1 σ H1 _ R1 _ h3 (PostX.mono k s1)
      · cases h2'
    · obtain ⟨_, _, e2⟩ := opt_some h2
      cases e2
  · exact sim_hold h G F ρ σ H _ R _ h1 k
theorem o_join : OpM1 K (rJoin K) joinD := by
  intro G F ρ σ H x y d e r Q R hx hy h k
  unfold joinD at h
  split at h
  · rename_i a ds
    cases q : strsOf ds with
    | none => rw [q] at h; cases h
    | some ys =>
      rw [q] at h
      simp only at h
      split at h
      · rename_i hz
        cases h
        obtain ⟨p, vs, rfl, q1, q2⟩ := hy.list R.sub
        exact ⟨a, p, ys, hx.str, rfl, .inl (by rw [← strsOf_ok q2 q]; exact q1), hz, R.giv (.str _) k⟩
      · cases h
  · cases h
/-! ### methods of lists that change them -/
def appD : List D → List D → Option (D × List D)
  | ds, [d] => if ds.length < sizeLine then some (.none, ds ++ [d]) else none
  | _, _ => none
theorem m_app : OpM K rAppend appD := by
  intro F H a vs ws ds args res ds' Q s hH rp rw' h k
  unfold appD at h
  split at h
  · split at h
    · rename_i hz
      cases h
      cases rw' with
      | cons r1 r2 =>
        cases r2
        exact ⟨a, vs, _, rfl, rfl, hH, by rw [rp.length]; exact hz, k _ _ .non (rp.append (.one r1))⟩
    · cases h
  · cases h
def popD : List D → List D → Option (D × List D)
  | ds, [] => (ds[ds.length - 1]?).map fun d => (d, ds.dropLast)
  | _, _ => none
theorem Rps.dropLast {F : Hp} {vs : List V} {ds : List D} (h : Rps K F vs ds) : Rps K F vs.dropLast ds.dropLast := by
  rw [List.dropLast_eq_take, List.dropLast_eq_take, h.length]
  exact h.take _
theorem m_pop : OpM K rPop popD := by
  intro F H a vs ws ds args res ds' Q s hH rp rw' h k
  unfold popD at h
  split at h
  · cases rw'
    cases q : ds[ds.length - 1]? with
    | none => rw [q] at h; cases h
    | some d =>
      rw [q] at h
      cases h
      obtain ⟨v, q1, q2⟩ := rp.get q
      exact ⟨a, vs, v, rfl, rfl, hH, by rw [rp.length]; exact q1, k _ _ q2 rp.dropLast⟩
  · cases h
end
end ML

set_option Elab.async false
set_option linter.all false
set_option maxRecDepth 100000
set_option maxHeartbeats 4000000
/-! ML9: one rule a construct: syntax and its mirror. -/
namespace ML
open PySem PySem.Spec PyProof.Rows L2
section
variable {X : Cx} {W : WX} {a b c e o : Expr} {es : List Expr} {ma mb mc m : ME} {pos p : Pos} {x : Str}
theorem me_var (i : Nat) (hN : X.N[i]? = some x := by rfl) (hv : Vis X.env.scope x := by first | exact Or.inl rfl | exact Or.inr (Or.inl rfl) | exact Or.inr (Or.inr rfl)) (hd : (x == ("__debug__" : Str)) = false := by decide)
    (hcd : (x == ("__classdict__" : Str)) = false := by decide) : MEx X W (.Name x pos) (mVar i) := ⟨_, pe_var hN hv hd hcd, sim_var i⟩
theorem me_int {i j} : MEx X W (.Constant (.int i) j pos) (mC (.int i)) := ⟨_, pe_int, sim_c fun _ => .int i⟩
theorem me_bl {i j} : MEx X W (.Constant (.bool i) j pos) (mC (.bool i)) := ⟨_, pe_bl, sim_c fun _ => .bl i⟩
theorem me_non {j} : MEx X W (.Constant .none j pos) (mC .none) := ⟨_, pe_non, sim_c fun _ => .non⟩
theorem me_str {i j} : MEx X W (.Constant (.str i) j pos) (mC (.str i)) := ⟨_, pe_str, sim_c fun _ => .str i⟩
/-- a module's constant that is no list -/
theorem me_glob {v : V} {u : Value} {d : D} (hm : X.mg x = some u) (r : RelV v u) (hd' : ∀ F, Rp X.K F v d) (hg : Gl X x := by rfl) (hd : (x == ("__debug__" : Str)) = false := by decide) : MEx X W (.Name x pos) (mC d) := ⟨_, pe_glob hg hm r hd, sim_c hd'⟩
/-! operators -/
theorem me_add (ha : MEx X W a ma) (hb : MEx X W b mb) : MEx X W (.BinOp a .Add b pos) (mBin addD ma mb) := let ⟨_, p1, s1⟩ := ha; let ⟨_, p2, s2⟩ := hb; ⟨_, pe_op op_addA p1 p2, sim_bin o_add s1 s2⟩
theorem me_sub (ha : MEx X W a ma) (hb : MEx X W b mb) : MEx X W (.BinOp a .Sub b pos) (mBin subD ma mb) := let ⟨_, p1, s1⟩ := ha; let ⟨_, p2, s2⟩ := hb; ⟨_, pe_op op_sub p1 p2, sim_bin o_sub s1 s2⟩
theorem me_mul (ha : MEx X W a ma) (hb : MEx X W b mb) : MEx X W (.BinOp a .Mult b pos) (mBin mulD ma mb) := let ⟨_, p1, s1⟩ := ha; let ⟨_, p2, s2⟩ := hb; ⟨_, pe_op op_mulA p1 p2, sim_bin o_mul s1 s2⟩
theorem me_mod (ha : MEx X W a ma) (hb : MEx X W b mb) : MEx X W (.BinOp a .Mod b pos) (mBin modD ma mb) := let ⟨_, p1, s1⟩ := ha; let ⟨_, p2, s2⟩ := hb; ⟨_, pe_op op_mod p1 p2, sim_bin o_mod s1 s2⟩
theorem me_fdiv (ha : MEx X W a ma) (hb : MEx X W b mb) : MEx X W (.BinOp a .FloorDiv b pos) (mBin fdivD ma mb) := let ⟨_, p1, s1⟩ := ha; let ⟨_, p2, s2⟩ := hb; ⟨_, pe_op op_fdiv p1 p2, sim_bin o_fdiv s1 s2⟩
theorem me_pow (ha : MEx X W a ma) (hb : MEx X W b mb) : MEx X W (.BinOp a .Pow b pos) (mBin powD ma mb) := let ⟨_, p1, s1⟩ := ha; let ⟨_, p2, s2⟩ := hb; ⟨_, pe_op op_pow p1 p2, sim_bin o_pow s1 s2⟩
/-! comparisons: by the operator's rule and its reading of data -/
structure CmpM (X : Cx) (op : CmpOp) (f : D → D → Option Bool) : Prop where
  ex : ∃ r, OpR X (compareOp op) r ∧ Op2B X.K r f
theorem c_lt : CmpM X .Lt ltB := ⟨_, op_ltA, o_lt⟩
theorem c_le : CmpM X .LtE leB := ⟨_, op_leA, o_le⟩
theorem c_gt : CmpM X .Gt gtB := ⟨_, op_gtA, o_gt⟩
theorem c_ge : CmpM X .GtE geB := ⟨_, op_geA, o_ge⟩
theorem c_eq (hu : X.A.units + 64 < cLine) : CmpM X .Eq eqB := ⟨_, op_eqD hu, o_eq⟩
theorem c_ne (hu : X.A.units + 64 < cLine) : CmpM X .NotEq neB := ⟨_, op_neD hu, o_ne⟩
theorem c_in (hu : X.A.units + 65 < cLine) : CmpM X .In inD := ⟨_, op_inA hu, o_in⟩
theorem c_nin (hu : X.A.units + 65 < cLine) : CmpM X .NotIn ninD := ⟨_, op_ninA hu, o_nin⟩
theorem c_isN : CmpM X .Is isNB := ⟨_, op_isN, o_isN⟩
theorem c_notN : CmpM X .IsNot notNB := ⟨_, op_notN, o_notN⟩
theorem c_isC : CmpM X .Is isCB := ⟨_, op_isC, o_isC⟩
def mCmp (f : D → D → Option Bool) (ma mb : ME) : ME := mBin (bo f) ma mb
theorem me_cmp {op : CmpOp} {f : D → D → Option Bool} (h : CmpM X op f) (ha : MEx X W a ma) (hb : MEx X W b mb) (hm : behindInMarks op b = false := by first | exact nomark _ | rfl) : MEx X W (.Compare a [op] [b] pos) (mCmp f ma mb) :=
  let ⟨_, p1, s1⟩ := ha; let ⟨_, p2, s2⟩ := hb; let ⟨_, p3, s3⟩ := h; ⟨_, pe_cmpR p3 p1 p2 hm, sim_bin s3 s1 s2⟩
theorem mt_cmp {op : CmpOp} {f : D → D → Option Bool} (h : CmpM X op f) (ha : MEx X W a ma) (hb : MEx X W b mb) (hm : behindInMarks op b = false := by first | exact nomark _ | rfl) : MTx X W (.Compare a [op] [b] pos) (mB (mCmp f ma mb)) :=
  let ⟨_, p1, s1⟩ := ha; let ⟨_, p2, s2⟩ := hb; let ⟨_, p3, s3⟩ := h; ⟨_, pt_cmpR p3 p1 p2 hm, sim_b (sim_bin s3 s1 s2)⟩
theorem me_chain {op op' : CmpOp} {f g : D → D → Option Bool} (h : CmpM X op f) (h' : CmpM X op' g) (ha : MEx X W a ma) (hb : MEx X W b mb) (hc : MEx X W c mc) (hm : lastMarks [op, op'] [b, c] = false := by with_unfolding_all rfl) : MEx X W (.Compare a [op, op'] [b, c] pos) (mChain f g ma mb mc) :=
  let ⟨_, p1, s1⟩ := ha; let ⟨_, p2, s2⟩ := hb; let ⟨_, p3, s3⟩ := hc; let ⟨_, p4, s4⟩ := h; let ⟨_, p5, s5⟩ := h'; ⟨_, pe_chain p4 p5 p1 p2 p3 hm, sim_chain s4 s5 s1 s2 s3⟩
theorem mt_chain {op op' : CmpOp} {f g : D → D → Option Bool} (h : CmpM X op f) (h' : CmpM X op' g) (ha : MEx X W a ma) (hb : MEx X W b mb) (hc : MEx X W c mc) (hm : lastMarks [op, op'] [b, c] = false := by with_unfolding_all rfl) : MTx X W (.Compare a [op, op'] [b, c] pos) (mB (mChain f g ma mb mc)) :=
  let ⟨_, p1, s1⟩ := ha; let ⟨_, p2, s2⟩ := hb; let ⟨_, p3, s3⟩ := hc; let ⟨_, p4, s4⟩ := h; let ⟨_, p5, s5⟩ := h'; ⟨_, pt_chain p4 p5 p1 p2 p3 hm, sim_b (sim_chain s4 s5 s1 s2 s3)⟩
/-! and, or, not -/
theorem me_one {op} (h : MEx X W a m) : MEx X W (.BoolOp op [a] pos) m := let ⟨_, p1, s1⟩ := h; ⟨_, pe_one p1, s1⟩
theorem me_and {rest : List Expr} (ha : MEx X W a ma) (hb : MEx X W (.BoolOp .And (b :: rest) pos) mb) : MEx X W (.BoolOp .And (a :: b :: rest) pos) (mAndV ma mb) := let ⟨_, p1, s1⟩ := ha; let ⟨_, p2, s2⟩ := hb; ⟨_, pe_and p1 p2, sim_andV s1 s2⟩
theorem me_or {rest : List Expr} (ha : MEx X W a ma) (hb : MEx X W (.BoolOp .Or (b :: rest) pos) mb) : MEx X W (.BoolOp .Or (a :: b :: rest) pos) (mOrV ma mb) := let ⟨_, p1, s1⟩ := ha; let ⟨_, p2, s2⟩ := hb; ⟨_, pe_or p1 p2, sim_orV s1 s2⟩
theorem me_not (ha : MEx X W a ma) : MEx X W (.UnaryOp .Not a pos) (mNotV ma) := let ⟨_, p1, s1⟩ := ha; ⟨_, pe_not p1, sim_notV s1⟩
/-- -n -/
def negD : D → Option Out
  | .int i => some (.v (.int (-i)))
  | _ => none
theorem o_neg {K : PySem.W.Frag} : Op1 K (rU fun i => .int (-i)) negD := by
  intro G F ρ σ H x d r Q R hx h k
  unfold negD at h
  split at h
  · cases h
    exact ⟨_, hx.int, R.giv (.int _) k⟩
  · cases h
theorem me_neg (ha : MEx X W a ma) : MEx X W (.UnaryOp .USub a pos) (mUn negD ma) := let ⟨_, p1, s1⟩ := ha; ⟨_, pe_un un_neg p1, sim_un o_neg s1⟩
section
variable {rest : List Expr} {ta tb : MT}
theorem mt_val (h : MEx X W e m) (he : ∀ whole, isTrue e X.env whole = (do let v ← whole; standAt e.pos; holding [v] (truthy v)) := by intro _; rfl) : MTx X W e (mB m) := let ⟨_, p1, s1⟩ := h; ⟨_, pt_val p1 he, sim_b s1⟩
theorem mt_tru (h : MEx X W e m) (he : ∀ whole, isTrue e X.env whole = (do let v ← whole; standAt e.pos; holding [v] (truthy v)) := by intro _; rfl) : MTx X W e (mTru m) := let ⟨_, p1, s1⟩ := h; ⟨_, pt_truth p1 he, sim_tru s1⟩
theorem mt_not (h : MTx X W a ta) : MTx X W (.UnaryOp .Not a pos) (mNot ta) := let ⟨_, p1, s1⟩ := h; ⟨_, pt_not p1, sim_not s1⟩
theorem mw_and1 (h : MTx X W a ta) : MWx X W (.BoolOp .And [a] pos) ta := let ⟨_, p1, s1⟩ := h; ⟨_, pw_and1 p1, s1⟩
theorem mw_or1 (h : MTx X W a ta) : MWx X W (.BoolOp .Or [a] pos) ta := let ⟨_, p1, s1⟩ := h; ⟨_, pw_or1 p1, s1⟩
theorem mw_and (h : MTx X W a ta) (h' : MWx X W (.BoolOp .And (b :: rest) pos) tb) : MWx X W (.BoolOp .And (a :: b :: rest) pos) (mAnd ta tb) := let ⟨_, p1, s1⟩ := h; let ⟨_, p2, s2⟩ := h'; ⟨_, pw_and p1 p2, sim_and s1 s2⟩
theorem mw_or (h : MTx X W a ta) (h' : MWx X W (.BoolOp .Or (b :: rest) pos) tb) : MWx X W (.BoolOp .Or (a :: b :: rest) pos) (mOr ta tb) := let ⟨_, p1, s1⟩ := h; let ⟨_, p2, s2⟩ := h'; ⟨_, pw_or p1 p2, sim_or s1 s2⟩
theorem mt_w (h : MWx X W e ta) : MTx X W e ta := let ⟨_, p1, s1⟩ := h; ⟨_, p1.pt, s1⟩
theorem me_if {tc : MT} (hc : MTx X W c tc) (ha : MEx X W a ma) (hb : MEx X W b mb) : MEx X W (.IfExp c a b pos) (mIf tc ma mb) := let ⟨_, p1, s1⟩ := hc; let ⟨_, p2, s2⟩ := ha; let ⟨_, p3, s3⟩ := hb; ⟨_, pe_ifExp p1 p2 p3, sim_if s1 s2 s3⟩
end
/-! argument lists, displays -/
section
variable {A : MA} {k : Nat}
theorem ma_nil : MAx X W [] aNil := ⟨_, pa_nil, sim_anil⟩
theorem ma_cons (h : MEx X W e m) (hr : MAx X W es A) (hs : starEach (e :: es) X.env = (false, eval e X.env) :: starEach es X.env := by rfl) : MAx X W (e :: es) (aCons m A) := let ⟨_, p1, s1⟩ := h; let ⟨_, p2, s2⟩ := hr; ⟨_, pa_cons p1 p2 hs, sim_acons s1 s2⟩
/-- an argument that is data from now on -/
theorem mf (h : MEx X W e m) : MEx X W e (mFrz m) := let ⟨_, p1, s1⟩ := h; ⟨_, p1, sim_frz s1⟩
theorem me_tup {x1} (h : MAx X W es A) : MEx X W (.Tuple es x1 pos) (mTup A) := let ⟨_, p1, s1⟩ := h; ⟨_, pe_tup p1, sim_tup s1⟩
theorem me_lst (h : MAx X W es A) : MEx X W (.List es pos) (mLst A) := let ⟨_, p1, s1⟩ := h; ⟨_, pe_lst p1, sim_lst s1⟩
/-! subscripts, slices -/
theorem me_ix (ha : MEx X W a ma) (hb : MEx X W b mb) (hs : PlainIx b := by exact fun _ _ => rfl) : MEx X W (.Subscript a b pos) (mBin ixD ma mb) := let ⟨_, p1, s1⟩ := ha; let ⟨_, p2, s2⟩ := hb; ⟨_, pe_ix ix_seq p1 p2 hs, sim_bin o_ix s1 s2⟩
structure MOx (X : Cx) (W : WX) (e : Option Expr) (m : MO) : Prop where
  ex : ∃ t, PO X e t ∧ SimO X.K W t m
theorem mo_no : MOx X W none mNo := ⟨_, po_none, sim_no⟩
theorem mo_some (h : MEx X W e m) : MOx X W (some e) (mPart m) := let ⟨_, p1, s1⟩ := h; ⟨_, po_some p1, sim_part s1⟩
theorem me_sl {lo hi : Option Expr} {p2 : Pos} {A B : MO} (h : MEx X W e m) (hl : MOx X W lo A) (hu : MOx X W hi B) : MEx X W (.Subscript e (.Slice lo hi none p2) pos) (mSl m A B) := let ⟨_, p1, s1⟩ := h; let ⟨_, q1, s2⟩ := hl; let ⟨_, q2, s3⟩ := hu; ⟨_, pe_slice sl_all p1 q1 q2, sim_sl s1 s2 s3⟩
/-! calls of built-ins -/
structure CallM (X : Cx) (f : Value) (g : List D → Option Out) : Prop where
  ex : ∃ r, CallR X f r ∧ OpN X.K r g
theorem cb_len : CallM X (.builtin "len") lenD := ⟨_, call_len, o_len⟩
theorem cb_abs : CallM X (.builtin "abs") absD := ⟨_, call_abs, o_abs⟩
theorem cb_all (hc : X.calm = true) : CallM X (.builtin "all") allD := ⟨_, cr_all hc, o_all⟩
theorem cb_any (hc : X.calm = true) : CallM X (.builtin "any") anyD := ⟨_, cr_any hc, o_any⟩
theorem ct_int : CallM X (.type "int") intD := ⟨_, call_int1, o_int⟩
theorem ct_list : CallM X (.type "list") listD := ⟨_, call_list_of, o_list⟩
theorem ct_tup : CallM X (.type "tuple") tupD := ⟨_, call_tuple_of, o_tup⟩
theorem me_cb {id : String} {g : List D → Option Out} (hc : CallM X (.builtin id) g) (hv : bootBuiltins x = some (.builtin id)) (hm : X.mg x = none) (ha : MAx X W (e :: es) A) (hg : Gl X x := by rfl) (hn : x ≠ "__name__" := by decide) (hdb : (x == ("__debug__" : Str)) = false := by decide)
    (he : starEach (e :: es) X.env = (false, eval e X.env) :: starEach es X.env := by rfl) (hpl : (backTo pos (starEach es X.env)).any (·.1) = false := by rfl) : MEx X W (.Call (.Name x p) (e :: es) [] pos) (mCB g A) := let ⟨_, p1, s1⟩ := hc; let ⟨_, p2, s2⟩ := ha; ⟨_, pe_callB p1 hg hm hv p2 hn hdb he hpl, sim_cb s1 s2⟩
theorem me_ct {T : String} {g : List D → Option Out} (hc : CallM X (.type T) g) (hv : bootBuiltins x = some (.type T)) (hm : X.mg x = none) (ha : MAx X W (e :: es) A) (hg : Gl X x := by rfl) (hn : x ≠ "__name__" := by decide) (hdb : (x == ("__debug__" : Str)) = false := by decide)
    (he : starEach (e :: es) X.env = (false, eval e X.env) :: starEach es X.env := by rfl) (hpl : (backTo pos (starEach es X.env)).any (·.1) = false := by rfl) : MEx X W (.Call (.Name x p) (e :: es) [] pos) (mCB g A) := let ⟨_, p1, s1⟩ := hc; let ⟨_, p2, s2⟩ := ha; ⟨_, pe_callTy p1 hg hm hv p2 hn hdb he hpl, sim_cb s1 s2⟩
/-- isinstance(e, T) -/
theorem me_isi (T : Tn) {y : Str} {p2 : Pos} (hv : bootBuiltins y = some (.type T.s)) (hm : X.mg "isinstance" = none) (hmT : X.mg y = none) (h : MEx X W e m) (hg : Gl X "isinstance" := by rfl) (hgT : Gl X y := by rfl) (hn : y ≠ "__name__" := by decide) (hdT : (y == ("__debug__" : Str)) = false := by decide)
    (he : starEach (e :: [.Name y p2]) X.env = (false, eval e X.env) :: starEach [.Name y p2] X.env := by rfl) (he2 : starEach [.Name y p2] X.env = (false, eval (.Name y p2) X.env) :: starEach [] X.env := by rfl) (hpl : (backTo pos (starEach [.Name y p2] X.env)).any (·.1) = false := by rfl) :
    MEx X W (.Call (.Name "isinstance" p) [e, .Name y p2] [] pos) (mIsi T m) := let ⟨_, p1, s1⟩ := h; ⟨_, pe_callB call_isi hg hm (by decide +kernel) (pa_cons p1 (pa_cons (pe_bltn hgT hmT hv (show RelV (.ty T.s) (.type T.s) from rfl) hn hdT) pa_nil he2) he) (by decide) (by decide) he hpl, sim_isi s1⟩
/-- sep.join(e) -/
theorem me_join {apos : Pos} (ho : MEx X W o ma) (h : MEx X W e m) (hs : starEach [e] X.env = [(false, eval e X.env)] := by rfl) (hbase : attributeBase o "join" X.env (eval o X.env) = eval o X.env := by rfl) (hline : (apos.endLine == pos.line) = true := by rfl) :
    MEx X W (.Call (.Attribute o "join" apos) [e] [] pos) (mMs joinD ma m) := let ⟨_, p1, s1⟩ := ho; let ⟨_, p2, s2⟩ := h; ⟨_, pe_join p1 p2 hs hbase hline, sim_ms o_join s1 s2⟩
end
/-! methods of a list in a slot -/
section
variable {A : MA}
theorem me_app {j : Nat} {y : Str} {p2 apos : Pos} (ha : MAx X W (e :: es) A) (hN : X.N[j]? = some y := by rfl) (hv : Vis X.env.scope y := by first | exact Or.inl rfl | exact Or.inr (Or.inl rfl) | exact Or.inr (Or.inr rfl)) (hd : (y == ("__debug__" : Str)) = false := by decide) (hcd : (y == ("__classdict__" : Str)) = false := by decide)
    (hbase : attributeBase (.Name y p2) "append" X.env (eval (.Name y p2) X.env) = eval (.Name y p2) X.env := by rfl)
    (hfew : ((backTo pos (starEach (e :: es) X.env)).all (fun x => !x.1) && (backToKw pos (keywordEach [] X.env)).all (fun x => x.1.isSome)
      && decide ((e :: es).length + ([] : List Keyword).length + (if ([] : List Keyword).isEmpty then 0 else 1) < 30)) = true := by rfl)
    (hline : (apos.endLine == pos.line) = true := by rfl) (hs : starEach (e :: es) X.env = (false, eval e X.env) :: starEach es X.env := by rfl) (hplain : (backTo pos (starEach es X.env)).any (·.1) = false := by rfl) :
    MEx X W (.Call (.Attribute (.Name y p2) "append" apos) (e :: es) [] pos) (mMet appD j A) := let ⟨_, p1, s1⟩ := ha; ⟨_, pe_bm PySem.F.plainAttrs_list PySem.F.slot_list_append PySem.F.type_list_append mt_append (pe_var hN hv hd hcd) p1 hbase hfew hline hs hplain, sim_met m_app s1⟩
theorem me_pop {j : Nat} {y : Str} {p2 apos : Pos} (hN : X.N[j]? = some y := by rfl) (hv : Vis X.env.scope y := by first | exact Or.inl rfl | exact Or.inr (Or.inl rfl) | exact Or.inr (Or.inr rfl)) (hd : (y == ("__debug__" : Str)) = false := by decide) (hcd : (y == ("__classdict__" : Str)) = false := by decide)
    (hbase : attributeBase (.Name y p2) "pop" X.env (eval (.Name y p2) X.env) = eval (.Name y p2) X.env := by rfl) (hline : (apos.endLine == pos.line) = true := by rfl) :
    MEx X W (.Call (.Attribute (.Name y p2) "pop" apos) [] [] pos) (mMet0 popD j) := ⟨_, pe_bm0 PySem.F.plainAttrs_list PySem.F.slot_list_pop PySem.F.type_list_pop mt_pop (pe_var hN hv hd hcd) hbase hline, sim_met0 m_pop⟩
end
/-! calls of the text's defs -/
/-- a def of the text that is called by its name -/
structure Df (P : Program) (w : World) (K : PySem.W.Frag) (mg : Str → Option Value) (base : Heap) (x : Str) (k : Nat) (n : Nat) (f : MF) : Prop where
  ex : ∃ (a : Addr) (fd : FuncData) (ps : List Str), mg x = some (.ref a) ∧ PySem.W.keepIn K (.ref a) = true ∧ Binds K fd ps [] ∧ FnOk P w K mg base (L2.CX P w) k a fd ps (spM K n f)
theorem MAx.len : ∀ {es : List Expr} {A : MA}, True := fun {_ _} => trivial
def ALen (A : MA) (n : Nat) : Prop := ∀ ρ rs ρ', A ρ = some (.ok rs ρ') → rs.length = n
theorem al_nil : ALen aNil 0 := fun ρ rs ρ' h => by cases h; rfl
theorem al_cons {m : ME} {A : MA} {n : Nat} (h : ALen A n) : ALen (aCons m A) (n + 1) := fun ρ rs ρ' e => by
  rcases bnd_some e with ⟨r, ρ1, h1, h2⟩ | ⟨x, ρ1, h1, h2⟩
  · rcases bnd_some h2 with ⟨rs', ρ2, h3, h4⟩ | ⟨x, ρ2, h3, h4⟩
    · cases h4; rw [List.length_cons, h _ _ _ h3]
    · cases h4
  · cases h2
section
variable {A : MA} {k n : Nat} {f : MF}
theorem me_call (F : Df X.prog X.w X.K X.mg X.base x k n f) (hr : Room k X.A) (tk : Takes X W) (ha : MAx X W (e :: es) A) (hl : ALen A n := by exact al_cons (by repeat first | exact al_nil | apply al_cons)) (hg : Gl X x := by rfl) (hdb : (x == ("__debug__" : Str)) = false := by decide)
    (he : starEach (e :: es) X.env = (false, eval e X.env) :: starEach es X.env := by rfl) (hpl : (backTo pos (starEach es X.env)).any (·.1) = false := by rfl) : MEx X W (.Call (.Name x p) (e :: es) [] pos) (mCall f A) :=
  let ⟨_, p1, s1⟩ := ha; let ⟨_, _, _, m1, m2, m3, m4⟩ := F; ⟨_, pe_callSD m4 hr hg m1 m2 m3 .nil (fun σ => passAt tk σ) p1 hdb he hpl, sim_call s1 hl⟩
theorem me_callIo (F : Df X.prog X.w X.K X.mg X.base x k n f) (hr : Room k X.A) (tk : Takes X W) (ha : MAx X W (e :: es) A) (hl : ALen A n := by exact al_cons (by repeat first | exact al_nil | apply al_cons)) (hg : Gl X x := by rfl) (hdb : (x == ("__debug__" : Str)) = false := by decide)
    (he : starEach (e :: es) X.env = (false, eval e X.env) :: starEach es X.env := by rfl) (hpl : (backTo pos (starEach es X.env)).any (·.1) = false := by rfl) : MEx X W (.Call (.Name x p) (e :: es) [] pos) (mCallIo f A) :=
  let ⟨_, p1, s1⟩ := ha; let ⟨_, _, _, m1, m2, m3, m4⟩ := F; ⟨_, pe_callSD m4 hr hg m1 m2 m3 .nil (fun σ => passAt tk σ) p1 hdb he hpl, sim_callIo s1 hl⟩
end
/-! what is walked -/
section
variable {tg : Expr} {A : MA}
theorem mi_list (h : MEx X W e m) : MIx X W tg e (iL m) := let ⟨_, p1, s1⟩ := h; ⟨_, pi_list p1, sim_il s1⟩
theorem mi_tup (h : MEx X W e m) : MIx X W tg e (iT m) := let ⟨_, p1, s1⟩ := h; ⟨_, pi_tup p1, sim_it s1⟩
theorem mi_rng1 (hm : X.mg "range" = none) (ha : MAx X W [a] A) (hg : Gl X "range" := by rfl) (hs : starEach [a] X.env = [(false, eval a X.env)] := by rfl) : MIx X W tg (.Call (.Name "range" p) [a] [] pos) (iR1 A) := let ⟨_, p1, s1⟩ := ha; ⟨_, pi_range1 hg hm p1 hs, sim_ir1 s1⟩
theorem mi_rng2 (hm : X.mg "range" = none) (ha : MAx X W [a, b] A) (hg : Gl X "range" := by rfl) (hs : starEach [a, b] X.env = [(false, eval a X.env), (false, eval b X.env)] := by rfl) (hs2 : starEach [b] X.env = [(false, eval b X.env)] := by rfl) : MIx X W tg (.Call (.Name "range" p) [a, b] [] pos) (iR2 A) := let ⟨_, p1, s1⟩ := ha; ⟨_, pi_range2 hg hm p1 hs hs2, sim_ir2 s1⟩
end
end
end ML

set_option Elab.async false
set_option linter.all false
set_option maxRecDepth 100000
set_option maxHeartbeats 4000000
/-! ML10: loops over anything, statements, comprehensions, defs: one rule a construct. -/
namespace ML
open PySem PySem.Spec PyProof.Rows L2
section
variable {K : PySem.W.Frag} {W : WX}
def chD (z : Str) : List D := z.cps.toList.map fun c => PyData.str ⟨#[c]⟩
theorem itOk_str {F : Hp} {z : Str} : ItOk K F (Its z) (chD z) := by
  intro i
  have hl : (chD z).length = z.cps.size := by unfold chD; rw [List.length_map, Array.length_toList]
  refine ⟨fun hi H s => by rw [hl] at hi; exact hi, fun d hd H s => ?_⟩
  have hi : i < z.cps.size := by rw [← hl]; exact (List.getElem?_eq_some_iff.mp hd).1
  refine ⟨hi, fun x H' y G F1 ρ σ s1 R => ?_⟩
  obtain ⟨rfl, c, e1, rfl⟩ := y
  unfold chD at hd
  rw [List.getElem?_map, Array.getElem?_toList, e1] at hd
  cases hd
  exact ⟨F1, Same.refl _, R, .str _⟩
/-- a list, a tuple, a text -/
def iA (m : ME) : MI := fun ρ => bnd (mFrz m ρ) fun r ρ1 => match r with
  | .v (.list ds) => some (.ok ds ρ1)
  | .v (.tuple ds) => some (.ok ds ρ1)
  | .v (.str z) => some (.ok (chD z) ρ1)
  | _ => none
def iAny (K : PySem.W.Frag) (te : TE) : TI := fun σ H R => te σ H fun v H1 => (∃ a, v = .ref a ∧ (∃ xs, SqL K H1 a xs) ∧ R (Itl K a) H1) ∨ (∃ a, v = .ref a ∧ (∃ xs, SqT K H1 a xs) ∧ R (Itt K a) H1) ∨ ∃ x, v = .str x ∧ R (Its x) H1
theorem pi_any {X : Cx} {tg e : Expr} {te : TE} (he : PE X e te) : PI X tg e (iAny X.K te) := by
  constructor
  intro pins s σ H R I h
  refine thn (he.run pins s σ H _ I h) ?_
  rintro v s1 ⟨y, H1, I1, r1, ⟨a, rfl, ⟨xs, hq⟩, q⟩ | ⟨a, rfl, ⟨xs, hq⟩, q⟩ | ⟨x, rfl, q⟩⟩
  · cases r1
    obtain ⟨its, _, p, _⟩ := I1.list hq
    exact wpAny_pyIter_list p.isList (pi_one (tk := s1.toks) I1 _ (turn_list a _)
      ⟨_, Heap.get?_push_size _ rfl, rfl, rfl⟩ q)
  · cases r1
    obtain ⟨its, _, p, _⟩ := I1.tuple hq
    have p' : s1.heap.IsTuple a its.toArray := p
    exact wpAny_pyIter_tuple p' (pi_one (tk := s1.toks) I1 _ (turn_tuple a _)
      ⟨_, Heap.get?_push_size _ rfl, rfl, rfl⟩ q)
  · obtain ⟨t, rfl⟩ := r1
    by_cases ha : x.cps.all (· < 128) = true
    · exact wpAny_pyIter_ascii ha
        (pi_one (tk := s1.toks) I1 _ (turn_str _ x t "str_ascii_iterator" (.inl rfl)) ⟨_, Heap.get?_push_size _ rfl, rfl, rfl⟩ q)
    · exact wpAny_pyIter_wide (by simpa using ha)
        (pi_one (tk := s1.toks) I1 _ (turn_str _ x t "str_iterator" (.inr rfl)) ⟨_, Heap.get?_push_size _ rfl, rfl, rfl⟩ q)
theorem sim_iA {te : TE} {m : ME} (h1 : SimE K W te m) : SimI K W (iAny K te) (iA m) := by
  intro G F ρ σ H Q R o h k
  rcases bnd_some h with ⟨r, ρ1, q1, q2⟩ | ⟨x, ρ1, q1, rfl⟩
  · refine sim_frz h1 G F ρ σ H _ R _ q1 fun F1 v H1 s1 R1 o1 => ?_
    split at q2
    · cases q2
      have o1' : Rp K F1 v (.list _) := o1
      cases o1' with
      | lst r1 r2 => exact .inl ⟨_, rfl, ⟨_, SqL.mono R1.sub r1⟩, k F1 H1 _ s1 R1 (itOk_list r1 r2)⟩
    · cases q2
      have o1' : Rp K F1 v (.tuple _) := o1
      cases o1' with
      | tup r1 r2 => exact .inr (.inl ⟨_, rfl, ⟨_, SqT.mono R1.sub r1⟩, k F1 H1 _ s1 R1 (itOk_tup r1 r2)⟩)
    · cases q2
      have o1' : Rp K F1 v (.str _) := o1
      cases o1'
      exact .inr (.inr ⟨_, rfl, k F1 H1 _ s1 R1 itOk_str⟩)
    · cases q2
  · exact sim_frz h1 G F ρ σ H _ R _ q1 k
end
section
variable {X : Cx} {W : WX} {e tg : Expr} {m : ME} {pos : Pos} {st : Stmt} {sts body : List Stmt}
theorem mi_any (h : MEx X W e m) : MIx X W tg e (iA m) := let ⟨_, p1, s1⟩ := h; ⟨_, pi_any p1, sim_iA s1⟩
/-! targets -/
/-- a target; into which slots it stores -/
structure MTg (X : Cx) (W : WX) (e : Expr) (g : MG) (vs : List Nat) : Prop where
  ex : ∃ t, PG X e t ∧ SimG X.K W t g ∧ GIn t vs ∧ GMono t
structure MTgs (X : Cx) (W : WX) (es : List Expr) (g : MGs) (vs : List Nat) : Prop where
  ex : ∃ t, PGs X es t ∧ SimGs X.K W t g ∧ GsIn t vs ∧ GsMono t
theorem gx {g : MG} {vs : List Nat} (h : MTg X W e g vs) : MGx X W e g := let ⟨_, p1, s1, _, _⟩ := h; ⟨_, p1, s1⟩
theorem mg_name {i : Nat} {x : Str} {vs : List Nat} (hN : X.N.Nodup) (hi : X.N[i]? = some x := by rfl) (hx : Loc X.env.scope x := by first | exact Or.inl rfl | exact Or.inr rfl) (hf : X.fn x = true ∨ X.env.scope.names.lookup x = some .local := by first | exact .inl rfl | exact .inr rfl) (hv : i ∈ vs := by decide) : MTg X W (.Name x pos) (mSet i) vs :=
  ⟨_, pg_name hN hi hx hf, sim_gname i, gin_name hv, gm_name⟩
theorem mgs_nil {vs : List Nat} : MTgs X W [] mgNil vs := ⟨_, pgs_nil, sim_gnil, gin_nil, gm_nil⟩
theorem mgs_cons {es : List Expr} {g : MG} {gs : MGs} {vs : List Nat} (h1 : MTg X W e g vs) (h2 : MTgs X W es gs vs) (hs : (assignEach (e :: es) X.env).map (·.2) = assign e X.env :: (assignEach es X.env).map (·.2) := by rfl) : MTgs X W (e :: es) (mgCons g gs) vs :=
  let ⟨_, p1, s1, i1, m1⟩ := h1; let ⟨_, p2, s2, i2, m2⟩ := h2; ⟨_, pgs_cons p1 p2 hs, sim_gcons s1 s2, gin_cons i1 m1 i2 m2, gm_cons m1 m2⟩
theorem mg_tup {es : List Expr} {k : Nat} {gs : MGs} {vs : List Nat} {n : Nat} (hc : X.calm = true) (h : MTgs X W es gs vs) (hn : (assignEach es X.env).length = n := by rfl) (hst : (assignEach es X.env).findIdx? (·.1) = none := by rfl) : MTg X W (.Tuple es k pos) (mgTup n gs) vs :=
  let ⟨_, p1, s1, i1, m1⟩ := h; ⟨_, pg_tup hc p1 hn hst, sim_gtup s1, gin_tup i1, gm_tup m1⟩
theorem mg_sub {i : Expr} {j : Nat} {y : Str} {p2 : Pos} {mi : ME} (hi : MEx X W i mi) (hN : X.N[j]? = some y := by rfl) (hv : Vis X.env.scope y := by first | exact Or.inl rfl | exact Or.inr (Or.inl rfl) | exact Or.inr (Or.inr rfl)) (hd : (y == ("__debug__" : Str)) = false := by decide)
    (hcd : (y == ("__classdict__" : Str)) = false := by decide) (ha : ∀ v, assign (.Subscript (.Name y p2) i pos) X.env v = (do
      let ov ← holding [v] (eval (.Name y p2) X.env)
      let iv ← holding [v, ov] (eval i X.env)
      standAt pos
      holding [v, ov, iv] (setItem ov iv v)
      release [v, ov, iv] []) := by intro _; rfl) : MGx X W (.Subscript (.Name y p2) i pos) (mgSub j mi) :=
  let ⟨_, p1, s1⟩ := hi; ⟨_, pg_sub (pe_var hN hv hd hcd) p1 set_list ha, sim_gsub s1⟩
/-! statements -/
section
variable {a b : MS}
theorem mss_nil : MSs X W [] sNil := ⟨_, pss_nil, sim_nil⟩
theorem mss_cons (h1 : MSx X W st a) (h2 : MSs X W sts b) : MSs X W (st :: sts) (sSeq a b) := let ⟨_, p1, s1⟩ := h1; let ⟨_, p2, s2⟩ := h2; ⟨_, pss_cons p1 p2, sim_seq s1 s2⟩
theorem mss_one (h1 : MSx X W st a) : MSs X W [st] a := let ⟨_, p1, s1⟩ := h1; ⟨_, pss_one p1, s1⟩
theorem ms_pass : MSx X W (.Pass pos) sNil := ⟨_, ps_pass, sim_nil⟩
theorem ms_brk : MSx X W (.Break pos) sBrk := ⟨_, ps_break, sim_brk⟩
theorem ms_cnt : MSx X W (.Continue pos) sCnt := ⟨_, ps_continue, sim_cnt⟩
theorem ms_expr (h : MEx X W e m) (hs : swapsWith e none pos.line X.env = pure false := by rfl) : MSx X W (.Expr e pos) (sDrop m) := let ⟨_, p1, s1⟩ := h; ⟨_, ps_expr p1 hs, sim_drop s1⟩
theorem ms_ret (h : MEx X W e m) : MSx X W (.Return (some e) pos) (sRet m) := let ⟨_, p1, s1⟩ := h; ⟨_, ps_ret p1, sim_ret s1⟩
theorem ms_retN : MSx X W (.Return none pos) sRetN := ⟨_, ps_retN, sim_retN⟩
theorem ms_if {c : Expr} {A B : List Stmt} {tc : MT} (hc : MTx X W c tc) (ha : MSs X W A a) (hb : MSs X W B b) : MSx X W (.If c A B pos) (sIf tc a b) := let ⟨_, p1, s1⟩ := hc; let ⟨_, p2, s2⟩ := ha; let ⟨_, p3, s3⟩ := hb; ⟨_, ps_if p1 p2 p3, sim_ifS s1 s2 s3⟩
theorem ms_set {i : Nat} {x : Str} {p2 : Pos} (hN : X.N.Nodup) (h : MEx X W e m) (hi : X.N[i]? = some x := by rfl) (hx : Loc X.env.scope x := by first | exact Or.inl rfl | exact Or.inr rfl) (hs : swapsWith e (some (.Name x p2)) pos.line X.env = pure false := by rfl) (hf : X.fn x = true ∨ X.env.scope.names.lookup x = some .local := by first | exact .inl rfl | exact .inr rfl) :
    MSx X W (.Assign [.Name x p2] e pos) (sAsg m (mSet i)) := let ⟨_, p1, s1⟩ := h; ⟨_, ps_set hN hi hx p1 hs hf, sim_asg s1 (sim_gname i)⟩
theorem ms_asg {g : MG} (h : MEx X W e m) (hg : MGx X W tg g) (hs : swapsWithSole [tg] e pos.line X.env = pure false := by rfl) (hw : swappedStores [tg] e X.env = pure none := by rfl)
    (h1 : (assignEach [tg] X.env).map (·.2) = [assign tg X.env] := by rfl) : MSx X W (.Assign [tg] e pos) (sAsg m g) := let ⟨_, p1, s1⟩ := h; let ⟨_, p2, s2⟩ := hg; ⟨_, ps_asg p1 p2 hs hw h1, sim_asg s1 s2⟩
theorem ms_for {iter : Expr} {mi : MI} {g : MG} {vs : List Nat} (hp : PassesOwn (model X.prog X.w) X.A X.env X.xe) (hc : X.calm = true) (hi : MIx X W tg iter mi) (hg : MTg X W tg g vs) (hb : MSs X W body b) (hs : ∀ x, foldedSetIterable iter X.env x = pure x := by intro _; rfl) :
    MSx X W (.For tg iter body [] pos) (sFor mi g b) := let ⟨_, p1, s1⟩ := hi; let ⟨_, p2, s2, _, _⟩ := hg; let ⟨_, p3, s3⟩ := hb; ⟨_, ps_for hp hc p1 p2 p3 hs, sim_for s1 s2 s3⟩
theorem ms_while (n : Nat) {c : Expr} {tc : MT} (hp : PassesOwn (model X.prog X.w) X.A X.env X.xe) (hc : MTx X W c tc) (hb : MSs X W body b) : MSx X W (.While c body [] pos) (mWhile tc b n) := let ⟨_, p1, s1⟩ := hc; let ⟨_, p2, s2⟩ := hb; ⟨_, ps_while hp p1 p2, sim_while s1 s2⟩
end
/-! comprehensions -/
section
variable {elt iter : Expr} {ifs : List Expr} {scope : Scope} {own : List (Str × Nat)} {mi : MI} {g : MG} {tt : MT} {me : ME} {vs : List Nat}
structure MTs (X : Cx) (W : WX) (ifs : List Expr) (m : MT) : Prop where
  ex : ∃ t, PTs X ifs t ∧ SimT X.K W t m
def mYes : MT := fun ρ => some (.ok true ρ)
theorem mts_nil : MTs X W [] mYes := ⟨_, pts_nil, fun G F ρ σ H Q R o h k => by cases h; exact k F H (Same.refl _) R⟩
theorem mts_one {c : Expr} {t : MT} (h : MTx X W c t) : MTs X W [c] t := let ⟨_, p1, s1⟩ := h; ⟨_, pts_one p1, s1⟩
end
end
/-! the canonical readings -/
section
variable {K : PySem.W.Frag} {W : WX}
def tEm (K : PySem.W.Frag) (W : WX) (m : ME) : TE := fun σ H Q => ∃ G F ρ o, Rl K G F ρ σ H ∧ m ρ = some o ∧ PostE K W G F σ Q o
def tTm (K : PySem.W.Frag) (W : WX) (m : MT) : TT := fun σ H Q => ∃ G F ρ o, Rl K G F ρ σ H ∧ m ρ = some o ∧ PostT K W G F σ Q o
def tGm (K : PySem.W.Frag) (W : WX) (m : MG) (vs : List Nat) : TG := fun v σ H Q => ∃ G F ρ r o, Rl K G F ρ σ H ∧ OutOk K G F ρ σ H v r ∧ m r ρ = some o ∧ PostG K W G F (fun σ' H' => wipe σ' vs = wipe σ vs → Q σ' H') o
theorem sim_em {m : ME} : SimE K W (tEm K W m) m := fun G F ρ σ H Q R o h k => ⟨G, F, ρ, o, R, h, k⟩
theorem sim_tm {m : MT} : SimT K W (tTm K W m) m := fun G F ρ σ H Q R o h k => ⟨G, F, ρ, o, R, h, k⟩
theorem PostG.imp {G : Gh} {F : Hp} {Q Q' : St → Hp → Prop} {o : Ro Unit} (h : PostG K W G F Q o) (i : ∀ σ H, Q σ H → Q' σ H) : PostG K W G F Q' o := by
  cases o with
  | ok u ρ' => exact fun F' σ' H' s R => i _ _ (h F' σ' H' s R)
  | er x ρ' => exact h
theorem sim_gm {m : MG} {vs : List Nat} : SimG K W (tGm K W m vs) m := fun G F ρ σ H v r Q R ov o h k => ⟨G, F, ρ, r, o, R, ov, h, k.imp fun _ _ q _ => q⟩
theorem gin_gm {m : MG} {vs : List Nat} : GIn (tGm K W m vs) vs := fun v σ H Q ⟨G, F, ρ, r, o, R, ov, h, k⟩ => ⟨G, F, ρ, r, o, R, ov, h, k.imp fun _ _ q z => ⟨z, q z⟩⟩
theorem gm_gm {m : MG} {vs : List Nat} : GMono (tGm K W m vs) := fun v σ H Q Q' i ⟨G, F, ρ, r, o, R, ov, h, k⟩ => ⟨G, F, ρ, r, o, R, ov, h, k.imp fun _ _ q z => i _ _ (q z)⟩
variable {X : Cx} {e tg : Expr} {ifs : List Expr} {m : ME}
theorem MEx.canon (h : MEx X W e m) : PE X e (tEm X.K W m) :=
  let ⟨_, p1, s1⟩ := h
  ⟨fun pins s σ H Q I ⟨G, F, ρ, o, R, q, k⟩ => p1.run pins s σ H Q I (s1 G F ρ σ H Q R o q k)⟩
theorem MTs.canon {t : MT} (h : MTs X W ifs t) : PTs X ifs (tTm X.K W t) :=
  let ⟨_, p1, s1⟩ := h
  ⟨fun pins s σ H Q I ⟨G, F, ρ, o, R, q, k⟩ => p1.run pins s σ H Q I (s1 G F ρ σ H Q R o q k)⟩
theorem MTg.canon {g : MG} {vs : List Nat} (h : MTg X W tg g vs) : PG X tg (tGm X.K W g vs) :=
  let ⟨_, p1, s1, i1, m1⟩ := h
  ⟨fun pins s σ H v u Q I r ⟨G, F, ρ, r', o, R, ov, q, k⟩ => p1.run pins s σ H v u Q I r (m1 _ _ _ _ _ (fun _ _ z => z.2 z.1) (i1 _ _ _ _ (s1 G F ρ σ H v r' _ R ov o q k)))⟩
end
/-! comprehensions: the block's parts for each entry -/
section
variable {X : Cx} {W : WX} {elt iter tg : Expr} {ifs : List Expr} {scope : Scope} {own : List (Str × Nat)} {mi : MI} {g : MG} {tt : MT} {me : ME} {pos spos : Pos}
theorem me_lc (hc : X.calm = true) (hN : X.N.Nodup) (hi : MIx X W tg iter mi) (ok : BlkOk X.N X.env.scope scope own)
    (hg : ∀ (s : Shared) (H : Hp) (C : Addr) (cl : List (Str × Addr)) (fp : List Addr), MTg (X.blk s H scope (compEnvC scope cl C X.env) fp) W0 tg g (own.map (·.2)))
    (ht : ∀ (s : Shared) (H : Hp) (C : Addr) (cl : List (Str × Addr)) (fp : List Addr), MTs (X.blk s H scope (compEnvC scope cl C X.env) fp) W0 ifs tt)
    (he : ∀ (s : Shared) (H : Hp) (C : Addr) (cl : List (Str × Addr)) (fp : List Addr), MEx (X.blk s H scope (compEnvC scope cl C X.env) fp) W0 elt me)
    (hs : ∀ x, foldedSetIterable iter X.env x = pure x := by intro _; rfl) : MEx X W (.ListComp elt [⟨tg, iter, ifs, 0⟩] scope pos) (mLc mi g tt me (own.map (·.2))) :=
  let ⟨_, p1, s1⟩ := hi
  ⟨_, pe_lc hc hN p1 ok (fun s H C cl fp => (hg s H C cl fp).canon) (fun s H C cl fp => (ht s H C cl fp).canon) (fun s H C cl fp => (he s H C cl fp).canon) hs, sim_lc s1 sim_gm gin_gm gm_gm sim_tm sim_em⟩
theorem ms_setLc {i : Nat} {y : Str} {py : Pos} (hc : X.calm = true) (hN : X.N.Nodup) (hi : MIx X W tg iter mi) (ok : BlkOk X.N X.env.scope scope own)
    (hg : ∀ (s : Shared) (H : Hp) (C : Addr) (cl : List (Str × Addr)) (fp : List Addr), MTg (X.blk s H scope (compEnvC scope cl C X.env) fp) W0 tg g (own.map (·.2)))
    (ht : ∀ (s : Shared) (H : Hp) (C : Addr) (cl : List (Str × Addr)) (fp : List Addr), MTs (X.blk s H scope (compEnvC scope cl C X.env) fp) W0 ifs tt)
    (he : ∀ (s : Shared) (H : Hp) (C : Addr) (cl : List (Str × Addr)) (fp : List Addr), MEx (X.blk s H scope (compEnvC scope cl C X.env) fp) W0 elt me)
    (hy : X.N[i]? = some y := by rfl) (hyl : X.env.scope.names.lookup y = some .local := by rfl) (hsw : swapsWith (.ListComp elt [⟨tg, iter, ifs, 0⟩] scope pos) (some (.Name y py)) spos.line X.env = pure true := by exact sw_true rfl rfl rfl (by decide +kernel))
    (hs : ∀ x, foldedSetIterable iter X.env x = pure x := by intro _; rfl) : MSx X W (.Assign [.Name y py] (.ListComp elt [⟨tg, iter, ifs, 0⟩] scope pos) spos) (sAsg (mLc mi g tt me (own.map (·.2))) (mSet i)) :=
  let ⟨_, p1, s1⟩ := hi
  ⟨_, ps_setLc hc hN hy hyl hsw p1 ok (fun s H C cl fp => (hg s H C cl fp).canon) (fun s H C cl fp => (ht s H C cl fp).canon) (fun s H C cl fp => (he s H C cl fp).canon) hs, sim_asg (sim_lc s1 sim_gm gin_gm gm_gm sim_tm sim_em) (sim_gname i)⟩
end
/-! a, b, c = x, y, z: local names -/
section
variable {K : PySem.W.Frag} {W : WX}
def sPar2 (i j : Nat) (a : MA) : MS := fun ρ => bnd (a ρ) fun rs ρ1 => match rs with
  | [.v d1, .v d2] => bnd (mSet i (.v d1) ρ1) fun _ ρ2 => bnd (mSet j (.v d2) ρ2) fun _ ρ3 => some (.ok .nx ρ3)
  | _ => none
def sPar3 (i j l : Nat) (a : MA) : MS := fun ρ => bnd (a ρ) fun rs ρ1 => match rs with
  | [.v d1, .v d2, .v d3] => bnd (mSet i (.v d1) ρ1) fun _ ρ2 => bnd (mSet j (.v d2) ρ2) fun _ ρ3 => bnd (mSet l (.v d3) ρ3) fun _ ρ4 => some (.ok .nx ρ4)
  | _ => none
theorem noEr_set {i : Nat} {d : D} {ρ ρ' : Rh} {x : Xd} : mSet i (.v d) ρ ≠ some (.er x ρ') := by
  unfold mSet
  split <;> intro h <;> cases h
theorem set_ok {G : Gh} {F H : Hp} {ρ ρ' : Rh} {σ : St} {i : Nat} {d : D} {v : V} {u : Unit} (R : Rl K G F ρ σ H) (r : Rp K F v d) (h : mSet i (.v d) ρ = some (.ok u ρ')) : Rl K G F ρ' (σ.set i (some v)) H := by
  unfold mSet at h
  cases hi : isIo ρ i with
  | true => rw [hi] at h; cases h
  | false =>
    rw [hi] at h
    cases h
    obtain ⟨n1, n2⟩ := isIo_no hi
    exact R.setF r n1 n2
theorem sim_par3 {i j l : Nat} {ta : TA} {a : MA} (ha : SimA K W ta a) : SimS K W (tPar3 i j l ta) (sPar3 i j l a) := by
  intro G F ρ σ H D R o h k
  rcases bnd_some h with ⟨rs, ρ1, q1, q2⟩ | ⟨x, ρ1, q1, rfl⟩
  · refine ha G F ρ σ H _ R _ q1 fun F1 vs H1 s1 R1 hl ho => ?_
    split at q2
    · rename_i d1 d2 d3
      match vs, hl with
      | [v1, v2, v3], _ =>
        refine ⟨v1, v2, v3, rfl, ?_⟩
        have r1 : Rp K F1 v1 d1 := (ho 0 _ v1 rfl rfl).1
        have r2 : Rp K F1 v2 d2 := (ho 1 _ v2 rfl rfl).1
        have r3 : Rp K F1 v3 d3 := (ho 2 _ v3 rfl rfl).1
        rcases bnd_some q2 with ⟨_, ρ2, e1, q2⟩ | ⟨x, ρ2, e1, _⟩
        · rcases bnd_some q2 with ⟨_, ρ3, e2, q2⟩ | ⟨x, ρ3, e2, _⟩
          · rcases bnd_some q2 with ⟨_, ρ4, e3, q2⟩ | ⟨x, ρ4, e3, _⟩
            · cases q2
              exact k F1 _ H1 s1 (set_ok (set_ok (set_ok R1 r1 e1) r2 e2) r3 e3)
            · exact absurd e3 noEr_set
          · exact absurd e2 noEr_set
        · exact absurd e1 noEr_set
    · cases q2
  · exact ha G F ρ σ H _ R _ q1 (k σ)
theorem sim_par2 {i j : Nat} {ta : TA} {a : MA} (ha : SimA K W ta a) : SimS K W (tPar i j ta) (sPar2 i j a) := by
  intro G F ρ σ H D R o h k
  rcases bnd_some h with ⟨rs, ρ1, q1, q2⟩ | ⟨x, ρ1, q1, rfl⟩
  · refine ha G F ρ σ H _ R _ q1 fun F1 vs H1 s1 R1 hl ho => ?_
    split at q2
    · rename_i d1 d2
      match vs, hl with
      | [v1, v2], _ =>
        refine ⟨v1, v2, rfl, ?_⟩
        have r1 : Rp K F1 v1 d1 := (ho 0 _ v1 rfl rfl).1
        have r2 : Rp K F1 v2 d2 := (ho 1 _ v2 rfl rfl).1
        rcases bnd_some q2 with ⟨_, ρ2, e1, q2⟩ | ⟨x, ρ2, e1, _⟩
        · rcases bnd_some q2 with ⟨_, ρ3, e2, q2⟩ | ⟨x, ρ3, e2, _⟩
          · cases q2
            exact k F1 _ H1 s1 (set_ok (set_ok R1 r1 e1) r2 e2)
          · exact absurd e2 noEr_set
        · exact absurd e1 noEr_set
    · cases q2
  · exact ha G F ρ σ H _ R _ q1 (k σ)
end
section
variable {X : Cx} {W : WX} {A : MA}
theorem ms_par2 {i j : Nat} {x y : Str} {a b : Expr} {px py pt pos : Pos} {kt k2 pt2} (hc : X.calm = true) (hN : X.N.Nodup) (ha : MAx X W [a, b] A) (hi : X.N[i]? = some x := by rfl) (hj : X.N[j]? = some y := by rfl) (hij : i ≠ j := by decide)
    (hx : X.env.scope.names.lookup x = some .local := by rfl) (hy : X.env.scope.names.lookup y = some .local := by rfl)
    (hw : swappedStores [.Tuple [.Name x px, .Name y py] kt pt] (.Tuple [a, b] k2 pt2) X.env = pure (some [x, y]) := by rfl) (hs : swapsWithSole [.Tuple [.Name x px, .Name y py] kt pt] (.Tuple [a, b] k2 pt2) pos.line X.env = pure false := by rfl) :
    MSx X W (.Assign [.Tuple [.Name x px, .Name y py] kt pt] (.Tuple [a, b] k2 pt2) pos) (sPar2 i j A) := let ⟨_, p1, s1⟩ := ha; ⟨_, ps_par hc hN hi hj hij hx hy p1 hw hs, sim_par2 s1⟩
theorem ms_par3 {i j l : Nat} {x y z : Str} {a b c : Expr} {px py pz pt pos : Pos} {kt k2 pt2} (hc : X.calm = true) (hN : X.N.Nodup) (ha : MAx X W [a, b, c] A) (hi : X.N[i]? = some x := by rfl) (hj : X.N[j]? = some y := by rfl) (hl : X.N[l]? = some z := by rfl) (hij : i ≠ j := by decide) (hil : i ≠ l := by decide) (hjl : j ≠ l := by decide)
    (hx : X.env.scope.names.lookup x = some .local := by rfl) (hy : X.env.scope.names.lookup y = some .local := by rfl) (hz : X.env.scope.names.lookup z = some .local := by rfl)
    (hw : swappedStores [.Tuple [.Name x px, .Name y py, .Name z pz] kt pt] (.Tuple [a, b, c] k2 pt2) X.env = pure (some [x, y, z]) := by rfl) (hs : swapsWithSole [.Tuple [.Name x px, .Name y py, .Name z pz] kt pt] (.Tuple [a, b, c] k2 pt2) pos.line X.env = pure false := by rfl) :
    MSx X W (.Assign [.Tuple [.Name x px, .Name y py, .Name z pz] kt pt] (.Tuple [a, b, c] k2 pt2) pos) (sPar3 i j l A) := let ⟨_, p1, s1⟩ := ha; ⟨_, ps_par3 hc hN hi hj hl hij hil hjl hx hy hz p1 hw hs, sim_par3 s1⟩
end
/-! a def of the text -/
section
variable {P : Program} {w : World} {K : PySem.W.Frag} {mg : Str → Option Value} {base : Heap}
theorem fn_okM {x : Str} {params : Arguments} {body : List Stmt} {scope : Scope} {f : Addr} {fd : FuncData} {N ps : List Str} {k : Nat} {b : MS} (F : FunD K x x params body scope [] [] f fd) (S : FnScope N ps scope)
    (hb : ∀ (cdv : Value) (A : Around) (outer : List Env) (s : Shared) (H : Hp) (E : XK), Room k (A.deeper (envOfC x scope s.heap.objs.size f cdv)) → MSs (cxOf (L2.CX P w) P w K mg base N x scope f cdv A outer s H E) (fun cls d _ H => E cls d H) body b) :
    FnOk P w K mg base (L2.CX P w) (k + 1) f fd ps (spM K ps.length (mDef N.length b)) := by
  refine F.ok S (fun vs H Q E h => h.1) (fun cdv A outer s H vs Q E hr h => ?_)
  obtain ⟨hl, Fz, io, args, R, o, ho, post⟩ := h
  obtain ⟨t, ht, sim⟩ := (hb cdv A outer s H E hr).ex
  refine ⟨t, ht, ?_⟩
  have hla : args.length = vs.length := by rw [R.len, List.length_map]
  unfold mDef at ho
  rw [hla] at ho
  cases hbo : b (args ++ List.replicate (N.length - vs.length) .no) with
  | none => rw [hbo] at ho; cases ho
  | some p =>
    rw [hbo] at ho
    refine sim _ Fz _ _ H _ (R.enter (N := N)) p hbo ?_
    cases p with
    | er x ρ' =>
      cases ho
      intro σ' F' cls d H' s' R' xo
      exact post F' cls d H' s' (R.leave R').1 xo
    | ok fl ρ' =>
      intro F' σ' H' s' R'
      obtain ⟨R2, own⟩ := R.leave R'
      cases fl with
      | bk => cases ho
      | ct => cases ho
      | nx =>
        cases ho
        exact post F' .non H' s' R2 .non
      | rt r =>
        cases r with
        | bor i => cases ho
        | v d => cases ho; exact fun v ov => post F' v H' s' R2 (ov.leave own (fun i z => by cases z))
        | fr d => cases ho; exact fun v ov => post F' v H' s' R2 (ov.leave own (fun i z => by cases z))
theorem df_ok {x : Str} {params : Arguments} {body : List Stmt} {scope : Scope} {f : Addr} {fd : FuncData} {N ps : List Str} {k : Nat} {b : MS} (F : FunD K x x params body scope [] [] f fd) (S : FnScope N ps scope) (hm : mg x = some (.ref f))
    (hbi : Binds K fd ps [])
    (hb : ∀ (cdv : Value) (A : Around) (outer : List Env) (s : Shared) (H : Hp) (E : XK), Room k (A.deeper (envOfC x scope s.heap.objs.size f cdv)) → MSs (cxOf (L2.CX P w) P w K mg base N x scope f cdv A outer s H E) (fun cls d _ H => E cls d H) body b) :
    Df P w K mg base x (k + 1) ps.length (mDef N.length b) := ⟨f, fd, ps, hm, F.kp, hbi, fn_okM F S hb⟩
/-- a def of which nothing is known -/
theorem df_none {x : Str} {params : Arguments} {body : List Stmt} {scope : Scope} {f : Addr} {fd : FuncData} {ps : List Str} {k : Nat} (F : FunD K x x params body scope [] [] f fd) (hm : mg x = some (.ref f)) (hbi : Binds K fd ps []) :
    Df P w K mg base x k ps.length fun _ => none :=
  ⟨f, fd, ps, hm, F.kp, hbi, fun vs H Q E h => h.1, fun A outer s H args us vs Q E _ _ _ _ h => by
    obtain ⟨_, _, _, _, _, o, ho, _⟩ := h
    cases ho⟩
theorem Df.mono {x : Str} {j k n : Nat} {f : MF} (h : Df P w K mg base x j n f) (hk : j ≤ k) : Df P w K mg base x k n f := let ⟨a, fd, ps, h1, h2, h3, h4⟩ := h; ⟨a, fd, ps, h1, h2, h3, h4.mono hk⟩
end
end ML

set_option Elab.async false
set_option linter.all false
set_option maxRecDepth 100000
/-! ML11: the law's end. -/
namespace ML
open PySem PySem.Spec PyProof.Rows L2
theorem law_sp {K : PySem.W.Frag} {mf : MF} {H : Hp} {a : Addr} {ns : List Int} {fin : Rh} {E : XK} (hS : SqL K H a (ns.map V.int)) (h : mf [.frz (.list (ns.map .int))] = some (.ok (.v (.bool true)) fin)) :
    spM K 1 mf [.ref a] H (fun v _ => v = .bl true) E := by
  refine ⟨rfl, H, [], [.frz (.list (ns.map .int))], ?_, _, h, fun F' v H' _ _ o => ?_⟩
  · refine ⟨rfl, Same.refl _, Same.refl _, fun a o e _ => e, fun a e => .inl e, fun i d e => ?_, fun i s ds e c => ?_, fun i j a h1 _ => ?_, fun i ds e => rfl⟩
    · cases i with
      | zero => cases e; exact ⟨_, rfl, .lst hS (Rps.ints ns)⟩
      | succ i => simp at e
    · cases i with
      | zero => cases e; cases c
      | succ i => simp at e
    · obtain ⟨⟨s, ds, e, c⟩, _⟩ := h1
      cases i with
      | zero => cases e; cases c
      | succ i => simp at e
  · have o' : Rp K F' v (.bool true) := o
    cases o'
    rfl
theorem cx_none {P : Program} {w : World} {H : Hp} {s : Shared} {e : Value} {s' : Shared} (h : L2.CX P w [] H s (fun _ _ _ => False) e s') : False := by
  obtain ⟨_, _, _, _, _, _, _, _, _, _, _, _, z⟩ := h
  exact z
/-- a law's end, the classes of errors by the world -/
theorem law_end {l : PySem.W.OpenLaw} {n k : Nat} {q : Program} {los : List Str}
    {XQ : (Str → Option Value) → Heap → Prop} {YQ : World → Heap → Prop} {d : DefRec}
    {CW : World → CXT} {px : Str}
    (hn : l.most = some n) (hs : n ≤ sizeLine)
    (hd0 : d.params.defaults = []) (hr : Room k callerA)
    (F : ∀ (w : World) (mg : Str → Option Value) (fa : Addr) (h : Heap), YQ w h →
      h.Ns mainGlobals mg → mg d.name = some (.ref fa) →
      ∃ (K : PySem.W.Frag) (fd : FuncData) (sp : Sp), K.In h ∧
        (∀ (s : Shared) (u : Value), BindsTo s fd ⟨[u], []⟩ [(px, u)]) ∧
        (∀ (H : Hp) (a : Addr) (ns : List Int), ns.length ≤ n → Only H →
          SqL K H a (ns.map V.int) →
          sp [.ref a] H (fun v _ => v = .bl true) fun _ _ _ => False) ∧
        ∀ base : Heap, K.In base → base.Ns mainGlobals mg →
          FnOk l.prog w K mg base (CW w) k fa fd [px] sp)
    (hCX : ∀ (w : World) (H : Hp) (s : Shared) (e : Value) (s' : Shared),
      CW w [] H s (fun _ _ _ => False) e s' → False) :
    PySem.W.WalkO q los XQ YQ l.row.toRowW d [] (fun f vs => PySem.call f vs) := by
  refine Att.attach_call hn hd0 fun w s₀ s₁ mg mb fa o pm cd doc a vs ns G Y ho hh hcd hmg hob hi hle hg => ?_
  obtain ⟨K, fd, sp, X, hb, h1, hF⟩ := F w mg fa _ Y G.T.g hmg
  exact law_call X G.T.g G.T.b G.T.builtins G.T.nolimit hg hob hi (Nat.le_trans hle hs) hr hF hb
    (fun H hO hS => h1 H a ns hle hO hS) fun H e s' => hCX w H s₁ e s'
end ML

set_option Elab.async false
set_option linter.all false
set_option maxRecDepth 100000
/-! ML12: what a mirror gives, read ahead of its run. -/
namespace ML
open PySem PySem.Spec PyProof.Rows L2
/-- what comes behind is left alone while what comes first is read -/
inductive Tg {α : Sort _} (q : α) : Type where
  | mk : Tg q
def We {α : Type} (m : Option (Ro α)) (Q : α → Rh → Prop) (t : Tg Q := .mk) : Prop := ∃ a ρ, m = some (.ok a ρ) ∧ Q a ρ
def Wo {α : Type} (o : Option α) (Q : α → Prop) (t : Tg Q := .mk) : Prop := ∃ a, o = some a ∧ Q a
theorem ite_q {c : Prop} [Decidable c] {a b a' b' : Prop} (h : a = a') (h2 : b = b') : (if c then a else b) = if c then a' else b' := by rw [h, h2]
theorem we_q {α : Type} {m : Option (Ro α)} {Q Q' : α → Rh → Prop} (h : ∀ a ρ, Q a ρ = Q' a ρ) : We m Q = We m Q' := by
  have e : Q = Q' := funext fun a => funext fun ρ => h a ρ
  rw [e]
theorem wo_q {α : Type} {m : Option α} {Q Q' : α → Prop} (h : ∀ a, Q a = Q' a) : Wo m Q = Wo m Q' := by
  have e : Q = Q' := funext fun a => h a
  rw [e]
theorem We.mono {α : Type} {m : Option (Ro α)} {Q Q' : α → Rh → Prop} (h : We m Q) (k : ∀ a ρ, Q a ρ → Q' a ρ) : We m Q' := by
  obtain ⟨a, ρ, e, q⟩ := h
  exact ⟨a, ρ, e, k a ρ q⟩
theorem Wo.mono {α : Type} {m : Option α} {Q Q' : α → Prop} (h : Wo m Q) (k : ∀ a, Q a → Q' a) : Wo m Q' := by
  obtain ⟨a, e, q⟩ := h
  exact ⟨a, e, k a q⟩
section
variable {α β : Type} {Q : α → Rh → Prop} {a : α} {ρ : Rh}
theorem we_ok : We (some (.ok a ρ)) Q = Q a ρ := by
  apply propext
  constructor
  · rintro ⟨a', ρ', e, q⟩
    cases e
    exact q
  · intro q
    exact ⟨a, ρ, rfl, q⟩
theorem we_none : We none Q = False := by
  apply propext
  constructor
  · rintro ⟨a', ρ', e, q⟩
    cases e
  · intro q
    cases q
theorem we_bnd {o : Option (Ro β)} {k : β → Rh → Option (Ro α)} : We (bnd o k) Q = We o fun b ρ => We (k b ρ) Q := by
  apply propext
  constructor
  · rintro ⟨a', ρ', e, q⟩
    rcases bnd_some e with ⟨b, ρ1, h1, h2⟩ | ⟨x, ρ1, h1, h2⟩
    · exact ⟨b, ρ1, h1, a', ρ', h2, q⟩
    · cases h2
  · rintro ⟨b, ρ1, h1, a', ρ', h2, q⟩
    exact ⟨a', ρ', by rw [h1]; exact h2, q⟩
theorem wo_some {Q : α → Prop} : Wo (some a) Q = Q a := by
  apply propext
  constructor
  · rintro ⟨a', e, q⟩
    cases e
    exact q
  · intro q
    exact ⟨a, rfl, q⟩
theorem wo_none {Q : α → Prop} : Wo none Q = False := by
  apply propext
  constructor
  · rintro ⟨a', e, q⟩
    cases e
  · intro q
    cases q
theorem we_opt {o : Option α} : We (opt o ρ) Q = Wo o fun a => Q a ρ := by
  cases o with
  | none => rw [wo_none]; exact we_none
  | some a => rw [wo_some]; exact we_ok
theorem we_wo {o : Option β} {f : β → Option (Ro α)} : We (match o with | some b => f b | none => none) Q = Wo o fun b => We (f b) Q := by
  cases o with
  | none => rw [wo_none]; exact we_none
  | some b => rw [wo_some]
theorem we_ite {p : Prop} [Decidable p] {x y : Option (Ro α)} : We (if p then x else y) Q = if p then We x Q else We y Q := by
  split <;> rfl
theorem wo_ite {p : Prop} [Decidable p] {x y : Option α} {Q : α → Prop} : Wo (if p then x else y) Q = if p then Wo x Q else Wo y Q := by
  split <;> rfl
theorem wo_map {o : Option β} {f : β → α} {Q : α → Prop} : Wo (o.map f) Q = Wo o fun b => Q (f b) := by
  cases o with
  | none => rw [wo_none]; exact wo_none
  | some b => rw [wo_some]; exact wo_some
end
section
variable {Q : Out → Rh → Prop} {QA : List Out → Rh → Prop} {QT : Bool → Rh → Prop} {QF : Fl → Rh → Prop} {QU : Unit → Rh → Prop} {QI : List D → Rh → Prop} {QO : Option Int → Rh → Prop} {ρ : Rh} {ma mb mc m : ME} {f : D → D → Option Out} {c : MT} {aa bb : MT} {sa sb : MS} {i j : Nat} {d : D}
theorem we_var : We (mVar i ρ) Q = Wo (ρ[i]?) fun s => match s with
    | .no => False
    | .frz d => Q (.v d) ρ
    | .own _ => Q (.bor i) ρ
    | .io _ => Q (.bor i) ρ := by
  unfold mVar
  cases h : ρ[i]? with
  | none => rw [wo_none]; exact we_none
  | some s =>
    rw [wo_some]
    cases s with
    | no => exact we_none
    | frz d => exact we_ok
    | own d => exact we_ok
    | io d => exact we_ok
theorem we_C : We (mC d ρ) Q = Q (.v d) ρ := we_ok
theorem we_frz : We (mFrz m ρ) Q = We (m ρ) fun r ρ1 => Wo (frzO r ρ1) fun p => Q (.v p.1) p.2 := by
  unfold mFrz
  rw [we_bnd]
  refine we_q fun r ρ1 => ?_
  cases h : frzO r ρ1 with
  | none => rw [wo_none]; exact we_none
  | some p => rw [wo_some]; exact we_ok
theorem we_hold : We (mHold m ρ) Q = We (m ρ) fun r ρ1 => Q (hold r) ρ1 := by
  unfold mHold
  rw [we_bnd]
  refine we_q fun r ρ1 => ?_
  exact we_ok
theorem we_bin : We (mBin f ma mb ρ) Q = We (ma ρ) fun r1 ρ1 => We (mb ρ1) fun r2 ρ2 => Wo (rd2 f ρ2 (hold r1) (hold r2)) fun r => Q r ρ2 := by
  unfold mBin
  rw [we_bnd, we_hold]
  refine we_q fun r ρ1 => ?_
  rw [we_bnd, we_hold]
  refine we_q fun r2 ρ2 => ?_
  exact we_opt
theorem we_cmp {f : D → D → Option Bool} : We (mCmp f ma mb ρ) Q = We (ma ρ) fun r1 ρ1 => We (mb ρ1) fun r2 ρ2 => Wo (rd2 (bo f) ρ2 (hold r1) (hold r2)) fun r => Q r ρ2 := we_bin
theorem we_un {f : D → Option Out} : We (mUn f ma ρ) Q = We (ma ρ) fun r1 ρ1 => Wo (rd1 f ρ1 (hold r1)) fun r => Q r ρ1 := by
  unfold mUn
  rw [we_bnd, we_hold]
  refine we_q fun r ρ1 => ?_
  exact we_opt
theorem we_isi {T : Tn} : We (mIsi T ma ρ) Q = We (ma ρ) fun r1 ρ1 => Wo (rd ρ1 (hold r1)) fun d => Q (.v (.bool (isT T d))) ρ1 := by
  unfold mIsi
  rw [we_un]
  refine we_q fun r ρ1 => ?_
  unfold rd1
  cases h : rd ρ1 (hold r) with
  | none => exact wo_none.trans wo_none.symm
  | some d =>
    show Wo (some (Out.v (.bool (isT T d)))) (fun r => Q r ρ1) = _
    rw [wo_some, wo_some]
theorem we_aNil : We (aNil ρ) QA = QA [] ρ := we_ok
theorem we_aCons {a : MA} : We (aCons m a ρ) QA = We (m ρ) fun r ρ1 => We (a ρ1) fun rs ρ2 => QA (hold r :: rs) ρ2 := by
  unfold aCons
  rw [we_bnd, we_hold]
  refine we_q fun r ρ1 => ?_
  rw [we_bnd]
  refine we_q fun rs ρ2 => ?_
  exact we_ok
theorem we_cb {f : List D → Option Out} {a : MA} : We (mCB f a ρ) Q = We (a ρ) fun rs ρ1 => Wo (rdN f ρ1 rs) fun r => Q r ρ1 := by
  unfold mCB
  rw [we_bnd]
  refine we_q fun r ρ1 => ?_
  exact we_opt
theorem we_tup {a : MA} : We (mTup a ρ) Q = We (a ρ) fun rs ρ1 => Wo (tupO rs) fun r => Q r ρ1 := by
  unfold mTup
  rw [we_bnd]
  refine we_q fun r ρ1 => ?_
  exact we_opt
theorem we_lst {a : MA} : We (mLst a ρ) Q = We (a ρ) fun rs ρ1 => Wo (lstO rs) fun r => Q r ρ1 := by
  unfold mLst
  rw [we_bnd]
  refine we_q fun r ρ1 => ?_
  exact we_opt
theorem we_b : We (mB m ρ) QT = We (m ρ) fun r ρ1 => Wo (boolO ρ1 (hold r)) fun b => QT b ρ1 := by
  unfold mB
  rw [we_bnd, we_hold]
  refine we_q fun r ρ1 => ?_
  exact we_opt
theorem we_tru : We (mTru m ρ) QT = We (m ρ) fun r ρ1 => Wo (truO ρ1 (hold r)) fun b => QT b ρ1 := by
  unfold mTru
  rw [we_bnd, we_hold]
  refine we_q fun r ρ1 => ?_
  exact we_opt
theorem we_and : We (mAnd aa bb ρ) QT = We (aa ρ) fun c ρ1 => if c = true then We (bb ρ1) QT else QT false ρ1 := by
  unfold mAnd
  rw [we_bnd]
  refine we_q fun r ρ1 => ?_
  rw [we_ite, we_ok]
theorem we_or : We (mOr aa bb ρ) QT = We (aa ρ) fun c ρ1 => if c = true then QT true ρ1 else We (bb ρ1) QT := by
  unfold mOr
  rw [we_bnd]
  refine we_q fun r ρ1 => ?_
  rw [we_ite, we_ok]
theorem we_not : We (mNot aa ρ) QT = We (aa ρ) fun c ρ1 => QT (!c) ρ1 := by
  unfold mNot
  rw [we_bnd]
  refine we_q fun r ρ1 => ?_
  rw [we_ok]
theorem we_andV : We (mAndV ma mb ρ) Q = We (ma ρ) fun r ρ1 => Wo (boolO ρ1 (hold r)) fun c => if c = true then We (mb ρ1) Q else Q (.v (.bool false)) ρ1 := by
  unfold mAndV
  rw [we_bnd, we_b]
  refine we_q fun r ρ1 => ?_
  refine wo_q fun c => ?_
  rw [we_ite, we_ok]
theorem we_orV : We (mOrV ma mb ρ) Q = We (ma ρ) fun r ρ1 => Wo (boolO ρ1 (hold r)) fun c => if c = true then Q (.v (.bool true)) ρ1 else We (mb ρ1) Q := by
  unfold mOrV
  rw [we_bnd, we_b]
  refine we_q fun r ρ1 => ?_
  refine wo_q fun c => ?_
  rw [we_ite, we_ok]
theorem we_notV : We (mNotV ma ρ) Q = We (ma ρ) fun r ρ1 => Wo (boolO ρ1 (hold r)) fun c => Q (.v (.bool (!c))) ρ1 := by
  unfold mNotV
  rw [we_bnd, we_b]
  refine we_q fun r ρ1 => ?_
  refine wo_q fun c => ?_
  rw [we_ok]
theorem we_mIf : We (mIf c ma mb ρ) Q = We (c ρ) fun x ρ1 => if x = true then We (ma ρ1) Q else We (mb ρ1) Q := by
  unfold mIf
  rw [we_bnd]
  refine we_q fun r ρ1 => ?_
  rw [we_ite]
theorem we_chain {f g : D → D → Option Bool} : We (mChain f g ma mb mc ρ) Q = We (ma ρ) fun r1 ρ1 => We (mb ρ1) fun r2 ρ2 => Wo (rd2B f ρ2 (hold r1) (hold r2)) fun b =>
    if b = true then We (mc ρ2) fun r3 ρ3 => Wo (rd2B g ρ3 (hold r2) (hold r3)) fun b => Q (.v (.bool b)) ρ3 else Q (.v (.bool false)) ρ2 := by
  unfold mChain
  rw [we_bnd, we_hold]
  refine we_q fun r ρ1 => ?_
  rw [we_bnd, we_hold]
  refine we_q fun r2 ρ2 => ?_
  rw [we_bnd, we_opt]
  refine wo_q fun b => ?_
  rw [we_ite, we_ok, we_bnd, we_hold]
  refine ite_q ?_ rfl
  refine we_q fun r3 ρ3 => ?_
  rw [we_opt, wo_map]
theorem we_nx : We (sNil ρ) QF = QF .nx ρ := we_ok
theorem we_brk : We (sBrk ρ) QF = QF .bk ρ := we_ok
theorem we_cnt : We (sCnt ρ) QF = QF .ct ρ := we_ok
def thenK (b : MS) (Q : Fl → Rh → Prop) : Fl → Rh → Prop
  | .nx, ρ => We (b ρ) Q
  | f, ρ => Q f ρ
theorem then_nx {b : MS} : thenK b QF .nx ρ = We (b ρ) QF := rfl
theorem then_bk {b : MS} : thenK b QF .bk ρ = QF .bk ρ := rfl
theorem then_ct {b : MS} : thenK b QF .ct ρ = QF .ct ρ := rfl
theorem then_rt {b : MS} {r : Out} : thenK b QF (.rt r) ρ = QF (.rt r) ρ := rfl
theorem we_seq : We (sSeq sa sb ρ) QF = We (sa ρ) (thenK sb QF) := by
  unfold sSeq
  rw [we_bnd]
  refine we_q fun f ρ1 => ?_
  cases f with
  | nx => rfl
  | bk => exact we_ok
  | ct => exact we_ok
  | rt r => exact we_ok
theorem we_drop : We (sDrop m ρ) QF = We (m ρ) fun _ ρ1 => QF .nx ρ1 := by
  unfold sDrop
  rw [we_bnd]
  refine we_q fun f ρ1 => ?_
  exact we_ok
theorem we_ret : We (sRet m ρ) QF = We (m ρ) fun r ρ1 => Wo (retO r ρ1) fun p => QF (.rt p.1) p.2 := by
  unfold sRet
  rw [we_bnd]
  refine we_q fun r ρ1 => ?_
  cases h : retO r ρ1 with
  | none => rw [wo_none]; exact we_none
  | some p => rw [wo_some]; exact we_ok
theorem we_retN : We (sRetN ρ) QF = QF (.rt (.v .none)) ρ := we_ok
theorem we_sIf : We (sIf c sa sb ρ) QF = We (c ρ) fun x ρ1 => if x = true then We (sa ρ1) QF else We (sb ρ1) QF := by
  unfold sIf
  rw [we_bnd]
  refine we_q fun r ρ1 => ?_
  rw [we_ite]
theorem we_asg {g : MG} : We (sAsg m g ρ) QF = We (m ρ) fun r ρ1 => We (g r ρ1) fun _ ρ2 => QF .nx ρ2 := by
  unfold sAsg
  rw [we_bnd]
  refine we_q fun r ρ1 => ?_
  rw [we_bnd]
  refine we_q fun r ρ2 => ?_
  exact we_ok
theorem we_set {r : Out} : We (mSet i r ρ) QU = if isIo ρ i = true then False else (match r with
    | .v d => QU () (ρ.set i (.frz d))
    | .fr ds => QU () (ρ.set i (.own ds))
    | .bor j => Wo (frzO (.bor j) ρ) fun p => QU () (p.2.set i (.frz p.1))) := by
  unfold mSet
  rw [we_ite, we_none]
  congr
  cases r with
  | v d => exact we_ok
  | fr d => exact we_ok
  | bor j =>
    show We (match frzO (.bor j) ρ with | some (d, ρ1) => some (.ok () (ρ1.set i (.frz d))) | none => none) QU = _
    show _ = Wo (frzO (.bor j) ρ) fun p => QU () (p.2.set i (.frz p.1))
    cases h : frzO (.bor j) ρ with
    | none => rw [wo_none]; exact we_none
    | some p => rw [wo_some]; exact we_ok
theorem we_mgSub {r : Out} {mi : ME} : We (mgSub j mi r ρ) QU = Wo (frzO r ρ) fun p => if (contAt p.2 j).isSome = true then We (mi p.2) fun ri ρ2 => Wo (rd ρ2 (hold ri)) fun k => Wo (putAt ρ2 j k p.1) fun ρ3 => QU () ρ3 else False := by
  unfold mgSub
  cases h : frzO r ρ with
  | none => rw [wo_none]; exact we_none
  | some p =>
    rw [wo_some]
    show We (if (contAt p.2 j).isSome = true then _ else none) QU = _
    rw [we_ite, we_none, we_bnd, we_hold]
    refine ite_q ?_ rfl
    refine we_q fun ri ρ2 => ?_
    cases h2 : rd ρ2 (hold ri) with
    | none => rw [wo_none]; exact we_none
    | some k =>
      rw [wo_some]
      show We (match putAt ρ2 j k p.1 with | some ρ3 => some (.ok () ρ3) | none => none) QU = _
      cases h3 : putAt ρ2 j k p.1 with
      | none => rw [wo_none]; exact we_none
      | some p => rw [wo_some]; exact we_ok
theorem we_mgTup {n : Nat} {gs : MGs} {r : Out} : We (mgTup n gs r ρ) QU = Wo (rd ρ r) fun d => match d with
    | .tuple ds => if ds.length = n then We (gs ds ρ) QU else False
    | _ => False := by
  unfold mgTup
  cases h : rd ρ r with
  | none => rw [wo_none]; exact we_none
  | some d =>
    rw [wo_some]
    cases d with
    | tuple ds =>
      show We (if ds.length = n then gs ds ρ else none) QU = _
      rw [we_ite, we_none]
    | _ => exact we_none
theorem we_mgNil : We (mgNil [] ρ) QU = QU () ρ := we_ok
theorem we_mgCons {g : MG} {gs : MGs} {d : D} {ds : List D} : We (mgCons g gs (d :: ds) ρ) QU = We (g (.v d) ρ) fun _ ρ1 => We (gs ds ρ1) QU := by
  show We (bnd (g (.v d) ρ) fun _ ρ1 => gs ds ρ1) QU = _
  rw [we_bnd]
theorem we_iR1 {a : MA} : We (iR1 a ρ) QI = We (a ρ) fun rs ρ1 => Wo (rg1O ρ1 rs) fun r => QI r ρ1 := by
  unfold iR1
  rw [we_bnd]
  refine we_q fun r ρ1 => ?_
  exact we_opt
theorem we_iR2 {a : MA} : We (iR2 a ρ) QI = We (a ρ) fun rs ρ1 => Wo (rg2O ρ1 rs) fun r => QI r ρ1 := by
  unfold iR2
  rw [we_bnd]
  refine we_q fun r ρ1 => ?_
  exact we_opt
theorem we_for {mi : MI} {g : MG} {b : MS} : We (sFor mi g b ρ) QF = We (mi ρ) fun ds ρ1 => We (mLoop g b ds ρ1) QF := by
  unfold sFor
  rw [we_bnd]
theorem we_mNo : We (mNo ρ) QO = QO none ρ := we_ok
theorem we_part : We (mPart m ρ) QO = We (m ρ) fun r ρ1 => Wo (intO ρ1 (hold r)) fun i => QO (some i) ρ1 := by
  unfold mPart
  rw [we_bnd, we_hold]
  refine we_q fun r ρ1 => ?_
  rw [we_opt, wo_map]
theorem we_sl {a b : MO} : We (mSl m a b ρ) Q = We (m ρ) fun r ρ1 => We (a ρ1) fun lo ρ2 => We (b ρ2) fun hi ρ3 => Wo (sl3 ρ3 (hold r) lo hi) fun r => Q r ρ3 := by
  unfold mSl
  rw [we_bnd, we_hold]
  refine we_q fun r ρ1 => ?_
  rw [we_bnd]
  refine we_q fun lo ρ2 => ?_
  rw [we_bnd]
  refine we_q fun hi ρ3 => ?_
  exact we_opt
theorem we_ms : We (mMs f ma mb ρ) Q = We (ma ρ) fun r ρ1 => Wo (strO ρ1 (hold r)) fun z => We (mb ρ1) fun r2 ρ2 => Wo (rd1 (f (.str z)) ρ2 (hold r2)) fun r => Q r ρ2 := by
  unfold mMs
  rw [we_bnd, we_hold]
  refine we_q fun r ρ1 => ?_
  rw [we_bnd, we_opt]
  refine wo_q fun z => ?_
  rw [we_bnd, we_hold]
  refine we_q fun r2 ρ2 => ?_
  exact we_opt
theorem we_met {f : List D → List D → Option (D × List D)} {a : MA} : We (mMet f j a ρ) Q = if (contAt ρ j).isSome = true then We (a ρ) fun rs ρ1 => We (metO f j rs ρ1) Q else False := by
  unfold mMet
  rw [we_ite, we_none, we_bnd]
theorem we_call_ {mf : MF} {a : MA} : We (mCall mf a ρ) Q = We (a ρ) fun rs ρ1 => We (call0 mf rs ρ1) Q := by
  unfold mCall
  rw [we_bnd]
theorem we_callIo_ {mf : MF} {a : MA} : We (mCallIo mf a ρ) Q = We (a ρ) fun rs ρ1 => We (callIo mf rs ρ1) Q := by
  unfold mCallIo
  rw [we_bnd]
theorem we_lc_ {mi : MI} {g : MG} {tt : MT} {te : ME} {vs : List Nat} : We (mLc mi g tt te vs ρ) Q = We (mi ρ) fun ds ρ1 => Wo (mComp g tt te vs ds 0 (wipeR ρ1 vs)) fun p => Q (.fr p.1) p.2 := by
  unfold mLc
  rw [we_bnd]
  refine we_q fun ds ρ1 => ?_
  cases h : mComp g tt te vs ds 0 (wipeR ρ1 vs) with
  | none => rw [wo_none]; exact we_none
  | some p => rw [wo_some]; exact we_ok
/-! ### calls -/
def F0 (mf : MF) (ds : List D) (P : Out → Prop) : Prop := ∃ r fin, mf (ds.map .frz) = some (.ok r fin) ∧ noB r = true ∧ P r
def F1 (mf : MF) (c ds : List D) (P : Out → List D → Prop) : Prop := ∃ r c' fin, mf (.io c :: ds.map .frz) = some (.ok r (.io c' :: fin)) ∧ noB r = true ∧ P r c'
theorem we_call {mf : MF} {rs : List Out} {ds : List D} {P : Out → Prop} (h : F0 mf ds P) (e : outsV rs = some ds) (k : ∀ r, noB r = true → P r → Q r ρ) : We (call0 mf rs ρ) Q := by
  obtain ⟨r, fin, h1, h2, h3⟩ := h
  refine ⟨r, ρ, ?_, k r h2 h3⟩
  simp [call0, e, h1, h2]
theorem we_callIo {mf : MF} {rs : List Out} {ds c : List D} {s : Sl} {P : Out → List D → Prop} (h : F1 mf c ds P) (e : outsV rs = some ds) (es : ρ[i]? = some s) (ec : s.cont = some c) (k : ∀ r c', noB r = true → P r c' → Q r (ρ.set i (s.put c'))) : We (callIo mf (.bor i :: rs) ρ) Q := by
  obtain ⟨r, c', fin, h1, h2, h3⟩ := h
  refine ⟨r, ρ.set i (s.put c'), ?_, k r c' h2 h3⟩
  simp [callIo, e, es, ec, h1, h2]
def rtK (P : Out → Prop) : Fl → Rh → Prop
  | .rt r, _ => noB r = true ∧ P r
  | .nx, _ => P (.v .none)
  | _, _ => False
def rtK1 (P : Out → List D → Prop) : Fl → Rh → Prop
  | .rt r, ρ => noB r = true ∧ ∃ c, ρ[0]? = some (.io c) ∧ P r c
  | .nx, ρ => ∃ c, ρ[0]? = some (.io c) ∧ P (.v .none) c
  | _, _ => False
theorem rtK_rt {P : Out → Prop} {r : Out} : rtK P (.rt r) ρ = (noB r = true ∧ P r) := rfl
theorem rtK_nx {P : Out → Prop} : rtK P .nx ρ = P (.v .none) := rfl
theorem rtK1_rt {P : Out → List D → Prop} {r : Out} : rtK1 P (.rt r) ρ = (noB r = true ∧ ∃ c, ρ[0]? = some (.io c) ∧ P r c) := rfl
theorem rtK1_nx {P : Out → List D → Prop} : rtK1 P .nx ρ = ∃ c, ρ[0]? = some (.io c) ∧ P (.v .none) c := rfl
theorem F0.def_ {n : Nat} {b : MS} {ds : List D} {P : Out → Prop} (h : We (b (ds.map .frz ++ List.replicate (n - ds.length) .no)) (rtK P)) : F0 (mDef n b) ds P := by
  obtain ⟨f, ρ, e, q⟩ := h
  have e' : b (ds.map .frz ++ List.replicate (n - (ds.map Sl.frz).length) .no) = some (.ok f ρ) := by rw [List.length_map]; exact e
  cases f with
  | nx =>
    refine ⟨.v .none, finR (ds.map .frz) ρ, ?_, rfl, q⟩
    show endO _ _ = _
    rw [e']; rfl
  | rt r =>
    obtain ⟨q1, q2⟩ := q
    refine ⟨r, finR (ds.map .frz) ρ, ?_, q1, q2⟩
    show endO _ _ = _
    rw [e']
    cases r with
    | v d => rfl
    | fr d => rfl
    | bor i => cases q1
  | bk => cases q
  | ct => cases q
theorem F1.def_ {n : Nat} {b : MS} {c ds : List D} {P : Out → List D → Prop} (h : We (b (.io c :: (ds.map .frz ++ List.replicate (n - (ds.length + 1)) .no))) (rtK1 P)) : F1 (mDef n b) c ds P := by
  obtain ⟨f, ρ, e, q⟩ := h
  have e' : b ((.io c :: ds.map .frz) ++ List.replicate (n - (Sl.io c :: ds.map Sl.frz).length) .no) = some (.ok f ρ) := by rw [List.length_cons, List.length_map]; exact e
  have fin : ∀ c', ρ[0]? = some (.io c') → ∃ t, finR (.io c :: ds.map .frz) ρ = .io c' :: t := by
    intro c' e
    cases ρ with
    | nil => cases e
    | cons s ss =>
      cases e
      exact ⟨_, rfl⟩
  cases f with
  | nx =>
    obtain ⟨c', q1, q2⟩ := q
    obtain ⟨t, ht⟩ := fin c' q1
    refine ⟨.v .none, c', t, ?_, rfl, q2⟩
    show endO _ _ = _
    rw [e', ← ht]; rfl
  | rt r =>
    obtain ⟨q1, c', q2, q3⟩ := q
    obtain ⟨t, ht⟩ := fin c' q2
    refine ⟨r, c', t, ?_, q1, q3⟩
    show endO _ _ = _
    rw [e', ← ht]
    cases r with
    | v d => rfl
    | fr d => rfl
    | bor i => cases q1
  | bk => cases q
  | ct => cases q
theorem F0.mono {mf : MF} {ds : List D} {P P' : Out → Prop} (h : F0 mf ds P) (k : ∀ r, P r → P' r) : F0 mf ds P' := by
  obtain ⟨r, fin, h1, h2, h3⟩ := h
  exact ⟨r, fin, h1, h2, k r h3⟩
theorem F1.mono {mf : MF} {c ds : List D} {P P' : Out → List D → Prop} (h : F1 mf c ds P) (k : ∀ r c, P r c → P' r c) : F1 mf c ds P' := by
  obtain ⟨r, c', fin, h1, h2, h3⟩ := h
  exact ⟨r, c', fin, h1, h2, k r c' h3⟩
/-! ### loops and comprehensions -/
def loopK (I : List D → Rh → Prop) (Q : Fl → Rh → Prop) (done : List D) : Fl → Rh → Prop
  | .nx, ρ => I done ρ
  | .ct, ρ => I done ρ
  | .bk, ρ => Q .nx ρ
  | .rt r, ρ => Q (.rt r) ρ
theorem we_loop {g : MG} {b : MS} (I : List D → Rh → Prop) : ∀ {ds done : List D} {ρ : Rh}, (∀ (p : List D) (d : D) (s : List D) (ρ : Rh), done ++ ds = p ++ d :: s → done.length ≤ p.length → I p ρ → We (g (.v d) ρ) fun _ ρ1 => We (b ρ1) (loopK I QF (p ++ [d]))) → I done ρ → (∀ ρ, I (done ++ ds) ρ → QF .nx ρ) → We (mLoop g b ds ρ) QF
  | [], done, ρ, _, h0, hq => by
    rw [List.append_nil] at hq
    show We (some (.ok .nx ρ)) QF
    rw [we_ok]
    exact hq ρ h0
  | d :: ds, done, ρ, h, h0, hq => by
    have e : done ++ d :: ds = (done ++ [d]) ++ ds := by rw [List.append_assoc]; rfl
    show We (bnd (g (.v d) ρ) fun _ ρ1 => bnd (b ρ1) fun f ρ2 => match f with
      | .nx => mLoop g b ds ρ2
      | .ct => mLoop g b ds ρ2
      | .bk => some (.ok .nx ρ2)
      | .rt r => some (.ok (.rt r) ρ2)) QF
    rw [we_bnd]
    refine (h done d ds ρ rfl (Nat.le_refl _) h0).mono fun _ ρ1 h1 => ?_
    rw [we_bnd]
    have next : ∀ ρ2, I (done ++ [d]) ρ2 → We (mLoop g b ds ρ2) QF := fun ρ2 h2 => by
      refine we_loop I (done := done ++ [d]) (fun p d' s ρ e' l i => h p d' s ρ (by rw [e]; exact e') (by rw [List.length_append] at l; omega) i) h2 fun ρ i => hq ρ (by rw [e]; exact i)
    refine h1.mono fun f ρ2 h2 => ?_
    cases f with
    | nx => exact next ρ2 h2
    | ct => exact next ρ2 h2
    | bk => exact we_ok.mpr h2
    | rt r => exact we_ok.mpr h2
/-- a loop with one rule for each round -/
theorem we_loop0 {g : MG} {b : MS} {ds : List D} {ρ : Rh} (I : Rh → Prop) (h : ∀ d ∈ ds, ∀ ρ, I ρ → We (g (.v d) ρ) fun _ ρ1 => We (b ρ1) (loopK (fun _ => I) QF [])) (h0 : I ρ) (hq : ∀ ρ, I ρ → QF .nx ρ) : We (mLoop g b ds ρ) QF :=
  we_loop (fun _ => I) (done := []) (fun p d s ρ e _ i => (h d (by have e' : ds = p ++ d :: s := e; rw [e']; simp) ρ i).mono fun _ _ h1 => h1.mono fun f _ h2 => by cases f <;> exact h2) h0 hq
def All2 (R : D → D → Prop) : List D → List D → Prop
  | [], [] => True
  | d :: ds, y :: ys => R d y ∧ All2 R ds ys
  | _, _ => False
theorem All2.len {R : D → D → Prop} : ∀ {ds ys : List D}, All2 R ds ys → ys.length = ds.length
  | [], [], _ => rfl
  | _ :: _, _ :: _, h => by rw [List.length_cons, List.length_cons, All2.len h.2]
  | [], _ :: _, h => h.elim
  | _ :: _, [], h => h.elim
theorem All2.mem {R : D → D → Prop} : ∀ {ds ys : List D}, All2 R ds ys → ∀ y ∈ ys, ∃ d ∈ ds, R d y
  | [], [], _, y, m => by cases m
  | d :: ds, z :: ys, h, y, m => by
    cases m with
    | head => exact ⟨d, List.mem_cons_self, h.1⟩
    | tail _ m =>
      obtain ⟨d', m', r⟩ := All2.mem h.2 y m
      exact ⟨d', List.mem_cons_of_mem _ m', r⟩
  | [], _ :: _, h, _, _ => h.elim
  | _ :: _, [], h, _, _ => h.elim
theorem All2.map {R : D → D → Prop} {f : D → D} (k : ∀ d y, R d y → y = f d) : ∀ {ds ys : List D}, All2 R ds ys → ys = ds.map f
  | [], [], _ => rfl
  | d :: ds, y :: ys, h => by rw [List.map_cons, k d y h.1, All2.map k h.2]
  | [], _ :: _, h => h.elim
  | _ :: _, [], h => h.elim
def compK (tt : MT) (te : ME) (R : D → Rh → Prop) : Unit → Rh → Prop := fun _ ρ1 => We (tt ρ1) fun b ρ2 => b = true ∧ We (te ρ2) fun o ρ3 => Wo (frzO o ρ3) fun p => R p.1 p.2
theorem we_comp {g : MG} {tt : MT} {te : ME} {vs : List Nat} (I : Rh → Prop) (R : D → D → Prop) : ∀ {ds : List D} {n : Nat} {ρ : Rh}, (∀ d ∈ ds, ∀ ρ, I ρ → We (g (.v d) ρ) (compK tt te fun y ρ3 => R d y ∧ I (wipeR ρ3 vs))) → I ρ → n + ds.length ≤ sizeLine → ∃ ys ρ', mComp g tt te vs ds n ρ = some (ys, ρ') ∧ I ρ' ∧ All2 R ds ys
  | [], n, ρ, _, h0, _ => ⟨[], ρ, rfl, h0, trivial⟩
  | d :: ds, n, ρ, h, h0, hn => by
    obtain ⟨_, ρ1, e1, b, ρ2, e2, hb, o, ρ3, e3, ⟨y, ρ4⟩, e4, r1, i1⟩ := h d List.mem_cons_self ρ h0
    subst hb
    have e3' : mFrz te ρ2 = some (.ok (.v y) ρ4) := by simp [mFrz, e3, e4, bnd]
    rw [List.length_cons] at hn
    obtain ⟨ys, ρ', e5, i5, a5⟩ := we_comp I R (ds := ds) (n := n + 1) (ρ := wipeR ρ4 vs) (fun d' m => h d' (List.mem_cons_of_mem _ m)) i1 (by omega)
    refine ⟨y :: ys, ρ', ?_, i5, r1, a5⟩
    have : n < sizeLine := by omega
    simp [mComp, pur, e1, e2, e3', this, e5]
theorem we_lc {g : MG} {tt : MT} {te : ME} {vs : List Nat} {ds : List D} {ρ : Rh} (I : Rh → Prop) (R : D → D → Prop) {Q : List D × Rh → Prop} (h : ∀ d ∈ ds, ∀ ρ, I ρ → We (g (.v d) ρ) (compK tt te fun y ρ3 => R d y ∧ I (wipeR ρ3 vs))) (h0 : I ρ) (hn : ds.length ≤ sizeLine) (k : ∀ ys ρ', I ρ' → All2 R ds ys → Q (ys, ρ')) : Wo (mComp g tt te vs ds 0 ρ) Q := by
  obtain ⟨ys, ρ', e, i, a⟩ := we_comp I R (n := 0) h h0 (by omega)
  exact ⟨(ys, ρ'), e, k ys ρ' i a⟩
end
/-! ### data -/
theorem shaped_int (i : Int) : SeqAt.shaped (.int i) = true := rfl
theorem shaped_none : SeqAt.shaped .none = true := rfl
theorem shaped_bool (b : Bool) : SeqAt.shaped (.bool b) = true := rfl
theorem eqB_int (i j : Int) : eqB (.int i) (.int j) = some (decide (i = j)) := by
  have : eqB (.int i) (.int j) = some (i == j) := rfl
  rw [this]
  congr
theorem neB_int (i j : Int) : neB (.int i) (.int j) = some (!decide (i = j)) := by
  have : neB (.int i) (.int j) = some (!(i == j)) := rfl
  rw [this]
  congr
theorem atI_nat {α : Type} {xs : List α} {i : Nat} (h : i < xs.length) : atI xs (i : Int) = some xs[i] := by
  unfold atI ixN
  rw [if_pos (by omega), if_pos (by omega)]
  simp [h]
theorem atI_mem {α : Type} {xs : List α} {i : Int} (h : 0 ≤ i) (h2 : i < xs.length) : ∃ x ∈ xs, atI xs i = some x := by
  obtain ⟨n, rfl⟩ := Int.eq_ofNat_of_zero_le h
  have h3 : n < xs.length := by omega
  exact ⟨xs[n], List.getElem_mem h3, atI_nat h3⟩
theorem wo_ix {P : Out → Prop} {xs : List D} {i : Int} (h : 0 ≤ i) (h2 : i < xs.length) (k : ∀ x ∈ xs, P (.v x)) : Wo ((atI xs i).map Out.v) P := by
  obtain ⟨x, m, e⟩ := atI_mem h h2
  exact ⟨.v x, by rw [e]; rfl, k x m⟩
section
variable {QI : List D → Rh → Prop} {QT : Bool → Rh → Prop} {QF : Fl → Rh → Prop} {ρ : Rh} {m : ME} {a : MA} {i j l : Nat}
theorem we_yes : We (mYes ρ) QT = QT true ρ := we_ok
def iaK (Q : List D → Rh → Prop) : D × Rh → Prop
  | (.list ds, ρ) => Q ds ρ
  | (.tuple ds, ρ) => Q ds ρ
  | (.str z, ρ) => Q (chD z) ρ
  | _ => False
theorem iaK_list {ds : List D} : iaK QI (.list ds, ρ) = QI ds ρ := rfl
theorem iaK_tuple {ds : List D} : iaK QI (.tuple ds, ρ) = QI ds ρ := rfl
theorem iaK_str {z : Str} : iaK QI (.str z, ρ) = QI (chD z) ρ := rfl
theorem we_iA : We (iA m ρ) QI = We (m ρ) fun r ρ1 => Wo (frzO r ρ1) (iaK QI) := by
  unfold iA
  rw [we_bnd, we_frz]
  refine we_q fun r ρ1 => ?_
  refine wo_q fun p => ?_
  obtain ⟨d, ρ2⟩ := p
  cases d with
  | list ds => exact we_ok
  | tuple ds => exact we_ok
  | str z => exact we_ok
  | _ => exact we_none
def parK2 (i j : Nat) (Q : Fl → Rh → Prop) : List Out → Rh → Prop
  | [.v d1, .v d2], ρ => We (mSet i (.v d1) ρ) fun _ ρ2 => We (mSet j (.v d2) ρ2) fun _ ρ3 => Q .nx ρ3
  | _, _ => False
theorem parK2_e {d1 d2 : D} : parK2 i j QF [.v d1, .v d2] ρ = We (mSet i (.v d1) ρ) fun _ ρ2 => We (mSet j (.v d2) ρ2) fun _ ρ3 => QF .nx ρ3 := rfl
def parK3 (i j l : Nat) (Q : Fl → Rh → Prop) : List Out → Rh → Prop
  | [.v d1, .v d2, .v d3], ρ => We (mSet i (.v d1) ρ) fun _ ρ2 => We (mSet j (.v d2) ρ2) fun _ ρ3 => We (mSet l (.v d3) ρ3) fun _ ρ4 => Q .nx ρ4
  | _, _ => False
theorem parK3_e {d1 d2 d3 : D} : parK3 i j l QF [.v d1, .v d2, .v d3] ρ = We (mSet i (.v d1) ρ) fun _ ρ2 => We (mSet j (.v d2) ρ2) fun _ ρ3 => We (mSet l (.v d3) ρ3) fun _ ρ4 => QF .nx ρ4 := rfl
theorem we_par2 : We (sPar2 i j a ρ) QF = We (a ρ) (parK2 i j QF) := by
  unfold sPar2
  rw [we_bnd]
  refine we_q fun rs ρ1 => ?_
  unfold parK2
  split
  · rw [we_bnd]
    refine we_q fun _ ρ2 => ?_
    rw [we_bnd]
    refine we_q fun _ ρ3 => ?_
    exact we_ok
  · rename_i h
    split
    · rename_i h2
      exact absurd rfl (h _ _)
    · exact we_none
theorem we_par3 : We (sPar3 i j l a ρ) QF = We (a ρ) (parK3 i j l QF) := by
  unfold sPar3
  rw [we_bnd]
  refine we_q fun rs ρ1 => ?_
  unfold parK3
  split
  · rw [we_bnd]
    refine we_q fun _ ρ2 => ?_
    rw [we_bnd]
    refine we_q fun _ ρ3 => ?_
    rw [we_bnd]
    refine we_q fun _ ρ4 => ?_
    exact we_ok
  · rename_i h
    split
    · rename_i h2
      exact absurd rfl (h _ _ _)
    · exact we_none
end
theorem ixN_lit {m n : Nat} : ixN m (no_index (OfNat.ofNat n : Int)) = if n < m then some n else none := by
  show ixN m (n : Int) = _
  unfold ixN
  rw [if_pos (by omega)]
  by_cases h : n < m
  · rw [if_pos h, if_pos (by omega), Int.toNat_natCast]
  · rw [if_neg h, if_neg (by omega)]
theorem atI_lit {α : Type} {xs : List α} {n : Nat} : atI xs (no_index (OfNat.ofNat n : Int)) = xs[n]? := by
  unfold atI
  rw [ixN_lit]
  by_cases h : n < xs.length
  · rw [if_pos h]; rfl
  · rw [if_neg h]
    exact (List.getElem?_eq_none (by omega)).symm
theorem ixN_at {m : Nat} {i : Int} (h : 0 ≤ i) (h2 : i < m) : ixN m i = some i.toNat := by
  unfold ixN
  rw [if_pos h, if_pos h2]
theorem len_ints {xs : List Int} : (xs.map PyData.int).length = xs.length := by rw [List.length_map]
theorem small_emod (x : Int) {m : Int} (h : 0 < m) (h2 : m ≤ 18446744073709551616) : small64 (x % m) = true := by
  have a := Int.emod_nonneg x (by omega : m ≠ 0)
  have b := Int.emod_lt_of_pos x h
  unfold small64
  rw [Bool.and_eq_true, decide_eq_true_eq, decide_eq_true_eq]
  omega
theorem small_lit {i : Int} (h : -18446744073709551616 < i) (h2 : i < 18446744073709551616) : small64 i = true := by
  unfold small64
  rw [Bool.and_eq_true, decide_eq_true_eq, decide_eq_true_eq]
  omega
theorem pow_10_18 : powD (.int 10) (.int 18) = some (.v (.int 1000000000000000000)) := by
  show (if (0 : Int) ≤ 18 ∧ (18 : Int) ≤ 1000000 ∧ (10 : Int).natAbs < 2 ^ 64 then some (Out.v (.int (10 ^ (18 : Int).toNat))) else none) = _
  rw [if_pos (by decide)]
  rfl
def ioB : Sl → Bool
  | .io _ => true
  | _ => false
theorem isIo_zero {s : Sl} {ρ : Rh} : isIo (s :: ρ) 0 = ioB s := by cases s <;> rfl
theorem isIo_succ {s : Sl} {ρ : Rh} {i : Nat} : isIo (s :: ρ) (i + 1) = isIo ρ i := rfl
theorem ioB_no : ioB .no = false := rfl
theorem ioB_frz {d : D} : ioB (.frz d) = false := rfl
theorem ioB_own {d : List D} : ioB (.own d) = false := rfl
theorem ioB_io {d : List D} : ioB (.io d) = true := rfl
theorem le_line {n : Nat} : (n ≤ sizeLine) = (n ≤ 16777216) := propext ⟨id, id⟩
theorem lt_line {n : Nat} : (n < sizeLine) = (n < 16777216) := propext ⟨id, id⟩
theorem bools_map {f : D → Bool} : ∀ {ds : List D}, boolsOf (ds.map fun x => .bool (f x)) = some (ds.map f)
  | [] => rfl
  | d :: ds => by
    rw [List.map_cons, List.map_cons]
    show (boolsOf (ds.map fun x => PyData.bool (f x))).map (f d :: ·) = _
    rw [bools_map]
    rfl
theorem all_map {f : D → Bool} {ds : List D} : allD [.list (ds.map fun x => .bool (f x))] = some (.v (.bool (ds.all f))) := by
  show (boolsOf (ds.map fun x => PyData.bool (f x))).map (fun bs => Out.v (.bool (bs.all id))) = _
  rw [bools_map]
  show some (Out.v (.bool ((ds.map f).all id))) = _
  rw [List.all_map]
  rfl
def isNone : D → Bool
  | .none => true
  | _ => false
theorem isNB_none {d : D} : isNB d .none = some (isNone d) := by cases d <;> rfl
def isCnt (a b : Int) : D → Bool
  | .int i => decide (a ≤ i) && decide (i ≤ b)
  | _ => false
/-- a comprehension whose items come of the elements alone -/
theorem wo_lcF {g : MG} {tt : MT} {te : ME} {vs : List Nat} {ds : List D} {ρ : Rh} (f : D → D) {Q : List D × Rh → Prop} (h : ∀ d ∈ ds, We (g (.v d) ρ) (compK tt te fun y ρ3 => y = f d ∧ wipeR ρ3 vs = ρ)) (hn : ds.length ≤ sizeLine) (k : Q (ds.map f, ρ)) : Wo (mComp g tt te vs ds 0 ρ) Q := by
  refine we_lc (fun ρ' => ρ' = ρ) (fun d y => y = f d) ?_ rfl hn ?_
  · rintro d m ρ' rfl
    exact h d m
  · rintro ys ρ' rfl a
    rw [All2.map (fun _ _ => id) a]
    exact k
theorem inD_none {ds : List D} (h : SeqAt.shaped (.tuple ds) = true) : inD .none (.tuple ds) = some (ds.any isNone) := by
  show (if shapedB .none (.tuple ds) = true then some (ds.any fun z => PyData.eqv z .none) else none) = _
  rw [if_pos (by unfold shapedB; rw [h]; rfl)]
  congr 1
  refine congrArg (fun f => ds.any f) ?_
  funext z
  cases z <;> rfl
theorem shaped_flat {ds : List D} (h : ∀ d ∈ ds, PyData.canLay0 d = true ∧ PyData.depth d = 0) : SeqAt.shaped (.tuple ds) = true := by
  have h2 : PyData.canLayAll0 ds = true ∧ PyData.depthAll ds = 0 := by
    induction ds with
    | nil => exact ⟨rfl, rfl⟩
    | cons d ds ih =>
      obtain ⟨a, b⟩ := h d List.mem_cons_self
      obtain ⟨c, e⟩ := ih fun x m => h x (List.mem_cons_of_mem _ m)
      constructor
      · show (PyData.canLay0 d && PyData.canLayAll0 ds) = true
        rw [a, c]; rfl
      · show max (PyData.depth d) (PyData.depthAll ds) = 0
        rw [b, e]; rfl
  show (PyData.canLayAll0 ds && decide (PyData.depthAll ds + 1 ≤ 64)) = true
  rw [h2.1, h2.2]
  rfl
theorem wo_rg1 {ρ : Rh} {i : Int} {Q : List D → Prop} (h : -4611686018427387904 ≤ i) (h2 : i < 4611686018427387904) (q : Q (rgD 0 i.toNat)) : Wo (rg1O ρ [.v (.int i)]) Q :=
  ⟨_, if_pos ⟨h, h2⟩, q⟩
theorem wo_rgN {ρ : Rh} {i : Nat} {Q : List D → Prop} (h2 : i < 4611686018427387904) (q : Q (rgD 0 i)) : Wo (rg1O ρ [.v (.int i)]) Q := by
  generalize hj : (i : Int) = j
  have e : j.toNat = i := by omega
  refine wo_rg1 (by omega) (by omega) ?_
  rw [e]
  exact q
theorem wo_rg2 {ρ : Rh} {i j : Int} {Q : List D → Prop} (h : -4611686018427387904 ≤ i) (h2 : i < 4611686018427387904) (h3 : -4611686018427387904 ≤ j) (h4 : j < 4611686018427387904) (q : Q (rgD i (j - i).toNat)) : Wo (rg2O ρ [.v (.int i), .v (.int j)]) Q :=
  ⟨_, if_pos ⟨h, h2, h3, h4⟩, q⟩
theorem rgD_mem {n : Nat} {d : D} (h : d ∈ rgD 0 n) : ∃ i : Nat, i < n ∧ d = .int i := by
  unfold rgD at h
  obtain ⟨i, m, rfl⟩ := List.mem_map.mp h
  exact ⟨i, List.mem_range.mp m, by rw [Int.zero_add]⟩
theorem rgD_len {lo : Int} {n : Nat} : (rgD lo n).length = n := by unfold rgD; simp
theorem wo_at {P : D → Prop} {xs : List D} {i : Int} (h : 0 ≤ i) (h2 : i < xs.length) (k : ∀ x ∈ xs, P x) : Wo (atI xs i) P := by
  obtain ⟨x, m, e⟩ := atI_mem h h2
  exact ⟨x, e, k x m⟩
theorem all_nil {P : D → Prop} : ∀ x ∈ ([] : List D), P x := fun x m => by cases m
theorem all_cons {P : D → Prop} {d : D} {ds : List D} (h : P d) (hs : ∀ x ∈ ds, P x) : ∀ x ∈ d :: ds, P x := fun x m => by
  cases m with
  | head => exact h
  | tail _ m => exact hs x m
/-- a cut behind a statement -/
theorem we_cut {sa sb : MS} {ρ : Rh} {QF : Fl → Rh → Prop} (J : Rh → Prop) (h : We (sa ρ) fun f ρ1 => f = .nx ∧ J ρ1) (k : ∀ ρ1, J ρ1 → We (sb ρ1) QF) : We (sSeq sa sb ρ) QF := by
  rw [we_seq]
  refine h.mono ?_
  rintro f ρ1 ⟨rfl, j⟩
  exact k ρ1 j
theorem ixN_in {m : Nat} {i : Int} (h : 0 ≤ i) (h2 : i < m) : ∃ n, ixN m i = some n ∧ n < m := ⟨i.toNat, ixN_at h h2, by omega⟩
theorem inD_ints {k a b : Int} : inD (.int k) (.tuple [.int a, .int b]) = some (decide (a = k) || decide (b = k)) := by
  show (if shapedB (.int k) (.tuple [.int a, .int b]) = true then some ([PyData.int a, .int b].any fun z => PyData.eqv z (.int k)) else none) = _
  have e : shapedB (.int k) (.tuple [.int a, .int b]) = true := rfl
  rw [if_pos e]
  show some ((a == k) || ((b == k) || false)) = _
  rw [Bool.or_false]
  rfl
theorem cut_len {ds : List D} {lo hi : Option Int} : (cutD ds lo hi).length ≤ ds.length := by
  unfold cutD
  rw [List.length_take, List.length_drop]
  omega
theorem cut_one {d : D} {ds : List D} : cutD (d :: ds) (some 1) none = ds := by
  have e : HT.sIx (d :: ds).length 0 (some 1) = 1 := by
    rw [List.length_cons]
    show min 1 (ds.length + 1) = 1
    omega
  have e2 : HT.sIx (d :: ds).length (d :: ds).length none = (d :: ds).length := rfl
  unfold cutD
  rw [e, e2]
  show ds.take _ = ds
  rw [List.take_of_length_le]
  rw [List.length_cons]
  omega
theorem pos1 {n : Nat} : (0 < n + 1) = True := eq_true (Nat.succ_pos n)
end ML

set_option Elab.async false
set_option linter.all false
set_option maxRecDepth 100000
set_option maxHeartbeats 4000000
namespace K01
open PySem PySem.Spec PyProof.Rows L2 ML
def top (i : Nat) : Stmt := PySem.Challenge.pw_ineditions_k01_words_ways_maps_tables.main.body.getD i (.Pass ⟨0, 0, 0, 0⟩)
theorem hu65_of {A : Around} {k : Nat} (hr : Room k A) : A.units + 65 < cLine := by have := hr.un; omega
structure Txt (mg : Str → Option Value) : Prop where
  z_abs : mg "abs" = none
  z_all : mg "all" = none
  z_bool : mg "bool" = none
  z_int : mg "int" = none
  z_isinstance : mg "isinstance" = none
  z_len : mg "len" = none
  z_list : mg "list" = none
  z_range : mg "range" = none
  z_str : mg "str" = none
  z_tuple : mg "tuple" = none
  c_LETTERS : ∃ t, mg "LETTERS" = some (.str "abcdefghijklmnopqrstuvwxyz" t)
  c_WORD_MOST : ∃ t, mg "WORD_MOST" = some (.int (12) t)
def m_is_count : MF := mDef 3 (sRet (mAndV (mIsi .int (mVar 0)) (mAndV (mNotV (mIsi .bool (mVar 0))) (mChain leB leB (mVar 1) (mVar 0) (mVar 2)))))
abbrev s_is_count : Stmt := top 3
theorem sc_is_count : FnScope ["value", "least", "most"] ["value", "least", "most"] (defScope s_is_count) := ⟨rfl, rfl, rfl, by decide +kernel, rfl, by decide +kernel, by decide +kernel⟩
section
variable {P : Program} {w : World} {K : PySem.W.Frag} {mg : Str → Option Value} {base : Heap} {a : Addr} {fd : FuncData}
theorem ok_is_count (T : Txt mg) (F : FunD K "is_count" "is_count" (defArgs s_is_count) (defBody s_is_count) (defScope s_is_count) [] [] a fd) (hm : mg "is_count" = some (.ref a)) : Df P w K mg base "is_count" 1 3 m_is_count := by
  refine df_ok (N := ["value", "least", "most"]) (ps := ["value", "least", "most"]) F sc_is_count hm (F.bindsN fun _ _ _ _ _ _ us hl => match us, hl with | [_, _, _], _ => rfl) fun cdv A outer s H E hr => ?_
  have tk : Takes (cxOf (L2.CX P w) P w K mg base ["value", "least", "most"] "is_count" (defScope s_is_count) a cdv A outer s H E) (fun cls d _ H => E cls d H) := takes_of rfl rfl rfl rfl
  have hp : PassesOwn (model P w) (A.deeper (envOfC "is_count" (defScope s_is_count) s.heap.objs.size a cdv)) (envOfC "is_count" (defScope s_is_count) s.heap.objs.size a cdv) (cxOf (L2.CX P w) P w K mg base ["value", "least", "most"] "is_count" (defScope s_is_count) a cdv A outer s H E).xe := passes_of (X := cxOf (L2.CX P w) P w K mg base ["value", "least", "most"] "is_count" (defScope s_is_count) a cdv A outer s H E) rfl
  have hN : (["value", "least", "most"] : List Str).Nodup := sc_is_count.nd
  have hu64 := hr.units
  have hu65 : (A.deeper (envOfC "is_count" (defScope s_is_count) s.heap.objs.size a cdv)).units + 65 < cLine := hu65_of hr
  exact mss_one (ms_ret (me_and (me_isi .int (by decide +kernel) T.z_isinstance T.z_int (me_var 0)) (me_and (me_not (me_isi .bool (by decide +kernel) T.z_isinstance T.z_bool (me_var 0))) (me_one (me_chain c_le c_le (me_var 1) (me_var 0) (me_var 2))))))
end
def m_is_word : MF := mDef 2 (sRet (mAndV (mIsi .str (mVar 0)) (mAndV (mChain leB leB (mC (.int 1)) (mCB lenD (aCons (mVar 0) (aNil))) (mC (.int (12)))) (mCB allD (aCons (mLc (iA (mVar 0)) (mSet 1) (mYes) (mCmp inD (mVar 1) (mC (.str "abcdefghijklmnopqrstuvwxyz"))) [1]) (aNil))))))
abbrev s_is_word : Stmt := top 4
theorem sc_is_word : FnScope ["value", "sign"] ["value"] (defScope s_is_word) := ⟨rfl, rfl, rfl, by decide +kernel, rfl, by decide +kernel, by decide +kernel⟩
section
variable {P : Program} {w : World} {K : PySem.W.Frag} {mg : Str → Option Value} {base : Heap} {a : Addr} {fd : FuncData}
theorem ok_is_word (T : Txt mg) (F : FunD K "is_word" "is_word" (defArgs s_is_word) (defBody s_is_word) (defScope s_is_word) [] [] a fd) (hm : mg "is_word" = some (.ref a)) : Df P w K mg base "is_word" 1 1 m_is_word := by
  refine df_ok (N := ["value", "sign"]) (ps := ["value"]) F sc_is_word hm (F.bindsN fun _ _ _ _ _ _ us hl => match us, hl with | [_], _ => rfl) fun cdv A outer s H E hr => ?_
  have tk : Takes (cxOf (L2.CX P w) P w K mg base ["value", "sign"] "is_word" (defScope s_is_word) a cdv A outer s H E) (fun cls d _ H => E cls d H) := takes_of rfl rfl rfl rfl
  have hp : PassesOwn (model P w) (A.deeper (envOfC "is_word" (defScope s_is_word) s.heap.objs.size a cdv)) (envOfC "is_word" (defScope s_is_word) s.heap.objs.size a cdv) (cxOf (L2.CX P w) P w K mg base ["value", "sign"] "is_word" (defScope s_is_word) a cdv A outer s H E).xe := passes_of (X := cxOf (L2.CX P w) P w K mg base ["value", "sign"] "is_word" (defScope s_is_word) a cdv A outer s H E) rfl
  have hN : (["value", "sign"] : List Str).Nodup := sc_is_word.nd
  have hu64 := hr.units
  have hu65 : (A.deeper (envOfC "is_word" (defScope s_is_word) s.heap.objs.size a cdv)).units + 65 < cLine := hu65_of hr
  exact mss_one (ms_ret (me_and (me_isi .str (by decide +kernel) T.z_isinstance T.z_str (me_var 0)) (me_and (me_chain c_le c_le (me_int) (me_cb cb_len (by decide +kernel) T.z_len (ma_cons (me_var 0) (ma_nil))) (me_glob (v := .int (12)) T.c_WORD_MOST.choose_spec ⟨_, rfl⟩ (fun _ => .int _))) (me_one (me_cb (cb_all rfl) (by decide +kernel) T.z_all (ma_cons (me_lc (own := [("sign", 1)]) rfl hN (mi_any (me_var 0)) (blkOk_by (by kernel_rfl)) (fun _ _ _ _ _ => mg_name (vs := [1]) hN) (fun _ _ _ _ _ => mts_nil) (fun _ _ _ _ _ => me_cmp (c_in hu65) (me_var 1) (me_glob (v := .str "abcdefghijklmnopqrstuvwxyz") T.c_LETTERS.choose_spec ⟨_, rfl⟩ (fun _ => .str _)))) (ma_nil)))))))
end
def m_are_values : MF := mDef 3 (sRet (mAndV (mIsi .tuple (mVar 1)) (mAndV (mCmp eqB (mCB lenD (aCons (mVar 1) (aNil))) (mVar 0)) (mCB allD (aCons (mLc (iA (mVar 1)) (mSet 2) (mYes) (mCall m_is_count (aCons (mFrz (mVar 2)) (aCons (mC (.int 0)) (aCons (mFrz (mBin subD (mVar 0) (mC (.int 1)))) (aNil))))) [2]) (aNil))))))
abbrev s_are_values : Stmt := top 5
theorem sc_are_values : FnScope ["v", "value", "item"] ["v", "value"] (defScope s_are_values) := ⟨rfl, rfl, rfl, by decide +kernel, rfl, by decide +kernel, by decide +kernel⟩
section
variable {P : Program} {w : World} {K : PySem.W.Frag} {mg : Str → Option Value} {base : Heap} {a : Addr} {fd : FuncData}
theorem ok_are_values (T : Txt mg) (d_is_count : Df P w K mg base "is_count" 1 3 m_is_count) (F : FunD K "are_values" "are_values" (defArgs s_are_values) (defBody s_are_values) (defScope s_are_values) [] [] a fd) (hm : mg "are_values" = some (.ref a)) : Df P w K mg base "are_values" 2 2 m_are_values := by
  refine df_ok (N := ["v", "value", "item"]) (ps := ["v", "value"]) F sc_are_values hm (F.bindsN fun _ _ _ _ _ _ us hl => match us, hl with | [_, _], _ => rfl) fun cdv A outer s H E hr => ?_
  have tk : Takes (cxOf (L2.CX P w) P w K mg base ["v", "value", "item"] "are_values" (defScope s_are_values) a cdv A outer s H E) (fun cls d _ H => E cls d H) := takes_of rfl rfl rfl rfl
  have hp : PassesOwn (model P w) (A.deeper (envOfC "are_values" (defScope s_are_values) s.heap.objs.size a cdv)) (envOfC "are_values" (defScope s_are_values) s.heap.objs.size a cdv) (cxOf (L2.CX P w) P w K mg base ["v", "value", "item"] "are_values" (defScope s_are_values) a cdv A outer s H E).xe := passes_of (X := cxOf (L2.CX P w) P w K mg base ["v", "value", "item"] "are_values" (defScope s_are_values) a cdv A outer s H E) rfl
  have hN : (["v", "value", "item"] : List Str).Nodup := sc_are_values.nd
  have hu64 := hr.units
  have hu65 : (A.deeper (envOfC "are_values" (defScope s_are_values) s.heap.objs.size a cdv)).units + 65 < cLine := hu65_of hr
  exact mss_one (ms_ret (me_and (me_isi .tuple (by decide +kernel) T.z_isinstance T.z_tuple (me_var 1)) (me_and (me_cmp (c_eq hu64) (me_cb cb_len (by decide +kernel) T.z_len (ma_cons (me_var 1) (ma_nil))) (me_var 0)) (me_one (me_cb (cb_all rfl) (by decide +kernel) T.z_all (ma_cons (me_lc (own := [("item", 2)]) rfl hN (mi_any (me_var 1)) (blkOk_by (by kernel_rfl)) (fun _ _ _ _ _ => mg_name (vs := [2]) hN) (fun _ _ _ _ _ => mts_nil) (fun _ _ _ _ _ => me_call d_is_count (Room.mono (j := 1) hr (by omega)) takes0 (ma_cons (mf (me_var 2)) (ma_cons (me_int) (ma_cons (mf (me_sub (me_var 0) (me_int))) (ma_nil)))))) (ma_nil)))))))
end
def m_is_way : MF := mDef 3 (sSeq (sIf (mOr (mNot (mTru (mIsi .tuple (mVar 1)))) (mB (mCmp neB (mCB lenD (aCons (mVar 1) (aNil))) (mVar 0)))) (sRet (mC (.bool false))) (sNil)) (sRet (mCB allD (aCons (mLc (iA (mVar 1)) (mSet 2) (mYes) (mOrV (mCmp isNB (mVar 2) (mC .none)) (mCall m_is_count (aCons (mFrz (mVar 2)) (aCons (mC (.int 0)) (aCons (mFrz (mBin subD (mVar 0) (mC (.int 1)))) (aNil)))))) [2]) (aNil)))))
abbrev s_is_way : Stmt := top 6
theorem sc_is_way : FnScope ["v", "value", "item"] ["v", "value"] (defScope s_is_way) := ⟨rfl, rfl, rfl, by decide +kernel, rfl, by decide +kernel, by decide +kernel⟩
section
variable {P : Program} {w : World} {K : PySem.W.Frag} {mg : Str → Option Value} {base : Heap} {a : Addr} {fd : FuncData}
theorem ok_is_way (T : Txt mg) (d_is_count : Df P w K mg base "is_count" 1 3 m_is_count) (F : FunD K "is_way" "is_way" (defArgs s_is_way) (defBody s_is_way) (defScope s_is_way) [] [] a fd) (hm : mg "is_way" = some (.ref a)) : Df P w K mg base "is_way" 2 2 m_is_way := by
  refine df_ok (N := ["v", "value", "item"]) (ps := ["v", "value"]) F sc_is_way hm (F.bindsN fun _ _ _ _ _ _ us hl => match us, hl with | [_, _], _ => rfl) fun cdv A outer s H E hr => ?_
  have tk : Takes (cxOf (L2.CX P w) P w K mg base ["v", "value", "item"] "is_way" (defScope s_is_way) a cdv A outer s H E) (fun cls d _ H => E cls d H) := takes_of rfl rfl rfl rfl
  have hp : PassesOwn (model P w) (A.deeper (envOfC "is_way" (defScope s_is_way) s.heap.objs.size a cdv)) (envOfC "is_way" (defScope s_is_way) s.heap.objs.size a cdv) (cxOf (L2.CX P w) P w K mg base ["v", "value", "item"] "is_way" (defScope s_is_way) a cdv A outer s H E).xe := passes_of (X := cxOf (L2.CX P w) P w K mg base ["v", "value", "item"] "is_way" (defScope s_is_way) a cdv A outer s H E) rfl
  have hN : (["v", "value", "item"] : List Str).Nodup := sc_is_way.nd
  have hu64 := hr.units
  have hu65 : (A.deeper (envOfC "is_way" (defScope s_is_way) s.heap.objs.size a cdv)).units + 65 < cLine := hu65_of hr
  exact mss_cons (ms_if (mt_w (mw_or (mt_not (mt_tru (me_isi .tuple (by decide +kernel) T.z_isinstance T.z_tuple (me_var 1)))) (mw_or1 (mt_cmp (c_ne hu64) (me_cb cb_len (by decide +kernel) T.z_len (ma_cons (me_var 1) (ma_nil))) (me_var 0))))) (mss_one (ms_ret (me_bl))) (mss_nil)) (mss_one (ms_ret (me_cb (cb_all rfl) (by decide +kernel) T.z_all (ma_cons (me_lc (own := [("item", 2)]) rfl hN (mi_any (me_var 1)) (blkOk_by (by kernel_rfl)) (fun _ _ _ _ _ => mg_name (vs := [2]) hN) (fun _ _ _ _ _ => mts_nil) (fun _ _ _ _ _ => me_or (me_cmp c_isN (me_var 2) (me_non)) (me_one (me_call d_is_count (Room.mono (j := 1) hr (by omega)) takes0 (ma_cons (mf (me_var 2)) (ma_cons (me_int) (ma_cons (mf (me_sub (me_var 0) (me_int))) (ma_nil)))))))) (ma_nil)))))
end
def m_is_map : MF := mDef 2 (sRet (mAndV (mCall m_are_values (aCons (mFrz (mVar 0)) (aCons (mFrz (mVar 1)) (aNil)))) (mCmp eqB (mBin ixD (mVar 1) (mC (.int 0))) (mC (.int 0)))))
abbrev s_is_map : Stmt := top 7
theorem sc_is_map : FnScope ["v", "value"] ["v", "value"] (defScope s_is_map) := ⟨rfl, rfl, rfl, by decide +kernel, rfl, by decide +kernel, by decide +kernel⟩
section
variable {P : Program} {w : World} {K : PySem.W.Frag} {mg : Str → Option Value} {base : Heap} {a : Addr} {fd : FuncData}
theorem ok_is_map (T : Txt mg) (d_are_values : Df P w K mg base "are_values" 2 2 m_are_values) (F : FunD K "is_map" "is_map" (defArgs s_is_map) (defBody s_is_map) (defScope s_is_map) [] [] a fd) (hm : mg "is_map" = some (.ref a)) : Df P w K mg base "is_map" 3 2 m_is_map := by
  refine df_ok (N := ["v", "value"]) (ps := ["v", "value"]) F sc_is_map hm (F.bindsN fun _ _ _ _ _ _ us hl => match us, hl with | [_, _], _ => rfl) fun cdv A outer s H E hr => ?_
  have tk : Takes (cxOf (L2.CX P w) P w K mg base ["v", "value"] "is_map" (defScope s_is_map) a cdv A outer s H E) (fun cls d _ H => E cls d H) := takes_of rfl rfl rfl rfl
  have hp : PassesOwn (model P w) (A.deeper (envOfC "is_map" (defScope s_is_map) s.heap.objs.size a cdv)) (envOfC "is_map" (defScope s_is_map) s.heap.objs.size a cdv) (cxOf (L2.CX P w) P w K mg base ["v", "value"] "is_map" (defScope s_is_map) a cdv A outer s H E).xe := passes_of (X := cxOf (L2.CX P w) P w K mg base ["v", "value"] "is_map" (defScope s_is_map) a cdv A outer s H E) rfl
  have hN : (["v", "value"] : List Str).Nodup := sc_is_map.nd
  have hu64 := hr.units
  have hu65 : (A.deeper (envOfC "is_map" (defScope s_is_map) s.heap.objs.size a cdv)).units + 65 < cLine := hu65_of hr
  exact mss_one (ms_ret (me_and (me_call d_are_values (Room.mono (j := 2) hr (by omega)) tk (ma_cons (mf (me_var 0)) (ma_cons (mf (me_var 1)) (ma_nil)))) (me_one (me_cmp (c_eq hu64) (me_ix (me_var 1) (me_int)) (me_int)))))
end
def m_is_table : MF := mDef 3 (sSeq (sIf (mOr (mNot (mTru (mIsi .tuple (mVar 1)))) (mB (mCmp neB (mCB lenD (aCons (mVar 1) (aNil))) (mVar 0)))) (sRet (mC (.bool false))) (sNil)) (sRet (mAndV (mCB allD (aCons (mLc (iA (mVar 1)) (mSet 2) (mYes) (mCall m_are_values (aCons (mFrz (mVar 0)) (aCons (mFrz (mVar 2)) (aNil)))) [2]) (aNil))) (mCmp eqB (mBin ixD (mBin ixD (mVar 1) (mC (.int 0))) (mC (.int 0))) (mC (.int 0))))))
abbrev s_is_table : Stmt := top 8
theorem sc_is_table : FnScope ["v", "value", "row"] ["v", "value"] (defScope s_is_table) := ⟨rfl, rfl, rfl, by decide +kernel, rfl, by decide +kernel, by decide +kernel⟩
section
variable {P : Program} {w : World} {K : PySem.W.Frag} {mg : Str → Option Value} {base : Heap} {a : Addr} {fd : FuncData}
theorem ok_is_table (T : Txt mg) (d_are_values : Df P w K mg base "are_values" 2 2 m_are_values) (F : FunD K "is_table" "is_table" (defArgs s_is_table) (defBody s_is_table) (defScope s_is_table) [] [] a fd) (hm : mg "is_table" = some (.ref a)) : Df P w K mg base "is_table" 3 2 m_is_table := by
  refine df_ok (N := ["v", "value", "row"]) (ps := ["v", "value"]) F sc_is_table hm (F.bindsN fun _ _ _ _ _ _ us hl => match us, hl with | [_, _], _ => rfl) fun cdv A outer s H E hr => ?_
  have tk : Takes (cxOf (L2.CX P w) P w K mg base ["v", "value", "row"] "is_table" (defScope s_is_table) a cdv A outer s H E) (fun cls d _ H => E cls d H) := takes_of rfl rfl rfl rfl
  have hp : PassesOwn (model P w) (A.deeper (envOfC "is_table" (defScope s_is_table) s.heap.objs.size a cdv)) (envOfC "is_table" (defScope s_is_table) s.heap.objs.size a cdv) (cxOf (L2.CX P w) P w K mg base ["v", "value", "row"] "is_table" (defScope s_is_table) a cdv A outer s H E).xe := passes_of (X := cxOf (L2.CX P w) P w K mg base ["v", "value", "row"] "is_table" (defScope s_is_table) a cdv A outer s H E) rfl
  have hN : (["v", "value", "row"] : List Str).Nodup := sc_is_table.nd
  have hu64 := hr.units
  have hu65 : (A.deeper (envOfC "is_table" (defScope s_is_table) s.heap.objs.size a cdv)).units + 65 < cLine := hu65_of hr
  exact mss_cons (ms_if (mt_w (mw_or (mt_not (mt_tru (me_isi .tuple (by decide +kernel) T.z_isinstance T.z_tuple (me_var 1)))) (mw_or1 (mt_cmp (c_ne hu64) (me_cb cb_len (by decide +kernel) T.z_len (ma_cons (me_var 1) (ma_nil))) (me_var 0))))) (mss_one (ms_ret (me_bl))) (mss_nil)) (mss_one (ms_ret (me_and (me_cb (cb_all rfl) (by decide +kernel) T.z_all (ma_cons (me_lc (own := [("row", 2)]) rfl hN (mi_any (me_var 1)) (blkOk_by (by kernel_rfl)) (fun _ _ _ _ _ => mg_name (vs := [2]) hN) (fun _ _ _ _ _ => mts_nil) (fun _ _ _ _ _ => me_call d_are_values (Room.mono (j := 2) hr (by omega)) takes0 (ma_cons (mf (me_var 0)) (ma_cons (mf (me_var 2)) (ma_nil))))) (ma_nil))) (me_one (me_cmp (c_eq hu64) (me_ix (me_ix (me_var 1) (me_int)) (me_int)) (me_int))))))
end
def m__law_deck : MF := mDef 3 (sSeq (sAsg (mC (.int 7)) (mSet 1)) (sSeq (sFor (iA (mVar 0)) (mSet 2) (sAsg (mBin modD (mCB intD (aCons (mBin addD (mBin mulD (mVar 1) (mC (.int 48271))) (mVar 2)) (aNil))) (mC (.int 2147483647))) (mSet 1))) (sRet (mLst (aCons (mC (.int 0)) (aCons (mC (.int 0)) (aCons (mFrz (mVar 1)) (aCons (mFrz (mCB listD (aCons (mVar 0) (aNil)))) (aCons (mC (.int 0)) (aNil))))))))))
abbrev s__law_deck : Stmt := top 10
theorem sc__law_deck : FnScope ["script", "seed", "cell"] ["script"] (defScope s__law_deck) := ⟨rfl, rfl, rfl, by decide +kernel, rfl, by decide +kernel, by decide +kernel⟩
section
variable {P : Program} {w : World} {K : PySem.W.Frag} {mg : Str → Option Value} {base : Heap} {a : Addr} {fd : FuncData}
theorem ok__law_deck (T : Txt mg) (F : FunD K "_law_deck" "_law_deck" (defArgs s__law_deck) (defBody s__law_deck) (defScope s__law_deck) [] [] a fd) (hm : mg "_law_deck" = some (.ref a)) : Df P w K mg base "_law_deck" 1 1 m__law_deck := by
  refine df_ok (N := ["script", "seed", "cell"]) (ps := ["script"]) F sc__law_deck hm (F.bindsN fun _ _ _ _ _ _ us hl => match us, hl with | [_], _ => rfl) fun cdv A outer s H E hr => ?_
  have tk : Takes (cxOf (L2.CX P w) P w K mg base ["script", "seed", "cell"] "_law_deck" (defScope s__law_deck) a cdv A outer s H E) (fun cls d _ H => E cls d H) := takes_of rfl rfl rfl rfl
  have hp : PassesOwn (model P w) (A.deeper (envOfC "_law_deck" (defScope s__law_deck) s.heap.objs.size a cdv)) (envOfC "_law_deck" (defScope s__law_deck) s.heap.objs.size a cdv) (cxOf (L2.CX P w) P w K mg base ["script", "seed", "cell"] "_law_deck" (defScope s__law_deck) a cdv A outer s H E).xe := passes_of (X := cxOf (L2.CX P w) P w K mg base ["script", "seed", "cell"] "_law_deck" (defScope s__law_deck) a cdv A outer s H E) rfl
  have hN : (["script", "seed", "cell"] : List Str).Nodup := sc__law_deck.nd
  have hu64 := hr.units
  have hu65 : (A.deeper (envOfC "_law_deck" (defScope s__law_deck) s.heap.objs.size a cdv)).units + 65 < cLine := hu65_of hr
  exact mss_cons (ms_set (i := 1) hN (me_int)) (mss_cons (ms_for (vs := [2]) hp rfl (mi_any (me_var 0)) (mg_name (vs := [2]) hN) (mss_one (ms_set (i := 1) hN (me_mod (me_ct ct_int (by decide +kernel) T.z_int (ma_cons (me_add (me_mul (me_var 1) (me_int)) (me_var 2)) (ma_nil))) (me_int))))) (mss_one (ms_ret (me_lst (ma_cons (me_int) (ma_cons (me_int) (ma_cons (mf (me_var 1)) (ma_cons (mf (me_ct ct_list (by decide +kernel) T.z_list (ma_cons (me_var 0) (ma_nil)))) (ma_cons (me_int) (ma_nil))))))))))
end
def m__law_draw : MF := mDef 5 (sSeq (sIf (mAnd (mB (mCmp eqB (mBin ixD (mVar 0) (mC (.int 0))) (mC (.int 0)))) (mAnd (mB (mCmp ltB (mBin ixD (mVar 0) (mC (.int 1))) (mCB lenD (aCons (mBin ixD (mVar 0) (mC (.int 3))) (aNil))))) (mB (mCmp geB (mCB absD (aCons (mBin ixD (mBin ixD (mVar 0) (mC (.int 3))) (mBin ixD (mVar 0) (mC (.int 1)))) (aNil))) (mBin powD (mC (.int 10)) (mC (.int 18))))))) (sSeq (sAsg (mCB absD (aCons (mBin ixD (mBin ixD (mVar 0) (mC (.int 3))) (mBin ixD (mVar 0) (mC (.int 1)))) (aNil))) (mgSub 0 (mC (.int 0)))) (sAsg (mBin addD (mBin ixD (mVar 0) (mC (.int 1))) (mC (.int 1))) (mgSub 0 (mC (.int 1))))) (sIf (mB (mCmp eqB (mBin ixD (mVar 0) (mC (.int 0))) (mC (.int 0)))) (sSeq (sAsg (mC (.int 0)) (mSet 3)) (sSeq (sIf (mB (mCmp ltB (mBin ixD (mVar 0) (mC (.int 1))) (mCB lenD (aCons (mBin ixD (mVar 0) (mC (.int 3))) (aNil))))) (sSeq (sAsg (mBin modD (mCB intD (aCons (mCB absD (aCons (mBin ixD (mBin ixD (mVar 0) (mC (.int 3))) (mBin ixD (mVar 0) (mC (.int 1)))) (aNil))) (aNil))) (mC (.int 2147483647))) (mSet 3)) (sAsg (mBin addD (mBin ixD (mVar 0) (mC (.int 1))) (mC (.int 1))) (mgSub 0 (mC (.int 1))))) (sNil)) (sSeq (sAsg (mBin addD (mBin ixD (mVar 0) (mC (.int 4))) (mC (.int 1))) (mgSub 0 (mC (.int 4)))) (sSeq (sAsg (mBin modD (mCB intD (aCons (mBin addD (mBin addD (mBin addD (mBin mulD (mBin ixD (mVar 0) (mC (.int 2))) (mC (.int 48271))) (mBin mulD (mBin ixD (mVar 0) (mC (.int 4))) (mC (.int 69621)))) (mBin mulD (mVar 3) (mC (.int 16807)))) (mC (.int 12345))) (aNil))) (mC (.int 2147483647))) (mSet 4)) (sSeq (sAsg (mBin modD (mCB intD (aCons (mBin addD (mBin addD (mBin mulD (mVar 4) (mVar 4)) (mBin mulD (mC (.int 16807)) (mBin ixD (mVar 0) (mC (.int 4))))) (mC (.int 7))) (aNil))) (mC (.int 998244353))) (mSet 4)) (sSeq (sAsg (mBin modD (mCB intD (aCons (mBin addD (mBin addD (mBin mulD (mVar 4) (mVar 4)) (mBin mulD (mC (.int 48271)) (mBin ixD (mVar 0) (mC (.int 4))))) (mBin ixD (mVar 0) (mC (.int 2)))) (aNil))) (mC (.int 2147483629))) (mSet 4)) (sAsg (mBin fdivD (mVar 4) (mC (.int 13))) (mgSub 0 (mC (.int 0)))))))))) (sNil))) (sSeq (sAsg (mBin modD (mCB intD (aCons (mBin ixD (mVar 0) (mC (.int 0))) (aNil))) (mVar 1)) (mSet 2)) (sSeq (sAsg (mBin fdivD (mBin ixD (mVar 0) (mC (.int 0))) (mVar 1)) (mgSub 0 (mC (.int 0)))) (sRet (mVar 2)))))
abbrev s__law_draw : Stmt := top 11
theorem sc__law_draw : FnScope ["deck", "bound", "value", "cell", "number"] ["deck", "bound"] (defScope s__law_draw) := ⟨rfl, rfl, rfl, by decide +kernel, rfl, by decide +kernel, by decide +kernel⟩
section
variable {P : Program} {w : World} {K : PySem.W.Frag} {mg : Str → Option Value} {base : Heap} {a : Addr} {fd : FuncData}
theorem ok__law_draw (T : Txt mg) (F : FunD K "_law_draw" "_law_draw" (defArgs s__law_draw) (defBody s__law_draw) (defScope s__law_draw) [] [] a fd) (hm : mg "_law_draw" = some (.ref a)) : Df P w K mg base "_law_draw" 1 2 m__law_draw := by
  refine df_ok (N := ["deck", "bound", "value", "cell", "number"]) (ps := ["deck", "bound"]) F sc__law_draw hm (F.bindsN fun _ _ _ _ _ _ us hl => match us, hl with | [_, _], _ => rfl) fun cdv A outer s H E hr => ?_
  have tk : Takes (cxOf (L2.CX P w) P w K mg base ["deck", "bound", "value", "cell", "number"] "_law_draw" (defScope s__law_draw) a cdv A outer s H E) (fun cls d _ H => E cls d H) := takes_of rfl rfl rfl rfl
  have hp : PassesOwn (model P w) (A.deeper (envOfC "_law_draw" (defScope s__law_draw) s.heap.objs.size a cdv)) (envOfC "_law_draw" (defScope s__law_draw) s.heap.objs.size a cdv) (cxOf (L2.CX P w) P w K mg base ["deck", "bound", "value", "cell", "number"] "_law_draw" (defScope s__law_draw) a cdv A outer s H E).xe := passes_of (X := cxOf (L2.CX P w) P w K mg base ["deck", "bound", "value", "cell", "number"] "_law_draw" (defScope s__law_draw) a cdv A outer s H E) rfl
  have hN : (["deck", "bound", "value", "cell", "number"] : List Str).Nodup := sc__law_draw.nd
  have hu64 := hr.units
  have hu65 : (A.deeper (envOfC "_law_draw" (defScope s__law_draw) s.heap.objs.size a cdv)).units + 65 < cLine := hu65_of hr
  exact mss_cons (ms_if (mt_w (mw_and (mt_cmp (c_eq hu64) (me_ix (me_var 0) (me_int)) (me_int)) (mw_and (mt_cmp c_lt (me_ix (me_var 0) (me_int)) (me_cb cb_len (by decide +kernel) T.z_len (ma_cons (me_ix (me_var 0) (me_int)) (ma_nil)))) (mw_and1 (mt_cmp c_ge (me_cb cb_abs (by decide +kernel) T.z_abs (ma_cons (me_ix (me_ix (me_var 0) (me_int)) (me_ix (me_var 0) (me_int))) (ma_nil))) (me_pow (me_int) (me_int))))))) (mss_cons (ms_asg (me_cb cb_abs (by decide +kernel) T.z_abs (ma_cons (me_ix (me_ix (me_var 0) (me_int)) (me_ix (me_var 0) (me_int))) (ma_nil))) (mg_sub (j := 0) (me_int))) (mss_one (ms_asg (me_add (me_ix (me_var 0) (me_int)) (me_int)) (mg_sub (j := 0) (me_int))))) (mss_one (ms_if (mt_cmp (c_eq hu64) (me_ix (me_var 0) (me_int)) (me_int)) (mss_cons (ms_set (i := 3) hN (me_int)) (mss_cons (ms_if (mt_cmp c_lt (me_ix (me_var 0) (me_int)) (me_cb cb_len (by decide +kernel) T.z_len (ma_cons (me_ix (me_var 0) (me_int)) (ma_nil)))) (mss_cons (ms_set (i := 3) hN (me_mod (me_ct ct_int (by decide +kernel) T.z_int (ma_cons (me_cb cb_abs (by decide +kernel) T.z_abs (ma_cons (me_ix (me_ix (me_var 0) (me_int)) (me_ix (me_var 0) (me_int))) (ma_nil))) (ma_nil))) (me_int))) (mss_one (ms_asg (me_add (me_ix (me_var 0) (me_int)) (me_int)) (mg_sub (j := 0) (me_int))))) (mss_nil)) (mss_cons (ms_asg (me_add (me_ix (me_var 0) (me_int)) (me_int)) (mg_sub (j := 0) (me_int))) (mss_cons (ms_set (i := 4) hN (me_mod (me_ct ct_int (by decide +kernel) T.z_int (ma_cons (me_add (me_add (me_add (me_mul (me_ix (me_var 0) (me_int)) (me_int)) (me_mul (me_ix (me_var 0) (me_int)) (me_int))) (me_mul (me_var 3) (me_int))) (me_int)) (ma_nil))) (me_int))) (mss_cons (ms_set (i := 4) hN (me_mod (me_ct ct_int (by decide +kernel) T.z_int (ma_cons (me_add (me_add (me_mul (me_var 4) (me_var 4)) (me_mul (me_int) (me_ix (me_var 0) (me_int)))) (me_int)) (ma_nil))) (me_int))) (mss_cons (ms_set (i := 4) hN (me_mod (me_ct ct_int (by decide +kernel) T.z_int (ma_cons (me_add (me_add (me_mul (me_var 4) (me_var 4)) (me_mul (me_int) (me_ix (me_var 0) (me_int)))) (me_ix (me_var 0) (me_int))) (ma_nil))) (me_int))) (mss_one (ms_asg (me_fdiv (me_var 4) (me_int)) (mg_sub (j := 0) (me_int)))))))))) (mss_nil)))) (mss_cons (ms_set (i := 2) hN (me_mod (me_ct ct_int (by decide +kernel) T.z_int (ma_cons (me_ix (me_var 0) (me_int)) (ma_nil))) (me_var 1))) (mss_cons (ms_asg (me_fdiv (me_ix (me_var 0) (me_int)) (me_var 1)) (mg_sub (j := 0) (me_int))) (mss_one (ms_ret (me_var 2)))))
end
/-- _law_same, so many calls deep -/
def m__law_same : Nat → MF
  | 0 => fun _ => none
  | k + 1 => let F := m__law_same k; mDef 3 (sSeq (sIf (mB (mCmp isNB (mVar 1) (mC .none))) (sRet (mCmp isNB (mVar 0) (mC .none))) (sNil)) (sSeq (sIf (mB (mCmp isCB (mVar 1) (mC (.bool true)))) (sRet (mCmp isCB (mVar 0) (mC (.bool true)))) (sNil)) (sSeq (sIf (mB (mCmp isCB (mVar 1) (mC (.bool false)))) (sRet (mCmp isCB (mVar 0) (mC (.bool false)))) (sNil)) (sSeq (sIf (mTru (mIsi .int (mVar 1))) (sRet (mAndV (mIsi .int (mVar 0)) (mAndV (mNotV (mIsi .bool (mVar 0))) (mCmp eqB (mVar 0) (mVar 1))))) (sNil)) (sSeq (sIf (mTru (mIsi .str (mVar 1))) (sRet (mAndV (mIsi .str (mVar 0)) (mCmp eqB (mVar 0) (mVar 1)))) (sNil)) (sSeq (sIf (mTru (mIsi .tuple (mVar 1))) (sRet (mAndV (mIsi .tuple (mVar 0)) (mAndV (mCmp eqB (mCB lenD (aCons (mVar 0) (aNil))) (mCB lenD (aCons (mVar 1) (aNil)))) (mCB allD (aCons (mLc (iR1 (aCons (mCB lenD (aCons (mVar 1) (aNil))) (aNil))) (mSet 2) (mYes) (mCall F (aCons (mFrz (mBin ixD (mVar 0) (mVar 2))) (aCons (mFrz (mBin ixD (mVar 1) (mVar 2))) (aNil)))) [2]) (aNil)))))) (sNil)) (sRet (mAndV (mIsi .list (mVar 0)) (mAndV (mCmp eqB (mCB lenD (aCons (mVar 0) (aNil))) (mCB lenD (aCons (mVar 1) (aNil)))) (mCB allD (aCons (mLc (iR1 (aCons (mCB lenD (aCons (mVar 1) (aNil))) (aNil))) (mSet 2) (mYes) (mCall F (aCons (mFrz (mBin ixD (mVar 0) (mVar 2))) (aCons (mFrz (mBin ixD (mVar 1) (mVar 2))) (aNil)))) [2]) (aNil))))))))))))
abbrev s__law_same : Stmt := top 12
theorem sc__law_same : FnScope ["told", "due", "k"] ["told", "due"] (defScope s__law_same) := ⟨rfl, rfl, rfl, by decide +kernel, rfl, by decide +kernel, by decide +kernel⟩
section
variable {P : Program} {w : World} {K : PySem.W.Frag} {mg : Str → Option Value} {base : Heap} {a : Addr} {fd : FuncData}
theorem ok__law_same (T : Txt mg) (F : FunD K "_law_same" "_law_same" (defArgs s__law_same) (defBody s__law_same) (defScope s__law_same) [] [] a fd) (hm : mg "_law_same" = some (.ref a)) : ∀ n : Nat, Df P w K mg base "_law_same" (1 + n) 2 (m__law_same n)
  | 0 => df_none (ps := ["told", "due"]) F hm (F.bindsN fun _ _ _ _ _ _ us hl => match us, hl with | [_, _], _ => rfl)
  | k + 1 => by
    have ih := ok__law_same T F hm k
    refine df_ok (N := ["told", "due", "k"]) (ps := ["told", "due"]) F sc__law_same hm (F.bindsN fun _ _ _ _ _ _ us hl => match us, hl with | [_, _], _ => rfl) fun cdv A outer s H E hr => ?_
    have tk : Takes (cxOf (L2.CX P w) P w K mg base ["told", "due", "k"] "_law_same" (defScope s__law_same) a cdv A outer s H E) (fun cls d _ H => E cls d H) := takes_of rfl rfl rfl rfl
    have hp : PassesOwn (model P w) (A.deeper (envOfC "_law_same" (defScope s__law_same) s.heap.objs.size a cdv)) (envOfC "_law_same" (defScope s__law_same) s.heap.objs.size a cdv) (cxOf (L2.CX P w) P w K mg base ["told", "due", "k"] "_law_same" (defScope s__law_same) a cdv A outer s H E).xe := passes_of (X := cxOf (L2.CX P w) P w K mg base ["told", "due", "k"] "_law_same" (defScope s__law_same) a cdv A outer s H E) rfl
    have hN : (["told", "due", "k"] : List Str).Nodup := sc__law_same.nd
    have hu64 := hr.units
    have hu65 : (A.deeper (envOfC "_law_same" (defScope s__law_same) s.heap.objs.size a cdv)).units + 65 < cLine := hu65_of hr
    exact mss_cons (ms_if (mt_cmp c_isN (me_var 1) (me_non)) (mss_one (ms_ret (me_cmp c_isN (me_var 0) (me_non)))) (mss_nil)) (mss_cons (ms_if (mt_cmp c_isC (me_var 1) (me_bl)) (mss_one (ms_ret (me_cmp c_isC (me_var 0) (me_bl)))) (mss_nil)) (mss_cons (ms_if (mt_cmp c_isC (me_var 1) (me_bl)) (mss_one (ms_ret (me_cmp c_isC (me_var 0) (me_bl)))) (mss_nil)) (mss_cons (ms_if (mt_tru (me_isi .int (by decide +kernel) T.z_isinstance T.z_int (me_var 1))) (mss_one (ms_ret (me_and (me_isi .int (by decide +kernel) T.z_isinstance T.z_int (me_var 0)) (me_and (me_not (me_isi .bool (by decide +kernel) T.z_isinstance T.z_bool (me_var 0))) (me_one (me_cmp (c_eq hu64) (me_var 0) (me_var 1))))))) (mss_nil)) (mss_cons (ms_if (mt_tru (me_isi .str (by decide +kernel) T.z_isinstance T.z_str (me_var 1))) (mss_one (ms_ret (me_and (me_isi .str (by decide +kernel) T.z_isinstance T.z_str (me_var 0)) (me_one (me_cmp (c_eq hu64) (me_var 0) (me_var 1)))))) (mss_nil)) (mss_cons (ms_if (mt_tru (me_isi .tuple (by decide +kernel) T.z_isinstance T.z_tuple (me_var 1))) (mss_one (ms_ret (me_and (me_isi .tuple (by decide +kernel) T.z_isinstance T.z_tuple (me_var 0)) (me_and (me_cmp (c_eq hu64) (me_cb cb_len (by decide +kernel) T.z_len (ma_cons (me_var 0) (ma_nil))) (me_cb cb_len (by decide +kernel) T.z_len (ma_cons (me_var 1) (ma_nil)))) (me_one (me_cb (cb_all rfl) (by decide +kernel) T.z_all (ma_cons (me_lc (own := [("k", 2)]) rfl hN (mi_rng1 T.z_range (ma_cons (me_cb cb_len (by decide +kernel) T.z_len (ma_cons (me_var 1) (ma_nil))) (ma_nil))) (blkOk_by (by kernel_rfl)) (fun _ _ _ _ _ => mg_name (vs := [2]) hN) (fun _ _ _ _ _ => mts_nil) (fun _ _ _ _ _ => me_call ih hr takes0 (ma_cons (mf (me_ix (me_var 0) (me_var 2))) (ma_cons (mf (me_ix (me_var 1) (me_var 2))) (ma_nil))))) (ma_nil)))))))) (mss_nil)) (mss_one (ms_ret (me_and (me_isi .list (by decide +kernel) T.z_isinstance T.z_list (me_var 0)) (me_and (me_cmp (c_eq hu64) (me_cb cb_len (by decide +kernel) T.z_len (ma_cons (me_var 0) (ma_nil))) (me_cb cb_len (by decide +kernel) T.z_len (ma_cons (me_var 1) (ma_nil)))) (me_one (me_cb (cb_all rfl) (by decide +kernel) T.z_all (ma_cons (me_lc (own := [("k", 2)]) rfl hN (mi_rng1 T.z_range (ma_cons (me_cb cb_len (by decide +kernel) T.z_len (ma_cons (me_var 1) (ma_nil))) (ma_nil))) (blkOk_by (by kernel_rfl)) (fun _ _ _ _ _ => mg_name (vs := [2]) hN) (fun _ _ _ _ _ => mts_nil) (fun _ _ _ _ _ => me_call ih hr takes0 (ma_cons (mf (me_ix (me_var 0) (me_var 2))) (ma_cons (mf (me_ix (me_var 1) (me_var 2))) (ma_nil))))) (ma_nil)))))))))))))
end
def m__law_word : MF := mDef 3 (sSeq (sAsg (mBin ixD (mLst (aCons (mC (.int 1)) (aCons (mC (.int 1)) (aCons (mC (.int 2)) (aCons (mC (.int 3)) (aCons (mC (.int 6)) (aCons (mC (.int 11)) (aCons (mC (.int 12)) (aCons (mC (.int 12)) (aNil)))))))))) (mCallIo m__law_draw (aCons (mVar 0) (aCons (mC (.int 8)) (aNil))))) (mSet 1)) (sRet (mMs joinD (mC (.str "")) (mLc (iR1 (aCons (mVar 1) (aNil))) (mSet 2) (mYes) (mBin ixD (mC (.str "abcdefghijklmnopqrstuvwxyz")) (mCallIo m__law_draw (aCons (mVar 0) (aCons (mC (.int 26)) (aNil))))) [2]))))
abbrev s__law_word : Stmt := top 13
theorem sc__law_word : FnScope ["deck", "many", "k"] ["deck"] (defScope s__law_word) := ⟨rfl, rfl, rfl, by decide +kernel, rfl, by decide +kernel, by decide +kernel⟩
section
variable {P : Program} {w : World} {K : PySem.W.Frag} {mg : Str → Option Value} {base : Heap} {a : Addr} {fd : FuncData}
theorem ok__law_word (T : Txt mg) (d__law_draw : Df P w K mg base "_law_draw" 1 2 m__law_draw) (F : FunD K "_law_word" "_law_word" (defArgs s__law_word) (defBody s__law_word) (defScope s__law_word) [] [] a fd) (hm : mg "_law_word" = some (.ref a)) : Df P w K mg base "_law_word" 2 1 m__law_word := by
  refine df_ok (N := ["deck", "many", "k"]) (ps := ["deck"]) F sc__law_word hm (F.bindsN fun _ _ _ _ _ _ us hl => match us, hl with | [_], _ => rfl) fun cdv A outer s H E hr => ?_
  have tk : Takes (cxOf (L2.CX P w) P w K mg base ["deck", "many", "k"] "_law_word" (defScope s__law_word) a cdv A outer s H E) (fun cls d _ H => E cls d H) := takes_of rfl rfl rfl rfl
  have hp : PassesOwn (model P w) (A.deeper (envOfC "_law_word" (defScope s__law_word) s.heap.objs.size a cdv)) (envOfC "_law_word" (defScope s__law_word) s.heap.objs.size a cdv) (cxOf (L2.CX P w) P w K mg base ["deck", "many", "k"] "_law_word" (defScope s__law_word) a cdv A outer s H E).xe := passes_of (X := cxOf (L2.CX P w) P w K mg base ["deck", "many", "k"] "_law_word" (defScope s__law_word) a cdv A outer s H E) rfl
  have hN : (["deck", "many", "k"] : List Str).Nodup := sc__law_word.nd
  have hu64 := hr.units
  have hu65 : (A.deeper (envOfC "_law_word" (defScope s__law_word) s.heap.objs.size a cdv)).units + 65 < cLine := hu65_of hr
  exact mss_cons (ms_set (i := 1) hN (me_ix (me_lst (ma_cons (me_int) (ma_cons (me_int) (ma_cons (me_int) (ma_cons (me_int) (ma_cons (me_int) (ma_cons (me_int) (ma_cons (me_int) (ma_cons (me_int) (ma_nil)))))))))) (me_callIo d__law_draw (Room.mono (j := 1) hr (by omega)) tk (ma_cons (me_var 0) (ma_cons (me_int) (ma_nil)))))) (mss_one (ms_ret (me_join (me_str) (me_lc (own := [("k", 2)]) rfl hN (mi_rng1 T.z_range (ma_cons (me_var 1) (ma_nil))) (blkOk_by (by kernel_rfl)) (fun _ _ _ _ _ => mg_name (vs := [2]) hN) (fun _ _ _ _ _ => mts_nil) (fun _ _ _ _ _ => me_ix (me_str) (me_callIo d__law_draw (Room.mono (j := 1) hr (by omega)) takes0 (ma_cons (me_var 0) (ma_cons (me_int) (ma_nil)))))))))
end
def m__law_names : MF := mDef 8 (sSeq (sAsg (mCallIo m__law_draw (aCons (mVar 0) (aCons (mC (.int 4)) (aNil)))) (mSet 2)) (sSeq (sAsg (mSl (mBin addD (mCallIo m__law_word (aCons (mVar 0) (aNil))) (mC (.str "abcdefghijk"))) (mNo) (mPart (mC (.int 11)))) (mSet 3)) (sSeq (sAsg (mLst (aNil)) (mSet 4)) (sSeq (sFor (iR1 (aCons (mVar 1) (aNil))) (mSet 5) (sSeq (sAsg (mCallIo m__law_word (aCons (mVar 0) (aNil))) (mSet 6)) (sSeq (sIf (mB (mCmp eqB (mVar 2) (mC (.int 0)))) (sAsg (mBin addD (mVar 3) (mBin ixD (mC (.str "abcdefghijklmnopqrstuvwxyz")) (mCallIo m__law_draw (aCons (mVar 0) (aCons (mC (.int 26)) (aNil)))))) (mSet 6)) (sNil)) (sSeq (sIf (mB (mCmp eqB (mVar 2) (mC (.int 1)))) (sAsg (mBin ixD (mLst (aCons (mC (.str "open")) (aCons (mC (.str "single")) (aCons (mC (.str "turn")) (aCons (mC (.str "close")) (aCons (mC (.str "values")) (aCons (mC (.str "merge")) (aCons (mC (.str "edition")) (aCons (mC (.str "opens")) (aNil)))))))))) (mCallIo m__law_draw (aCons (mVar 0) (aCons (mC (.int 8)) (aNil))))) (mSet 6)) (sNil)) (sSeq (sFor (iA (mC (.str "abcdefgh"))) (mSet 7) (sIf (mB (mCmp inD (mVar 6) (mVar 4))) (sAsg (mBin addD (mSl (mVar 6) (mNo) (mPart (mC (.int 11)))) (mVar 7)) (mSet 6)) (sNil))) (sDrop (mMet appD 4 (aCons (mFrz (mVar 6)) (aNil))))))))) (sRet (mVar 4))))))
abbrev s__law_names : Stmt := top 14
theorem sc__law_names : FnScope ["deck", "many", "make", "base", "names", "k", "name", "letter"] ["deck", "many"] (defScope s__law_names) := ⟨rfl, rfl, rfl, by decide +kernel, rfl, by decide +kernel, by decide +kernel⟩
section
variable {P : Program} {w : World} {K : PySem.W.Frag} {mg : Str → Option Value} {base : Heap} {a : Addr} {fd : FuncData}
theorem ok__law_names (T : Txt mg) (d__law_draw : Df P w K mg base "_law_draw" 1 2 m__law_draw) (d__law_word : Df P w K mg base "_law_word" 2 1 m__law_word) (F : FunD K "_law_names" "_law_names" (defArgs s__law_names) (defBody s__law_names) (defScope s__law_names) [] [] a fd) (hm : mg "_law_names" = some (.ref a)) : Df P w K mg base "_law_names" 3 2 m__law_names := by
  refine df_ok (N := ["deck", "many", "make", "base", "names", "k", "name", "letter"]) (ps := ["deck", "many"]) F sc__law_names hm (F.bindsN fun _ _ _ _ _ _ us hl => match us, hl with | [_, _], _ => rfl) fun cdv A outer s H E hr => ?_
  have tk : Takes (cxOf (L2.CX P w) P w K mg base ["deck", "many", "make", "base", "names", "k", "name", "letter"] "_law_names" (defScope s__law_names) a cdv A outer s H E) (fun cls d _ H => E cls d H) := takes_of rfl rfl rfl rfl
  have hp : PassesOwn (model P w) (A.deeper (envOfC "_law_names" (defScope s__law_names) s.heap.objs.size a cdv)) (envOfC "_law_names" (defScope s__law_names) s.heap.objs.size a cdv) (cxOf (L2.CX P w) P w K mg base ["deck", "many", "make", "base", "names", "k", "name", "letter"] "_law_names" (defScope s__law_names) a cdv A outer s H E).xe := passes_of (X := cxOf (L2.CX P w) P w K mg base ["deck", "many", "make", "base", "names", "k", "name", "letter"] "_law_names" (defScope s__law_names) a cdv A outer s H E) rfl
  have hN : (["deck", "many", "make", "base", "names", "k", "name", "letter"] : List Str).Nodup := sc__law_names.nd
  have hu64 := hr.units
  have hu65 : (A.deeper (envOfC "_law_names" (defScope s__law_names) s.heap.objs.size a cdv)).units + 65 < cLine := hu65_of hr
  exact mss_cons (ms_set (i := 2) hN (me_callIo d__law_draw (Room.mono (j := 1) hr (by omega)) tk (ma_cons (me_var 0) (ma_cons (me_int) (ma_nil))))) (mss_cons (ms_set (i := 3) hN (me_sl (me_add (me_callIo d__law_word (Room.mono (j := 2) hr (by omega)) tk (ma_cons (me_var 0) (ma_nil))) (me_str)) (mo_no) (mo_some (me_int)))) (mss_cons (ms_set (i := 4) hN (me_lst (ma_nil))) (mss_cons (ms_for (vs := [5]) hp rfl (mi_rng1 T.z_range (ma_cons (me_var 1) (ma_nil))) (mg_name (vs := [5]) hN) (mss_cons (ms_set (i := 6) hN (me_callIo d__law_word (Room.mono (j := 2) hr (by omega)) tk (ma_cons (me_var 0) (ma_nil)))) (mss_cons (ms_if (mt_cmp (c_eq hu64) (me_var 2) (me_int)) (mss_one (ms_set (i := 6) hN (me_add (me_var 3) (me_ix (me_str) (me_callIo d__law_draw (Room.mono (j := 1) hr (by omega)) tk (ma_cons (me_var 0) (ma_cons (me_int) (ma_nil)))))))) (mss_nil)) (mss_cons (ms_if (mt_cmp (c_eq hu64) (me_var 2) (me_int)) (mss_one (ms_set (i := 6) hN (me_ix (me_lst (ma_cons (me_str) (ma_cons (me_str) (ma_cons (me_str) (ma_cons (me_str) (ma_cons (me_str) (ma_cons (me_str) (ma_cons (me_str) (ma_cons (me_str) (ma_nil)))))))))) (me_callIo d__law_draw (Room.mono (j := 1) hr (by omega)) tk (ma_cons (me_var 0) (ma_cons (me_int) (ma_nil))))))) (mss_nil)) (mss_cons (ms_for (vs := [7]) hp rfl (mi_any (me_str)) (mg_name (vs := [7]) hN) (mss_one (ms_if (mt_cmp (c_in hu65) (me_var 6) (me_var 4)) (mss_one (ms_set (i := 6) hN (me_add (me_sl (me_var 6) (mo_no) (mo_some (me_int))) (me_var 7)))) (mss_nil)))) (mss_one (ms_expr (me_app (j := 4) (ma_cons (mf (me_var 6)) (ma_nil)))))))))) (mss_one (ms_ret (me_var 4))))))
end
def m__law_count : MF := mDef 3 (sRet (mAndV (mIsi .int (mVar 0)) (mAndV (mNotV (mIsi .bool (mVar 0))) (mChain leB leB (mVar 1) (mVar 0) (mVar 2)))))
abbrev s__law_count : Stmt := top 15
theorem sc__law_count : FnScope ["value", "least", "most"] ["value", "least", "most"] (defScope s__law_count) := ⟨rfl, rfl, rfl, by decide +kernel, rfl, by decide +kernel, by decide +kernel⟩
section
variable {P : Program} {w : World} {K : PySem.W.Frag} {mg : Str → Option Value} {base : Heap} {a : Addr} {fd : FuncData}
theorem ok__law_count (T : Txt mg) (F : FunD K "_law_count" "_law_count" (defArgs s__law_count) (defBody s__law_count) (defScope s__law_count) [] [] a fd) (hm : mg "_law_count" = some (.ref a)) : Df P w K mg base "_law_count" 1 3 m__law_count := by
  refine df_ok (N := ["value", "least", "most"]) (ps := ["value", "least", "most"]) F sc__law_count hm (F.bindsN fun _ _ _ _ _ _ us hl => match us, hl with | [_, _, _], _ => rfl) fun cdv A outer s H E hr => ?_
  have tk : Takes (cxOf (L2.CX P w) P w K mg base ["value", "least", "most"] "_law_count" (defScope s__law_count) a cdv A outer s H E) (fun cls d _ H => E cls d H) := takes_of rfl rfl rfl rfl
  have hp : PassesOwn (model P w) (A.deeper (envOfC "_law_count" (defScope s__law_count) s.heap.objs.size a cdv)) (envOfC "_law_count" (defScope s__law_count) s.heap.objs.size a cdv) (cxOf (L2.CX P w) P w K mg base ["value", "least", "most"] "_law_count" (defScope s__law_count) a cdv A outer s H E).xe := passes_of (X := cxOf (L2.CX P w) P w K mg base ["value", "least", "most"] "_law_count" (defScope s__law_count) a cdv A outer s H E) rfl
  have hN : (["value", "least", "most"] : List Str).Nodup := sc__law_count.nd
  have hu64 := hr.units
  have hu65 : (A.deeper (envOfC "_law_count" (defScope s__law_count) s.heap.objs.size a cdv)).units + 65 < cLine := hu65_of hr
  exact mss_one (ms_ret (me_and (me_isi .int (by decide +kernel) T.z_isinstance T.z_int (me_var 0)) (me_and (me_not (me_isi .bool (by decide +kernel) T.z_isinstance T.z_bool (me_var 0))) (me_one (me_chain c_le c_le (me_var 1) (me_var 0) (me_var 2))))))
end
def m__law_is_word : MF := mDef 2 (sSeq (sIf (mOr (mNot (mTru (mIsi .str (mVar 0)))) (mOr (mB (mCmp ltB (mCB lenD (aCons (mVar 0) (aNil))) (mC (.int 1)))) (mB (mCmp gtB (mCB lenD (aCons (mVar 0) (aNil))) (mC (.int 12)))))) (sRet (mC (.bool false))) (sNil)) (sRet (mCB allD (aCons (mLc (iA (mVar 0)) (mSet 1) (mYes) (mChain leB leB (mC (.str "a")) (mVar 1) (mC (.str "z"))) [1]) (aNil)))))
abbrev s__law_is_word : Stmt := top 16
theorem sc__law_is_word : FnScope ["value", "sign"] ["value"] (defScope s__law_is_word) := ⟨rfl, rfl, rfl, by decide +kernel, rfl, by decide +kernel, by decide +kernel⟩
section
variable {P : Program} {w : World} {K : PySem.W.Frag} {mg : Str → Option Value} {base : Heap} {a : Addr} {fd : FuncData}
theorem ok__law_is_word (T : Txt mg) (F : FunD K "_law_is_word" "_law_is_word" (defArgs s__law_is_word) (defBody s__law_is_word) (defScope s__law_is_word) [] [] a fd) (hm : mg "_law_is_word" = some (.ref a)) : Df P w K mg base "_law_is_word" 1 1 m__law_is_word := by
  refine df_ok (N := ["value", "sign"]) (ps := ["value"]) F sc__law_is_word hm (F.bindsN fun _ _ _ _ _ _ us hl => match us, hl with | [_], _ => rfl) fun cdv A outer s H E hr => ?_
  have tk : Takes (cxOf (L2.CX P w) P w K mg base ["value", "sign"] "_law_is_word" (defScope s__law_is_word) a cdv A outer s H E) (fun cls d _ H => E cls d H) := takes_of rfl rfl rfl rfl
  have hp : PassesOwn (model P w) (A.deeper (envOfC "_law_is_word" (defScope s__law_is_word) s.heap.objs.size a cdv)) (envOfC "_law_is_word" (defScope s__law_is_word) s.heap.objs.size a cdv) (cxOf (L2.CX P w) P w K mg base ["value", "sign"] "_law_is_word" (defScope s__law_is_word) a cdv A outer s H E).xe := passes_of (X := cxOf (L2.CX P w) P w K mg base ["value", "sign"] "_law_is_word" (defScope s__law_is_word) a cdv A outer s H E) rfl
  have hN : (["value", "sign"] : List Str).Nodup := sc__law_is_word.nd
  have hu64 := hr.units
  have hu65 : (A.deeper (envOfC "_law_is_word" (defScope s__law_is_word) s.heap.objs.size a cdv)).units + 65 < cLine := hu65_of hr
  exact mss_cons (ms_if (mt_w (mw_or (mt_not (mt_tru (me_isi .str (by decide +kernel) T.z_isinstance T.z_str (me_var 0)))) (mw_or (mt_cmp c_lt (me_cb cb_len (by decide +kernel) T.z_len (ma_cons (me_var 0) (ma_nil))) (me_int)) (mw_or1 (mt_cmp c_gt (me_cb cb_len (by decide +kernel) T.z_len (ma_cons (me_var 0) (ma_nil))) (me_int)))))) (mss_one (ms_ret (me_bl))) (mss_nil)) (mss_one (ms_ret (me_cb (cb_all rfl) (by decide +kernel) T.z_all (ma_cons (me_lc (own := [("sign", 1)]) rfl hN (mi_any (me_var 0)) (blkOk_by (by kernel_rfl)) (fun _ _ _ _ _ => mg_name (vs := [1]) hN) (fun _ _ _ _ _ => mts_nil) (fun _ _ _ _ _ => me_chain c_le c_le (me_str) (me_var 1) (me_str))) (ma_nil)))))
end
def m__law_is_way : MF := mDef 3 (sRet (mAndV (mIsi .tuple (mVar 1)) (mAndV (mCmp eqB (mCB lenD (aCons (mVar 1) (aNil))) (mVar 0)) (mCB allD (aCons (mLc (iA (mVar 1)) (mSet 2) (mYes) (mOrV (mCmp isNB (mVar 2) (mC .none)) (mCall m__law_count (aCons (mFrz (mVar 2)) (aCons (mC (.int 0)) (aCons (mFrz (mBin subD (mVar 0) (mC (.int 1)))) (aNil)))))) [2]) (aNil))))))
abbrev s__law_is_way : Stmt := top 17
theorem sc__law_is_way : FnScope ["v", "value", "item"] ["v", "value"] (defScope s__law_is_way) := ⟨rfl, rfl, rfl, by decide +kernel, rfl, by decide +kernel, by decide +kernel⟩
section
variable {P : Program} {w : World} {K : PySem.W.Frag} {mg : Str → Option Value} {base : Heap} {a : Addr} {fd : FuncData}
theorem ok__law_is_way (T : Txt mg) (d__law_count : Df P w K mg base "_law_count" 1 3 m__law_count) (F : FunD K "_law_is_way" "_law_is_way" (defArgs s__law_is_way) (defBody s__law_is_way) (defScope s__law_is_way) [] [] a fd) (hm : mg "_law_is_way" = some (.ref a)) : Df P w K mg base "_law_is_way" 2 2 m__law_is_way := by
  refine df_ok (N := ["v", "value", "item"]) (ps := ["v", "value"]) F sc__law_is_way hm (F.bindsN fun _ _ _ _ _ _ us hl => match us, hl with | [_, _], _ => rfl) fun cdv A outer s H E hr => ?_
  have tk : Takes (cxOf (L2.CX P w) P w K mg base ["v", "value", "item"] "_law_is_way" (defScope s__law_is_way) a cdv A outer s H E) (fun cls d _ H => E cls d H) := takes_of rfl rfl rfl rfl
  have hp : PassesOwn (model P w) (A.deeper (envOfC "_law_is_way" (defScope s__law_is_way) s.heap.objs.size a cdv)) (envOfC "_law_is_way" (defScope s__law_is_way) s.heap.objs.size a cdv) (cxOf (L2.CX P w) P w K mg base ["v", "value", "item"] "_law_is_way" (defScope s__law_is_way) a cdv A outer s H E).xe := passes_of (X := cxOf (L2.CX P w) P w K mg base ["v", "value", "item"] "_law_is_way" (defScope s__law_is_way) a cdv A outer s H E) rfl
  have hN : (["v", "value", "item"] : List Str).Nodup := sc__law_is_way.nd
  have hu64 := hr.units
  have hu65 : (A.deeper (envOfC "_law_is_way" (defScope s__law_is_way) s.heap.objs.size a cdv)).units + 65 < cLine := hu65_of hr
  exact mss_one (ms_ret (me_and (me_isi .tuple (by decide +kernel) T.z_isinstance T.z_tuple (me_var 1)) (me_and (me_cmp (c_eq hu64) (me_cb cb_len (by decide +kernel) T.z_len (ma_cons (me_var 1) (ma_nil))) (me_var 0)) (me_one (me_cb (cb_all rfl) (by decide +kernel) T.z_all (ma_cons (me_lc (own := [("item", 2)]) rfl hN (mi_any (me_var 1)) (blkOk_by (by kernel_rfl)) (fun _ _ _ _ _ => mg_name (vs := [2]) hN) (fun _ _ _ _ _ => mts_nil) (fun _ _ _ _ _ => me_or (me_cmp c_isN (me_var 2) (me_non)) (me_one (me_call d__law_count (Room.mono (j := 1) hr (by omega)) takes0 (ma_cons (mf (me_var 2)) (ma_cons (me_int) (ma_cons (mf (me_sub (me_var 0) (me_int))) (ma_nil)))))))) (ma_nil)))))))
end
def m__law_is_map : MF := mDef 2 (sRet (mAndV (mCall m__law_is_way (aCons (mFrz (mVar 0)) (aCons (mFrz (mVar 1)) (aNil)))) (mAndV (mCmp ninD (mC .none) (mVar 1)) (mCmp eqB (mBin ixD (mVar 1) (mC (.int 0))) (mC (.int 0))))))
abbrev s__law_is_map : Stmt := top 18
theorem sc__law_is_map : FnScope ["v", "value"] ["v", "value"] (defScope s__law_is_map) := ⟨rfl, rfl, rfl, by decide +kernel, rfl, by decide +kernel, by decide +kernel⟩
section
variable {P : Program} {w : World} {K : PySem.W.Frag} {mg : Str → Option Value} {base : Heap} {a : Addr} {fd : FuncData}
theorem ok__law_is_map (T : Txt mg) (d__law_is_way : Df P w K mg base "_law_is_way" 2 2 m__law_is_way) (F : FunD K "_law_is_map" "_law_is_map" (defArgs s__law_is_map) (defBody s__law_is_map) (defScope s__law_is_map) [] [] a fd) (hm : mg "_law_is_map" = some (.ref a)) : Df P w K mg base "_law_is_map" 3 2 m__law_is_map := by
  refine df_ok (N := ["v", "value"]) (ps := ["v", "value"]) F sc__law_is_map hm (F.bindsN fun _ _ _ _ _ _ us hl => match us, hl with | [_, _], _ => rfl) fun cdv A outer s H E hr => ?_
  have tk : Takes (cxOf (L2.CX P w) P w K mg base ["v", "value"] "_law_is_map" (defScope s__law_is_map) a cdv A outer s H E) (fun cls d _ H => E cls d H) := takes_of rfl rfl rfl rfl
  have hp : PassesOwn (model P w) (A.deeper (envOfC "_law_is_map" (defScope s__law_is_map) s.heap.objs.size a cdv)) (envOfC "_law_is_map" (defScope s__law_is_map) s.heap.objs.size a cdv) (cxOf (L2.CX P w) P w K mg base ["v", "value"] "_law_is_map" (defScope s__law_is_map) a cdv A outer s H E).xe := passes_of (X := cxOf (L2.CX P w) P w K mg base ["v", "value"] "_law_is_map" (defScope s__law_is_map) a cdv A outer s H E) rfl
  have hN : (["v", "value"] : List Str).Nodup := sc__law_is_map.nd
  have hu64 := hr.units
  have hu65 : (A.deeper (envOfC "_law_is_map" (defScope s__law_is_map) s.heap.objs.size a cdv)).units + 65 < cLine := hu65_of hr
  exact mss_one (ms_ret (me_and (me_call d__law_is_way (Room.mono (j := 2) hr (by omega)) tk (ma_cons (mf (me_var 0)) (ma_cons (mf (me_var 1)) (ma_nil)))) (me_and (me_cmp (c_nin hu65) (me_non) (me_var 1)) (me_one (me_cmp (c_eq hu64) (me_ix (me_var 1) (me_int)) (me_int))))))
end
def m__law_is_table : MF := mDef 3 (sSeq (sIf (mOr (mNot (mTru (mIsi .tuple (mVar 1)))) (mB (mCmp neB (mCB lenD (aCons (mVar 1) (aNil))) (mVar 0)))) (sRet (mC (.bool false))) (sNil)) (sRet (mAndV (mCB allD (aCons (mLc (iA (mVar 1)) (mSet 2) (mYes) (mAndV (mCall m__law_is_way (aCons (mFrz (mVar 0)) (aCons (mFrz (mVar 2)) (aNil)))) (mCmp ninD (mC .none) (mVar 2))) [2]) (aNil))) (mCmp eqB (mBin ixD (mBin ixD (mVar 1) (mC (.int 0))) (mC (.int 0))) (mC (.int 0))))))
abbrev s__law_is_table : Stmt := top 19
theorem sc__law_is_table : FnScope ["v", "value", "row"] ["v", "value"] (defScope s__law_is_table) := ⟨rfl, rfl, rfl, by decide +kernel, rfl, by decide +kernel, by decide +kernel⟩
section
variable {P : Program} {w : World} {K : PySem.W.Frag} {mg : Str → Option Value} {base : Heap} {a : Addr} {fd : FuncData}
theorem ok__law_is_table (T : Txt mg) (d__law_is_way : Df P w K mg base "_law_is_way" 2 2 m__law_is_way) (F : FunD K "_law_is_table" "_law_is_table" (defArgs s__law_is_table) (defBody s__law_is_table) (defScope s__law_is_table) [] [] a fd) (hm : mg "_law_is_table" = some (.ref a)) : Df P w K mg base "_law_is_table" 3 2 m__law_is_table := by
  refine df_ok (N := ["v", "value", "row"]) (ps := ["v", "value"]) F sc__law_is_table hm (F.bindsN fun _ _ _ _ _ _ us hl => match us, hl with | [_, _], _ => rfl) fun cdv A outer s H E hr => ?_
  have tk : Takes (cxOf (L2.CX P w) P w K mg base ["v", "value", "row"] "_law_is_table" (defScope s__law_is_table) a cdv A outer s H E) (fun cls d _ H => E cls d H) := takes_of rfl rfl rfl rfl
  have hp : PassesOwn (model P w) (A.deeper (envOfC "_law_is_table" (defScope s__law_is_table) s.heap.objs.size a cdv)) (envOfC "_law_is_table" (defScope s__law_is_table) s.heap.objs.size a cdv) (cxOf (L2.CX P w) P w K mg base ["v", "value", "row"] "_law_is_table" (defScope s__law_is_table) a cdv A outer s H E).xe := passes_of (X := cxOf (L2.CX P w) P w K mg base ["v", "value", "row"] "_law_is_table" (defScope s__law_is_table) a cdv A outer s H E) rfl
  have hN : (["v", "value", "row"] : List Str).Nodup := sc__law_is_table.nd
  have hu64 := hr.units
  have hu65 : (A.deeper (envOfC "_law_is_table" (defScope s__law_is_table) s.heap.objs.size a cdv)).units + 65 < cLine := hu65_of hr
  exact mss_cons (ms_if (mt_w (mw_or (mt_not (mt_tru (me_isi .tuple (by decide +kernel) T.z_isinstance T.z_tuple (me_var 1)))) (mw_or1 (mt_cmp (c_ne hu64) (me_cb cb_len (by decide +kernel) T.z_len (ma_cons (me_var 1) (ma_nil))) (me_var 0))))) (mss_one (ms_ret (me_bl))) (mss_nil)) (mss_one (ms_ret (me_and (me_cb (cb_all rfl) (by decide +kernel) T.z_all (ma_cons (me_lc (own := [("row", 2)]) rfl hN (mi_any (me_var 1)) (blkOk_by (by kernel_rfl)) (fun _ _ _ _ _ => mg_name (vs := [2]) hN) (fun _ _ _ _ _ => mts_nil) (fun _ _ _ _ _ => me_and (me_call d__law_is_way (Room.mono (j := 2) hr (by omega)) takes0 (ma_cons (mf (me_var 0)) (ma_cons (mf (me_var 2)) (ma_nil)))) (me_one (me_cmp (c_nin hu65) (me_non) (me_var 2))))) (ma_nil))) (me_one (me_cmp (c_eq hu64) (me_ix (me_ix (me_var 1) (me_int)) (me_int)) (me_int))))))
end
def m__law_item : MF := mDef 2 (sRet (mBin ixD (mLst (aCons (mC (.int 0)) (aCons (mFrz (mBin subD (mVar 1) (mC (.int 1)))) (aCons (mFrz (mCallIo m__law_draw (aCons (mVar 0) (aCons (mFrz (mVar 1)) (aNil))))) (aCons (mFrz (mVar 1)) (aCons (mFrz (mUn negD (mC (.int 1)))) (aCons (mC .none) (aCons (mC (.bool true)) (aCons (mC (.bool false)) (aCons (mC (.str "0")) (aCons (mFrz (mTup (aCons (mC (.int 0)) (aNil)))) (aCons (mC (.int 7)) (aNil))))))))))))) (mCallIo m__law_draw (aCons (mVar 0) (aCons (mC (.int 11)) (aNil))))))
abbrev s__law_item : Stmt := top 20
theorem sc__law_item : FnScope ["deck", "v"] ["deck", "v"] (defScope s__law_item) := ⟨rfl, rfl, rfl, by decide +kernel, rfl, by decide +kernel, by decide +kernel⟩
section
variable {P : Program} {w : World} {K : PySem.W.Frag} {mg : Str → Option Value} {base : Heap} {a : Addr} {fd : FuncData}
theorem ok__law_item (T : Txt mg) (d__law_draw : Df P w K mg base "_law_draw" 1 2 m__law_draw) (F : FunD K "_law_item" "_law_item" (defArgs s__law_item) (defBody s__law_item) (defScope s__law_item) [] [] a fd) (hm : mg "_law_item" = some (.ref a)) : Df P w K mg base "_law_item" 2 2 m__law_item := by
  refine df_ok (N := ["deck", "v"]) (ps := ["deck", "v"]) F sc__law_item hm (F.bindsN fun _ _ _ _ _ _ us hl => match us, hl with | [_, _], _ => rfl) fun cdv A outer s H E hr => ?_
  have tk : Takes (cxOf (L2.CX P w) P w K mg base ["deck", "v"] "_law_item" (defScope s__law_item) a cdv A outer s H E) (fun cls d _ H => E cls d H) := takes_of rfl rfl rfl rfl
  have hp : PassesOwn (model P w) (A.deeper (envOfC "_law_item" (defScope s__law_item) s.heap.objs.size a cdv)) (envOfC "_law_item" (defScope s__law_item) s.heap.objs.size a cdv) (cxOf (L2.CX P w) P w K mg base ["deck", "v"] "_law_item" (defScope s__law_item) a cdv A outer s H E).xe := passes_of (X := cxOf (L2.CX P w) P w K mg base ["deck", "v"] "_law_item" (defScope s__law_item) a cdv A outer s H E) rfl
  have hN : (["deck", "v"] : List Str).Nodup := sc__law_item.nd
  have hu64 := hr.units
  have hu65 : (A.deeper (envOfC "_law_item" (defScope s__law_item) s.heap.objs.size a cdv)).units + 65 < cLine := hu65_of hr
  exact mss_one (ms_ret (me_ix (me_lst (ma_cons (me_int) (ma_cons (mf (me_sub (me_var 1) (me_int))) (ma_cons (mf (me_callIo d__law_draw (Room.mono (j := 1) hr (by omega)) tk (ma_cons (me_var 0) (ma_cons (mf (me_var 1)) (ma_nil))))) (ma_cons (mf (me_var 1)) (ma_cons (mf (me_neg (me_int))) (ma_cons (me_non) (ma_cons (me_bl) (ma_cons (me_bl) (ma_cons (me_str) (ma_cons (mf (me_tup (ma_cons (me_int) (ma_nil)))) (ma_cons (me_int) (ma_nil))))))))))))) (me_callIo d__law_draw (Room.mono (j := 1) hr (by omega)) tk (ma_cons (me_var 0) (ma_cons (me_int) (ma_nil))))))
end
def m__law_row : MF := mDef 5 (sSeq (sAsg (mLc (iR1 (aCons (mVar 1) (aNil))) (mSet 4) (mYes) (mCallIo m__law_draw (aCons (mVar 0) (aCons (mFrz (mVar 1)) (aNil)))) [4]) (mSet 2)) (sSeq (sAsg (mCallIo m__law_draw (aCons (mVar 0) (aCons (mC (.int 8)) (aNil)))) (mSet 3)) (sSeq (sIf (mB (mCmp ltB (mVar 3) (mC (.int 4)))) (sAsg (mC (.int 0)) (mgSub 2 (mC (.int 0)))) (sNil)) (sSeq (sIf (mB (mCmp inD (mVar 3) (mTup (aCons (mC (.int 1)) (aCons (mC (.int 5)) (aNil)))))) (sAsg (mCallIo m__law_item (aCons (mVar 0) (aCons (mFrz (mVar 1)) (aNil)))) (mgSub 2 (mCallIo m__law_draw (aCons (mVar 0) (aCons (mFrz (mVar 1)) (aNil)))))) (sNil)) (sSeq (sIf (mB (mCmp eqB (mVar 3) (mC (.int 2)))) (sAsg (mC .none) (mgSub 2 (mCallIo m__law_draw (aCons (mVar 0) (aCons (mFrz (mVar 1)) (aNil)))))) (sNil)) (sSeq (sIf (mB (mCmp eqB (mVar 3) (mC (.int 6)))) (sAsg (mBin ixD (mLst (aCons (mFrz (mSl (mVar 2) (mPart (mC (.int 1))) (mNo))) (aCons (mFrz (mBin addD (mVar 2) (mLst (aCons (mC (.int 0)) (aNil))))) (aCons (mFrz (mBin addD (mVar 2) (mVar 2))) (aNil))))) (mCallIo m__law_draw (aCons (mVar 0) (aCons (mC (.int 3)) (aNil))))) (mSet 2)) (sNil)) (sSeq (sIf (mAnd (mB (mCmp eqB (mVar 3) (mC (.int 7)))) (mB (mCmp eqB (mCallIo m__law_draw (aCons (mVar 0) (aCons (mC (.int 2)) (aNil)))) (mC (.int 0))))) (sRet (mBin ixD (mLst (aCons (mFrz (mCB listD (aCons (mVar 2) (aNil)))) (aCons (mC .none) (aCons (mC (.int 0)) (aCons (mC (.str "0")) (aCons (mC (.str "00")) (aCons (mFrz (mTup (aCons (mFrz (mCB tupD (aCons (mVar 2) (aNil)))) (aNil)))) (aNil)))))))) (mCallIo m__law_draw (aCons (mVar 0) (aCons (mC (.int 6)) (aNil)))))) (sNil)) (sRet (mCB tupD (aCons (mVar 2) (aNil)))))))))))
abbrev s__law_row : Stmt := top 21
theorem sc__law_row : FnScope ["deck", "v", "row", "pick", "k"] ["deck", "v"] (defScope s__law_row) := ⟨rfl, rfl, rfl, by decide +kernel, rfl, by decide +kernel, by decide +kernel⟩
section
variable {P : Program} {w : World} {K : PySem.W.Frag} {mg : Str → Option Value} {base : Heap} {a : Addr} {fd : FuncData}
theorem ok__law_row (T : Txt mg) (d__law_draw : Df P w K mg base "_law_draw" 1 2 m__law_draw) (d__law_item : Df P w K mg base "_law_item" 2 2 m__law_item) (F : FunD K "_law_row" "_law_row" (defArgs s__law_row) (defBody s__law_row) (defScope s__law_row) [] [] a fd) (hm : mg "_law_row" = some (.ref a)) : Df P w K mg base "_law_row" 3 2 m__law_row := by
  refine df_ok (N := ["deck", "v", "row", "pick", "k"]) (ps := ["deck", "v"]) F sc__law_row hm (F.bindsN fun _ _ _ _ _ _ us hl => match us, hl with | [_, _], _ => rfl) fun cdv A outer s H E hr => ?_
  have tk : Takes (cxOf (L2.CX P w) P w K mg base ["deck", "v", "row", "pick", "k"] "_law_row" (defScope s__law_row) a cdv A outer s H E) (fun cls d _ H => E cls d H) := takes_of rfl rfl rfl rfl
  have hp : PassesOwn (model P w) (A.deeper (envOfC "_law_row" (defScope s__law_row) s.heap.objs.size a cdv)) (envOfC "_law_row" (defScope s__law_row) s.heap.objs.size a cdv) (cxOf (L2.CX P w) P w K mg base ["deck", "v", "row", "pick", "k"] "_law_row" (defScope s__law_row) a cdv A outer s H E).xe := passes_of (X := cxOf (L2.CX P w) P w K mg base ["deck", "v", "row", "pick", "k"] "_law_row" (defScope s__law_row) a cdv A outer s H E) rfl
  have hN : (["deck", "v", "row", "pick", "k"] : List Str).Nodup := sc__law_row.nd
  have hu64 := hr.units
  have hu65 : (A.deeper (envOfC "_law_row" (defScope s__law_row) s.heap.objs.size a cdv)).units + 65 < cLine := hu65_of hr
  exact mss_cons (ms_setLc (i := 2) (own := [("k", 4)]) rfl hN (mi_rng1 T.z_range (ma_cons (me_var 1) (ma_nil))) (blkOk_by (by kernel_rfl)) (fun _ _ _ _ _ => mg_name (vs := [4]) hN) (fun _ _ _ _ _ => mts_nil) (fun _ _ _ _ _ => me_callIo d__law_draw (Room.mono (j := 1) hr (by omega)) takes0 (ma_cons (me_var 0) (ma_cons (mf (me_var 1)) (ma_nil))))) (mss_cons (ms_set (i := 3) hN (me_callIo d__law_draw (Room.mono (j := 1) hr (by omega)) tk (ma_cons (me_var 0) (ma_cons (me_int) (ma_nil))))) (mss_cons (ms_if (mt_cmp c_lt (me_var 3) (me_int)) (mss_one (ms_asg (me_int) (mg_sub (j := 2) (me_int)))) (mss_nil)) (mss_cons (ms_if (mt_cmp (c_in hu65) (me_var 3) (me_tup (ma_cons (me_int) (ma_cons (me_int) (ma_nil))))) (mss_one (ms_asg (me_callIo d__law_item (Room.mono (j := 2) hr (by omega)) tk (ma_cons (me_var 0) (ma_cons (mf (me_var 1)) (ma_nil)))) (mg_sub (j := 2) (me_callIo d__law_draw (Room.mono (j := 1) hr (by omega)) tk (ma_cons (me_var 0) (ma_cons (mf (me_var 1)) (ma_nil))))))) (mss_nil)) (mss_cons (ms_if (mt_cmp (c_eq hu64) (me_var 3) (me_int)) (mss_one (ms_asg (me_non) (mg_sub (j := 2) (me_callIo d__law_draw (Room.mono (j := 1) hr (by omega)) tk (ma_cons (me_var 0) (ma_cons (mf (me_var 1)) (ma_nil))))))) (mss_nil)) (mss_cons (ms_if (mt_cmp (c_eq hu64) (me_var 3) (me_int)) (mss_one (ms_set (i := 2) hN (me_ix (me_lst (ma_cons (mf (me_sl (me_var 2) (mo_some (me_int)) (mo_no))) (ma_cons (mf (me_add (me_var 2) (me_lst (ma_cons (me_int) (ma_nil))))) (ma_cons (mf (me_add (me_var 2) (me_var 2))) (ma_nil))))) (me_callIo d__law_draw (Room.mono (j := 1) hr (by omega)) tk (ma_cons (me_var 0) (ma_cons (me_int) (ma_nil))))))) (mss_nil)) (mss_cons (ms_if (mt_w (mw_and (mt_cmp (c_eq hu64) (me_var 3) (me_int)) (mw_and1 (mt_cmp (c_eq hu64) (me_callIo d__law_draw (Room.mono (j := 1) hr (by omega)) tk (ma_cons (me_var 0) (ma_cons (me_int) (ma_nil)))) (me_int))))) (mss_one (ms_ret (me_ix (me_lst (ma_cons (mf (me_ct ct_list (by decide +kernel) T.z_list (ma_cons (me_var 2) (ma_nil)))) (ma_cons (me_non) (ma_cons (me_int) (ma_cons (me_str) (ma_cons (me_str) (ma_cons (mf (me_tup (ma_cons (mf (me_ct ct_tup (by decide +kernel) T.z_tuple (ma_cons (me_var 2) (ma_nil)))) (ma_nil)))) (ma_nil)))))))) (me_callIo d__law_draw (Room.mono (j := 1) hr (by omega)) tk (ma_cons (me_var 0) (ma_cons (me_int) (ma_nil))))))) (mss_nil)) (mss_one (ms_ret (me_ct ct_tup (by decide +kernel) T.z_tuple (ma_cons (me_var 2) (ma_nil)))))))))))
end
def m__law_rows : MF := mDef 7 (sSeq (sAsg (mLc (iR1 (aCons (mVar 1) (aNil))) (mSet 4) (mYes) (mCB tupD (aCons (mLc (iR1 (aCons (mVar 1) (aNil))) (mSet 5) (mYes) (mCallIo m__law_draw (aCons (mVar 0) (aCons (mFrz (mVar 1)) (aNil)))) [5]) (aNil))) [4]) (mSet 2)) (sSeq (sAsg (mCallIo m__law_draw (aCons (mVar 0) (aCons (mC (.int 7)) (aNil)))) (mSet 3)) (sSeq (sIf (mB (mCmp ltB (mVar 3) (mC (.int 5)))) (sAsg (mBin addD (mTup (aCons (mC (.int 0)) (aNil))) (mSl (mBin ixD (mVar 2) (mC (.int 0))) (mPart (mC (.int 1))) (mNo))) (mgSub 2 (mC (.int 0)))) (sNil)) (sSeq (sIf (mB (mCmp inD (mVar 3) (mTup (aCons (mC (.int 1)) (aCons (mC (.int 2)) (aNil)))))) (sAsg (mCallIo m__law_row (aCons (mVar 0) (aCons (mFrz (mVar 1)) (aNil)))) (mgSub 2 (mCallIo m__law_draw (aCons (mVar 0) (aCons (mFrz (mVar 1)) (aNil)))))) (sNil)) (sSeq (sIf (mB (mCmp eqB (mVar 3) (mC (.int 3)))) (sRet (mBin ixD (mLst (aCons (mFrz (mCB tupD (aCons (mSl (mVar 2) (mPart (mC (.int 1))) (mNo)) (aNil)))) (aCons (mFrz (mCB tupD (aCons (mBin addD (mVar 2) (mSl (mVar 2) (mNo) (mPart (mC (.int 1))))) (aNil)))) (aCons (mFrz (mCB listD (aCons (mVar 2) (aNil)))) (aCons (mFrz (mCB tupD (aCons (mLc (iA (mVar 2)) (mSet 6) (mYes) (mCB listD (aCons (mVar 6) (aNil))) [6]) (aNil)))) (aCons (mC .none) (aNil))))))) (mCallIo m__law_draw (aCons (mVar 0) (aCons (mC (.int 5)) (aNil)))))) (sNil)) (sRet (mCB tupD (aCons (mVar 2) (aNil)))))))))
abbrev s__law_rows : Stmt := top 22
theorem sc__law_rows : FnScope ["deck", "v", "rows", "pick", "j", "k", "row"] ["deck", "v"] (defScope s__law_rows) := ⟨rfl, rfl, rfl, by decide +kernel, rfl, by decide +kernel, by decide +kernel⟩
section
variable {P : Program} {w : World} {K : PySem.W.Frag} {mg : Str → Option Value} {base : Heap} {a : Addr} {fd : FuncData}
theorem ok__law_rows (T : Txt mg) (d__law_draw : Df P w K mg base "_law_draw" 1 2 m__law_draw) (d__law_row : Df P w K mg base "_law_row" 3 2 m__law_row) (F : FunD K "_law_rows" "_law_rows" (defArgs s__law_rows) (defBody s__law_rows) (defScope s__law_rows) [] [] a fd) (hm : mg "_law_rows" = some (.ref a)) : Df P w K mg base "_law_rows" 4 2 m__law_rows := by
  refine df_ok (N := ["deck", "v", "rows", "pick", "j", "k", "row"]) (ps := ["deck", "v"]) F sc__law_rows hm (F.bindsN fun _ _ _ _ _ _ us hl => match us, hl with | [_, _], _ => rfl) fun cdv A outer s H E hr => ?_
  have tk : Takes (cxOf (L2.CX P w) P w K mg base ["deck", "v", "rows", "pick", "j", "k", "row"] "_law_rows" (defScope s__law_rows) a cdv A outer s H E) (fun cls d _ H => E cls d H) := takes_of rfl rfl rfl rfl
  have hp : PassesOwn (model P w) (A.deeper (envOfC "_law_rows" (defScope s__law_rows) s.heap.objs.size a cdv)) (envOfC "_law_rows" (defScope s__law_rows) s.heap.objs.size a cdv) (cxOf (L2.CX P w) P w K mg base ["deck", "v", "rows", "pick", "j", "k", "row"] "_law_rows" (defScope s__law_rows) a cdv A outer s H E).xe := passes_of (X := cxOf (L2.CX P w) P w K mg base ["deck", "v", "rows", "pick", "j", "k", "row"] "_law_rows" (defScope s__law_rows) a cdv A outer s H E) rfl
  have hN : (["deck", "v", "rows", "pick", "j", "k", "row"] : List Str).Nodup := sc__law_rows.nd
  have hu64 := hr.units
  have hu65 : (A.deeper (envOfC "_law_rows" (defScope s__law_rows) s.heap.objs.size a cdv)).units + 65 < cLine := hu65_of hr
  exact mss_cons (ms_setLc (i := 2) (own := [("j", 4)]) rfl hN (mi_rng1 T.z_range (ma_cons (me_var 1) (ma_nil))) (blkOk_by (by kernel_rfl)) (fun _ _ _ _ _ => mg_name (vs := [4]) hN) (fun _ _ _ _ _ => mts_nil) (fun _ _ _ _ _ => me_ct ct_tup (by decide +kernel) T.z_tuple (ma_cons (me_lc (own := [("k", 5)]) rfl hN (mi_rng1 T.z_range (ma_cons (me_var 1) (ma_nil))) (blkOk_by (by kernel_rfl)) (fun _ _ _ _ _ => mg_name (vs := [5]) hN) (fun _ _ _ _ _ => mts_nil) (fun _ _ _ _ _ => me_callIo d__law_draw (Room.mono (j := 1) hr (by omega)) takes0 (ma_cons (me_var 0) (ma_cons (mf (me_var 1)) (ma_nil))))) (ma_nil)))) (mss_cons (ms_set (i := 3) hN (me_callIo d__law_draw (Room.mono (j := 1) hr (by omega)) tk (ma_cons (me_var 0) (ma_cons (me_int) (ma_nil))))) (mss_cons (ms_if (mt_cmp c_lt (me_var 3) (me_int)) (mss_one (ms_asg (me_add (me_tup (ma_cons (me_int) (ma_nil))) (me_sl (me_ix (me_var 2) (me_int)) (mo_some (me_int)) (mo_no))) (mg_sub (j := 2) (me_int)))) (mss_nil)) (mss_cons (ms_if (mt_cmp (c_in hu65) (me_var 3) (me_tup (ma_cons (me_int) (ma_cons (me_int) (ma_nil))))) (mss_one (ms_asg (me_callIo d__law_row (Room.mono (j := 3) hr (by omega)) tk (ma_cons (me_var 0) (ma_cons (mf (me_var 1)) (ma_nil)))) (mg_sub (j := 2) (me_callIo d__law_draw (Room.mono (j := 1) hr (by omega)) tk (ma_cons (me_var 0) (ma_cons (mf (me_var 1)) (ma_nil))))))) (mss_nil)) (mss_cons (ms_if (mt_cmp (c_eq hu64) (me_var 3) (me_int)) (mss_one (ms_ret (me_ix (me_lst (ma_cons (mf (me_ct ct_tup (by decide +kernel) T.z_tuple (ma_cons (me_sl (me_var 2) (mo_some (me_int)) (mo_no)) (ma_nil)))) (ma_cons (mf (me_ct ct_tup (by decide +kernel) T.z_tuple (ma_cons (me_add (me_var 2) (me_sl (me_var 2) (mo_no) (mo_some (me_int)))) (ma_nil)))) (ma_cons (mf (me_ct ct_list (by decide +kernel) T.z_list (ma_cons (me_var 2) (ma_nil)))) (ma_cons (mf (me_ct ct_tup (by decide +kernel) T.z_tuple (ma_cons (me_lc (own := [("row", 6)]) rfl hN (mi_any (me_var 2)) (blkOk_by (by kernel_rfl)) (fun _ _ _ _ _ => mg_name (vs := [6]) hN) (fun _ _ _ _ _ => mts_nil) (fun _ _ _ _ _ => me_ct ct_list (by decide +kernel) T.z_list (ma_cons (me_var 6) (ma_nil)))) (ma_nil)))) (ma_cons (me_non) (ma_nil))))))) (me_callIo d__law_draw (Room.mono (j := 1) hr (by omega)) tk (ma_cons (me_var 0) (ma_cons (me_int) (ma_nil))))))) (mss_nil)) (mss_one (ms_ret (me_ct ct_tup (by decide +kernel) T.z_tuple (ma_cons (me_var 2) (ma_nil)))))))))
end
def m__law_near_word : MF := mDef 5 (sSeq (sAsg (mCallIo m__law_word (aCons (mVar 0) (aNil))) (mSet 1)) (sSeq (sAsg (mCallIo m__law_draw (aCons (mVar 0) (aCons (mFrz (mCB lenD (aCons (mVar 1) (aNil)))) (aNil)))) (mSet 2)) (sSeq (sAsg (mBin ixD (mLst (aCons (mC (.str "A")) (aCons (mC (.str "Z")) (aCons (mC (.str "0")) (aCons (mC (.str "-")) (aCons (mC (.str " ")) (aCons (mC (.str "_")) (aCons (mC (.str ".")) (aCons (mC (.str "{")) (aCons (mC (.str "`")) (aNil))))))))))) (mCallIo m__law_draw (aCons (mVar 0) (aCons (mC (.int 9)) (aNil))))) (mSet 3)) (sSeq (sAsg (mLst (aCons (mFrz (mVar 1)) (aCons (mFrz (mSl (mBin addD (mVar 1) (mC (.str "abcdefghijkl"))) (mNo) (mPart (mC (.int 12))))) (aCons (mFrz (mSl (mBin addD (mVar 1) (mC (.str "abcdefghijklm"))) (mNo) (mPart (mC (.int 13))))) (aCons (mC (.str "")) (aCons (mFrz (mBin addD (mBin addD (mSl (mVar 1) (mNo) (mPart (mVar 2))) (mVar 3)) (mSl (mVar 1) (mPart (mBin addD (mVar 2) (mC (.int 1)))) (mNo)))) (aCons (mFrz (mBin addD (mVar 1) (mC (.str "
")))) (aCons (mFrz (mTup (aCons (mFrz (mVar 1)) (aNil)))) (aCons (mFrz (mLst (aCons (mFrz (mVar 1)) (aNil)))) (aCons (mC .none) (aCons (mC (.int 0)) (aNil)))))))))))) (mSet 4)) (sRet (mBin ixD (mBin addD (mVar 4) (mLst (aCons (mC (.bool true)) (aCons (mFrz (mBin mulD (mC (.str "z")) (mC (.int 12)))) (aCons (mFrz (mBin mulD (mC (.str "a")) (mC (.int 13)))) (aCons (mC (.str "a")) (aCons (mC (.str "z")) (aCons (mFrz (mBin addD (mVar 1) (mC (.str " ")))) (aNil))))))))) (mCallIo m__law_draw (aCons (mVar 0) (aCons (mC (.int 16)) (aNil))))))))))
abbrev s__law_near_word : Stmt := top 23
theorem sc__law_near_word : FnScope ["deck", "word", "at", "odd", "words"] ["deck"] (defScope s__law_near_word) := ⟨rfl, rfl, rfl, by decide +kernel, rfl, by decide +kernel, by decide +kernel⟩
section
variable {P : Program} {w : World} {K : PySem.W.Frag} {mg : Str → Option Value} {base : Heap} {a : Addr} {fd : FuncData}
theorem ok__law_near_word (T : Txt mg) (d__law_word : Df P w K mg base "_law_word" 2 1 m__law_word) (d__law_draw : Df P w K mg base "_law_draw" 1 2 m__law_draw) (F : FunD K "_law_near_word" "_law_near_word" (defArgs s__law_near_word) (defBody s__law_near_word) (defScope s__law_near_word) [] [] a fd) (hm : mg "_law_near_word" = some (.ref a)) : Df P w K mg base "_law_near_word" 3 1 m__law_near_word := by
  refine df_ok (N := ["deck", "word", "at", "odd", "words"]) (ps := ["deck"]) F sc__law_near_word hm (F.bindsN fun _ _ _ _ _ _ us hl => match us, hl with | [_], _ => rfl) fun cdv A outer s H E hr => ?_
  have tk : Takes (cxOf (L2.CX P w) P w K mg base ["deck", "word", "at", "odd", "words"] "_law_near_word" (defScope s__law_near_word) a cdv A outer s H E) (fun cls d _ H => E cls d H) := takes_of rfl rfl rfl rfl
  have hp : PassesOwn (model P w) (A.deeper (envOfC "_law_near_word" (defScope s__law_near_word) s.heap.objs.size a cdv)) (envOfC "_law_near_word" (defScope s__law_near_word) s.heap.objs.size a cdv) (cxOf (L2.CX P w) P w K mg base ["deck", "word", "at", "odd", "words"] "_law_near_word" (defScope s__law_near_word) a cdv A outer s H E).xe := passes_of (X := cxOf (L2.CX P w) P w K mg base ["deck", "word", "at", "odd", "words"] "_law_near_word" (defScope s__law_near_word) a cdv A outer s H E) rfl
  have hN : (["deck", "word", "at", "odd", "words"] : List Str).Nodup := sc__law_near_word.nd
  have hu64 := hr.units
  have hu65 : (A.deeper (envOfC "_law_near_word" (defScope s__law_near_word) s.heap.objs.size a cdv)).units + 65 < cLine := hu65_of hr
  exact mss_cons (ms_set (i := 1) hN (me_callIo d__law_word (Room.mono (j := 2) hr (by omega)) tk (ma_cons (me_var 0) (ma_nil)))) (mss_cons (ms_set (i := 2) hN (me_callIo d__law_draw (Room.mono (j := 1) hr (by omega)) tk (ma_cons (me_var 0) (ma_cons (mf (me_cb cb_len (by decide +kernel) T.z_len (ma_cons (me_var 1) (ma_nil)))) (ma_nil))))) (mss_cons (ms_set (i := 3) hN (me_ix (me_lst (ma_cons (me_str) (ma_cons (me_str) (ma_cons (me_str) (ma_cons (me_str) (ma_cons (me_str) (ma_cons (me_str) (ma_cons (me_str) (ma_cons (me_str) (ma_cons (me_str) (ma_nil))))))))))) (me_callIo d__law_draw (Room.mono (j := 1) hr (by omega)) tk (ma_cons (me_var 0) (ma_cons (me_int) (ma_nil)))))) (mss_cons (ms_set (i := 4) hN (me_lst (ma_cons (mf (me_var 1)) (ma_cons (mf (me_sl (me_add (me_var 1) (me_str)) (mo_no) (mo_some (me_int)))) (ma_cons (mf (me_sl (me_add (me_var 1) (me_str)) (mo_no) (mo_some (me_int)))) (ma_cons (me_str) (ma_cons (mf (me_add (me_add (me_sl (me_var 1) (mo_no) (mo_some (me_var 2))) (me_var 3)) (me_sl (me_var 1) (mo_some (me_add (me_var 2) (me_int))) (mo_no)))) (ma_cons (mf (me_add (me_var 1) (me_str))) (ma_cons (mf (me_tup (ma_cons (mf (me_var 1)) (ma_nil)))) (ma_cons (mf (me_lst (ma_cons (mf (me_var 1)) (ma_nil)))) (ma_cons (me_non) (ma_cons (me_int) (ma_nil))))))))))))) (mss_one (ms_ret (me_ix (me_add (me_var 4) (me_lst (ma_cons (me_bl) (ma_cons (mf (me_mul (me_str) (me_int))) (ma_cons (mf (me_mul (me_str) (me_int))) (ma_cons (me_str) (ma_cons (me_str) (ma_cons (mf (me_add (me_var 1) (me_str))) (ma_nil))))))))) (me_callIo d__law_draw (Room.mono (j := 1) hr (by omega)) tk (ma_cons (me_var 0) (ma_cons (me_int) (ma_nil))))))))))
end
def m_law : MF := mDef 10 (sSeq (sAsg (mCall m__law_deck (aCons (mFrz (mVar 0)) (aNil))) (mSet 1)) (sSeq (sFor (iR1 (aCons (mC (.int 12)) (aNil))) (mSet 2) (sSeq (sAsg (mBin addD (mC (.int 1)) (mCallIo m__law_draw (aCons (mVar 1) (aCons (mC (.int 4)) (aNil))))) (mSet 3)) (sSeq (sPar3 6 7 8 (aCons (mFrz (mCallIo m__law_near_word (aCons (mVar 1) (aNil)))) (aCons (mFrz (mCallIo m__law_row (aCons (mVar 1) (aCons (mFrz (mVar 3)) (aNil))))) (aCons (mFrz (mCallIo m__law_rows (aCons (mVar 1) (aCons (mFrz (mVar 3)) (aNil))))) (aNil))))) (sSeq (sIf (mOr (mNot (mTru (mCall (m__law_same 8) (aCons (mFrz (mCall m_is_word (aCons (mFrz (mVar 6)) (aNil)))) (aCons (mFrz (mCall m__law_is_word (aCons (mFrz (mVar 6)) (aNil)))) (aNil)))))) (mNot (mTru (mCall (m__law_same 8) (aCons (mFrz (mCall m_is_word (aCons (mFrz (mVar 7)) (aNil)))) (aCons (mC (.bool false)) (aNil))))))) (sRet (mC (.bool false))) (sNil)) (sSeq (sIf (mNot (mTru (mCall (m__law_same 8) (aCons (mFrz (mLst (aCons (mFrz (mCall m_is_way (aCons (mFrz (mVar 3)) (aCons (mFrz (mVar 7)) (aNil))))) (aCons (mFrz (mCall m_is_map (aCons (mFrz (mVar 3)) (aCons (mFrz (mVar 7)) (aNil))))) (aNil))))) (aCons (mFrz (mLst (aCons (mFrz (mCall m__law_is_way (aCons (mFrz (mVar 3)) (aCons (mFrz (mVar 7)) (aNil))))) (aCons (mFrz (mCall m__law_is_map (aCons (mFrz (mVar 3)) (aCons (mFrz (mVar 7)) (aNil))))) (aNil))))) (aNil)))))) (sRet (mC (.bool false))) (sNil)) (sSeq (sIf (mNot (mTru (mCall (m__law_same 8) (aCons (mFrz (mCall m_is_table (aCons (mFrz (mVar 3)) (aCons (mFrz (mVar 8)) (aNil))))) (aCons (mFrz (mCall m__law_is_table (aCons (mFrz (mVar 3)) (aCons (mFrz (mVar 8)) (aNil))))) (aNil)))))) (sRet (mC (.bool false))) (sNil)) (sSeq (sIf (mNot (mTru (mCall (m__law_same 8) (aCons (mFrz (mLst (aCons (mFrz (mCall m_is_map (aCons (mFrz (mVar 3)) (aCons (mFrz (mVar 8)) (aNil))))) (aCons (mFrz (mCall m_is_way (aCons (mFrz (mVar 3)) (aCons (mFrz (mVar 6)) (aNil))))) (aCons (mFrz (mCall m_is_table (aCons (mFrz (mVar 3)) (aCons (mFrz (mVar 7)) (aNil))))) (aNil)))))) (aCons (mFrz (mLst (aCons (mFrz (mCall m__law_is_map (aCons (mFrz (mVar 3)) (aCons (mFrz (mVar 8)) (aNil))))) (aCons (mC (.bool false)) (aCons (mFrz (mCall m__law_is_table (aCons (mFrz (mVar 3)) (aCons (mFrz (mVar 7)) (aNil))))) (aNil)))))) (aNil)))))) (sRet (mC (.bool false))) (sNil)) (sSeq (sAsg (mBin addD (mC (.int 1)) (mBin modD (mCB intD (aCons (mBin addD (mVar 3) (mCallIo m__law_draw (aCons (mVar 1) (aCons (mC (.int 3)) (aNil))))) (aNil))) (mC (.int 4)))) (mSet 4)) (sSeq (sAsg (mBin addD (mTup (aCons (mC (.int 0)) (aNil))) (mCB tupD (aCons (mLc (iR1 (aCons (mBin subD (mVar 3) (mC (.int 1))) (aNil))) (mSet 9) (mYes) (mCallIo m__law_draw (aCons (mVar 1) (aCons (mFrz (mVar 3)) (aNil)))) [9]) (aNil)))) (mSet 5)) (sSeq (sIf (mNot (mTru (mCall (m__law_same 8) (aCons (mFrz (mLst (aCons (mFrz (mCall m_is_way (aCons (mFrz (mVar 3)) (aCons (mFrz (mVar 5)) (aNil))))) (aCons (mFrz (mCall m_is_map (aCons (mFrz (mVar 3)) (aCons (mFrz (mVar 5)) (aNil))))) (aCons (mFrz (mCall m_is_table (aCons (mFrz (mVar 3)) (aCons (mFrz (mBin addD (mTup (aCons (mFrz (mVar 5)) (aNil))) (mBin mulD (mTup (aCons (mFrz (mVar 5)) (aNil))) (mBin subD (mVar 3) (mC (.int 1)))))) (aNil))))) (aNil)))))) (aCons (mFrz (mLst (aCons (mC (.bool true)) (aCons (mC (.bool true)) (aCons (mC (.bool true)) (aNil)))))) (aNil)))))) (sRet (mC (.bool false))) (sNil)) (sSeq (sIf (mNot (mTru (mCall (m__law_same 8) (aCons (mFrz (mLst (aCons (mFrz (mCall m_is_way (aCons (mFrz (mVar 4)) (aCons (mFrz (mVar 5)) (aNil))))) (aCons (mFrz (mCall m_is_map (aCons (mFrz (mVar 4)) (aCons (mFrz (mVar 5)) (aNil))))) (aNil))))) (aCons (mFrz (mLst (aCons (mFrz (mCmp eqB (mVar 4) (mVar 3))) (aCons (mFrz (mCmp eqB (mVar 4) (mVar 3))) (aNil))))) (aNil)))))) (sRet (mC (.bool false))) (sNil)) (sIf (mNot (mTru (mCall (m__law_same 8) (aCons (mFrz (mLst (aCons (mFrz (mCall m_is_way (aCons (mFrz (mVar 3)) (aCons (mFrz (mBin addD (mTup (aCons (mC .none) (aNil))) (mSl (mVar 5) (mPart (mC (.int 1))) (mNo)))) (aNil))))) (aCons (mFrz (mCall m_is_map (aCons (mFrz (mVar 3)) (aCons (mFrz (mBin addD (mTup (aCons (mC .none) (aNil))) (mSl (mVar 5) (mPart (mC (.int 1))) (mNo)))) (aNil))))) (aNil))))) (aCons (mFrz (mLst (aCons (mC (.bool true)) (aCons (mC (.bool false)) (aNil))))) (aNil)))))) (sRet (mC (.bool false))) (sNil))))))))))))) (sRet (mC (.bool true)))))
abbrev s_law : Stmt := top 24
theorem sc_law : FnScope ["script", "deck", "k", "v", "other", "right", "word", "row", "rows", "j"] ["script"] (defScope s_law) := ⟨rfl, rfl, rfl, by decide +kernel, rfl, by decide +kernel, by decide +kernel⟩
section
variable {P : Program} {w : World} {K : PySem.W.Frag} {mg : Str → Option Value} {base : Heap} {a : Addr} {fd : FuncData}
theorem ok_law (T : Txt mg) (d__law_deck : Df P w K mg base "_law_deck" 1 1 m__law_deck) (d__law_draw : Df P w K mg base "_law_draw" 1 2 m__law_draw) (d__law_rows : Df P w K mg base "_law_rows" 4 2 m__law_rows) (d__law_row : Df P w K mg base "_law_row" 3 2 m__law_row) (d__law_near_word : Df P w K mg base "_law_near_word" 3 1 m__law_near_word) (d__law_same : Df P w K mg base "_law_same" 9 2 (m__law_same 8)) (d__law_is_word : Df P w K mg base "_law_is_word" 1 1 m__law_is_word) (d_is_word : Df P w K mg base "is_word" 1 1 m_is_word) (d__law_is_map : Df P w K mg base "_law_is_map" 3 2 m__law_is_map) (d__law_is_way : Df P w K mg base "_law_is_way" 2 2 m__law_is_way) (d_is_map : Df P w K mg base "is_map" 3 2 m_is_map) (d_is_way : Df P w K mg base "is_way" 2 2 m_is_way) (d__law_is_table : Df P w K mg base "_law_is_table" 3 2 m__law_is_table) (d_is_table : Df P w K mg base "is_table" 3 2 m_is_table) (F : FunD K "law" "law" (defArgs s_law) (defBody s_law) (defScope s_law) [] [] a fd) (hm : mg "law" = some (.ref a)) : Df P w K mg base "law" 10 1 m_law := by
  refine df_ok (N := ["script", "deck", "k", "v", "other", "right", "word", "row", "rows", "j"]) (ps := ["script"]) F sc_law hm (F.bindsN fun _ _ _ _ _ _ us hl => match us, hl with | [_], _ => rfl) fun cdv A outer s H E hr => ?_
  have tk : Takes (cxOf (L2.CX P w) P w K mg base ["script", "deck", "k", "v", "other", "right", "word", "row", "rows", "j"] "law" (defScope s_law) a cdv A outer s H E) (fun cls d _ H => E cls d H) := takes_of rfl rfl rfl rfl
  have hp : PassesOwn (model P w) (A.deeper (envOfC "law" (defScope s_law) s.heap.objs.size a cdv)) (envOfC "law" (defScope s_law) s.heap.objs.size a cdv) (cxOf (L2.CX P w) P w K mg base ["script", "deck", "k", "v", "other", "right", "word", "row", "rows", "j"] "law" (defScope s_law) a cdv A outer s H E).xe := passes_of (X := cxOf (L2.CX P w) P w K mg base ["script", "deck", "k", "v", "other", "right", "word", "row", "rows", "j"] "law" (defScope s_law) a cdv A outer s H E) rfl
  have hN : (["script", "deck", "k", "v", "other", "right", "word", "row", "rows", "j"] : List Str).Nodup := sc_law.nd
  have hu64 := hr.units
  have hu65 : (A.deeper (envOfC "law" (defScope s_law) s.heap.objs.size a cdv)).units + 65 < cLine := hu65_of hr
  exact mss_cons (ms_set (i := 1) hN (me_call d__law_deck (Room.mono (j := 1) hr (by omega)) tk (ma_cons (mf (me_var 0)) (ma_nil)))) (mss_cons (ms_for (vs := [2]) hp rfl (mi_rng1 T.z_range (ma_cons (me_int) (ma_nil))) (mg_name (vs := [2]) hN) (mss_cons (ms_set (i := 3) hN (me_add (me_int) (me_callIo d__law_draw (Room.mono (j := 1) hr (by omega)) tk (ma_cons (me_var 1) (ma_cons (me_int) (ma_nil)))))) (mss_cons (ms_par3 (i := 6) (j := 7) (l := 8) rfl hN (ma_cons (mf (me_callIo d__law_near_word (Room.mono (j := 3) hr (by omega)) tk (ma_cons (me_var 1) (ma_nil)))) (ma_cons (mf (me_callIo d__law_row (Room.mono (j := 3) hr (by omega)) tk (ma_cons (me_var 1) (ma_cons (mf (me_var 3)) (ma_nil))))) (ma_cons (mf (me_callIo d__law_rows (Room.mono (j := 4) hr (by omega)) tk (ma_cons (me_var 1) (ma_cons (mf (me_var 3)) (ma_nil))))) (ma_nil))))) (mss_cons (ms_if (mt_w (mw_or (mt_not (mt_tru (me_call d__law_same (Room.mono (j := 9) hr (by omega)) tk (ma_cons (mf (me_call d_is_word (Room.mono (j := 1) hr (by omega)) tk (ma_cons (mf (me_var 6)) (ma_nil)))) (ma_cons (mf (me_call d__law_is_word (Room.mono (j := 1) hr (by omega)) tk (ma_cons (mf (me_var 6)) (ma_nil)))) (ma_nil)))))) (mw_or1 (mt_not (mt_tru (me_call d__law_same (Room.mono (j := 9) hr (by omega)) tk (ma_cons (mf (me_call d_is_word (Room.mono (j := 1) hr (by omega)) tk (ma_cons (mf (me_var 7)) (ma_nil)))) (ma_cons (me_bl) (ma_nil))))))))) (mss_one (ms_ret (me_bl))) (mss_nil)) (mss_cons (ms_if (mt_not (mt_tru (me_call d__law_same (Room.mono (j := 9) hr (by omega)) tk (ma_cons (mf (me_lst (ma_cons (mf (me_call d_is_way (Room.mono (j := 2) hr (by omega)) tk (ma_cons (mf (me_var 3)) (ma_cons (mf (me_var 7)) (ma_nil))))) (ma_cons (mf (me_call d_is_map (Room.mono (j := 3) hr (by omega)) tk (ma_cons (mf (me_var 3)) (ma_cons (mf (me_var 7)) (ma_nil))))) (ma_nil))))) (ma_cons (mf (me_lst (ma_cons (mf (me_call d__law_is_way (Room.mono (j := 2) hr (by omega)) tk (ma_cons (mf (me_var 3)) (ma_cons (mf (me_var 7)) (ma_nil))))) (ma_cons (mf (me_call d__law_is_map (Room.mono (j := 3) hr (by omega)) tk (ma_cons (mf (me_var 3)) (ma_cons (mf (me_var 7)) (ma_nil))))) (ma_nil))))) (ma_nil)))))) (mss_one (ms_ret (me_bl))) (mss_nil)) (mss_cons (ms_if (mt_not (mt_tru (me_call d__law_same (Room.mono (j := 9) hr (by omega)) tk (ma_cons (mf (me_call d_is_table (Room.mono (j := 3) hr (by omega)) tk (ma_cons (mf (me_var 3)) (ma_cons (mf (me_var 8)) (ma_nil))))) (ma_cons (mf (me_call d__law_is_table (Room.mono (j := 3) hr (by omega)) tk (ma_cons (mf (me_var 3)) (ma_cons (mf (me_var 8)) (ma_nil))))) (ma_nil)))))) (mss_one (ms_ret (me_bl))) (mss_nil)) (mss_cons (ms_if (mt_not (mt_tru (me_call d__law_same (Room.mono (j := 9) hr (by omega)) tk (ma_cons (mf (me_lst (ma_cons (mf (me_call d_is_map (Room.mono (j := 3) hr (by omega)) tk (ma_cons (mf (me_var 3)) (ma_cons (mf (me_var 8)) (ma_nil))))) (ma_cons (mf (me_call d_is_way (Room.mono (j := 2) hr (by omega)) tk (ma_cons (mf (me_var 3)) (ma_cons (mf (me_var 6)) (ma_nil))))) (ma_cons (mf (me_call d_is_table (Room.mono (j := 3) hr (by omega)) tk (ma_cons (mf (me_var 3)) (ma_cons (mf (me_var 7)) (ma_nil))))) (ma_nil)))))) (ma_cons (mf (me_lst (ma_cons (mf (me_call d__law_is_map (Room.mono (j := 3) hr (by omega)) tk (ma_cons (mf (me_var 3)) (ma_cons (mf (me_var 8)) (ma_nil))))) (ma_cons (me_bl) (ma_cons (mf (me_call d__law_is_table (Room.mono (j := 3) hr (by omega)) tk (ma_cons (mf (me_var 3)) (ma_cons (mf (me_var 7)) (ma_nil))))) (ma_nil)))))) (ma_nil)))))) (mss_one (ms_ret (me_bl))) (mss_nil)) (mss_cons (ms_set (i := 4) hN (me_add (me_int) (me_mod (me_ct ct_int (by decide +kernel) T.z_int (ma_cons (me_add (me_var 3) (me_callIo d__law_draw (Room.mono (j := 1) hr (by omega)) tk (ma_cons (me_var 1) (ma_cons (me_int) (ma_nil))))) (ma_nil))) (me_int)))) (mss_cons (ms_set (i := 5) hN (me_add (me_tup (ma_cons (me_int) (ma_nil))) (me_ct ct_tup (by decide +kernel) T.z_tuple (ma_cons (me_lc (own := [("j", 9)]) rfl hN (mi_rng1 T.z_range (ma_cons (me_sub (me_var 3) (me_int)) (ma_nil))) (blkOk_by (by kernel_rfl)) (fun _ _ _ _ _ => mg_name (vs := [9]) hN) (fun _ _ _ _ _ => mts_nil) (fun _ _ _ _ _ => me_callIo d__law_draw (Room.mono (j := 1) hr (by omega)) takes0 (ma_cons (me_var 1) (ma_cons (mf (me_var 3)) (ma_nil))))) (ma_nil))))) (mss_cons (ms_if (mt_not (mt_tru (me_call d__law_same (Room.mono (j := 9) hr (by omega)) tk (ma_cons (mf (me_lst (ma_cons (mf (me_call d_is_way (Room.mono (j := 2) hr (by omega)) tk (ma_cons (mf (me_var 3)) (ma_cons (mf (me_var 5)) (ma_nil))))) (ma_cons (mf (me_call d_is_map (Room.mono (j := 3) hr (by omega)) tk (ma_cons (mf (me_var 3)) (ma_cons (mf (me_var 5)) (ma_nil))))) (ma_cons (mf (me_call d_is_table (Room.mono (j := 3) hr (by omega)) tk (ma_cons (mf (me_var 3)) (ma_cons (mf (me_add (me_tup (ma_cons (mf (me_var 5)) (ma_nil))) (me_mul (me_tup (ma_cons (mf (me_var 5)) (ma_nil))) (me_sub (me_var 3) (me_int))))) (ma_nil))))) (ma_nil)))))) (ma_cons (mf (me_lst (ma_cons (me_bl) (ma_cons (me_bl) (ma_cons (me_bl) (ma_nil)))))) (ma_nil)))))) (mss_one (ms_ret (me_bl))) (mss_nil)) (mss_cons (ms_if (mt_not (mt_tru (me_call d__law_same (Room.mono (j := 9) hr (by omega)) tk (ma_cons (mf (me_lst (ma_cons (mf (me_call d_is_way (Room.mono (j := 2) hr (by omega)) tk (ma_cons (mf (me_var 4)) (ma_cons (mf (me_var 5)) (ma_nil))))) (ma_cons (mf (me_call d_is_map (Room.mono (j := 3) hr (by omega)) tk (ma_cons (mf (me_var 4)) (ma_cons (mf (me_var 5)) (ma_nil))))) (ma_nil))))) (ma_cons (mf (me_lst (ma_cons (mf (me_cmp (c_eq hu64) (me_var 4) (me_var 3))) (ma_cons (mf (me_cmp (c_eq hu64) (me_var 4) (me_var 3))) (ma_nil))))) (ma_nil)))))) (mss_one (ms_ret (me_bl))) (mss_nil)) (mss_one (ms_if (mt_not (mt_tru (me_call d__law_same (Room.mono (j := 9) hr (by omega)) tk (ma_cons (mf (me_lst (ma_cons (mf (me_call d_is_way (Room.mono (j := 2) hr (by omega)) tk (ma_cons (mf (me_var 3)) (ma_cons (mf (me_add (me_tup (ma_cons (me_non) (ma_nil))) (me_sl (me_var 5) (mo_some (me_int)) (mo_no)))) (ma_nil))))) (ma_cons (mf (me_call d_is_map (Room.mono (j := 3) hr (by omega)) tk (ma_cons (mf (me_var 3)) (ma_cons (mf (me_add (me_tup (ma_cons (me_non) (ma_nil))) (me_sl (me_var 5) (mo_some (me_int)) (mo_no)))) (ma_nil))))) (ma_nil))))) (ma_cons (mf (me_lst (ma_cons (me_bl) (ma_cons (me_bl) (ma_nil))))) (ma_nil)))))) (mss_one (ms_ret (me_bl))) (mss_nil)))))))))))))) (mss_one (ms_ret (me_bl))))
theorem okF_law (T : Txt mg) (d__law_deck : Df P w K mg base "_law_deck" 1 1 m__law_deck) (d__law_draw : Df P w K mg base "_law_draw" 1 2 m__law_draw) (d__law_rows : Df P w K mg base "_law_rows" 4 2 m__law_rows) (d__law_row : Df P w K mg base "_law_row" 3 2 m__law_row) (d__law_near_word : Df P w K mg base "_law_near_word" 3 1 m__law_near_word) (d__law_same : Df P w K mg base "_law_same" 9 2 (m__law_same 8)) (d__law_is_word : Df P w K mg base "_law_is_word" 1 1 m__law_is_word) (d_is_word : Df P w K mg base "is_word" 1 1 m_is_word) (d__law_is_map : Df P w K mg base "_law_is_map" 3 2 m__law_is_map) (d__law_is_way : Df P w K mg base "_law_is_way" 2 2 m__law_is_way) (d_is_map : Df P w K mg base "is_map" 3 2 m_is_map) (d_is_way : Df P w K mg base "is_way" 2 2 m_is_way) (d__law_is_table : Df P w K mg base "_law_is_table" 3 2 m__law_is_table) (d_is_table : Df P w K mg base "is_table" 3 2 m_is_table) (F : FunD K "law" "law" (defArgs s_law) (defBody s_law) (defScope s_law) [] [] a fd) : FnOk P w K mg base (L2.CX P w) 10 a fd ["script"] (spM K 1 m_law) := by
  refine fn_okM (N := ["script", "deck", "k", "v", "other", "right", "word", "row", "rows", "j"]) (ps := ["script"]) F sc_law fun cdv A outer s H E hr => ?_
  have tk : Takes (cxOf (L2.CX P w) P w K mg base ["script", "deck", "k", "v", "other", "right", "word", "row", "rows", "j"] "law" (defScope s_law) a cdv A outer s H E) (fun cls d _ H => E cls d H) := takes_of rfl rfl rfl rfl
  have hp : PassesOwn (model P w) (A.deeper (envOfC "law" (defScope s_law) s.heap.objs.size a cdv)) (envOfC "law" (defScope s_law) s.heap.objs.size a cdv) (cxOf (L2.CX P w) P w K mg base ["script", "deck", "k", "v", "other", "right", "word", "row", "rows", "j"] "law" (defScope s_law) a cdv A outer s H E).xe := passes_of (X := cxOf (L2.CX P w) P w K mg base ["script", "deck", "k", "v", "other", "right", "word", "row", "rows", "j"] "law" (defScope s_law) a cdv A outer s H E) rfl
  have hN : (["script", "deck", "k", "v", "other", "right", "word", "row", "rows", "j"] : List Str).Nodup := sc_law.nd
  have hu64 := hr.units
  have hu65 : (A.deeper (envOfC "law" (defScope s_law) s.heap.objs.size a cdv)).units + 65 < cLine := hu65_of hr
  exact mss_cons (ms_set (i := 1) hN (me_call d__law_deck (Room.mono (j := 1) hr (by omega)) tk (ma_cons (mf (me_var 0)) (ma_nil)))) (mss_cons (ms_for (vs := [2]) hp rfl (mi_rng1 T.z_range (ma_cons (me_int) (ma_nil))) (mg_name (vs := [2]) hN) (mss_cons (ms_set (i := 3) hN (me_add (me_int) (me_callIo d__law_draw (Room.mono (j := 1) hr (by omega)) tk (ma_cons (me_var 1) (ma_cons (me_int) (ma_nil)))))) (mss_cons (ms_par3 (i := 6) (j := 7) (l := 8) rfl hN (ma_cons (mf (me_callIo d__law_near_word (Room.mono (j := 3) hr (by omega)) tk (ma_cons (me_var 1) (ma_nil)))) (ma_cons (mf (me_callIo d__law_row (Room.mono (j := 3) hr (by omega)) tk (ma_cons (me_var 1) (ma_cons (mf (me_var 3)) (ma_nil))))) (ma_cons (mf (me_callIo d__law_rows (Room.mono (j := 4) hr (by omega)) tk (ma_cons (me_var 1) (ma_cons (mf (me_var 3)) (ma_nil))))) (ma_nil))))) (mss_cons (ms_if (mt_w (mw_or (mt_not (mt_tru (me_call d__law_same (Room.mono (j := 9) hr (by omega)) tk (ma_cons (mf (me_call d_is_word (Room.mono (j := 1) hr (by omega)) tk (ma_cons (mf (me_var 6)) (ma_nil)))) (ma_cons (mf (me_call d__law_is_word (Room.mono (j := 1) hr (by omega)) tk (ma_cons (mf (me_var 6)) (ma_nil)))) (ma_nil)))))) (mw_or1 (mt_not (mt_tru (me_call d__law_same (Room.mono (j := 9) hr (by omega)) tk (ma_cons (mf (me_call d_is_word (Room.mono (j := 1) hr (by omega)) tk (ma_cons (mf (me_var 7)) (ma_nil)))) (ma_cons (me_bl) (ma_nil))))))))) (mss_one (ms_ret (me_bl))) (mss_nil)) (mss_cons (ms_if (mt_not (mt_tru (me_call d__law_same (Room.mono (j := 9) hr (by omega)) tk (ma_cons (mf (me_lst (ma_cons (mf (me_call d_is_way (Room.mono (j := 2) hr (by omega)) tk (ma_cons (mf (me_var 3)) (ma_cons (mf (me_var 7)) (ma_nil))))) (ma_cons (mf (me_call d_is_map (Room.mono (j := 3) hr (by omega)) tk (ma_cons (mf (me_var 3)) (ma_cons (mf (me_var 7)) (ma_nil))))) (ma_nil))))) (ma_cons (mf (me_lst (ma_cons (mf (me_call d__law_is_way (Room.mono (j := 2) hr (by omega)) tk (ma_cons (mf (me_var 3)) (ma_cons (mf (me_var 7)) (ma_nil))))) (ma_cons (mf (me_call d__law_is_map (Room.mono (j := 3) hr (by omega)) tk (ma_cons (mf (me_var 3)) (ma_cons (mf (me_var 7)) (ma_nil))))) (ma_nil))))) (ma_nil)))))) (mss_one (ms_ret (me_bl))) (mss_nil)) (mss_cons (ms_if (mt_not (mt_tru (me_call d__law_same (Room.mono (j := 9) hr (by omega)) tk (ma_cons (mf (me_call d_is_table (Room.mono (j := 3) hr (by omega)) tk (ma_cons (mf (me_var 3)) (ma_cons (mf (me_var 8)) (ma_nil))))) (ma_cons (mf (me_call d__law_is_table (Room.mono (j := 3) hr (by omega)) tk (ma_cons (mf (me_var 3)) (ma_cons (mf (me_var 8)) (ma_nil))))) (ma_nil)))))) (mss_one (ms_ret (me_bl))) (mss_nil)) (mss_cons (ms_if (mt_not (mt_tru (me_call d__law_same (Room.mono (j := 9) hr (by omega)) tk (ma_cons (mf (me_lst (ma_cons (mf (me_call d_is_map (Room.mono (j := 3) hr (by omega)) tk (ma_cons (mf (me_var 3)) (ma_cons (mf (me_var 8)) (ma_nil))))) (ma_cons (mf (me_call d_is_way (Room.mono (j := 2) hr (by omega)) tk (ma_cons (mf (me_var 3)) (ma_cons (mf (me_var 6)) (ma_nil))))) (ma_cons (mf (me_call d_is_table (Room.mono (j := 3) hr (by omega)) tk (ma_cons (mf (me_var 3)) (ma_cons (mf (me_var 7)) (ma_nil))))) (ma_nil)))))) (ma_cons (mf (me_lst (ma_cons (mf (me_call d__law_is_map (Room.mono (j := 3) hr (by omega)) tk (ma_cons (mf (me_var 3)) (ma_cons (mf (me_var 8)) (ma_nil))))) (ma_cons (me_bl) (ma_cons (mf (me_call d__law_is_table (Room.mono (j := 3) hr (by omega)) tk (ma_cons (mf (me_var 3)) (ma_cons (mf (me_var 7)) (ma_nil))))) (ma_nil)))))) (ma_nil)))))) (mss_one (ms_ret (me_bl))) (mss_nil)) (mss_cons (ms_set (i := 4) hN (me_add (me_int) (me_mod (me_ct ct_int (by decide +kernel) T.z_int (ma_cons (me_add (me_var 3) (me_callIo d__law_draw (Room.mono (j := 1) hr (by omega)) tk (ma_cons (me_var 1) (ma_cons (me_int) (ma_nil))))) (ma_nil))) (me_int)))) (mss_cons (ms_set (i := 5) hN (me_add (me_tup (ma_cons (me_int) (ma_nil))) (me_ct ct_tup (by decide +kernel) T.z_tuple (ma_cons (me_lc (own := [("j", 9)]) rfl hN (mi_rng1 T.z_range (ma_cons (me_sub (me_var 3) (me_int)) (ma_nil))) (blkOk_by (by kernel_rfl)) (fun _ _ _ _ _ => mg_name (vs := [9]) hN) (fun _ _ _ _ _ => mts_nil) (fun _ _ _ _ _ => me_callIo d__law_draw (Room.mono (j := 1) hr (by omega)) takes0 (ma_cons (me_var 1) (ma_cons (mf (me_var 3)) (ma_nil))))) (ma_nil))))) (mss_cons (ms_if (mt_not (mt_tru (me_call d__law_same (Room.mono (j := 9) hr (by omega)) tk (ma_cons (mf (me_lst (ma_cons (mf (me_call d_is_way (Room.mono (j := 2) hr (by omega)) tk (ma_cons (mf (me_var 3)) (ma_cons (mf (me_var 5)) (ma_nil))))) (ma_cons (mf (me_call d_is_map (Room.mono (j := 3) hr (by omega)) tk (ma_cons (mf (me_var 3)) (ma_cons (mf (me_var 5)) (ma_nil))))) (ma_cons (mf (me_call d_is_table (Room.mono (j := 3) hr (by omega)) tk (ma_cons (mf (me_var 3)) (ma_cons (mf (me_add (me_tup (ma_cons (mf (me_var 5)) (ma_nil))) (me_mul (me_tup (ma_cons (mf (me_var 5)) (ma_nil))) (me_sub (me_var 3) (me_int))))) (ma_nil))))) (ma_nil)))))) (ma_cons (mf (me_lst (ma_cons (me_bl) (ma_cons (me_bl) (ma_cons (me_bl) (ma_nil)))))) (ma_nil)))))) (mss_one (ms_ret (me_bl))) (mss_nil)) (mss_cons (ms_if (mt_not (mt_tru (me_call d__law_same (Room.mono (j := 9) hr (by omega)) tk (ma_cons (mf (me_lst (ma_cons (mf (me_call d_is_way (Room.mono (j := 2) hr (by omega)) tk (ma_cons (mf (me_var 4)) (ma_cons (mf (me_var 5)) (ma_nil))))) (ma_cons (mf (me_call d_is_map (Room.mono (j := 3) hr (by omega)) tk (ma_cons (mf (me_var 4)) (ma_cons (mf (me_var 5)) (ma_nil))))) (ma_nil))))) (ma_cons (mf (me_lst (ma_cons (mf (me_cmp (c_eq hu64) (me_var 4) (me_var 3))) (ma_cons (mf (me_cmp (c_eq hu64) (me_var 4) (me_var 3))) (ma_nil))))) (ma_nil)))))) (mss_one (ms_ret (me_bl))) (mss_nil)) (mss_one (ms_if (mt_not (mt_tru (me_call d__law_same (Room.mono (j := 9) hr (by omega)) tk (ma_cons (mf (me_lst (ma_cons (mf (me_call d_is_way (Room.mono (j := 2) hr (by omega)) tk (ma_cons (mf (me_var 3)) (ma_cons (mf (me_add (me_tup (ma_cons (me_non) (ma_nil))) (me_sl (me_var 5) (mo_some (me_int)) (mo_no)))) (ma_nil))))) (ma_cons (mf (me_call d_is_map (Room.mono (j := 3) hr (by omega)) tk (ma_cons (mf (me_var 3)) (ma_cons (mf (me_add (me_tup (ma_cons (me_non) (ma_nil))) (me_sl (me_var 5) (mo_some (me_int)) (mo_no)))) (ma_nil))))) (ma_nil))))) (ma_cons (mf (me_lst (ma_cons (me_bl) (ma_cons (me_bl) (ma_nil))))) (ma_nil)))))) (mss_one (ms_ret (me_bl))) (mss_nil)))))))))))))) (mss_one (ms_ret (me_bl))))
end
end K01

set_option Elab.async false
set_option linter.all false
set_option maxRecDepth 100000
set_option maxHeartbeats 400000
namespace K01
open PySem PySem.Spec PyProof.Rows L2 ML
def Dk (c : List D) : Prop := ∃ (a b s e : Int) (scr : List Int), c = [.int a, .int b, .int s, .list (scr.map .int), .int e] ∧ 0 ≤ b
theorem small_of {i : Int} (h : small64 i = true) (j : Int) : (small64 j || small64 i) = true := by rw [h, Bool.or_true]
theorem ix_ints {scr : List Int} {b : Int} (h : 0 ≤ b) (h2 : b < scr.length) {P : D → Prop} (k : ∀ i : Int, P (.int i)) : Wo (atI (scr.map PyData.int) b) P := by
  obtain ⟨x, m, e⟩ := atI_mem (xs := scr.map PyData.int) h (by rw [List.length_map]; exact h2)
  obtain ⟨i, _, rfl⟩ := List.mem_map.mp m
  exact ⟨_, e, k i⟩
theorem draw_ok {c : List D} {n : Int} (hc : Dk c) (h0 : 0 < n) (h1 : n < 1073741824) : F1 m__law_draw c [.int n] (fun r c' => ∃ k : Int, r = .v (.int k) ∧ 0 ≤ k ∧ k < n ∧ Dk c') := by
  obtain ⟨a, b, s, e, scr, rfl, hb⟩ := hc
  refine F1.def_ ?_
  (try simp only [↓we_seq, ↓we_asg, ↓we_ret, ↓we_retN, ↓we_sIf, ↓we_drop, ↓we_nx, ↓we_brk, ↓we_cnt, ↓we_var, ↓we_C, ↓we_frz, ↓we_hold, ↓we_bin, ↓we_cmp, ↓we_un, ↓we_isi, ↓we_aNil, ↓we_aCons, ↓we_cb, ↓we_tup, ↓we_lst, ↓we_b, ↓we_tru, ↓we_and, ↓we_or, ↓we_not, ↓we_andV, ↓we_orV, ↓we_notV, ↓we_mIf, ↓we_chain, ↓we_set, ↓we_mgSub, ↓we_mgTup, ↓we_mgNil, ↓we_mgCons, ↓we_iR1, ↓we_iR2, ↓we_for, ↓we_mNo, ↓we_part, ↓we_sl, ↓we_ms, ↓we_met, ↓we_call_, ↓we_callIo_, ↓we_lc_, ↓we_iA, ↓we_yes, ↓we_par2, ↓we_par3, wo_some, wo_map, iaK_list, iaK_tuple, iaK_str, parK2_e, parK3_e, rd2, rd1, rd2B, rdN, rdAll, rd, hold, boolO, truO, intO, strO, frzO, retO, isIo_zero, isIo_succ, ioB_no, ioB_frz, ioB_own, ioB_io, le_line, lt_line, contAt, ML.putAt, Sl.cont, Sl.put, outsV, tupO, lstO, bo, noB, rtK_rt, rtK_nx, rtK1_rt, rtK1_nx, List.getElem?_cons_zero, List.getElem?_cons_succ, List.set_cons_zero, List.set_cons_succ, Option.map_some, Option.isSome_some, reduceIte, Bool.false_eq_true, Bool.true_eq_false, if_true, if_false, wipeR, ixN_lit, atI_lit, Option.bind_some, Nat.reduceLT, Nat.reduceLeDiff, ML.pos1, List.length_map, isT, List.map_cons, List.map_nil, List.length_cons, List.length_nil, List.cons_append, List.nil_append, List.append_nil, List.replicate, true_and, and_true, Nat.reduceSub, Nat.reduceAdd, Bool.not_true, Bool.not_false, decide_eq_true_eq, Bool.not_eq_true', decide_eq_false_iff_not, Int.reduceToNat, Int.reduceLT, Int.reduceLE, Int.reducePow, Int.reduceNeg, Bool.or_true, Bool.true_or, small_emod, small_lit, pow_10_18, and_self, addD, subD, mulD, modD, fdivD, negD, inD_ints, eqB_int, neB_int, ltB, leB, gtB, geB, isNB_none, notNB, isCB, ixD, lenD, absD, ML.intD, listD, tupD, slD, sl3, appD, metO, truD])
  split
  · rename_i ha
    subst ha
    split
    · rename_i hl
      refine ix_ints hb hl fun i => ?_
      (try simp only [↓we_seq, ↓we_asg, ↓we_ret, ↓we_retN, ↓we_sIf, ↓we_drop, ↓we_nx, ↓we_brk, ↓we_cnt, ↓we_var, ↓we_C, ↓we_frz, ↓we_hold, ↓we_bin, ↓we_cmp, ↓we_un, ↓we_isi, ↓we_aNil, ↓we_aCons, ↓we_cb, ↓we_tup, ↓we_lst, ↓we_b, ↓we_tru, ↓we_and, ↓we_or, ↓we_not, ↓we_andV, ↓we_orV, ↓we_notV, ↓we_mIf, ↓we_chain, ↓we_set, ↓we_mgSub, ↓we_mgTup, ↓we_mgNil, ↓we_mgCons, ↓we_iR1, ↓we_iR2, ↓we_for, ↓we_mNo, ↓we_part, ↓we_sl, ↓we_ms, ↓we_met, ↓we_call_, ↓we_callIo_, ↓we_lc_, ↓we_iA, ↓we_yes, ↓we_par2, ↓we_par3, wo_some, wo_map, iaK_list, iaK_tuple, iaK_str, parK2_e, parK3_e, rd2, rd1, rd2B, rdN, rdAll, rd, hold, boolO, truO, intO, strO, frzO, retO, isIo_zero, isIo_succ, ioB_no, ioB_frz, ioB_own, ioB_io, le_line, lt_line, contAt, ML.putAt, Sl.cont, Sl.put, outsV, tupO, lstO, bo, noB, rtK_rt, rtK_nx, rtK1_rt, rtK1_nx, List.getElem?_cons_zero, List.getElem?_cons_succ, List.set_cons_zero, List.set_cons_succ, Option.map_some, Option.isSome_some, reduceIte, Bool.false_eq_true, Bool.true_eq_false, if_true, if_false, wipeR, ixN_lit, atI_lit, Option.bind_some, Nat.reduceLT, Nat.reduceLeDiff, ML.pos1, List.length_map, isT, List.map_cons, List.map_nil, List.length_cons, List.length_nil, List.cons_append, List.nil_append, List.append_nil, List.replicate, true_and, and_true, Nat.reduceSub, Nat.reduceAdd, Bool.not_true, Bool.not_false, decide_eq_true_eq, Bool.not_eq_true', decide_eq_false_iff_not, Int.reduceToNat, Int.reduceLT, Int.reduceLE, Int.reducePow, Int.reduceNeg, Bool.or_true, Bool.true_or, small_emod, small_lit, pow_10_18, and_self, addD, subD, mulD, modD, fdivD, negD, inD_ints, eqB_int, neB_int, ltB, leB, gtB, geB, isNB_none, notNB, isCB, ixD, lenD, absD, ML.intD, listD, tupD, slD, sl3, appD, metO, truD])
      split
      · refine ix_ints hb hl fun i => ?_
        (try simp only [↓we_seq, ↓we_asg, ↓we_ret, ↓we_retN, ↓we_sIf, ↓we_drop, ↓we_nx, ↓we_brk, ↓we_cnt, ↓we_var, ↓we_C, ↓we_frz, ↓we_hold, ↓we_bin, ↓we_cmp, ↓we_un, ↓we_isi, ↓we_aNil, ↓we_aCons, ↓we_cb, ↓we_tup, ↓we_lst, ↓we_b, ↓we_tru, ↓we_and, ↓we_or, ↓we_not, ↓we_andV, ↓we_orV, ↓we_notV, ↓we_mIf, ↓we_chain, ↓we_set, ↓we_mgSub, ↓we_mgTup, ↓we_mgNil, ↓we_mgCons, ↓we_iR1, ↓we_iR2, ↓we_for, ↓we_mNo, ↓we_part, ↓we_sl, ↓we_ms, ↓we_met, ↓we_call_, ↓we_callIo_, ↓we_lc_, ↓we_iA, ↓we_yes, ↓we_par2, ↓we_par3, wo_some, wo_map, iaK_list, iaK_tuple, iaK_str, parK2_e, parK3_e, rd2, rd1, rd2B, rdN, rdAll, rd, hold, boolO, truO, intO, strO, frzO, retO, isIo_zero, isIo_succ, ioB_no, ioB_frz, ioB_own, ioB_io, le_line, lt_line, contAt, ML.putAt, Sl.cont, Sl.put, outsV, tupO, lstO, bo, noB, rtK_rt, rtK_nx, rtK1_rt, rtK1_nx, List.getElem?_cons_zero, List.getElem?_cons_succ, List.set_cons_zero, List.set_cons_succ, Option.map_some, Option.isSome_some, reduceIte, Bool.false_eq_true, Bool.true_eq_false, if_true, if_false, wipeR, ixN_lit, atI_lit, Option.bind_some, Nat.reduceLT, Nat.reduceLeDiff, ML.pos1, List.length_map, isT, List.map_cons, List.map_nil, List.length_cons, List.length_nil, List.cons_append, List.nil_append, List.append_nil, List.replicate, true_and, and_true, Nat.reduceSub, Nat.reduceAdd, Bool.not_true, Bool.not_false, decide_eq_true_eq, Bool.not_eq_true', decide_eq_false_iff_not, Int.reduceToNat, Int.reduceLT, Int.reduceLE, Int.reducePow, Int.reduceNeg, Bool.or_true, Bool.true_or, small_emod, small_lit, pow_10_18, and_self, addD, subD, mulD, modD, fdivD, negD, inD_ints, eqB_int, neB_int, ltB, leB, gtB, geB, isNB_none, notNB, isCB, ixD, lenD, absD, ML.intD, listD, tupD, slD, sl3, appD, metO, truD, h0, h1]); repeat ((first | rw [then_nx] | rw [then_rt] | rw [then_bk] | rw [then_ct]); simp only [↓we_seq, ↓we_asg, ↓we_ret, ↓we_retN, ↓we_sIf, ↓we_drop, ↓we_nx, ↓we_brk, ↓we_cnt, ↓we_var, ↓we_C, ↓we_frz, ↓we_hold, ↓we_bin, ↓we_cmp, ↓we_un, ↓we_isi, ↓we_aNil, ↓we_aCons, ↓we_cb, ↓we_tup, ↓we_lst, ↓we_b, ↓we_tru, ↓we_and, ↓we_or, ↓we_not, ↓we_andV, ↓we_orV, ↓we_notV, ↓we_mIf, ↓we_chain, ↓we_set, ↓we_mgSub, ↓we_mgTup, ↓we_mgNil, ↓we_mgCons, ↓we_iR1, ↓we_iR2, ↓we_for, ↓we_mNo, ↓we_part, ↓we_sl, ↓we_ms, ↓we_met, ↓we_call_, ↓we_callIo_, ↓we_lc_, ↓we_iA, ↓we_yes, ↓we_par2, ↓we_par3, wo_some, wo_map, iaK_list, iaK_tuple, iaK_str, parK2_e, parK3_e, rd2, rd1, rd2B, rdN, rdAll, rd, hold, boolO, truO, intO, strO, frzO, retO, isIo_zero, isIo_succ, ioB_no, ioB_frz, ioB_own, ioB_io, le_line, lt_line, contAt, ML.putAt, Sl.cont, Sl.put, outsV, tupO, lstO, bo, noB, rtK_rt, rtK_nx, rtK1_rt, rtK1_nx, List.getElem?_cons_zero, List.getElem?_cons_succ, List.set_cons_zero, List.set_cons_succ, Option.map_some, Option.isSome_some, reduceIte, Bool.false_eq_true, Bool.true_eq_false, if_true, if_false, wipeR, ixN_lit, atI_lit, Option.bind_some, Nat.reduceLT, Nat.reduceLeDiff, ML.pos1, List.length_map, isT, List.map_cons, List.map_nil, List.length_cons, List.length_nil, List.cons_append, List.nil_append, List.append_nil, List.replicate, true_and, and_true, Nat.reduceSub, Nat.reduceAdd, Bool.not_true, Bool.not_false, decide_eq_true_eq, Bool.not_eq_true', decide_eq_false_iff_not, Int.reduceToNat, Int.reduceLT, Int.reduceLE, Int.reducePow, Int.reduceNeg, Bool.or_true, Bool.true_or, small_emod, small_lit, pow_10_18, and_self, addD, subD, mulD, modD, fdivD, negD, inD_ints, eqB_int, neB_int, ltB, leB, gtB, geB, isNB_none, notNB, isCB, ixD, lenD, absD, ML.intD, listD, tupD, slD, sl3, appD, metO, truD, h0, h1]);
        exact ⟨_, rfl, _, rfl, Int.emod_nonneg _ (by omega), Int.emod_lt_of_pos _ h0, _, _, _, _, _, rfl, by omega⟩
      · (try simp only [↓we_seq, ↓we_asg, ↓we_ret, ↓we_retN, ↓we_sIf, ↓we_drop, ↓we_nx, ↓we_brk, ↓we_cnt, ↓we_var, ↓we_C, ↓we_frz, ↓we_hold, ↓we_bin, ↓we_cmp, ↓we_un, ↓we_isi, ↓we_aNil, ↓we_aCons, ↓we_cb, ↓we_tup, ↓we_lst, ↓we_b, ↓we_tru, ↓we_and, ↓we_or, ↓we_not, ↓we_andV, ↓we_orV, ↓we_notV, ↓we_mIf, ↓we_chain, ↓we_set, ↓we_mgSub, ↓we_mgTup, ↓we_mgNil, ↓we_mgCons, ↓we_iR1, ↓we_iR2, ↓we_for, ↓we_mNo, ↓we_part, ↓we_sl, ↓we_ms, ↓we_met, ↓we_call_, ↓we_callIo_, ↓we_lc_, ↓we_iA, ↓we_yes, ↓we_par2, ↓we_par3, wo_some, wo_map, iaK_list, iaK_tuple, iaK_str, parK2_e, parK3_e, rd2, rd1, rd2B, rdN, rdAll, rd, hold, boolO, truO, intO, strO, frzO, retO, isIo_zero, isIo_succ, ioB_no, ioB_frz, ioB_own, ioB_io, le_line, lt_line, contAt, ML.putAt, Sl.cont, Sl.put, outsV, tupO, lstO, bo, noB, rtK_rt, rtK_nx, rtK1_rt, rtK1_nx, List.getElem?_cons_zero, List.getElem?_cons_succ, List.set_cons_zero, List.set_cons_succ, Option.map_some, Option.isSome_some, reduceIte, Bool.false_eq_true, Bool.true_eq_false, if_true, if_false, wipeR, ixN_lit, atI_lit, Option.bind_some, Nat.reduceLT, Nat.reduceLeDiff, ML.pos1, List.length_map, isT, List.map_cons, List.map_nil, List.length_cons, List.length_nil, List.cons_append, List.nil_append, List.append_nil, List.replicate, true_and, and_true, Nat.reduceSub, Nat.reduceAdd, Bool.not_true, Bool.not_false, decide_eq_true_eq, Bool.not_eq_true', decide_eq_false_iff_not, Int.reduceToNat, Int.reduceLT, Int.reduceLE, Int.reducePow, Int.reduceNeg, Bool.or_true, Bool.true_or, small_emod, small_lit, pow_10_18, and_self, addD, subD, mulD, modD, fdivD, negD, inD_ints, eqB_int, neB_int, ltB, leB, gtB, geB, isNB_none, notNB, isCB, ixD, lenD, absD, ML.intD, listD, tupD, slD, sl3, appD, metO, truD, hl, h0, h1]); repeat ((first | rw [then_nx] | rw [then_rt] | rw [then_bk] | rw [then_ct]); simp only [↓we_seq, ↓we_asg, ↓we_ret, ↓we_retN, ↓we_sIf, ↓we_drop, ↓we_nx, ↓we_brk, ↓we_cnt, ↓we_var, ↓we_C, ↓we_frz, ↓we_hold, ↓we_bin, ↓we_cmp, ↓we_un, ↓we_isi, ↓we_aNil, ↓we_aCons, ↓we_cb, ↓we_tup, ↓we_lst, ↓we_b, ↓we_tru, ↓we_and, ↓we_or, ↓we_not, ↓we_andV, ↓we_orV, ↓we_notV, ↓we_mIf, ↓we_chain, ↓we_set, ↓we_mgSub, ↓we_mgTup, ↓we_mgNil, ↓we_mgCons, ↓we_iR1, ↓we_iR2, ↓we_for, ↓we_mNo, ↓we_part, ↓we_sl, ↓we_ms, ↓we_met, ↓we_call_, ↓we_callIo_, ↓we_lc_, ↓we_iA, ↓we_yes, ↓we_par2, ↓we_par3, wo_some, wo_map, iaK_list, iaK_tuple, iaK_str, parK2_e, parK3_e, rd2, rd1, rd2B, rdN, rdAll, rd, hold, boolO, truO, intO, strO, frzO, retO, isIo_zero, isIo_succ, ioB_no, ioB_frz, ioB_own, ioB_io, le_line, lt_line, contAt, ML.putAt, Sl.cont, Sl.put, outsV, tupO, lstO, bo, noB, rtK_rt, rtK_nx, rtK1_rt, rtK1_nx, List.getElem?_cons_zero, List.getElem?_cons_succ, List.set_cons_zero, List.set_cons_succ, Option.map_some, Option.isSome_some, reduceIte, Bool.false_eq_true, Bool.true_eq_false, if_true, if_false, wipeR, ixN_lit, atI_lit, Option.bind_some, Nat.reduceLT, Nat.reduceLeDiff, ML.pos1, List.length_map, isT, List.map_cons, List.map_nil, List.length_cons, List.length_nil, List.cons_append, List.nil_append, List.append_nil, List.replicate, true_and, and_true, Nat.reduceSub, Nat.reduceAdd, Bool.not_true, Bool.not_false, decide_eq_true_eq, Bool.not_eq_true', decide_eq_false_iff_not, Int.reduceToNat, Int.reduceLT, Int.reduceLE, Int.reducePow, Int.reduceNeg, Bool.or_true, Bool.true_or, small_emod, small_lit, pow_10_18, and_self, addD, subD, mulD, modD, fdivD, negD, inD_ints, eqB_int, neB_int, ltB, leB, gtB, geB, isNB_none, notNB, isCB, ixD, lenD, absD, ML.intD, listD, tupD, slD, sl3, appD, metO, truD, hl, h0, h1]);
        refine ix_ints hb hl fun i => ?_
        (try simp only [↓we_seq, ↓we_asg, ↓we_ret, ↓we_retN, ↓we_sIf, ↓we_drop, ↓we_nx, ↓we_brk, ↓we_cnt, ↓we_var, ↓we_C, ↓we_frz, ↓we_hold, ↓we_bin, ↓we_cmp, ↓we_un, ↓we_isi, ↓we_aNil, ↓we_aCons, ↓we_cb, ↓we_tup, ↓we_lst, ↓we_b, ↓we_tru, ↓we_and, ↓we_or, ↓we_not, ↓we_andV, ↓we_orV, ↓we_notV, ↓we_mIf, ↓we_chain, ↓we_set, ↓we_mgSub, ↓we_mgTup, ↓we_mgNil, ↓we_mgCons, ↓we_iR1, ↓we_iR2, ↓we_for, ↓we_mNo, ↓we_part, ↓we_sl, ↓we_ms, ↓we_met, ↓we_call_, ↓we_callIo_, ↓we_lc_, ↓we_iA, ↓we_yes, ↓we_par2, ↓we_par3, wo_some, wo_map, iaK_list, iaK_tuple, iaK_str, parK2_e, parK3_e, rd2, rd1, rd2B, rdN, rdAll, rd, hold, boolO, truO, intO, strO, frzO, retO, isIo_zero, isIo_succ, ioB_no, ioB_frz, ioB_own, ioB_io, le_line, lt_line, contAt, ML.putAt, Sl.cont, Sl.put, outsV, tupO, lstO, bo, noB, rtK_rt, rtK_nx, rtK1_rt, rtK1_nx, List.getElem?_cons_zero, List.getElem?_cons_succ, List.set_cons_zero, List.set_cons_succ, Option.map_some, Option.isSome_some, reduceIte, Bool.false_eq_true, Bool.true_eq_false, if_true, if_false, wipeR, ixN_lit, atI_lit, Option.bind_some, Nat.reduceLT, Nat.reduceLeDiff, ML.pos1, List.length_map, isT, List.map_cons, List.map_nil, List.length_cons, List.length_nil, List.cons_append, List.nil_append, List.append_nil, List.replicate, true_and, and_true, Nat.reduceSub, Nat.reduceAdd, Bool.not_true, Bool.not_false, decide_eq_true_eq, Bool.not_eq_true', decide_eq_false_iff_not, Int.reduceToNat, Int.reduceLT, Int.reduceLE, Int.reducePow, Int.reduceNeg, Bool.or_true, Bool.true_or, small_emod, small_lit, pow_10_18, and_self, addD, subD, mulD, modD, fdivD, negD, inD_ints, eqB_int, neB_int, ltB, leB, gtB, geB, isNB_none, notNB, isCB, ixD, lenD, absD, ML.intD, listD, tupD, slD, sl3, appD, metO, truD, h0, h1]); repeat ((first | rw [then_nx] | rw [then_rt] | rw [then_bk] | rw [then_ct]); simp only [↓we_seq, ↓we_asg, ↓we_ret, ↓we_retN, ↓we_sIf, ↓we_drop, ↓we_nx, ↓we_brk, ↓we_cnt, ↓we_var, ↓we_C, ↓we_frz, ↓we_hold, ↓we_bin, ↓we_cmp, ↓we_un, ↓we_isi, ↓we_aNil, ↓we_aCons, ↓we_cb, ↓we_tup, ↓we_lst, ↓we_b, ↓we_tru, ↓we_and, ↓we_or, ↓we_not, ↓we_andV, ↓we_orV, ↓we_notV, ↓we_mIf, ↓we_chain, ↓we_set, ↓we_mgSub, ↓we_mgTup, ↓we_mgNil, ↓we_mgCons, ↓we_iR1, ↓we_iR2, ↓we_for, ↓we_mNo, ↓we_part, ↓we_sl, ↓we_ms, ↓we_met, ↓we_call_, ↓we_callIo_, ↓we_lc_, ↓we_iA, ↓we_yes, ↓we_par2, ↓we_par3, wo_some, wo_map, iaK_list, iaK_tuple, iaK_str, parK2_e, parK3_e, rd2, rd1, rd2B, rdN, rdAll, rd, hold, boolO, truO, intO, strO, frzO, retO, isIo_zero, isIo_succ, ioB_no, ioB_frz, ioB_own, ioB_io, le_line, lt_line, contAt, ML.putAt, Sl.cont, Sl.put, outsV, tupO, lstO, bo, noB, rtK_rt, rtK_nx, rtK1_rt, rtK1_nx, List.getElem?_cons_zero, List.getElem?_cons_succ, List.set_cons_zero, List.set_cons_succ, Option.map_some, Option.isSome_some, reduceIte, Bool.false_eq_true, Bool.true_eq_false, if_true, if_false, wipeR, ixN_lit, atI_lit, Option.bind_some, Nat.reduceLT, Nat.reduceLeDiff, ML.pos1, List.length_map, isT, List.map_cons, List.map_nil, List.length_cons, List.length_nil, List.cons_append, List.nil_append, List.append_nil, List.replicate, true_and, and_true, Nat.reduceSub, Nat.reduceAdd, Bool.not_true, Bool.not_false, decide_eq_true_eq, Bool.not_eq_true', decide_eq_false_iff_not, Int.reduceToNat, Int.reduceLT, Int.reduceLE, Int.reducePow, Int.reduceNeg, Bool.or_true, Bool.true_or, small_emod, small_lit, pow_10_18, and_self, addD, subD, mulD, modD, fdivD, negD, inD_ints, eqB_int, neB_int, ltB, leB, gtB, geB, isNB_none, notNB, isCB, ixD, lenD, absD, ML.intD, listD, tupD, slD, sl3, appD, metO, truD, h0, h1]);
        exact ⟨_, rfl, _, rfl, Int.emod_nonneg _ (by omega), Int.emod_lt_of_pos _ h0, _, _, _, _, _, rfl, by omega⟩
    · rename_i hl
      (try simp only [↓we_seq, ↓we_asg, ↓we_ret, ↓we_retN, ↓we_sIf, ↓we_drop, ↓we_nx, ↓we_brk, ↓we_cnt, ↓we_var, ↓we_C, ↓we_frz, ↓we_hold, ↓we_bin, ↓we_cmp, ↓we_un, ↓we_isi, ↓we_aNil, ↓we_aCons, ↓we_cb, ↓we_tup, ↓we_lst, ↓we_b, ↓we_tru, ↓we_and, ↓we_or, ↓we_not, ↓we_andV, ↓we_orV, ↓we_notV, ↓we_mIf, ↓we_chain, ↓we_set, ↓we_mgSub, ↓we_mgTup, ↓we_mgNil, ↓we_mgCons, ↓we_iR1, ↓we_iR2, ↓we_for, ↓we_mNo, ↓we_part, ↓we_sl, ↓we_ms, ↓we_met, ↓we_call_, ↓we_callIo_, ↓we_lc_, ↓we_iA, ↓we_yes, ↓we_par2, ↓we_par3, wo_some, wo_map, iaK_list, iaK_tuple, iaK_str, parK2_e, parK3_e, rd2, rd1, rd2B, rdN, rdAll, rd, hold, boolO, truO, intO, strO, frzO, retO, isIo_zero, isIo_succ, ioB_no, ioB_frz, ioB_own, ioB_io, le_line, lt_line, contAt, ML.putAt, Sl.cont, Sl.put, outsV, tupO, lstO, bo, noB, rtK_rt, rtK_nx, rtK1_rt, rtK1_nx, List.getElem?_cons_zero, List.getElem?_cons_succ, List.set_cons_zero, List.set_cons_succ, Option.map_some, Option.isSome_some, reduceIte, Bool.false_eq_true, Bool.true_eq_false, if_true, if_false, wipeR, ixN_lit, atI_lit, Option.bind_some, Nat.reduceLT, Nat.reduceLeDiff, ML.pos1, List.length_map, isT, List.map_cons, List.map_nil, List.length_cons, List.length_nil, List.cons_append, List.nil_append, List.append_nil, List.replicate, true_and, and_true, Nat.reduceSub, Nat.reduceAdd, Bool.not_true, Bool.not_false, decide_eq_true_eq, Bool.not_eq_true', decide_eq_false_iff_not, Int.reduceToNat, Int.reduceLT, Int.reduceLE, Int.reducePow, Int.reduceNeg, Bool.or_true, Bool.true_or, small_emod, small_lit, pow_10_18, and_self, addD, subD, mulD, modD, fdivD, negD, inD_ints, eqB_int, neB_int, ltB, leB, gtB, geB, isNB_none, notNB, isCB, ixD, lenD, absD, ML.intD, listD, tupD, slD, sl3, appD, metO, truD, hl, h0, h1]); repeat ((first | rw [then_nx] | rw [then_rt] | rw [then_bk] | rw [then_ct]); simp only [↓we_seq, ↓we_asg, ↓we_ret, ↓we_retN, ↓we_sIf, ↓we_drop, ↓we_nx, ↓we_brk, ↓we_cnt, ↓we_var, ↓we_C, ↓we_frz, ↓we_hold, ↓we_bin, ↓we_cmp, ↓we_un, ↓we_isi, ↓we_aNil, ↓we_aCons, ↓we_cb, ↓we_tup, ↓we_lst, ↓we_b, ↓we_tru, ↓we_and, ↓we_or, ↓we_not, ↓we_andV, ↓we_orV, ↓we_notV, ↓we_mIf, ↓we_chain, ↓we_set, ↓we_mgSub, ↓we_mgTup, ↓we_mgNil, ↓we_mgCons, ↓we_iR1, ↓we_iR2, ↓we_for, ↓we_mNo, ↓we_part, ↓we_sl, ↓we_ms, ↓we_met, ↓we_call_, ↓we_callIo_, ↓we_lc_, ↓we_iA, ↓we_yes, ↓we_par2, ↓we_par3, wo_some, wo_map, iaK_list, iaK_tuple, iaK_str, parK2_e, parK3_e, rd2, rd1, rd2B, rdN, rdAll, rd, hold, boolO, truO, intO, strO, frzO, retO, isIo_zero, isIo_succ, ioB_no, ioB_frz, ioB_own, ioB_io, le_line, lt_line, contAt, ML.putAt, Sl.cont, Sl.put, outsV, tupO, lstO, bo, noB, rtK_rt, rtK_nx, rtK1_rt, rtK1_nx, List.getElem?_cons_zero, List.getElem?_cons_succ, List.set_cons_zero, List.set_cons_succ, Option.map_some, Option.isSome_some, reduceIte, Bool.false_eq_true, Bool.true_eq_false, if_true, if_false, wipeR, ixN_lit, atI_lit, Option.bind_some, Nat.reduceLT, Nat.reduceLeDiff, ML.pos1, List.length_map, isT, List.map_cons, List.map_nil, List.length_cons, List.length_nil, List.cons_append, List.nil_append, List.append_nil, List.replicate, true_and, and_true, Nat.reduceSub, Nat.reduceAdd, Bool.not_true, Bool.not_false, decide_eq_true_eq, Bool.not_eq_true', decide_eq_false_iff_not, Int.reduceToNat, Int.reduceLT, Int.reduceLE, Int.reducePow, Int.reduceNeg, Bool.or_true, Bool.true_or, small_emod, small_lit, pow_10_18, and_self, addD, subD, mulD, modD, fdivD, negD, inD_ints, eqB_int, neB_int, ltB, leB, gtB, geB, isNB_none, notNB, isCB, ixD, lenD, absD, ML.intD, listD, tupD, slD, sl3, appD, metO, truD, hl, h0, h1]);
      exact ⟨_, rfl, _, rfl, Int.emod_nonneg _ (by omega), Int.emod_lt_of_pos _ h0, _, _, _, _, _, rfl, by omega⟩
  · rename_i ha
    (try simp only [↓we_seq, ↓we_asg, ↓we_ret, ↓we_retN, ↓we_sIf, ↓we_drop, ↓we_nx, ↓we_brk, ↓we_cnt, ↓we_var, ↓we_C, ↓we_frz, ↓we_hold, ↓we_bin, ↓we_cmp, ↓we_un, ↓we_isi, ↓we_aNil, ↓we_aCons, ↓we_cb, ↓we_tup, ↓we_lst, ↓we_b, ↓we_tru, ↓we_and, ↓we_or, ↓we_not, ↓we_andV, ↓we_orV, ↓we_notV, ↓we_mIf, ↓we_chain, ↓we_set, ↓we_mgSub, ↓we_mgTup, ↓we_mgNil, ↓we_mgCons, ↓we_iR1, ↓we_iR2, ↓we_for, ↓we_mNo, ↓we_part, ↓we_sl, ↓we_ms, ↓we_met, ↓we_call_, ↓we_callIo_, ↓we_lc_, ↓we_iA, ↓we_yes, ↓we_par2, ↓we_par3, wo_some, wo_map, iaK_list, iaK_tuple, iaK_str, parK2_e, parK3_e, rd2, rd1, rd2B, rdN, rdAll, rd, hold, boolO, truO, intO, strO, frzO, retO, isIo_zero, isIo_succ, ioB_no, ioB_frz, ioB_own, ioB_io, le_line, lt_line, contAt, ML.putAt, Sl.cont, Sl.put, outsV, tupO, lstO, bo, noB, rtK_rt, rtK_nx, rtK1_rt, rtK1_nx, List.getElem?_cons_zero, List.getElem?_cons_succ, List.set_cons_zero, List.set_cons_succ, Option.map_some, Option.isSome_some, reduceIte, Bool.false_eq_true, Bool.true_eq_false, if_true, if_false, wipeR, ixN_lit, atI_lit, Option.bind_some, Nat.reduceLT, Nat.reduceLeDiff, ML.pos1, List.length_map, isT, List.map_cons, List.map_nil, List.length_cons, List.length_nil, List.cons_append, List.nil_append, List.append_nil, List.replicate, true_and, and_true, Nat.reduceSub, Nat.reduceAdd, Bool.not_true, Bool.not_false, decide_eq_true_eq, Bool.not_eq_true', decide_eq_false_iff_not, Int.reduceToNat, Int.reduceLT, Int.reduceLE, Int.reducePow, Int.reduceNeg, Bool.or_true, Bool.true_or, small_emod, small_lit, pow_10_18, and_self, addD, subD, mulD, modD, fdivD, negD, inD_ints, eqB_int, neB_int, ltB, leB, gtB, geB, isNB_none, notNB, isCB, ixD, lenD, absD, ML.intD, listD, tupD, slD, sl3, appD, metO, truD, ha, h0, h1]); repeat ((first | rw [then_nx] | rw [then_rt] | rw [then_bk] | rw [then_ct]); simp only [↓we_seq, ↓we_asg, ↓we_ret, ↓we_retN, ↓we_sIf, ↓we_drop, ↓we_nx, ↓we_brk, ↓we_cnt, ↓we_var, ↓we_C, ↓we_frz, ↓we_hold, ↓we_bin, ↓we_cmp, ↓we_un, ↓we_isi, ↓we_aNil, ↓we_aCons, ↓we_cb, ↓we_tup, ↓we_lst, ↓we_b, ↓we_tru, ↓we_and, ↓we_or, ↓we_not, ↓we_andV, ↓we_orV, ↓we_notV, ↓we_mIf, ↓we_chain, ↓we_set, ↓we_mgSub, ↓we_mgTup, ↓we_mgNil, ↓we_mgCons, ↓we_iR1, ↓we_iR2, ↓we_for, ↓we_mNo, ↓we_part, ↓we_sl, ↓we_ms, ↓we_met, ↓we_call_, ↓we_callIo_, ↓we_lc_, ↓we_iA, ↓we_yes, ↓we_par2, ↓we_par3, wo_some, wo_map, iaK_list, iaK_tuple, iaK_str, parK2_e, parK3_e, rd2, rd1, rd2B, rdN, rdAll, rd, hold, boolO, truO, intO, strO, frzO, retO, isIo_zero, isIo_succ, ioB_no, ioB_frz, ioB_own, ioB_io, le_line, lt_line, contAt, ML.putAt, Sl.cont, Sl.put, outsV, tupO, lstO, bo, noB, rtK_rt, rtK_nx, rtK1_rt, rtK1_nx, List.getElem?_cons_zero, List.getElem?_cons_succ, List.set_cons_zero, List.set_cons_succ, Option.map_some, Option.isSome_some, reduceIte, Bool.false_eq_true, Bool.true_eq_false, if_true, if_false, wipeR, ixN_lit, atI_lit, Option.bind_some, Nat.reduceLT, Nat.reduceLeDiff, ML.pos1, List.length_map, isT, List.map_cons, List.map_nil, List.length_cons, List.length_nil, List.cons_append, List.nil_append, List.append_nil, List.replicate, true_and, and_true, Nat.reduceSub, Nat.reduceAdd, Bool.not_true, Bool.not_false, decide_eq_true_eq, Bool.not_eq_true', decide_eq_false_iff_not, Int.reduceToNat, Int.reduceLT, Int.reduceLE, Int.reducePow, Int.reduceNeg, Bool.or_true, Bool.true_or, small_emod, small_lit, pow_10_18, and_self, addD, subD, mulD, modD, fdivD, negD, inD_ints, eqB_int, neB_int, ltB, leB, gtB, geB, isNB_none, notNB, isCB, ixD, lenD, absD, ML.intD, listD, tupD, slD, sl3, appD, metO, truD, ha, h0, h1]);
    exact ⟨_, rfl, _, rfl, Int.emod_nonneg _ (by omega), Int.emod_lt_of_pos _ h0, _, _, _, _, _, rfl, by omega⟩
theorem deck_ok (ns : List Int) : F0 m__law_deck [.list (ns.map .int)] (fun r => ∃ c, r = .fr c ∧ Dk c) := by
  refine F0.def_ ?_
  (try simp only [↓we_seq, ↓we_asg, ↓we_ret, ↓we_retN, ↓we_sIf, ↓we_drop, ↓we_nx, ↓we_brk, ↓we_cnt, ↓we_var, ↓we_C, ↓we_frz, ↓we_hold, ↓we_bin, ↓we_cmp, ↓we_un, ↓we_isi, ↓we_aNil, ↓we_aCons, ↓we_cb, ↓we_tup, ↓we_lst, ↓we_b, ↓we_tru, ↓we_and, ↓we_or, ↓we_not, ↓we_andV, ↓we_orV, ↓we_notV, ↓we_mIf, ↓we_chain, ↓we_set, ↓we_mgSub, ↓we_mgTup, ↓we_mgNil, ↓we_mgCons, ↓we_iR1, ↓we_iR2, ↓we_for, ↓we_mNo, ↓we_part, ↓we_sl, ↓we_ms, ↓we_met, ↓we_call_, ↓we_callIo_, ↓we_lc_, ↓we_iA, ↓we_yes, ↓we_par2, ↓we_par3, wo_some, wo_map, iaK_list, iaK_tuple, iaK_str, parK2_e, parK3_e, rd2, rd1, rd2B, rdN, rdAll, rd, hold, boolO, truO, intO, strO, frzO, retO, isIo_zero, isIo_succ, ioB_no, ioB_frz, ioB_own, ioB_io, le_line, lt_line, contAt, ML.putAt, Sl.cont, Sl.put, outsV, tupO, lstO, bo, noB, rtK_rt, rtK_nx, rtK1_rt, rtK1_nx, List.getElem?_cons_zero, List.getElem?_cons_succ, List.set_cons_zero, List.set_cons_succ, Option.map_some, Option.isSome_some, reduceIte, Bool.false_eq_true, Bool.true_eq_false, if_true, if_false, wipeR, ixN_lit, atI_lit, Option.bind_some, Nat.reduceLT, Nat.reduceLeDiff, ML.pos1, List.length_map, isT, List.map_cons, List.map_nil, List.length_cons, List.length_nil, List.cons_append, List.nil_append, List.append_nil, List.replicate, true_and, and_true, Nat.reduceSub, Nat.reduceAdd, Bool.not_true, Bool.not_false, decide_eq_true_eq, Bool.not_eq_true', decide_eq_false_iff_not, Int.reduceToNat, Int.reduceLT, Int.reduceLE, Int.reducePow, Int.reduceNeg, Bool.or_true, Bool.true_or, small_emod, small_lit, pow_10_18, and_self, addD, subD, mulD, modD, fdivD, negD, inD_ints, eqB_int, neB_int, ltB, leB, gtB, geB, isNB_none, notNB, isCB, ixD, lenD, absD, ML.intD, listD, tupD, slD, sl3, appD, metO, truD]); repeat ((first | rw [then_nx] | rw [then_rt] | rw [then_bk] | rw [then_ct]); simp only [↓we_seq, ↓we_asg, ↓we_ret, ↓we_retN, ↓we_sIf, ↓we_drop, ↓we_nx, ↓we_brk, ↓we_cnt, ↓we_var, ↓we_C, ↓we_frz, ↓we_hold, ↓we_bin, ↓we_cmp, ↓we_un, ↓we_isi, ↓we_aNil, ↓we_aCons, ↓we_cb, ↓we_tup, ↓we_lst, ↓we_b, ↓we_tru, ↓we_and, ↓we_or, ↓we_not, ↓we_andV, ↓we_orV, ↓we_notV, ↓we_mIf, ↓we_chain, ↓we_set, ↓we_mgSub, ↓we_mgTup, ↓we_mgNil, ↓we_mgCons, ↓we_iR1, ↓we_iR2, ↓we_for, ↓we_mNo, ↓we_part, ↓we_sl, ↓we_ms, ↓we_met, ↓we_call_, ↓we_callIo_, ↓we_lc_, ↓we_iA, ↓we_yes, ↓we_par2, ↓we_par3, wo_some, wo_map, iaK_list, iaK_tuple, iaK_str, parK2_e, parK3_e, rd2, rd1, rd2B, rdN, rdAll, rd, hold, boolO, truO, intO, strO, frzO, retO, isIo_zero, isIo_succ, ioB_no, ioB_frz, ioB_own, ioB_io, le_line, lt_line, contAt, ML.putAt, Sl.cont, Sl.put, outsV, tupO, lstO, bo, noB, rtK_rt, rtK_nx, rtK1_rt, rtK1_nx, List.getElem?_cons_zero, List.getElem?_cons_succ, List.set_cons_zero, List.set_cons_succ, Option.map_some, Option.isSome_some, reduceIte, Bool.false_eq_true, Bool.true_eq_false, if_true, if_false, wipeR, ixN_lit, atI_lit, Option.bind_some, Nat.reduceLT, Nat.reduceLeDiff, ML.pos1, List.length_map, isT, List.map_cons, List.map_nil, List.length_cons, List.length_nil, List.cons_append, List.nil_append, List.append_nil, List.replicate, true_and, and_true, Nat.reduceSub, Nat.reduceAdd, Bool.not_true, Bool.not_false, decide_eq_true_eq, Bool.not_eq_true', decide_eq_false_iff_not, Int.reduceToNat, Int.reduceLT, Int.reduceLE, Int.reducePow, Int.reduceNeg, Bool.or_true, Bool.true_or, small_emod, small_lit, pow_10_18, and_self, addD, subD, mulD, modD, fdivD, negD, inD_ints, eqB_int, neB_int, ltB, leB, gtB, geB, isNB_none, notNB, isCB, ixD, lenD, absD, ML.intD, listD, tupD, slD, sl3, appD, metO, truD])
  refine we_loop0 (fun ρ => ∃ s t, ioB t = false ∧ ρ = [.frz (.list (ns.map .int)), .frz (.int s), t]) ?_ ⟨_, _, rfl, rfl⟩ ?_
  · rintro d m ρ ⟨s, t, ht, rfl⟩
    obtain ⟨i, _, rfl⟩ := List.mem_map.mp m
    (try simp only [↓we_seq, ↓we_asg, ↓we_ret, ↓we_retN, ↓we_sIf, ↓we_drop, ↓we_nx, ↓we_brk, ↓we_cnt, ↓we_var, ↓we_C, ↓we_frz, ↓we_hold, ↓we_bin, ↓we_cmp, ↓we_un, ↓we_isi, ↓we_aNil, ↓we_aCons, ↓we_cb, ↓we_tup, ↓we_lst, ↓we_b, ↓we_tru, ↓we_and, ↓we_or, ↓we_not, ↓we_andV, ↓we_orV, ↓we_notV, ↓we_mIf, ↓we_chain, ↓we_set, ↓we_mgSub, ↓we_mgTup, ↓we_mgNil, ↓we_mgCons, ↓we_iR1, ↓we_iR2, ↓we_for, ↓we_mNo, ↓we_part, ↓we_sl, ↓we_ms, ↓we_met, ↓we_call_, ↓we_callIo_, ↓we_lc_, ↓we_iA, ↓we_yes, ↓we_par2, ↓we_par3, wo_some, wo_map, iaK_list, iaK_tuple, iaK_str, parK2_e, parK3_e, rd2, rd1, rd2B, rdN, rdAll, rd, hold, boolO, truO, intO, strO, frzO, retO, isIo_zero, isIo_succ, ioB_no, ioB_frz, ioB_own, ioB_io, le_line, lt_line, contAt, ML.putAt, Sl.cont, Sl.put, outsV, tupO, lstO, bo, noB, rtK_rt, rtK_nx, rtK1_rt, rtK1_nx, List.getElem?_cons_zero, List.getElem?_cons_succ, List.set_cons_zero, List.set_cons_succ, Option.map_some, Option.isSome_some, reduceIte, Bool.false_eq_true, Bool.true_eq_false, if_true, if_false, wipeR, ixN_lit, atI_lit, Option.bind_some, Nat.reduceLT, Nat.reduceLeDiff, ML.pos1, List.length_map, isT, List.map_cons, List.map_nil, List.length_cons, List.length_nil, List.cons_append, List.nil_append, List.append_nil, List.replicate, true_and, and_true, Nat.reduceSub, Nat.reduceAdd, Bool.not_true, Bool.not_false, decide_eq_true_eq, Bool.not_eq_true', decide_eq_false_iff_not, Int.reduceToNat, Int.reduceLT, Int.reduceLE, Int.reducePow, Int.reduceNeg, Bool.or_true, Bool.true_or, small_emod, small_lit, pow_10_18, and_self, addD, subD, mulD, modD, fdivD, negD, inD_ints, eqB_int, neB_int, ltB, leB, gtB, geB, isNB_none, notNB, isCB, ixD, lenD, absD, ML.intD, listD, tupD, slD, sl3, appD, metO, truD, ht]);
    exact ⟨_, _, rfl, rfl⟩
  · rintro ρ ⟨s, t, ht, rfl⟩
    (try simp only [↓we_seq, ↓we_asg, ↓we_ret, ↓we_retN, ↓we_sIf, ↓we_drop, ↓we_nx, ↓we_brk, ↓we_cnt, ↓we_var, ↓we_C, ↓we_frz, ↓we_hold, ↓we_bin, ↓we_cmp, ↓we_un, ↓we_isi, ↓we_aNil, ↓we_aCons, ↓we_cb, ↓we_tup, ↓we_lst, ↓we_b, ↓we_tru, ↓we_and, ↓we_or, ↓we_not, ↓we_andV, ↓we_orV, ↓we_notV, ↓we_mIf, ↓we_chain, ↓we_set, ↓we_mgSub, ↓we_mgTup, ↓we_mgNil, ↓we_mgCons, ↓we_iR1, ↓we_iR2, ↓we_for, ↓we_mNo, ↓we_part, ↓we_sl, ↓we_ms, ↓we_met, ↓we_call_, ↓we_callIo_, ↓we_lc_, ↓we_iA, ↓we_yes, ↓we_par2, ↓we_par3, wo_some, wo_map, iaK_list, iaK_tuple, iaK_str, parK2_e, parK3_e, rd2, rd1, rd2B, rdN, rdAll, rd, hold, boolO, truO, intO, strO, frzO, retO, isIo_zero, isIo_succ, ioB_no, ioB_frz, ioB_own, ioB_io, le_line, lt_line, contAt, ML.putAt, Sl.cont, Sl.put, outsV, tupO, lstO, bo, noB, rtK_rt, rtK_nx, rtK1_rt, rtK1_nx, List.getElem?_cons_zero, List.getElem?_cons_succ, List.set_cons_zero, List.set_cons_succ, Option.map_some, Option.isSome_some, reduceIte, Bool.false_eq_true, Bool.true_eq_false, if_true, if_false, wipeR, ixN_lit, atI_lit, Option.bind_some, Nat.reduceLT, Nat.reduceLeDiff, ML.pos1, List.length_map, isT, List.map_cons, List.map_nil, List.length_cons, List.length_nil, List.cons_append, List.nil_append, List.append_nil, List.replicate, true_and, and_true, Nat.reduceSub, Nat.reduceAdd, Bool.not_true, Bool.not_false, decide_eq_true_eq, Bool.not_eq_true', decide_eq_false_iff_not, Int.reduceToNat, Int.reduceLT, Int.reduceLE, Int.reducePow, Int.reduceNeg, Bool.or_true, Bool.true_or, small_emod, small_lit, pow_10_18, and_self, addD, subD, mulD, modD, fdivD, negD, inD_ints, eqB_int, neB_int, ltB, leB, gtB, geB, isNB_none, notNB, isCB, ixD, lenD, absD, ML.intD, listD, tupD, slD, sl3, appD, metO, truD]); repeat ((first | rw [then_nx] | rw [then_rt] | rw [then_bk] | rw [then_ct]); simp only [↓we_seq, ↓we_asg, ↓we_ret, ↓we_retN, ↓we_sIf, ↓we_drop, ↓we_nx, ↓we_brk, ↓we_cnt, ↓we_var, ↓we_C, ↓we_frz, ↓we_hold, ↓we_bin, ↓we_cmp, ↓we_un, ↓we_isi, ↓we_aNil, ↓we_aCons, ↓we_cb, ↓we_tup, ↓we_lst, ↓we_b, ↓we_tru, ↓we_and, ↓we_or, ↓we_not, ↓we_andV, ↓we_orV, ↓we_notV, ↓we_mIf, ↓we_chain, ↓we_set, ↓we_mgSub, ↓we_mgTup, ↓we_mgNil, ↓we_mgCons, ↓we_iR1, ↓we_iR2, ↓we_for, ↓we_mNo, ↓we_part, ↓we_sl, ↓we_ms, ↓we_met, ↓we_call_, ↓we_callIo_, ↓we_lc_, ↓we_iA, ↓we_yes, ↓we_par2, ↓we_par3, wo_some, wo_map, iaK_list, iaK_tuple, iaK_str, parK2_e, parK3_e, rd2, rd1, rd2B, rdN, rdAll, rd, hold, boolO, truO, intO, strO, frzO, retO, isIo_zero, isIo_succ, ioB_no, ioB_frz, ioB_own, ioB_io, le_line, lt_line, contAt, ML.putAt, Sl.cont, Sl.put, outsV, tupO, lstO, bo, noB, rtK_rt, rtK_nx, rtK1_rt, rtK1_nx, List.getElem?_cons_zero, List.getElem?_cons_succ, List.set_cons_zero, List.set_cons_succ, Option.map_some, Option.isSome_some, reduceIte, Bool.false_eq_true, Bool.true_eq_false, if_true, if_false, wipeR, ixN_lit, atI_lit, Option.bind_some, Nat.reduceLT, Nat.reduceLeDiff, ML.pos1, List.length_map, isT, List.map_cons, List.map_nil, List.length_cons, List.length_nil, List.cons_append, List.nil_append, List.append_nil, List.replicate, true_and, and_true, Nat.reduceSub, Nat.reduceAdd, Bool.not_true, Bool.not_false, decide_eq_true_eq, Bool.not_eq_true', decide_eq_false_iff_not, Int.reduceToNat, Int.reduceLT, Int.reduceLE, Int.reducePow, Int.reduceNeg, Bool.or_true, Bool.true_or, small_emod, small_lit, pow_10_18, and_self, addD, subD, mulD, modD, fdivD, negD, inD_ints, eqB_int, neB_int, ltB, leB, gtB, geB, isNB_none, notNB, isCB, ixD, lenD, absD, ML.intD, listD, tupD, slD, sl3, appD, metO, truD])
    exact ⟨_, rfl, _, _, _, _, ns, rfl, by decide⟩
theorem count_ok (d : D) (a b : Int) : F0 m_is_count [d, .int a, .int b] (fun r => r = .v (.bool (isCnt a b d))) := by
  refine F0.def_ ?_
  cases d with
  | int i =>
    (try simp only [↓we_seq, ↓we_asg, ↓we_ret, ↓we_retN, ↓we_sIf, ↓we_drop, ↓we_nx, ↓we_brk, ↓we_cnt, ↓we_var, ↓we_C, ↓we_frz, ↓we_hold, ↓we_bin, ↓we_cmp, ↓we_un, ↓we_isi, ↓we_aNil, ↓we_aCons, ↓we_cb, ↓we_tup, ↓we_lst, ↓we_b, ↓we_tru, ↓we_and, ↓we_or, ↓we_not, ↓we_andV, ↓we_orV, ↓we_notV, ↓we_mIf, ↓we_chain, ↓we_set, ↓we_mgSub, ↓we_mgTup, ↓we_mgNil, ↓we_mgCons, ↓we_iR1, ↓we_iR2, ↓we_for, ↓we_mNo, ↓we_part, ↓we_sl, ↓we_ms, ↓we_met, ↓we_call_, ↓we_callIo_, ↓we_lc_, ↓we_iA, ↓we_yes, ↓we_par2, ↓we_par3, wo_some, wo_map, iaK_list, iaK_tuple, iaK_str, parK2_e, parK3_e, rd2, rd1, rd2B, rdN, rdAll, rd, hold, boolO, truO, intO, strO, frzO, retO, isIo_zero, isIo_succ, ioB_no, ioB_frz, ioB_own, ioB_io, le_line, lt_line, contAt, ML.putAt, Sl.cont, Sl.put, outsV, tupO, lstO, bo, noB, rtK_rt, rtK_nx, rtK1_rt, rtK1_nx, List.getElem?_cons_zero, List.getElem?_cons_succ, List.set_cons_zero, List.set_cons_succ, Option.map_some, Option.isSome_some, reduceIte, Bool.false_eq_true, Bool.true_eq_false, if_true, if_false, wipeR, ixN_lit, atI_lit, Option.bind_some, Nat.reduceLT, Nat.reduceLeDiff, ML.pos1, List.length_map, isT, List.map_cons, List.map_nil, List.length_cons, List.length_nil, List.cons_append, List.nil_append, List.append_nil, List.replicate, true_and, and_true, Nat.reduceSub, Nat.reduceAdd, Bool.not_true, Bool.not_false, decide_eq_true_eq, Bool.not_eq_true', decide_eq_false_iff_not, Int.reduceToNat, Int.reduceLT, Int.reduceLE, Int.reducePow, Int.reduceNeg, Bool.or_true, Bool.true_or, small_emod, small_lit, pow_10_18, and_self, addD, subD, mulD, modD, fdivD, negD, inD_ints, eqB_int, neB_int, ltB, leB, gtB, geB, isNB_none, notNB, isCB, ixD, lenD, absD, ML.intD, listD, tupD, slD, sl3, appD, metO, truD]); repeat ((first | rw [then_nx] | rw [then_rt] | rw [then_bk] | rw [then_ct]); simp only [↓we_seq, ↓we_asg, ↓we_ret, ↓we_retN, ↓we_sIf, ↓we_drop, ↓we_nx, ↓we_brk, ↓we_cnt, ↓we_var, ↓we_C, ↓we_frz, ↓we_hold, ↓we_bin, ↓we_cmp, ↓we_un, ↓we_isi, ↓we_aNil, ↓we_aCons, ↓we_cb, ↓we_tup, ↓we_lst, ↓we_b, ↓we_tru, ↓we_and, ↓we_or, ↓we_not, ↓we_andV, ↓we_orV, ↓we_notV, ↓we_mIf, ↓we_chain, ↓we_set, ↓we_mgSub, ↓we_mgTup, ↓we_mgNil, ↓we_mgCons, ↓we_iR1, ↓we_iR2, ↓we_for, ↓we_mNo, ↓we_part, ↓we_sl, ↓we_ms, ↓we_met, ↓we_call_, ↓we_callIo_, ↓we_lc_, ↓we_iA, ↓we_yes, ↓we_par2, ↓we_par3, wo_some, wo_map, iaK_list, iaK_tuple, iaK_str, parK2_e, parK3_e, rd2, rd1, rd2B, rdN, rdAll, rd, hold, boolO, truO, intO, strO, frzO, retO, isIo_zero, isIo_succ, ioB_no, ioB_frz, ioB_own, ioB_io, le_line, lt_line, contAt, ML.putAt, Sl.cont, Sl.put, outsV, tupO, lstO, bo, noB, rtK_rt, rtK_nx, rtK1_rt, rtK1_nx, List.getElem?_cons_zero, List.getElem?_cons_succ, List.set_cons_zero, List.set_cons_succ, Option.map_some, Option.isSome_some, reduceIte, Bool.false_eq_true, Bool.true_eq_false, if_true, if_false, wipeR, ixN_lit, atI_lit, Option.bind_some, Nat.reduceLT, Nat.reduceLeDiff, ML.pos1, List.length_map, isT, List.map_cons, List.map_nil, List.length_cons, List.length_nil, List.cons_append, List.nil_append, List.append_nil, List.replicate, true_and, and_true, Nat.reduceSub, Nat.reduceAdd, Bool.not_true, Bool.not_false, decide_eq_true_eq, Bool.not_eq_true', decide_eq_false_iff_not, Int.reduceToNat, Int.reduceLT, Int.reduceLE, Int.reducePow, Int.reduceNeg, Bool.or_true, Bool.true_or, small_emod, small_lit, pow_10_18, and_self, addD, subD, mulD, modD, fdivD, negD, inD_ints, eqB_int, neB_int, ltB, leB, gtB, geB, isNB_none, notNB, isCB, ixD, lenD, absD, ML.intD, listD, tupD, slD, sl3, appD, metO, truD])
    by_cases h : a ≤ i
    · simp [h, isCnt]
    · simp [h, isCnt]
  | _ =>
    (try simp only [↓we_seq, ↓we_asg, ↓we_ret, ↓we_retN, ↓we_sIf, ↓we_drop, ↓we_nx, ↓we_brk, ↓we_cnt, ↓we_var, ↓we_C, ↓we_frz, ↓we_hold, ↓we_bin, ↓we_cmp, ↓we_un, ↓we_isi, ↓we_aNil, ↓we_aCons, ↓we_cb, ↓we_tup, ↓we_lst, ↓we_b, ↓we_tru, ↓we_and, ↓we_or, ↓we_not, ↓we_andV, ↓we_orV, ↓we_notV, ↓we_mIf, ↓we_chain, ↓we_set, ↓we_mgSub, ↓we_mgTup, ↓we_mgNil, ↓we_mgCons, ↓we_iR1, ↓we_iR2, ↓we_for, ↓we_mNo, ↓we_part, ↓we_sl, ↓we_ms, ↓we_met, ↓we_call_, ↓we_callIo_, ↓we_lc_, ↓we_iA, ↓we_yes, ↓we_par2, ↓we_par3, wo_some, wo_map, iaK_list, iaK_tuple, iaK_str, parK2_e, parK3_e, rd2, rd1, rd2B, rdN, rdAll, rd, hold, boolO, truO, intO, strO, frzO, retO, isIo_zero, isIo_succ, ioB_no, ioB_frz, ioB_own, ioB_io, le_line, lt_line, contAt, ML.putAt, Sl.cont, Sl.put, outsV, tupO, lstO, bo, noB, rtK_rt, rtK_nx, rtK1_rt, rtK1_nx, List.getElem?_cons_zero, List.getElem?_cons_succ, List.set_cons_zero, List.set_cons_succ, Option.map_some, Option.isSome_some, reduceIte, Bool.false_eq_true, Bool.true_eq_false, if_true, if_false, wipeR, ixN_lit, atI_lit, Option.bind_some, Nat.reduceLT, Nat.reduceLeDiff, ML.pos1, List.length_map, isT, List.map_cons, List.map_nil, List.length_cons, List.length_nil, List.cons_append, List.nil_append, List.append_nil, List.replicate, true_and, and_true, Nat.reduceSub, Nat.reduceAdd, Bool.not_true, Bool.not_false, decide_eq_true_eq, Bool.not_eq_true', decide_eq_false_iff_not, Int.reduceToNat, Int.reduceLT, Int.reduceLE, Int.reducePow, Int.reduceNeg, Bool.or_true, Bool.true_or, small_emod, small_lit, pow_10_18, and_self, addD, subD, mulD, modD, fdivD, negD, inD_ints, eqB_int, neB_int, ltB, leB, gtB, geB, isNB_none, notNB, isCB, ixD, lenD, absD, ML.intD, listD, tupD, slD, sl3, appD, metO, truD]); repeat ((first | rw [then_nx] | rw [then_rt] | rw [then_bk] | rw [then_ct]); simp only [↓we_seq, ↓we_asg, ↓we_ret, ↓we_retN, ↓we_sIf, ↓we_drop, ↓we_nx, ↓we_brk, ↓we_cnt, ↓we_var, ↓we_C, ↓we_frz, ↓we_hold, ↓we_bin, ↓we_cmp, ↓we_un, ↓we_isi, ↓we_aNil, ↓we_aCons, ↓we_cb, ↓we_tup, ↓we_lst, ↓we_b, ↓we_tru, ↓we_and, ↓we_or, ↓we_not, ↓we_andV, ↓we_orV, ↓we_notV, ↓we_mIf, ↓we_chain, ↓we_set, ↓we_mgSub, ↓we_mgTup, ↓we_mgNil, ↓we_mgCons, ↓we_iR1, ↓we_iR2, ↓we_for, ↓we_mNo, ↓we_part, ↓we_sl, ↓we_ms, ↓we_met, ↓we_call_, ↓we_callIo_, ↓we_lc_, ↓we_iA, ↓we_yes, ↓we_par2, ↓we_par3, wo_some, wo_map, iaK_list, iaK_tuple, iaK_str, parK2_e, parK3_e, rd2, rd1, rd2B, rdN, rdAll, rd, hold, boolO, truO, intO, strO, frzO, retO, isIo_zero, isIo_succ, ioB_no, ioB_frz, ioB_own, ioB_io, le_line, lt_line, contAt, ML.putAt, Sl.cont, Sl.put, outsV, tupO, lstO, bo, noB, rtK_rt, rtK_nx, rtK1_rt, rtK1_nx, List.getElem?_cons_zero, List.getElem?_cons_succ, List.set_cons_zero, List.set_cons_succ, Option.map_some, Option.isSome_some, reduceIte, Bool.false_eq_true, Bool.true_eq_false, if_true, if_false, wipeR, ixN_lit, atI_lit, Option.bind_some, Nat.reduceLT, Nat.reduceLeDiff, ML.pos1, List.length_map, isT, List.map_cons, List.map_nil, List.length_cons, List.length_nil, List.cons_append, List.nil_append, List.append_nil, List.replicate, true_and, and_true, Nat.reduceSub, Nat.reduceAdd, Bool.not_true, Bool.not_false, decide_eq_true_eq, Bool.not_eq_true', decide_eq_false_iff_not, Int.reduceToNat, Int.reduceLT, Int.reduceLE, Int.reducePow, Int.reduceNeg, Bool.or_true, Bool.true_or, small_emod, small_lit, pow_10_18, and_self, addD, subD, mulD, modD, fdivD, negD, inD_ints, eqB_int, neB_int, ltB, leB, gtB, geB, isNB_none, notNB, isCB, ixD, lenD, absD, ML.intD, listD, tupD, slD, sl3, appD, metO, truD])
    rfl
theorem lcount_ok (d : D) (a b : Int) : F0 m__law_count [d, .int a, .int b] (fun r => r = .v (.bool (isCnt a b d))) := by
  refine F0.def_ ?_
  cases d with
  | int i =>
    (try simp only [↓we_seq, ↓we_asg, ↓we_ret, ↓we_retN, ↓we_sIf, ↓we_drop, ↓we_nx, ↓we_brk, ↓we_cnt, ↓we_var, ↓we_C, ↓we_frz, ↓we_hold, ↓we_bin, ↓we_cmp, ↓we_un, ↓we_isi, ↓we_aNil, ↓we_aCons, ↓we_cb, ↓we_tup, ↓we_lst, ↓we_b, ↓we_tru, ↓we_and, ↓we_or, ↓we_not, ↓we_andV, ↓we_orV, ↓we_notV, ↓we_mIf, ↓we_chain, ↓we_set, ↓we_mgSub, ↓we_mgTup, ↓we_mgNil, ↓we_mgCons, ↓we_iR1, ↓we_iR2, ↓we_for, ↓we_mNo, ↓we_part, ↓we_sl, ↓we_ms, ↓we_met, ↓we_call_, ↓we_callIo_, ↓we_lc_, ↓we_iA, ↓we_yes, ↓we_par2, ↓we_par3, wo_some, wo_map, iaK_list, iaK_tuple, iaK_str, parK2_e, parK3_e, rd2, rd1, rd2B, rdN, rdAll, rd, hold, boolO, truO, intO, strO, frzO, retO, isIo_zero, isIo_succ, ioB_no, ioB_frz, ioB_own, ioB_io, le_line, lt_line, contAt, ML.putAt, Sl.cont, Sl.put, outsV, tupO, lstO, bo, noB, rtK_rt, rtK_nx, rtK1_rt, rtK1_nx, List.getElem?_cons_zero, List.getElem?_cons_succ, List.set_cons_zero, List.set_cons_succ, Option.map_some, Option.isSome_some, reduceIte, Bool.false_eq_true, Bool.true_eq_false, if_true, if_false, wipeR, ixN_lit, atI_lit, Option.bind_some, Nat.reduceLT, Nat.reduceLeDiff, ML.pos1, List.length_map, isT, List.map_cons, List.map_nil, List.length_cons, List.length_nil, List.cons_append, List.nil_append, List.append_nil, List.replicate, true_and, and_true, Nat.reduceSub, Nat.reduceAdd, Bool.not_true, Bool.not_false, decide_eq_true_eq, Bool.not_eq_true', decide_eq_false_iff_not, Int.reduceToNat, Int.reduceLT, Int.reduceLE, Int.reducePow, Int.reduceNeg, Bool.or_true, Bool.true_or, small_emod, small_lit, pow_10_18, and_self, addD, subD, mulD, modD, fdivD, negD, inD_ints, eqB_int, neB_int, ltB, leB, gtB, geB, isNB_none, notNB, isCB, ixD, lenD, absD, ML.intD, listD, tupD, slD, sl3, appD, metO, truD]); repeat ((first | rw [then_nx] | rw [then_rt] | rw [then_bk] | rw [then_ct]); simp only [↓we_seq, ↓we_asg, ↓we_ret, ↓we_retN, ↓we_sIf, ↓we_drop, ↓we_nx, ↓we_brk, ↓we_cnt, ↓we_var, ↓we_C, ↓we_frz, ↓we_hold, ↓we_bin, ↓we_cmp, ↓we_un, ↓we_isi, ↓we_aNil, ↓we_aCons, ↓we_cb, ↓we_tup, ↓we_lst, ↓we_b, ↓we_tru, ↓we_and, ↓we_or, ↓we_not, ↓we_andV, ↓we_orV, ↓we_notV, ↓we_mIf, ↓we_chain, ↓we_set, ↓we_mgSub, ↓we_mgTup, ↓we_mgNil, ↓we_mgCons, ↓we_iR1, ↓we_iR2, ↓we_for, ↓we_mNo, ↓we_part, ↓we_sl, ↓we_ms, ↓we_met, ↓we_call_, ↓we_callIo_, ↓we_lc_, ↓we_iA, ↓we_yes, ↓we_par2, ↓we_par3, wo_some, wo_map, iaK_list, iaK_tuple, iaK_str, parK2_e, parK3_e, rd2, rd1, rd2B, rdN, rdAll, rd, hold, boolO, truO, intO, strO, frzO, retO, isIo_zero, isIo_succ, ioB_no, ioB_frz, ioB_own, ioB_io, le_line, lt_line, contAt, ML.putAt, Sl.cont, Sl.put, outsV, tupO, lstO, bo, noB, rtK_rt, rtK_nx, rtK1_rt, rtK1_nx, List.getElem?_cons_zero, List.getElem?_cons_succ, List.set_cons_zero, List.set_cons_succ, Option.map_some, Option.isSome_some, reduceIte, Bool.false_eq_true, Bool.true_eq_false, if_true, if_false, wipeR, ixN_lit, atI_lit, Option.bind_some, Nat.reduceLT, Nat.reduceLeDiff, ML.pos1, List.length_map, isT, List.map_cons, List.map_nil, List.length_cons, List.length_nil, List.cons_append, List.nil_append, List.append_nil, List.replicate, true_and, and_true, Nat.reduceSub, Nat.reduceAdd, Bool.not_true, Bool.not_false, decide_eq_true_eq, Bool.not_eq_true', decide_eq_false_iff_not, Int.reduceToNat, Int.reduceLT, Int.reduceLE, Int.reducePow, Int.reduceNeg, Bool.or_true, Bool.true_or, small_emod, small_lit, pow_10_18, and_self, addD, subD, mulD, modD, fdivD, negD, inD_ints, eqB_int, neB_int, ltB, leB, gtB, geB, isNB_none, notNB, isCB, ixD, lenD, absD, ML.intD, listD, tupD, slD, sl3, appD, metO, truD])
    by_cases h : a ≤ i
    · simp [h, isCnt]
    · simp [h, isCnt]
  | _ =>
    (try simp only [↓we_seq, ↓we_asg, ↓we_ret, ↓we_retN, ↓we_sIf, ↓we_drop, ↓we_nx, ↓we_brk, ↓we_cnt, ↓we_var, ↓we_C, ↓we_frz, ↓we_hold, ↓we_bin, ↓we_cmp, ↓we_un, ↓we_isi, ↓we_aNil, ↓we_aCons, ↓we_cb, ↓we_tup, ↓we_lst, ↓we_b, ↓we_tru, ↓we_and, ↓we_or, ↓we_not, ↓we_andV, ↓we_orV, ↓we_notV, ↓we_mIf, ↓we_chain, ↓we_set, ↓we_mgSub, ↓we_mgTup, ↓we_mgNil, ↓we_mgCons, ↓we_iR1, ↓we_iR2, ↓we_for, ↓we_mNo, ↓we_part, ↓we_sl, ↓we_ms, ↓we_met, ↓we_call_, ↓we_callIo_, ↓we_lc_, ↓we_iA, ↓we_yes, ↓we_par2, ↓we_par3, wo_some, wo_map, iaK_list, iaK_tuple, iaK_str, parK2_e, parK3_e, rd2, rd1, rd2B, rdN, rdAll, rd, hold, boolO, truO, intO, strO, frzO, retO, isIo_zero, isIo_succ, ioB_no, ioB_frz, ioB_own, ioB_io, le_line, lt_line, contAt, ML.putAt, Sl.cont, Sl.put, outsV, tupO, lstO, bo, noB, rtK_rt, rtK_nx, rtK1_rt, rtK1_nx, List.getElem?_cons_zero, List.getElem?_cons_succ, List.set_cons_zero, List.set_cons_succ, Option.map_some, Option.isSome_some, reduceIte, Bool.false_eq_true, Bool.true_eq_false, if_true, if_false, wipeR, ixN_lit, atI_lit, Option.bind_some, Nat.reduceLT, Nat.reduceLeDiff, ML.pos1, List.length_map, isT, List.map_cons, List.map_nil, List.length_cons, List.length_nil, List.cons_append, List.nil_append, List.append_nil, List.replicate, true_and, and_true, Nat.reduceSub, Nat.reduceAdd, Bool.not_true, Bool.not_false, decide_eq_true_eq, Bool.not_eq_true', decide_eq_false_iff_not, Int.reduceToNat, Int.reduceLT, Int.reduceLE, Int.reducePow, Int.reduceNeg, Bool.or_true, Bool.true_or, small_emod, small_lit, pow_10_18, and_self, addD, subD, mulD, modD, fdivD, negD, inD_ints, eqB_int, neB_int, ltB, leB, gtB, geB, isNB_none, notNB, isCB, ixD, lenD, absD, ML.intD, listD, tupD, slD, sl3, appD, metO, truD]); repeat ((first | rw [then_nx] | rw [then_rt] | rw [then_bk] | rw [then_ct]); simp only [↓we_seq, ↓we_asg, ↓we_ret, ↓we_retN, ↓we_sIf, ↓we_drop, ↓we_nx, ↓we_brk, ↓we_cnt, ↓we_var, ↓we_C, ↓we_frz, ↓we_hold, ↓we_bin, ↓we_cmp, ↓we_un, ↓we_isi, ↓we_aNil, ↓we_aCons, ↓we_cb, ↓we_tup, ↓we_lst, ↓we_b, ↓we_tru, ↓we_and, ↓we_or, ↓we_not, ↓we_andV, ↓we_orV, ↓we_notV, ↓we_mIf, ↓we_chain, ↓we_set, ↓we_mgSub, ↓we_mgTup, ↓we_mgNil, ↓we_mgCons, ↓we_iR1, ↓we_iR2, ↓we_for, ↓we_mNo, ↓we_part, ↓we_sl, ↓we_ms, ↓we_met, ↓we_call_, ↓we_callIo_, ↓we_lc_, ↓we_iA, ↓we_yes, ↓we_par2, ↓we_par3, wo_some, wo_map, iaK_list, iaK_tuple, iaK_str, parK2_e, parK3_e, rd2, rd1, rd2B, rdN, rdAll, rd, hold, boolO, truO, intO, strO, frzO, retO, isIo_zero, isIo_succ, ioB_no, ioB_frz, ioB_own, ioB_io, le_line, lt_line, contAt, ML.putAt, Sl.cont, Sl.put, outsV, tupO, lstO, bo, noB, rtK_rt, rtK_nx, rtK1_rt, rtK1_nx, List.getElem?_cons_zero, List.getElem?_cons_succ, List.set_cons_zero, List.set_cons_succ, Option.map_some, Option.isSome_some, reduceIte, Bool.false_eq_true, Bool.true_eq_false, if_true, if_false, wipeR, ixN_lit, atI_lit, Option.bind_some, Nat.reduceLT, Nat.reduceLeDiff, ML.pos1, List.length_map, isT, List.map_cons, List.map_nil, List.length_cons, List.length_nil, List.cons_append, List.nil_append, List.append_nil, List.replicate, true_and, and_true, Nat.reduceSub, Nat.reduceAdd, Bool.not_true, Bool.not_false, decide_eq_true_eq, Bool.not_eq_true', decide_eq_false_iff_not, Int.reduceToNat, Int.reduceLT, Int.reduceLE, Int.reducePow, Int.reduceNeg, Bool.or_true, Bool.true_or, small_emod, small_lit, pow_10_18, and_self, addD, subD, mulD, modD, fdivD, negD, inD_ints, eqB_int, neB_int, ltB, leB, gtB, geB, isNB_none, notNB, isCB, ixD, lenD, absD, ML.intD, listD, tupD, slD, sl3, appD, metO, truD])
    rfl
def isVals (v : Int) : D → Bool
  | .tuple ds => decide ((ds.length : Int) = v) && ds.all (isCnt 0 (v - 1))
  | _ => false
def isWay (v : Int) : D → Bool
  | .tuple ds => decide ((ds.length : Int) = v) && ds.all (fun x => isNone x || isCnt 0 (v - 1) x)
  | _ => false
def hd0 : D → Bool
  | .tuple (.int i :: _) => decide (i = 0)
  | _ => false
def isMap (v : Int) (d : D) : Bool := isVals v d && hd0 d
def hd00 : D → Bool
  | .tuple (x :: _) => hd0 x
  | _ => false
def isTab (v : Int) : D → Bool
  | .tuple ds => decide ((ds.length : Int) = v) && (ds.all (isVals v) && hd00 (.tuple ds))
  | _ => false
theorem vals_ok (d : D) (v : Int) (hv : v ≤ 16777216) : F0 m_are_values [.int v, d] (fun r => r = .v (.bool (isVals v d))) := by
  refine F0.def_ ?_
  cases d with
  | tuple ds =>
    (try simp only [↓we_seq, ↓we_asg, ↓we_ret, ↓we_retN, ↓we_sIf, ↓we_drop, ↓we_nx, ↓we_brk, ↓we_cnt, ↓we_var, ↓we_C, ↓we_frz, ↓we_hold, ↓we_bin, ↓we_cmp, ↓we_un, ↓we_isi, ↓we_aNil, ↓we_aCons, ↓we_cb, ↓we_tup, ↓we_lst, ↓we_b, ↓we_tru, ↓we_and, ↓we_or, ↓we_not, ↓we_andV, ↓we_orV, ↓we_notV, ↓we_mIf, ↓we_chain, ↓we_set, ↓we_mgSub, ↓we_mgTup, ↓we_mgNil, ↓we_mgCons, ↓we_iR1, ↓we_iR2, ↓we_for, ↓we_mNo, ↓we_part, ↓we_sl, ↓we_ms, ↓we_met, ↓we_call_, ↓we_callIo_, ↓we_lc_, ↓we_iA, ↓we_yes, ↓we_par2, ↓we_par3, wo_some, wo_map, iaK_list, iaK_tuple, iaK_str, parK2_e, parK3_e, rd2, rd1, rd2B, rdN, rdAll, rd, hold, boolO, truO, intO, strO, frzO, retO, isIo_zero, isIo_succ, ioB_no, ioB_frz, ioB_own, ioB_io, le_line, lt_line, contAt, ML.putAt, Sl.cont, Sl.put, outsV, tupO, lstO, bo, noB, rtK_rt, rtK_nx, rtK1_rt, rtK1_nx, List.getElem?_cons_zero, List.getElem?_cons_succ, List.set_cons_zero, List.set_cons_succ, Option.map_some, Option.isSome_some, reduceIte, Bool.false_eq_true, Bool.true_eq_false, if_true, if_false, wipeR, ixN_lit, atI_lit, Option.bind_some, Nat.reduceLT, Nat.reduceLeDiff, ML.pos1, List.length_map, isT, List.map_cons, List.map_nil, List.length_cons, List.length_nil, List.cons_append, List.nil_append, List.append_nil, List.replicate, true_and, and_true, Nat.reduceSub, Nat.reduceAdd, Bool.not_true, Bool.not_false, decide_eq_true_eq, Bool.not_eq_true', decide_eq_false_iff_not, Int.reduceToNat, Int.reduceLT, Int.reduceLE, Int.reducePow, Int.reduceNeg, Bool.or_true, Bool.true_or, small_emod, small_lit, pow_10_18, and_self, addD, subD, mulD, modD, fdivD, negD, inD_ints, eqB_int, neB_int, ltB, leB, gtB, geB, isNB_none, notNB, isCB, ixD, lenD, absD, ML.intD, listD, tupD, slD, sl3, appD, metO, truD]); repeat ((first | rw [then_nx] | rw [then_rt] | rw [then_bk] | rw [then_ct]); simp only [↓we_seq, ↓we_asg, ↓we_ret, ↓we_retN, ↓we_sIf, ↓we_drop, ↓we_nx, ↓we_brk, ↓we_cnt, ↓we_var, ↓we_C, ↓we_frz, ↓we_hold, ↓we_bin, ↓we_cmp, ↓we_un, ↓we_isi, ↓we_aNil, ↓we_aCons, ↓we_cb, ↓we_tup, ↓we_lst, ↓we_b, ↓we_tru, ↓we_and, ↓we_or, ↓we_not, ↓we_andV, ↓we_orV, ↓we_notV, ↓we_mIf, ↓we_chain, ↓we_set, ↓we_mgSub, ↓we_mgTup, ↓we_mgNil, ↓we_mgCons, ↓we_iR1, ↓we_iR2, ↓we_for, ↓we_mNo, ↓we_part, ↓we_sl, ↓we_ms, ↓we_met, ↓we_call_, ↓we_callIo_, ↓we_lc_, ↓we_iA, ↓we_yes, ↓we_par2, ↓we_par3, wo_some, wo_map, iaK_list, iaK_tuple, iaK_str, parK2_e, parK3_e, rd2, rd1, rd2B, rdN, rdAll, rd, hold, boolO, truO, intO, strO, frzO, retO, isIo_zero, isIo_succ, ioB_no, ioB_frz, ioB_own, ioB_io, le_line, lt_line, contAt, ML.putAt, Sl.cont, Sl.put, outsV, tupO, lstO, bo, noB, rtK_rt, rtK_nx, rtK1_rt, rtK1_nx, List.getElem?_cons_zero, List.getElem?_cons_succ, List.set_cons_zero, List.set_cons_succ, Option.map_some, Option.isSome_some, reduceIte, Bool.false_eq_true, Bool.true_eq_false, if_true, if_false, wipeR, ixN_lit, atI_lit, Option.bind_some, Nat.reduceLT, Nat.reduceLeDiff, ML.pos1, List.length_map, isT, List.map_cons, List.map_nil, List.length_cons, List.length_nil, List.cons_append, List.nil_append, List.append_nil, List.replicate, true_and, and_true, Nat.reduceSub, Nat.reduceAdd, Bool.not_true, Bool.not_false, decide_eq_true_eq, Bool.not_eq_true', decide_eq_false_iff_not, Int.reduceToNat, Int.reduceLT, Int.reduceLE, Int.reducePow, Int.reduceNeg, Bool.or_true, Bool.true_or, small_emod, small_lit, pow_10_18, and_self, addD, subD, mulD, modD, fdivD, negD, inD_ints, eqB_int, neB_int, ltB, leB, gtB, geB, isNB_none, notNB, isCB, ixD, lenD, absD, ML.intD, listD, tupD, slD, sl3, appD, metO, truD])
    split
    · rename_i hl
      (try simp only [↓we_seq, ↓we_asg, ↓we_ret, ↓we_retN, ↓we_sIf, ↓we_drop, ↓we_nx, ↓we_brk, ↓we_cnt, ↓we_var, ↓we_C, ↓we_frz, ↓we_hold, ↓we_bin, ↓we_cmp, ↓we_un, ↓we_isi, ↓we_aNil, ↓we_aCons, ↓we_cb, ↓we_tup, ↓we_lst, ↓we_b, ↓we_tru, ↓we_and, ↓we_or, ↓we_not, ↓we_andV, ↓we_orV, ↓we_notV, ↓we_mIf, ↓we_chain, ↓we_set, ↓we_mgSub, ↓we_mgTup, ↓we_mgNil, ↓we_mgCons, ↓we_iR1, ↓we_iR2, ↓we_for, ↓we_mNo, ↓we_part, ↓we_sl, ↓we_ms, ↓we_met, ↓we_call_, ↓we_callIo_, ↓we_lc_, ↓we_iA, ↓we_yes, ↓we_par2, ↓we_par3, wo_some, wo_map, iaK_list, iaK_tuple, iaK_str, parK2_e, parK3_e, rd2, rd1, rd2B, rdN, rdAll, rd, hold, boolO, truO, intO, strO, frzO, retO, isIo_zero, isIo_succ, ioB_no, ioB_frz, ioB_own, ioB_io, le_line, lt_line, contAt, ML.putAt, Sl.cont, Sl.put, outsV, tupO, lstO, bo, noB, rtK_rt, rtK_nx, rtK1_rt, rtK1_nx, List.getElem?_cons_zero, List.getElem?_cons_succ, List.set_cons_zero, List.set_cons_succ, Option.map_some, Option.isSome_some, reduceIte, Bool.false_eq_true, Bool.true_eq_false, if_true, if_false, wipeR, ixN_lit, atI_lit, Option.bind_some, Nat.reduceLT, Nat.reduceLeDiff, ML.pos1, List.length_map, isT, List.map_cons, List.map_nil, List.length_cons, List.length_nil, List.cons_append, List.nil_append, List.append_nil, List.replicate, true_and, and_true, Nat.reduceSub, Nat.reduceAdd, Bool.not_true, Bool.not_false, decide_eq_true_eq, Bool.not_eq_true', decide_eq_false_iff_not, Int.reduceToNat, Int.reduceLT, Int.reduceLE, Int.reducePow, Int.reduceNeg, Bool.or_true, Bool.true_or, small_emod, small_lit, pow_10_18, and_self, addD, subD, mulD, modD, fdivD, negD, inD_ints, eqB_int, neB_int, ltB, leB, gtB, geB, isNB_none, notNB, isCB, ixD, lenD, absD, ML.intD, listD, tupD, slD, sl3, appD, metO, truD]); repeat ((first | rw [then_nx] | rw [then_rt] | rw [then_bk] | rw [then_ct]); simp only [↓we_seq, ↓we_asg, ↓we_ret, ↓we_retN, ↓we_sIf, ↓we_drop, ↓we_nx, ↓we_brk, ↓we_cnt, ↓we_var, ↓we_C, ↓we_frz, ↓we_hold, ↓we_bin, ↓we_cmp, ↓we_un, ↓we_isi, ↓we_aNil, ↓we_aCons, ↓we_cb, ↓we_tup, ↓we_lst, ↓we_b, ↓we_tru, ↓we_and, ↓we_or, ↓we_not, ↓we_andV, ↓we_orV, ↓we_notV, ↓we_mIf, ↓we_chain, ↓we_set, ↓we_mgSub, ↓we_mgTup, ↓we_mgNil, ↓we_mgCons, ↓we_iR1, ↓we_iR2, ↓we_for, ↓we_mNo, ↓we_part, ↓we_sl, ↓we_ms, ↓we_met, ↓we_call_, ↓we_callIo_, ↓we_lc_, ↓we_iA, ↓we_yes, ↓we_par2, ↓we_par3, wo_some, wo_map, iaK_list, iaK_tuple, iaK_str, parK2_e, parK3_e, rd2, rd1, rd2B, rdN, rdAll, rd, hold, boolO, truO, intO, strO, frzO, retO, isIo_zero, isIo_succ, ioB_no, ioB_frz, ioB_own, ioB_io, le_line, lt_line, contAt, ML.putAt, Sl.cont, Sl.put, outsV, tupO, lstO, bo, noB, rtK_rt, rtK_nx, rtK1_rt, rtK1_nx, List.getElem?_cons_zero, List.getElem?_cons_succ, List.set_cons_zero, List.set_cons_succ, Option.map_some, Option.isSome_some, reduceIte, Bool.false_eq_true, Bool.true_eq_false, if_true, if_false, wipeR, ixN_lit, atI_lit, Option.bind_some, Nat.reduceLT, Nat.reduceLeDiff, ML.pos1, List.length_map, isT, List.map_cons, List.map_nil, List.length_cons, List.length_nil, List.cons_append, List.nil_append, List.append_nil, List.replicate, true_and, and_true, Nat.reduceSub, Nat.reduceAdd, Bool.not_true, Bool.not_false, decide_eq_true_eq, Bool.not_eq_true', decide_eq_false_iff_not, Int.reduceToNat, Int.reduceLT, Int.reduceLE, Int.reducePow, Int.reduceNeg, Bool.or_true, Bool.true_or, small_emod, small_lit, pow_10_18, and_self, addD, subD, mulD, modD, fdivD, negD, inD_ints, eqB_int, neB_int, ltB, leB, gtB, geB, isNB_none, notNB, isCB, ixD, lenD, absD, ML.intD, listD, tupD, slD, sl3, appD, metO, truD])
      refine wo_lcF (fun d => .bool (isCnt 0 (v - 1) d)) (fun d m => ?_) (by rw [le_line]; omega) ?_
      · (try simp only [↓we_seq, ↓we_asg, ↓we_ret, ↓we_retN, ↓we_sIf, ↓we_drop, ↓we_nx, ↓we_brk, ↓we_cnt, ↓we_var, ↓we_C, ↓we_frz, ↓we_hold, ↓we_bin, ↓we_cmp, ↓we_un, ↓we_isi, ↓we_aNil, ↓we_aCons, ↓we_cb, ↓we_tup, ↓we_lst, ↓we_b, ↓we_tru, ↓we_and, ↓we_or, ↓we_not, ↓we_andV, ↓we_orV, ↓we_notV, ↓we_mIf, ↓we_chain, ↓we_set, ↓we_mgSub, ↓we_mgTup, ↓we_mgNil, ↓we_mgCons, ↓we_iR1, ↓we_iR2, ↓we_for, ↓we_mNo, ↓we_part, ↓we_sl, ↓we_ms, ↓we_met, ↓we_call_, ↓we_callIo_, ↓we_lc_, ↓we_iA, ↓we_yes, ↓we_par2, ↓we_par3, wo_some, wo_map, iaK_list, iaK_tuple, iaK_str, parK2_e, parK3_e, rd2, rd1, rd2B, rdN, rdAll, rd, hold, boolO, truO, intO, strO, frzO, retO, isIo_zero, isIo_succ, ioB_no, ioB_frz, ioB_own, ioB_io, le_line, lt_line, contAt, ML.putAt, Sl.cont, Sl.put, outsV, tupO, lstO, bo, noB, rtK_rt, rtK_nx, rtK1_rt, rtK1_nx, List.getElem?_cons_zero, List.getElem?_cons_succ, List.set_cons_zero, List.set_cons_succ, Option.map_some, Option.isSome_some, reduceIte, Bool.false_eq_true, Bool.true_eq_false, if_true, if_false, wipeR, ixN_lit, atI_lit, Option.bind_some, Nat.reduceLT, Nat.reduceLeDiff, ML.pos1, List.length_map, isT, List.map_cons, List.map_nil, List.length_cons, List.length_nil, List.cons_append, List.nil_append, List.append_nil, List.replicate, true_and, and_true, Nat.reduceSub, Nat.reduceAdd, Bool.not_true, Bool.not_false, decide_eq_true_eq, Bool.not_eq_true', decide_eq_false_iff_not, Int.reduceToNat, Int.reduceLT, Int.reduceLE, Int.reducePow, Int.reduceNeg, Bool.or_true, Bool.true_or, small_emod, small_lit, pow_10_18, and_self, addD, subD, mulD, modD, fdivD, negD, inD_ints, eqB_int, neB_int, ltB, leB, gtB, geB, isNB_none, notNB, isCB, ixD, lenD, absD, ML.intD, listD, tupD, slD, sl3, appD, metO, truD, compK]); repeat ((first | rw [then_nx] | rw [then_rt] | rw [then_bk] | rw [then_ct]); simp only [↓we_seq, ↓we_asg, ↓we_ret, ↓we_retN, ↓we_sIf, ↓we_drop, ↓we_nx, ↓we_brk, ↓we_cnt, ↓we_var, ↓we_C, ↓we_frz, ↓we_hold, ↓we_bin, ↓we_cmp, ↓we_un, ↓we_isi, ↓we_aNil, ↓we_aCons, ↓we_cb, ↓we_tup, ↓we_lst, ↓we_b, ↓we_tru, ↓we_and, ↓we_or, ↓we_not, ↓we_andV, ↓we_orV, ↓we_notV, ↓we_mIf, ↓we_chain, ↓we_set, ↓we_mgSub, ↓we_mgTup, ↓we_mgNil, ↓we_mgCons, ↓we_iR1, ↓we_iR2, ↓we_for, ↓we_mNo, ↓we_part, ↓we_sl, ↓we_ms, ↓we_met, ↓we_call_, ↓we_callIo_, ↓we_lc_, ↓we_iA, ↓we_yes, ↓we_par2, ↓we_par3, wo_some, wo_map, iaK_list, iaK_tuple, iaK_str, parK2_e, parK3_e, rd2, rd1, rd2B, rdN, rdAll, rd, hold, boolO, truO, intO, strO, frzO, retO, isIo_zero, isIo_succ, ioB_no, ioB_frz, ioB_own, ioB_io, le_line, lt_line, contAt, ML.putAt, Sl.cont, Sl.put, outsV, tupO, lstO, bo, noB, rtK_rt, rtK_nx, rtK1_rt, rtK1_nx, List.getElem?_cons_zero, List.getElem?_cons_succ, List.set_cons_zero, List.set_cons_succ, Option.map_some, Option.isSome_some, reduceIte, Bool.false_eq_true, Bool.true_eq_false, if_true, if_false, wipeR, ixN_lit, atI_lit, Option.bind_some, Nat.reduceLT, Nat.reduceLeDiff, ML.pos1, List.length_map, isT, List.map_cons, List.map_nil, List.length_cons, List.length_nil, List.cons_append, List.nil_append, List.append_nil, List.replicate, true_and, and_true, Nat.reduceSub, Nat.reduceAdd, Bool.not_true, Bool.not_false, decide_eq_true_eq, Bool.not_eq_true', decide_eq_false_iff_not, Int.reduceToNat, Int.reduceLT, Int.reduceLE, Int.reducePow, Int.reduceNeg, Bool.or_true, Bool.true_or, small_emod, small_lit, pow_10_18, and_self, addD, subD, mulD, modD, fdivD, negD, inD_ints, eqB_int, neB_int, ltB, leB, gtB, geB, isNB_none, notNB, isCB, ixD, lenD, absD, ML.intD, listD, tupD, slD, sl3, appD, metO, truD, compK]);
        refine we_call (count_ok d 0 (v - 1)) rfl ?_
        rintro r - rfl
        (try simp only [↓we_seq, ↓we_asg, ↓we_ret, ↓we_retN, ↓we_sIf, ↓we_drop, ↓we_nx, ↓we_brk, ↓we_cnt, ↓we_var, ↓we_C, ↓we_frz, ↓we_hold, ↓we_bin, ↓we_cmp, ↓we_un, ↓we_isi, ↓we_aNil, ↓we_aCons, ↓we_cb, ↓we_tup, ↓we_lst, ↓we_b, ↓we_tru, ↓we_and, ↓we_or, ↓we_not, ↓we_andV, ↓we_orV, ↓we_notV, ↓we_mIf, ↓we_chain, ↓we_set, ↓we_mgSub, ↓we_mgTup, ↓we_mgNil, ↓we_mgCons, ↓we_iR1, ↓we_iR2, ↓we_for, ↓we_mNo, ↓we_part, ↓we_sl, ↓we_ms, ↓we_met, ↓we_call_, ↓we_callIo_, ↓we_lc_, ↓we_iA, ↓we_yes, ↓we_par2, ↓we_par3, wo_some, wo_map, iaK_list, iaK_tuple, iaK_str, parK2_e, parK3_e, rd2, rd1, rd2B, rdN, rdAll, rd, hold, boolO, truO, intO, strO, frzO, retO, isIo_zero, isIo_succ, ioB_no, ioB_frz, ioB_own, ioB_io, le_line, lt_line, contAt, ML.putAt, Sl.cont, Sl.put, outsV, tupO, lstO, bo, noB, rtK_rt, rtK_nx, rtK1_rt, rtK1_nx, List.getElem?_cons_zero, List.getElem?_cons_succ, List.set_cons_zero, List.set_cons_succ, Option.map_some, Option.isSome_some, reduceIte, Bool.false_eq_true, Bool.true_eq_false, if_true, if_false, wipeR, ixN_lit, atI_lit, Option.bind_some, Nat.reduceLT, Nat.reduceLeDiff, ML.pos1, List.length_map, isT, List.map_cons, List.map_nil, List.length_cons, List.length_nil, List.cons_append, List.nil_append, List.append_nil, List.replicate, true_and, and_true, Nat.reduceSub, Nat.reduceAdd, Bool.not_true, Bool.not_false, decide_eq_true_eq, Bool.not_eq_true', decide_eq_false_iff_not, Int.reduceToNat, Int.reduceLT, Int.reduceLE, Int.reducePow, Int.reduceNeg, Bool.or_true, Bool.true_or, small_emod, small_lit, pow_10_18, and_self, addD, subD, mulD, modD, fdivD, negD, inD_ints, eqB_int, neB_int, ltB, leB, gtB, geB, isNB_none, notNB, isCB, ixD, lenD, absD, ML.intD, listD, tupD, slD, sl3, appD, metO, truD]); repeat ((first | rw [then_nx] | rw [then_rt] | rw [then_bk] | rw [then_ct]); simp only [↓we_seq, ↓we_asg, ↓we_ret, ↓we_retN, ↓we_sIf, ↓we_drop, ↓we_nx, ↓we_brk, ↓we_cnt, ↓we_var, ↓we_C, ↓we_frz, ↓we_hold, ↓we_bin, ↓we_cmp, ↓we_un, ↓we_isi, ↓we_aNil, ↓we_aCons, ↓we_cb, ↓we_tup, ↓we_lst, ↓we_b, ↓we_tru, ↓we_and, ↓we_or, ↓we_not, ↓we_andV, ↓we_orV, ↓we_notV, ↓we_mIf, ↓we_chain, ↓we_set, ↓we_mgSub, ↓we_mgTup, ↓we_mgNil, ↓we_mgCons, ↓we_iR1, ↓we_iR2, ↓we_for, ↓we_mNo, ↓we_part, ↓we_sl, ↓we_ms, ↓we_met, ↓we_call_, ↓we_callIo_, ↓we_lc_, ↓we_iA, ↓we_yes, ↓we_par2, ↓we_par3, wo_some, wo_map, iaK_list, iaK_tuple, iaK_str, parK2_e, parK3_e, rd2, rd1, rd2B, rdN, rdAll, rd, hold, boolO, truO, intO, strO, frzO, retO, isIo_zero, isIo_succ, ioB_no, ioB_frz, ioB_own, ioB_io, le_line, lt_line, contAt, ML.putAt, Sl.cont, Sl.put, outsV, tupO, lstO, bo, noB, rtK_rt, rtK_nx, rtK1_rt, rtK1_nx, List.getElem?_cons_zero, List.getElem?_cons_succ, List.set_cons_zero, List.set_cons_succ, Option.map_some, Option.isSome_some, reduceIte, Bool.false_eq_true, Bool.true_eq_false, if_true, if_false, wipeR, ixN_lit, atI_lit, Option.bind_some, Nat.reduceLT, Nat.reduceLeDiff, ML.pos1, List.length_map, isT, List.map_cons, List.map_nil, List.length_cons, List.length_nil, List.cons_append, List.nil_append, List.append_nil, List.replicate, true_and, and_true, Nat.reduceSub, Nat.reduceAdd, Bool.not_true, Bool.not_false, decide_eq_true_eq, Bool.not_eq_true', decide_eq_false_iff_not, Int.reduceToNat, Int.reduceLT, Int.reduceLE, Int.reducePow, Int.reduceNeg, Bool.or_true, Bool.true_or, small_emod, small_lit, pow_10_18, and_self, addD, subD, mulD, modD, fdivD, negD, inD_ints, eqB_int, neB_int, ltB, leB, gtB, geB, isNB_none, notNB, isCB, ixD, lenD, absD, ML.intD, listD, tupD, slD, sl3, appD, metO, truD])
      · (try simp only [↓we_seq, ↓we_asg, ↓we_ret, ↓we_retN, ↓we_sIf, ↓we_drop, ↓we_nx, ↓we_brk, ↓we_cnt, ↓we_var, ↓we_C, ↓we_frz, ↓we_hold, ↓we_bin, ↓we_cmp, ↓we_un, ↓we_isi, ↓we_aNil, ↓we_aCons, ↓we_cb, ↓we_tup, ↓we_lst, ↓we_b, ↓we_tru, ↓we_and, ↓we_or, ↓we_not, ↓we_andV, ↓we_orV, ↓we_notV, ↓we_mIf, ↓we_chain, ↓we_set, ↓we_mgSub, ↓we_mgTup, ↓we_mgNil, ↓we_mgCons, ↓we_iR1, ↓we_iR2, ↓we_for, ↓we_mNo, ↓we_part, ↓we_sl, ↓we_ms, ↓we_met, ↓we_call_, ↓we_callIo_, ↓we_lc_, ↓we_iA, ↓we_yes, ↓we_par2, ↓we_par3, wo_some, wo_map, iaK_list, iaK_tuple, iaK_str, parK2_e, parK3_e, rd2, rd1, rd2B, rdN, rdAll, rd, hold, boolO, truO, intO, strO, frzO, retO, isIo_zero, isIo_succ, ioB_no, ioB_frz, ioB_own, ioB_io, le_line, lt_line, contAt, ML.putAt, Sl.cont, Sl.put, outsV, tupO, lstO, bo, noB, rtK_rt, rtK_nx, rtK1_rt, rtK1_nx, List.getElem?_cons_zero, List.getElem?_cons_succ, List.set_cons_zero, List.set_cons_succ, Option.map_some, Option.isSome_some, reduceIte, Bool.false_eq_true, Bool.true_eq_false, if_true, if_false, wipeR, ixN_lit, atI_lit, Option.bind_some, Nat.reduceLT, Nat.reduceLeDiff, ML.pos1, List.length_map, isT, List.map_cons, List.map_nil, List.length_cons, List.length_nil, List.cons_append, List.nil_append, List.append_nil, List.replicate, true_and, and_true, Nat.reduceSub, Nat.reduceAdd, Bool.not_true, Bool.not_false, decide_eq_true_eq, Bool.not_eq_true', decide_eq_false_iff_not, Int.reduceToNat, Int.reduceLT, Int.reduceLE, Int.reducePow, Int.reduceNeg, Bool.or_true, Bool.true_or, small_emod, small_lit, pow_10_18, and_self, addD, subD, mulD, modD, fdivD, negD, inD_ints, eqB_int, neB_int, ltB, leB, gtB, geB, isNB_none, notNB, isCB, ixD, lenD, absD, ML.intD, listD, tupD, slD, sl3, appD, metO, truD, all_map]); repeat ((first | rw [then_nx] | rw [then_rt] | rw [then_bk] | rw [then_ct]); simp only [↓we_seq, ↓we_asg, ↓we_ret, ↓we_retN, ↓we_sIf, ↓we_drop, ↓we_nx, ↓we_brk, ↓we_cnt, ↓we_var, ↓we_C, ↓we_frz, ↓we_hold, ↓we_bin, ↓we_cmp, ↓we_un, ↓we_isi, ↓we_aNil, ↓we_aCons, ↓we_cb, ↓we_tup, ↓we_lst, ↓we_b, ↓we_tru, ↓we_and, ↓we_or, ↓we_not, ↓we_andV, ↓we_orV, ↓we_notV, ↓we_mIf, ↓we_chain, ↓we_set, ↓we_mgSub, ↓we_mgTup, ↓we_mgNil, ↓we_mgCons, ↓we_iR1, ↓we_iR2, ↓we_for, ↓we_mNo, ↓we_part, ↓we_sl, ↓we_ms, ↓we_met, ↓we_call_, ↓we_callIo_, ↓we_lc_, ↓we_iA, ↓we_yes, ↓we_par2, ↓we_par3, wo_some, wo_map, iaK_list, iaK_tuple, iaK_str, parK2_e, parK3_e, rd2, rd1, rd2B, rdN, rdAll, rd, hold, boolO, truO, intO, strO, frzO, retO, isIo_zero, isIo_succ, ioB_no, ioB_frz, ioB_own, ioB_io, le_line, lt_line, contAt, ML.putAt, Sl.cont, Sl.put, outsV, tupO, lstO, bo, noB, rtK_rt, rtK_nx, rtK1_rt, rtK1_nx, List.getElem?_cons_zero, List.getElem?_cons_succ, List.set_cons_zero, List.set_cons_succ, Option.map_some, Option.isSome_some, reduceIte, Bool.false_eq_true, Bool.true_eq_false, if_true, if_false, wipeR, ixN_lit, atI_lit, Option.bind_some, Nat.reduceLT, Nat.reduceLeDiff, ML.pos1, List.length_map, isT, List.map_cons, List.map_nil, List.length_cons, List.length_nil, List.cons_append, List.nil_append, List.append_nil, List.replicate, true_and, and_true, Nat.reduceSub, Nat.reduceAdd, Bool.not_true, Bool.not_false, decide_eq_true_eq, Bool.not_eq_true', decide_eq_false_iff_not, Int.reduceToNat, Int.reduceLT, Int.reduceLE, Int.reducePow, Int.reduceNeg, Bool.or_true, Bool.true_or, small_emod, small_lit, pow_10_18, and_self, addD, subD, mulD, modD, fdivD, negD, inD_ints, eqB_int, neB_int, ltB, leB, gtB, geB, isNB_none, notNB, isCB, ixD, lenD, absD, ML.intD, listD, tupD, slD, sl3, appD, metO, truD, all_map]);
        simp [hl, isVals]
    · rename_i hl
      (try simp only [↓we_seq, ↓we_asg, ↓we_ret, ↓we_retN, ↓we_sIf, ↓we_drop, ↓we_nx, ↓we_brk, ↓we_cnt, ↓we_var, ↓we_C, ↓we_frz, ↓we_hold, ↓we_bin, ↓we_cmp, ↓we_un, ↓we_isi, ↓we_aNil, ↓we_aCons, ↓we_cb, ↓we_tup, ↓we_lst, ↓we_b, ↓we_tru, ↓we_and, ↓we_or, ↓we_not, ↓we_andV, ↓we_orV, ↓we_notV, ↓we_mIf, ↓we_chain, ↓we_set, ↓we_mgSub, ↓we_mgTup, ↓we_mgNil, ↓we_mgCons, ↓we_iR1, ↓we_iR2, ↓we_for, ↓we_mNo, ↓we_part, ↓we_sl, ↓we_ms, ↓we_met, ↓we_call_, ↓we_callIo_, ↓we_lc_, ↓we_iA, ↓we_yes, ↓we_par2, ↓we_par3, wo_some, wo_map, iaK_list, iaK_tuple, iaK_str, parK2_e, parK3_e, rd2, rd1, rd2B, rdN, rdAll, rd, hold, boolO, truO, intO, strO, frzO, retO, isIo_zero, isIo_succ, ioB_no, ioB_frz, ioB_own, ioB_io, le_line, lt_line, contAt, ML.putAt, Sl.cont, Sl.put, outsV, tupO, lstO, bo, noB, rtK_rt, rtK_nx, rtK1_rt, rtK1_nx, List.getElem?_cons_zero, List.getElem?_cons_succ, List.set_cons_zero, List.set_cons_succ, Option.map_some, Option.isSome_some, reduceIte, Bool.false_eq_true, Bool.true_eq_false, if_true, if_false, wipeR, ixN_lit, atI_lit, Option.bind_some, Nat.reduceLT, Nat.reduceLeDiff, ML.pos1, List.length_map, isT, List.map_cons, List.map_nil, List.length_cons, List.length_nil, List.cons_append, List.nil_append, List.append_nil, List.replicate, true_and, and_true, Nat.reduceSub, Nat.reduceAdd, Bool.not_true, Bool.not_false, decide_eq_true_eq, Bool.not_eq_true', decide_eq_false_iff_not, Int.reduceToNat, Int.reduceLT, Int.reduceLE, Int.reducePow, Int.reduceNeg, Bool.or_true, Bool.true_or, small_emod, small_lit, pow_10_18, and_self, addD, subD, mulD, modD, fdivD, negD, inD_ints, eqB_int, neB_int, ltB, leB, gtB, geB, isNB_none, notNB, isCB, ixD, lenD, absD, ML.intD, listD, tupD, slD, sl3, appD, metO, truD]); repeat ((first | rw [then_nx] | rw [then_rt] | rw [then_bk] | rw [then_ct]); simp only [↓we_seq, ↓we_asg, ↓we_ret, ↓we_retN, ↓we_sIf, ↓we_drop, ↓we_nx, ↓we_brk, ↓we_cnt, ↓we_var, ↓we_C, ↓we_frz, ↓we_hold, ↓we_bin, ↓we_cmp, ↓we_un, ↓we_isi, ↓we_aNil, ↓we_aCons, ↓we_cb, ↓we_tup, ↓we_lst, ↓we_b, ↓we_tru, ↓we_and, ↓we_or, ↓we_not, ↓we_andV, ↓we_orV, ↓we_notV, ↓we_mIf, ↓we_chain, ↓we_set, ↓we_mgSub, ↓we_mgTup, ↓we_mgNil, ↓we_mgCons, ↓we_iR1, ↓we_iR2, ↓we_for, ↓we_mNo, ↓we_part, ↓we_sl, ↓we_ms, ↓we_met, ↓we_call_, ↓we_callIo_, ↓we_lc_, ↓we_iA, ↓we_yes, ↓we_par2, ↓we_par3, wo_some, wo_map, iaK_list, iaK_tuple, iaK_str, parK2_e, parK3_e, rd2, rd1, rd2B, rdN, rdAll, rd, hold, boolO, truO, intO, strO, frzO, retO, isIo_zero, isIo_succ, ioB_no, ioB_frz, ioB_own, ioB_io, le_line, lt_line, contAt, ML.putAt, Sl.cont, Sl.put, outsV, tupO, lstO, bo, noB, rtK_rt, rtK_nx, rtK1_rt, rtK1_nx, List.getElem?_cons_zero, List.getElem?_cons_succ, List.set_cons_zero, List.set_cons_succ, Option.map_some, Option.isSome_some, reduceIte, Bool.false_eq_true, Bool.true_eq_false, if_true, if_false, wipeR, ixN_lit, atI_lit, Option.bind_some, Nat.reduceLT, Nat.reduceLeDiff, ML.pos1, List.length_map, isT, List.map_cons, List.map_nil, List.length_cons, List.length_nil, List.cons_append, List.nil_append, List.append_nil, List.replicate, true_and, and_true, Nat.reduceSub, Nat.reduceAdd, Bool.not_true, Bool.not_false, decide_eq_true_eq, Bool.not_eq_true', decide_eq_false_iff_not, Int.reduceToNat, Int.reduceLT, Int.reduceLE, Int.reducePow, Int.reduceNeg, Bool.or_true, Bool.true_or, small_emod, small_lit, pow_10_18, and_self, addD, subD, mulD, modD, fdivD, negD, inD_ints, eqB_int, neB_int, ltB, leB, gtB, geB, isNB_none, notNB, isCB, ixD, lenD, absD, ML.intD, listD, tupD, slD, sl3, appD, metO, truD])
      simp [hl, isVals]
  | _ =>
    (try simp only [↓we_seq, ↓we_asg, ↓we_ret, ↓we_retN, ↓we_sIf, ↓we_drop, ↓we_nx, ↓we_brk, ↓we_cnt, ↓we_var, ↓we_C, ↓we_frz, ↓we_hold, ↓we_bin, ↓we_cmp, ↓we_un, ↓we_isi, ↓we_aNil, ↓we_aCons, ↓we_cb, ↓we_tup, ↓we_lst, ↓we_b, ↓we_tru, ↓we_and, ↓we_or, ↓we_not, ↓we_andV, ↓we_orV, ↓we_notV, ↓we_mIf, ↓we_chain, ↓we_set, ↓we_mgSub, ↓we_mgTup, ↓we_mgNil, ↓we_mgCons, ↓we_iR1, ↓we_iR2, ↓we_for, ↓we_mNo, ↓we_part, ↓we_sl, ↓we_ms, ↓we_met, ↓we_call_, ↓we_callIo_, ↓we_lc_, ↓we_iA, ↓we_yes, ↓we_par2, ↓we_par3, wo_some, wo_map, iaK_list, iaK_tuple, iaK_str, parK2_e, parK3_e, rd2, rd1, rd2B, rdN, rdAll, rd, hold, boolO, truO, intO, strO, frzO, retO, isIo_zero, isIo_succ, ioB_no, ioB_frz, ioB_own, ioB_io, le_line, lt_line, contAt, ML.putAt, Sl.cont, Sl.put, outsV, tupO, lstO, bo, noB, rtK_rt, rtK_nx, rtK1_rt, rtK1_nx, List.getElem?_cons_zero, List.getElem?_cons_succ, List.set_cons_zero, List.set_cons_succ, Option.map_some, Option.isSome_some, reduceIte, Bool.false_eq_true, Bool.true_eq_false, if_true, if_false, wipeR, ixN_lit, atI_lit, Option.bind_some, Nat.reduceLT, Nat.reduceLeDiff, ML.pos1, List.length_map, isT, List.map_cons, List.map_nil, List.length_cons, List.length_nil, List.cons_append, List.nil_append, List.append_nil, List.replicate, true_and, and_true, Nat.reduceSub, Nat.reduceAdd, Bool.not_true, Bool.not_false, decide_eq_true_eq, Bool.not_eq_true', decide_eq_false_iff_not, Int.reduceToNat, Int.reduceLT, Int.reduceLE, Int.reducePow, Int.reduceNeg, Bool.or_true, Bool.true_or, small_emod, small_lit, pow_10_18, and_self, addD, subD, mulD, modD, fdivD, negD, inD_ints, eqB_int, neB_int, ltB, leB, gtB, geB, isNB_none, notNB, isCB, ixD, lenD, absD, ML.intD, listD, tupD, slD, sl3, appD, metO, truD]); repeat ((first | rw [then_nx] | rw [then_rt] | rw [then_bk] | rw [then_ct]); simp only [↓we_seq, ↓we_asg, ↓we_ret, ↓we_retN, ↓we_sIf, ↓we_drop, ↓we_nx, ↓we_brk, ↓we_cnt, ↓we_var, ↓we_C, ↓we_frz, ↓we_hold, ↓we_bin, ↓we_cmp, ↓we_un, ↓we_isi, ↓we_aNil, ↓we_aCons, ↓we_cb, ↓we_tup, ↓we_lst, ↓we_b, ↓we_tru, ↓we_and, ↓we_or, ↓we_not, ↓we_andV, ↓we_orV, ↓we_notV, ↓we_mIf, ↓we_chain, ↓we_set, ↓we_mgSub, ↓we_mgTup, ↓we_mgNil, ↓we_mgCons, ↓we_iR1, ↓we_iR2, ↓we_for, ↓we_mNo, ↓we_part, ↓we_sl, ↓we_ms, ↓we_met, ↓we_call_, ↓we_callIo_, ↓we_lc_, ↓we_iA, ↓we_yes, ↓we_par2, ↓we_par3, wo_some, wo_map, iaK_list, iaK_tuple, iaK_str, parK2_e, parK3_e, rd2, rd1, rd2B, rdN, rdAll, rd, hold, boolO, truO, intO, strO, frzO, retO, isIo_zero, isIo_succ, ioB_no, ioB_frz, ioB_own, ioB_io, le_line, lt_line, contAt, ML.putAt, Sl.cont, Sl.put, outsV, tupO, lstO, bo, noB, rtK_rt, rtK_nx, rtK1_rt, rtK1_nx, List.getElem?_cons_zero, List.getElem?_cons_succ, List.set_cons_zero, List.set_cons_succ, Option.map_some, Option.isSome_some, reduceIte, Bool.false_eq_true, Bool.true_eq_false, if_true, if_false, wipeR, ixN_lit, atI_lit, Option.bind_some, Nat.reduceLT, Nat.reduceLeDiff, ML.pos1, List.length_map, isT, List.map_cons, List.map_nil, List.length_cons, List.length_nil, List.cons_append, List.nil_append, List.append_nil, List.replicate, true_and, and_true, Nat.reduceSub, Nat.reduceAdd, Bool.not_true, Bool.not_false, decide_eq_true_eq, Bool.not_eq_true', decide_eq_false_iff_not, Int.reduceToNat, Int.reduceLT, Int.reduceLE, Int.reducePow, Int.reduceNeg, Bool.or_true, Bool.true_or, small_emod, small_lit, pow_10_18, and_self, addD, subD, mulD, modD, fdivD, negD, inD_ints, eqB_int, neB_int, ltB, leB, gtB, geB, isNB_none, notNB, isCB, ixD, lenD, absD, ML.intD, listD, tupD, slD, sl3, appD, metO, truD])
    rfl
theorem way_ok (d : D) (v : Int) (hv : v ≤ 16777216) : F0 m_is_way [.int v, d] (fun r => r = .v (.bool (isWay v d))) := by
  refine F0.def_ ?_
  cases d with
  | tuple ds =>
    (try simp only [↓we_seq, ↓we_asg, ↓we_ret, ↓we_retN, ↓we_sIf, ↓we_drop, ↓we_nx, ↓we_brk, ↓we_cnt, ↓we_var, ↓we_C, ↓we_frz, ↓we_hold, ↓we_bin, ↓we_cmp, ↓we_un, ↓we_isi, ↓we_aNil, ↓we_aCons, ↓we_cb, ↓we_tup, ↓we_lst, ↓we_b, ↓we_tru, ↓we_and, ↓we_or, ↓we_not, ↓we_andV, ↓we_orV, ↓we_notV, ↓we_mIf, ↓we_chain, ↓we_set, ↓we_mgSub, ↓we_mgTup, ↓we_mgNil, ↓we_mgCons, ↓we_iR1, ↓we_iR2, ↓we_for, ↓we_mNo, ↓we_part, ↓we_sl, ↓we_ms, ↓we_met, ↓we_call_, ↓we_callIo_, ↓we_lc_, ↓we_iA, ↓we_yes, ↓we_par2, ↓we_par3, wo_some, wo_map, iaK_list, iaK_tuple, iaK_str, parK2_e, parK3_e, rd2, rd1, rd2B, rdN, rdAll, rd, hold, boolO, truO, intO, strO, frzO, retO, isIo_zero, isIo_succ, ioB_no, ioB_frz, ioB_own, ioB_io, le_line, lt_line, contAt, ML.putAt, Sl.cont, Sl.put, outsV, tupO, lstO, bo, noB, rtK_rt, rtK_nx, rtK1_rt, rtK1_nx, List.getElem?_cons_zero, List.getElem?_cons_succ, List.set_cons_zero, List.set_cons_succ, Option.map_some, Option.isSome_some, reduceIte, Bool.false_eq_true, Bool.true_eq_false, if_true, if_false, wipeR, ixN_lit, atI_lit, Option.bind_some, Nat.reduceLT, Nat.reduceLeDiff, ML.pos1, List.length_map, isT, List.map_cons, List.map_nil, List.length_cons, List.length_nil, List.cons_append, List.nil_append, List.append_nil, List.replicate, true_and, and_true, Nat.reduceSub, Nat.reduceAdd, Bool.not_true, Bool.not_false, decide_eq_true_eq, Bool.not_eq_true', decide_eq_false_iff_not, Int.reduceToNat, Int.reduceLT, Int.reduceLE, Int.reducePow, Int.reduceNeg, Bool.or_true, Bool.true_or, small_emod, small_lit, pow_10_18, and_self, addD, subD, mulD, modD, fdivD, negD, inD_ints, eqB_int, neB_int, ltB, leB, gtB, geB, isNB_none, notNB, isCB, ixD, lenD, absD, ML.intD, listD, tupD, slD, sl3, appD, metO, truD]); repeat ((first | rw [then_nx] | rw [then_rt] | rw [then_bk] | rw [then_ct]); simp only [↓we_seq, ↓we_asg, ↓we_ret, ↓we_retN, ↓we_sIf, ↓we_drop, ↓we_nx, ↓we_brk, ↓we_cnt, ↓we_var, ↓we_C, ↓we_frz, ↓we_hold, ↓we_bin, ↓we_cmp, ↓we_un, ↓we_isi, ↓we_aNil, ↓we_aCons, ↓we_cb, ↓we_tup, ↓we_lst, ↓we_b, ↓we_tru, ↓we_and, ↓we_or, ↓we_not, ↓we_andV, ↓we_orV, ↓we_notV, ↓we_mIf, ↓we_chain, ↓we_set, ↓we_mgSub, ↓we_mgTup, ↓we_mgNil, ↓we_mgCons, ↓we_iR1, ↓we_iR2, ↓we_for, ↓we_mNo, ↓we_part, ↓we_sl, ↓we_ms, ↓we_met, ↓we_call_, ↓we_callIo_, ↓we_lc_, ↓we_iA, ↓we_yes, ↓we_par2, ↓we_par3, wo_some, wo_map, iaK_list, iaK_tuple, iaK_str, parK2_e, parK3_e, rd2, rd1, rd2B, rdN, rdAll, rd, hold, boolO, truO, intO, strO, frzO, retO, isIo_zero, isIo_succ, ioB_no, ioB_frz, ioB_own, ioB_io, le_line, lt_line, contAt, ML.putAt, Sl.cont, Sl.put, outsV, tupO, lstO, bo, noB, rtK_rt, rtK_nx, rtK1_rt, rtK1_nx, List.getElem?_cons_zero, List.getElem?_cons_succ, List.set_cons_zero, List.set_cons_succ, Option.map_some, Option.isSome_some, reduceIte, Bool.false_eq_true, Bool.true_eq_false, if_true, if_false, wipeR, ixN_lit, atI_lit, Option.bind_some, Nat.reduceLT, Nat.reduceLeDiff, ML.pos1, List.length_map, isT, List.map_cons, List.map_nil, List.length_cons, List.length_nil, List.cons_append, List.nil_append, List.append_nil, List.replicate, true_and, and_true, Nat.reduceSub, Nat.reduceAdd, Bool.not_true, Bool.not_false, decide_eq_true_eq, Bool.not_eq_true', decide_eq_false_iff_not, Int.reduceToNat, Int.reduceLT, Int.reduceLE, Int.reducePow, Int.reduceNeg, Bool.or_true, Bool.true_or, small_emod, small_lit, pow_10_18, and_self, addD, subD, mulD, modD, fdivD, negD, inD_ints, eqB_int, neB_int, ltB, leB, gtB, geB, isNB_none, notNB, isCB, ixD, lenD, absD, ML.intD, listD, tupD, slD, sl3, appD, metO, truD])
    split
    · rename_i hl
      simp [hl, isWay]
    · rename_i hl
      refine wo_lcF (fun x => .bool (isNone x || isCnt 0 (v - 1) x)) (fun d m => ?_) (by rw [le_line]; omega) ?_
      · (try simp only [↓we_seq, ↓we_asg, ↓we_ret, ↓we_retN, ↓we_sIf, ↓we_drop, ↓we_nx, ↓we_brk, ↓we_cnt, ↓we_var, ↓we_C, ↓we_frz, ↓we_hold, ↓we_bin, ↓we_cmp, ↓we_un, ↓we_isi, ↓we_aNil, ↓we_aCons, ↓we_cb, ↓we_tup, ↓we_lst, ↓we_b, ↓we_tru, ↓we_and, ↓we_or, ↓we_not, ↓we_andV, ↓we_orV, ↓we_notV, ↓we_mIf, ↓we_chain, ↓we_set, ↓we_mgSub, ↓we_mgTup, ↓we_mgNil, ↓we_mgCons, ↓we_iR1, ↓we_iR2, ↓we_for, ↓we_mNo, ↓we_part, ↓we_sl, ↓we_ms, ↓we_met, ↓we_call_, ↓we_callIo_, ↓we_lc_, ↓we_iA, ↓we_yes, ↓we_par2, ↓we_par3, wo_some, wo_map, iaK_list, iaK_tuple, iaK_str, parK2_e, parK3_e, rd2, rd1, rd2B, rdN, rdAll, rd, hold, boolO, truO, intO, strO, frzO, retO, isIo_zero, isIo_succ, ioB_no, ioB_frz, ioB_own, ioB_io, le_line, lt_line, contAt, ML.putAt, Sl.cont, Sl.put, outsV, tupO, lstO, bo, noB, rtK_rt, rtK_nx, rtK1_rt, rtK1_nx, List.getElem?_cons_zero, List.getElem?_cons_succ, List.set_cons_zero, List.set_cons_succ, Option.map_some, Option.isSome_some, reduceIte, Bool.false_eq_true, Bool.true_eq_false, if_true, if_false, wipeR, ixN_lit, atI_lit, Option.bind_some, Nat.reduceLT, Nat.reduceLeDiff, ML.pos1, List.length_map, isT, List.map_cons, List.map_nil, List.length_cons, List.length_nil, List.cons_append, List.nil_append, List.append_nil, List.replicate, true_and, and_true, Nat.reduceSub, Nat.reduceAdd, Bool.not_true, Bool.not_false, decide_eq_true_eq, Bool.not_eq_true', decide_eq_false_iff_not, Int.reduceToNat, Int.reduceLT, Int.reduceLE, Int.reducePow, Int.reduceNeg, Bool.or_true, Bool.true_or, small_emod, small_lit, pow_10_18, and_self, addD, subD, mulD, modD, fdivD, negD, inD_ints, eqB_int, neB_int, ltB, leB, gtB, geB, isNB_none, notNB, isCB, ixD, lenD, absD, ML.intD, listD, tupD, slD, sl3, appD, metO, truD, compK]); repeat ((first | rw [then_nx] | rw [then_rt] | rw [then_bk] | rw [then_ct]); simp only [↓we_seq, ↓we_asg, ↓we_ret, ↓we_retN, ↓we_sIf, ↓we_drop, ↓we_nx, ↓we_brk, ↓we_cnt, ↓we_var, ↓we_C, ↓we_frz, ↓we_hold, ↓we_bin, ↓we_cmp, ↓we_un, ↓we_isi, ↓we_aNil, ↓we_aCons, ↓we_cb, ↓we_tup, ↓we_lst, ↓we_b, ↓we_tru, ↓we_and, ↓we_or, ↓we_not, ↓we_andV, ↓we_orV, ↓we_notV, ↓we_mIf, ↓we_chain, ↓we_set, ↓we_mgSub, ↓we_mgTup, ↓we_mgNil, ↓we_mgCons, ↓we_iR1, ↓we_iR2, ↓we_for, ↓we_mNo, ↓we_part, ↓we_sl, ↓we_ms, ↓we_met, ↓we_call_, ↓we_callIo_, ↓we_lc_, ↓we_iA, ↓we_yes, ↓we_par2, ↓we_par3, wo_some, wo_map, iaK_list, iaK_tuple, iaK_str, parK2_e, parK3_e, rd2, rd1, rd2B, rdN, rdAll, rd, hold, boolO, truO, intO, strO, frzO, retO, isIo_zero, isIo_succ, ioB_no, ioB_frz, ioB_own, ioB_io, le_line, lt_line, contAt, ML.putAt, Sl.cont, Sl.put, outsV, tupO, lstO, bo, noB, rtK_rt, rtK_nx, rtK1_rt, rtK1_nx, List.getElem?_cons_zero, List.getElem?_cons_succ, List.set_cons_zero, List.set_cons_succ, Option.map_some, Option.isSome_some, reduceIte, Bool.false_eq_true, Bool.true_eq_false, if_true, if_false, wipeR, ixN_lit, atI_lit, Option.bind_some, Nat.reduceLT, Nat.reduceLeDiff, ML.pos1, List.length_map, isT, List.map_cons, List.map_nil, List.length_cons, List.length_nil, List.cons_append, List.nil_append, List.append_nil, List.replicate, true_and, and_true, Nat.reduceSub, Nat.reduceAdd, Bool.not_true, Bool.not_false, decide_eq_true_eq, Bool.not_eq_true', decide_eq_false_iff_not, Int.reduceToNat, Int.reduceLT, Int.reduceLE, Int.reducePow, Int.reduceNeg, Bool.or_true, Bool.true_or, small_emod, small_lit, pow_10_18, and_self, addD, subD, mulD, modD, fdivD, negD, inD_ints, eqB_int, neB_int, ltB, leB, gtB, geB, isNB_none, notNB, isCB, ixD, lenD, absD, ML.intD, listD, tupD, slD, sl3, appD, metO, truD, compK]);
        cases hd : isNone d with
        | true => (try simp only [↓we_seq, ↓we_asg, ↓we_ret, ↓we_retN, ↓we_sIf, ↓we_drop, ↓we_nx, ↓we_brk, ↓we_cnt, ↓we_var, ↓we_C, ↓we_frz, ↓we_hold, ↓we_bin, ↓we_cmp, ↓we_un, ↓we_isi, ↓we_aNil, ↓we_aCons, ↓we_cb, ↓we_tup, ↓we_lst, ↓we_b, ↓we_tru, ↓we_and, ↓we_or, ↓we_not, ↓we_andV, ↓we_orV, ↓we_notV, ↓we_mIf, ↓we_chain, ↓we_set, ↓we_mgSub, ↓we_mgTup, ↓we_mgNil, ↓we_mgCons, ↓we_iR1, ↓we_iR2, ↓we_for, ↓we_mNo, ↓we_part, ↓we_sl, ↓we_ms, ↓we_met, ↓we_call_, ↓we_callIo_, ↓we_lc_, ↓we_iA, ↓we_yes, ↓we_par2, ↓we_par3, wo_some, wo_map, iaK_list, iaK_tuple, iaK_str, parK2_e, parK3_e, rd2, rd1, rd2B, rdN, rdAll, rd, hold, boolO, truO, intO, strO, frzO, retO, isIo_zero, isIo_succ, ioB_no, ioB_frz, ioB_own, ioB_io, le_line, lt_line, contAt, ML.putAt, Sl.cont, Sl.put, outsV, tupO, lstO, bo, noB, rtK_rt, rtK_nx, rtK1_rt, rtK1_nx, List.getElem?_cons_zero, List.getElem?_cons_succ, List.set_cons_zero, List.set_cons_succ, Option.map_some, Option.isSome_some, reduceIte, Bool.false_eq_true, Bool.true_eq_false, if_true, if_false, wipeR, ixN_lit, atI_lit, Option.bind_some, Nat.reduceLT, Nat.reduceLeDiff, ML.pos1, List.length_map, isT, List.map_cons, List.map_nil, List.length_cons, List.length_nil, List.cons_append, List.nil_append, List.append_nil, List.replicate, true_and, and_true, Nat.reduceSub, Nat.reduceAdd, Bool.not_true, Bool.not_false, decide_eq_true_eq, Bool.not_eq_true', decide_eq_false_iff_not, Int.reduceToNat, Int.reduceLT, Int.reduceLE, Int.reducePow, Int.reduceNeg, Bool.or_true, Bool.true_or, small_emod, small_lit, pow_10_18, and_self, addD, subD, mulD, modD, fdivD, negD, inD_ints, eqB_int, neB_int, ltB, leB, gtB, geB, isNB_none, notNB, isCB, ixD, lenD, absD, ML.intD, listD, tupD, slD, sl3, appD, metO, truD]); repeat ((first | rw [then_nx] | rw [then_rt] | rw [then_bk] | rw [then_ct]); simp only [↓we_seq, ↓we_asg, ↓we_ret, ↓we_retN, ↓we_sIf, ↓we_drop, ↓we_nx, ↓we_brk, ↓we_cnt, ↓we_var, ↓we_C, ↓we_frz, ↓we_hold, ↓we_bin, ↓we_cmp, ↓we_un, ↓we_isi, ↓we_aNil, ↓we_aCons, ↓we_cb, ↓we_tup, ↓we_lst, ↓we_b, ↓we_tru, ↓we_and, ↓we_or, ↓we_not, ↓we_andV, ↓we_orV, ↓we_notV, ↓we_mIf, ↓we_chain, ↓we_set, ↓we_mgSub, ↓we_mgTup, ↓we_mgNil, ↓we_mgCons, ↓we_iR1, ↓we_iR2, ↓we_for, ↓we_mNo, ↓we_part, ↓we_sl, ↓we_ms, ↓we_met, ↓we_call_, ↓we_callIo_, ↓we_lc_, ↓we_iA, ↓we_yes, ↓we_par2, ↓we_par3, wo_some, wo_map, iaK_list, iaK_tuple, iaK_str, parK2_e, parK3_e, rd2, rd1, rd2B, rdN, rdAll, rd, hold, boolO, truO, intO, strO, frzO, retO, isIo_zero, isIo_succ, ioB_no, ioB_frz, ioB_own, ioB_io, le_line, lt_line, contAt, ML.putAt, Sl.cont, Sl.put, outsV, tupO, lstO, bo, noB, rtK_rt, rtK_nx, rtK1_rt, rtK1_nx, List.getElem?_cons_zero, List.getElem?_cons_succ, List.set_cons_zero, List.set_cons_succ, Option.map_some, Option.isSome_some, reduceIte, Bool.false_eq_true, Bool.true_eq_false, if_true, if_false, wipeR, ixN_lit, atI_lit, Option.bind_some, Nat.reduceLT, Nat.reduceLeDiff, ML.pos1, List.length_map, isT, List.map_cons, List.map_nil, List.length_cons, List.length_nil, List.cons_append, List.nil_append, List.append_nil, List.replicate, true_and, and_true, Nat.reduceSub, Nat.reduceAdd, Bool.not_true, Bool.not_false, decide_eq_true_eq, Bool.not_eq_true', decide_eq_false_iff_not, Int.reduceToNat, Int.reduceLT, Int.reduceLE, Int.reducePow, Int.reduceNeg, Bool.or_true, Bool.true_or, small_emod, small_lit, pow_10_18, and_self, addD, subD, mulD, modD, fdivD, negD, inD_ints, eqB_int, neB_int, ltB, leB, gtB, geB, isNB_none, notNB, isCB, ixD, lenD, absD, ML.intD, listD, tupD, slD, sl3, appD, metO, truD])
        | false =>
          (try simp only [↓we_seq, ↓we_asg, ↓we_ret, ↓we_retN, ↓we_sIf, ↓we_drop, ↓we_nx, ↓we_brk, ↓we_cnt, ↓we_var, ↓we_C, ↓we_frz, ↓we_hold, ↓we_bin, ↓we_cmp, ↓we_un, ↓we_isi, ↓we_aNil, ↓we_aCons, ↓we_cb, ↓we_tup, ↓we_lst, ↓we_b, ↓we_tru, ↓we_and, ↓we_or, ↓we_not, ↓we_andV, ↓we_orV, ↓we_notV, ↓we_mIf, ↓we_chain, ↓we_set, ↓we_mgSub, ↓we_mgTup, ↓we_mgNil, ↓we_mgCons, ↓we_iR1, ↓we_iR2, ↓we_for, ↓we_mNo, ↓we_part, ↓we_sl, ↓we_ms, ↓we_met, ↓we_call_, ↓we_callIo_, ↓we_lc_, ↓we_iA, ↓we_yes, ↓we_par2, ↓we_par3, wo_some, wo_map, iaK_list, iaK_tuple, iaK_str, parK2_e, parK3_e, rd2, rd1, rd2B, rdN, rdAll, rd, hold, boolO, truO, intO, strO, frzO, retO, isIo_zero, isIo_succ, ioB_no, ioB_frz, ioB_own, ioB_io, le_line, lt_line, contAt, ML.putAt, Sl.cont, Sl.put, outsV, tupO, lstO, bo, noB, rtK_rt, rtK_nx, rtK1_rt, rtK1_nx, List.getElem?_cons_zero, List.getElem?_cons_succ, List.set_cons_zero, List.set_cons_succ, Option.map_some, Option.isSome_some, reduceIte, Bool.false_eq_true, Bool.true_eq_false, if_true, if_false, wipeR, ixN_lit, atI_lit, Option.bind_some, Nat.reduceLT, Nat.reduceLeDiff, ML.pos1, List.length_map, isT, List.map_cons, List.map_nil, List.length_cons, List.length_nil, List.cons_append, List.nil_append, List.append_nil, List.replicate, true_and, and_true, Nat.reduceSub, Nat.reduceAdd, Bool.not_true, Bool.not_false, decide_eq_true_eq, Bool.not_eq_true', decide_eq_false_iff_not, Int.reduceToNat, Int.reduceLT, Int.reduceLE, Int.reducePow, Int.reduceNeg, Bool.or_true, Bool.true_or, small_emod, small_lit, pow_10_18, and_self, addD, subD, mulD, modD, fdivD, negD, inD_ints, eqB_int, neB_int, ltB, leB, gtB, geB, isNB_none, notNB, isCB, ixD, lenD, absD, ML.intD, listD, tupD, slD, sl3, appD, metO, truD]); repeat ((first | rw [then_nx] | rw [then_rt] | rw [then_bk] | rw [then_ct]); simp only [↓we_seq, ↓we_asg, ↓we_ret, ↓we_retN, ↓we_sIf, ↓we_drop, ↓we_nx, ↓we_brk, ↓we_cnt, ↓we_var, ↓we_C, ↓we_frz, ↓we_hold, ↓we_bin, ↓we_cmp, ↓we_un, ↓we_isi, ↓we_aNil, ↓we_aCons, ↓we_cb, ↓we_tup, ↓we_lst, ↓we_b, ↓we_tru, ↓we_and, ↓we_or, ↓we_not, ↓we_andV, ↓we_orV, ↓we_notV, ↓we_mIf, ↓we_chain, ↓we_set, ↓we_mgSub, ↓we_mgTup, ↓we_mgNil, ↓we_mgCons, ↓we_iR1, ↓we_iR2, ↓we_for, ↓we_mNo, ↓we_part, ↓we_sl, ↓we_ms, ↓we_met, ↓we_call_, ↓we_callIo_, ↓we_lc_, ↓we_iA, ↓we_yes, ↓we_par2, ↓we_par3, wo_some, wo_map, iaK_list, iaK_tuple, iaK_str, parK2_e, parK3_e, rd2, rd1, rd2B, rdN, rdAll, rd, hold, boolO, truO, intO, strO, frzO, retO, isIo_zero, isIo_succ, ioB_no, ioB_frz, ioB_own, ioB_io, le_line, lt_line, contAt, ML.putAt, Sl.cont, Sl.put, outsV, tupO, lstO, bo, noB, rtK_rt, rtK_nx, rtK1_rt, rtK1_nx, List.getElem?_cons_zero, List.getElem?_cons_succ, List.set_cons_zero, List.set_cons_succ, Option.map_some, Option.isSome_some, reduceIte, Bool.false_eq_true, Bool.true_eq_false, if_true, if_false, wipeR, ixN_lit, atI_lit, Option.bind_some, Nat.reduceLT, Nat.reduceLeDiff, ML.pos1, List.length_map, isT, List.map_cons, List.map_nil, List.length_cons, List.length_nil, List.cons_append, List.nil_append, List.append_nil, List.replicate, true_and, and_true, Nat.reduceSub, Nat.reduceAdd, Bool.not_true, Bool.not_false, decide_eq_true_eq, Bool.not_eq_true', decide_eq_false_iff_not, Int.reduceToNat, Int.reduceLT, Int.reduceLE, Int.reducePow, Int.reduceNeg, Bool.or_true, Bool.true_or, small_emod, small_lit, pow_10_18, and_self, addD, subD, mulD, modD, fdivD, negD, inD_ints, eqB_int, neB_int, ltB, leB, gtB, geB, isNB_none, notNB, isCB, ixD, lenD, absD, ML.intD, listD, tupD, slD, sl3, appD, metO, truD])
          refine we_call (count_ok d 0 (v - 1)) rfl ?_
          rintro r - rfl
          (try simp only [↓we_seq, ↓we_asg, ↓we_ret, ↓we_retN, ↓we_sIf, ↓we_drop, ↓we_nx, ↓we_brk, ↓we_cnt, ↓we_var, ↓we_C, ↓we_frz, ↓we_hold, ↓we_bin, ↓we_cmp, ↓we_un, ↓we_isi, ↓we_aNil, ↓we_aCons, ↓we_cb, ↓we_tup, ↓we_lst, ↓we_b, ↓we_tru, ↓we_and, ↓we_or, ↓we_not, ↓we_andV, ↓we_orV, ↓we_notV, ↓we_mIf, ↓we_chain, ↓we_set, ↓we_mgSub, ↓we_mgTup, ↓we_mgNil, ↓we_mgCons, ↓we_iR1, ↓we_iR2, ↓we_for, ↓we_mNo, ↓we_part, ↓we_sl, ↓we_ms, ↓we_met, ↓we_call_, ↓we_callIo_, ↓we_lc_, ↓we_iA, ↓we_yes, ↓we_par2, ↓we_par3, wo_some, wo_map, iaK_list, iaK_tuple, iaK_str, parK2_e, parK3_e, rd2, rd1, rd2B, rdN, rdAll, rd, hold, boolO, truO, intO, strO, frzO, retO, isIo_zero, isIo_succ, ioB_no, ioB_frz, ioB_own, ioB_io, le_line, lt_line, contAt, ML.putAt, Sl.cont, Sl.put, outsV, tupO, lstO, bo, noB, rtK_rt, rtK_nx, rtK1_rt, rtK1_nx, List.getElem?_cons_zero, List.getElem?_cons_succ, List.set_cons_zero, List.set_cons_succ, Option.map_some, Option.isSome_some, reduceIte, Bool.false_eq_true, Bool.true_eq_false, if_true, if_false, wipeR, ixN_lit, atI_lit, Option.bind_some, Nat.reduceLT, Nat.reduceLeDiff, ML.pos1, List.length_map, isT, List.map_cons, List.map_nil, List.length_cons, List.length_nil, List.cons_append, List.nil_append, List.append_nil, List.replicate, true_and, and_true, Nat.reduceSub, Nat.reduceAdd, Bool.not_true, Bool.not_false, decide_eq_true_eq, Bool.not_eq_true', decide_eq_false_iff_not, Int.reduceToNat, Int.reduceLT, Int.reduceLE, Int.reducePow, Int.reduceNeg, Bool.or_true, Bool.true_or, small_emod, small_lit, pow_10_18, and_self, addD, subD, mulD, modD, fdivD, negD, inD_ints, eqB_int, neB_int, ltB, leB, gtB, geB, isNB_none, notNB, isCB, ixD, lenD, absD, ML.intD, listD, tupD, slD, sl3, appD, metO, truD, Bool.false_or]); repeat ((first | rw [then_nx] | rw [then_rt] | rw [then_bk] | rw [then_ct]); simp only [↓we_seq, ↓we_asg, ↓we_ret, ↓we_retN, ↓we_sIf, ↓we_drop, ↓we_nx, ↓we_brk, ↓we_cnt, ↓we_var, ↓we_C, ↓we_frz, ↓we_hold, ↓we_bin, ↓we_cmp, ↓we_un, ↓we_isi, ↓we_aNil, ↓we_aCons, ↓we_cb, ↓we_tup, ↓we_lst, ↓we_b, ↓we_tru, ↓we_and, ↓we_or, ↓we_not, ↓we_andV, ↓we_orV, ↓we_notV, ↓we_mIf, ↓we_chain, ↓we_set, ↓we_mgSub, ↓we_mgTup, ↓we_mgNil, ↓we_mgCons, ↓we_iR1, ↓we_iR2, ↓we_for, ↓we_mNo, ↓we_part, ↓we_sl, ↓we_ms, ↓we_met, ↓we_call_, ↓we_callIo_, ↓we_lc_, ↓we_iA, ↓we_yes, ↓we_par2, ↓we_par3, wo_some, wo_map, iaK_list, iaK_tuple, iaK_str, parK2_e, parK3_e, rd2, rd1, rd2B, rdN, rdAll, rd, hold, boolO, truO, intO, strO, frzO, retO, isIo_zero, isIo_succ, ioB_no, ioB_frz, ioB_own, ioB_io, le_line, lt_line, contAt, ML.putAt, Sl.cont, Sl.put, outsV, tupO, lstO, bo, noB, rtK_rt, rtK_nx, rtK1_rt, rtK1_nx, List.getElem?_cons_zero, List.getElem?_cons_succ, List.set_cons_zero, List.set_cons_succ, Option.map_some, Option.isSome_some, reduceIte, Bool.false_eq_true, Bool.true_eq_false, if_true, if_false, wipeR, ixN_lit, atI_lit, Option.bind_some, Nat.reduceLT, Nat.reduceLeDiff, ML.pos1, List.length_map, isT, List.map_cons, List.map_nil, List.length_cons, List.length_nil, List.cons_append, List.nil_append, List.append_nil, List.replicate, true_and, and_true, Nat.reduceSub, Nat.reduceAdd, Bool.not_true, Bool.not_false, decide_eq_true_eq, Bool.not_eq_true', decide_eq_false_iff_not, Int.reduceToNat, Int.reduceLT, Int.reduceLE, Int.reducePow, Int.reduceNeg, Bool.or_true, Bool.true_or, small_emod, small_lit, pow_10_18, and_self, addD, subD, mulD, modD, fdivD, negD, inD_ints, eqB_int, neB_int, ltB, leB, gtB, geB, isNB_none, notNB, isCB, ixD, lenD, absD, ML.intD, listD, tupD, slD, sl3, appD, metO, truD, Bool.false_or]);
      · (try simp only [↓we_seq, ↓we_asg, ↓we_ret, ↓we_retN, ↓we_sIf, ↓we_drop, ↓we_nx, ↓we_brk, ↓we_cnt, ↓we_var, ↓we_C, ↓we_frz, ↓we_hold, ↓we_bin, ↓we_cmp, ↓we_un, ↓we_isi, ↓we_aNil, ↓we_aCons, ↓we_cb, ↓we_tup, ↓we_lst, ↓we_b, ↓we_tru, ↓we_and, ↓we_or, ↓we_not, ↓we_andV, ↓we_orV, ↓we_notV, ↓we_mIf, ↓we_chain, ↓we_set, ↓we_mgSub, ↓we_mgTup, ↓we_mgNil, ↓we_mgCons, ↓we_iR1, ↓we_iR2, ↓we_for, ↓we_mNo, ↓we_part, ↓we_sl, ↓we_ms, ↓we_met, ↓we_call_, ↓we_callIo_, ↓we_lc_, ↓we_iA, ↓we_yes, ↓we_par2, ↓we_par3, wo_some, wo_map, iaK_list, iaK_tuple, iaK_str, parK2_e, parK3_e, rd2, rd1, rd2B, rdN, rdAll, rd, hold, boolO, truO, intO, strO, frzO, retO, isIo_zero, isIo_succ, ioB_no, ioB_frz, ioB_own, ioB_io, le_line, lt_line, contAt, ML.putAt, Sl.cont, Sl.put, outsV, tupO, lstO, bo, noB, rtK_rt, rtK_nx, rtK1_rt, rtK1_nx, List.getElem?_cons_zero, List.getElem?_cons_succ, List.set_cons_zero, List.set_cons_succ, Option.map_some, Option.isSome_some, reduceIte, Bool.false_eq_true, Bool.true_eq_false, if_true, if_false, wipeR, ixN_lit, atI_lit, Option.bind_some, Nat.reduceLT, Nat.reduceLeDiff, ML.pos1, List.length_map, isT, List.map_cons, List.map_nil, List.length_cons, List.length_nil, List.cons_append, List.nil_append, List.append_nil, List.replicate, true_and, and_true, Nat.reduceSub, Nat.reduceAdd, Bool.not_true, Bool.not_false, decide_eq_true_eq, Bool.not_eq_true', decide_eq_false_iff_not, Int.reduceToNat, Int.reduceLT, Int.reduceLE, Int.reducePow, Int.reduceNeg, Bool.or_true, Bool.true_or, small_emod, small_lit, pow_10_18, and_self, addD, subD, mulD, modD, fdivD, negD, inD_ints, eqB_int, neB_int, ltB, leB, gtB, geB, isNB_none, notNB, isCB, ixD, lenD, absD, ML.intD, listD, tupD, slD, sl3, appD, metO, truD, all_map]); repeat ((first | rw [then_nx] | rw [then_rt] | rw [then_bk] | rw [then_ct]); simp only [↓we_seq, ↓we_asg, ↓we_ret, ↓we_retN, ↓we_sIf, ↓we_drop, ↓we_nx, ↓we_brk, ↓we_cnt, ↓we_var, ↓we_C, ↓we_frz, ↓we_hold, ↓we_bin, ↓we_cmp, ↓we_un, ↓we_isi, ↓we_aNil, ↓we_aCons, ↓we_cb, ↓we_tup, ↓we_lst, ↓we_b, ↓we_tru, ↓we_and, ↓we_or, ↓we_not, ↓we_andV, ↓we_orV, ↓we_notV, ↓we_mIf, ↓we_chain, ↓we_set, ↓we_mgSub, ↓we_mgTup, ↓we_mgNil, ↓we_mgCons, ↓we_iR1, ↓we_iR2, ↓we_for, ↓we_mNo, ↓we_part, ↓we_sl, ↓we_ms, ↓we_met, ↓we_call_, ↓we_callIo_, ↓we_lc_, ↓we_iA, ↓we_yes, ↓we_par2, ↓we_par3, wo_some, wo_map, iaK_list, iaK_tuple, iaK_str, parK2_e, parK3_e, rd2, rd1, rd2B, rdN, rdAll, rd, hold, boolO, truO, intO, strO, frzO, retO, isIo_zero, isIo_succ, ioB_no, ioB_frz, ioB_own, ioB_io, le_line, lt_line, contAt, ML.putAt, Sl.cont, Sl.put, outsV, tupO, lstO, bo, noB, rtK_rt, rtK_nx, rtK1_rt, rtK1_nx, List.getElem?_cons_zero, List.getElem?_cons_succ, List.set_cons_zero, List.set_cons_succ, Option.map_some, Option.isSome_some, reduceIte, Bool.false_eq_true, Bool.true_eq_false, if_true, if_false, wipeR, ixN_lit, atI_lit, Option.bind_some, Nat.reduceLT, Nat.reduceLeDiff, ML.pos1, List.length_map, isT, List.map_cons, List.map_nil, List.length_cons, List.length_nil, List.cons_append, List.nil_append, List.append_nil, List.replicate, true_and, and_true, Nat.reduceSub, Nat.reduceAdd, Bool.not_true, Bool.not_false, decide_eq_true_eq, Bool.not_eq_true', decide_eq_false_iff_not, Int.reduceToNat, Int.reduceLT, Int.reduceLE, Int.reducePow, Int.reduceNeg, Bool.or_true, Bool.true_or, small_emod, small_lit, pow_10_18, and_self, addD, subD, mulD, modD, fdivD, negD, inD_ints, eqB_int, neB_int, ltB, leB, gtB, geB, isNB_none, notNB, isCB, ixD, lenD, absD, ML.intD, listD, tupD, slD, sl3, appD, metO, truD, all_map]);
        have hl' : (ds.length : Int) = v := by omega
        simp [hl', isWay]
  | _ =>
    (try simp only [↓we_seq, ↓we_asg, ↓we_ret, ↓we_retN, ↓we_sIf, ↓we_drop, ↓we_nx, ↓we_brk, ↓we_cnt, ↓we_var, ↓we_C, ↓we_frz, ↓we_hold, ↓we_bin, ↓we_cmp, ↓we_un, ↓we_isi, ↓we_aNil, ↓we_aCons, ↓we_cb, ↓we_tup, ↓we_lst, ↓we_b, ↓we_tru, ↓we_and, ↓we_or, ↓we_not, ↓we_andV, ↓we_orV, ↓we_notV, ↓we_mIf, ↓we_chain, ↓we_set, ↓we_mgSub, ↓we_mgTup, ↓we_mgNil, ↓we_mgCons, ↓we_iR1, ↓we_iR2, ↓we_for, ↓we_mNo, ↓we_part, ↓we_sl, ↓we_ms, ↓we_met, ↓we_call_, ↓we_callIo_, ↓we_lc_, ↓we_iA, ↓we_yes, ↓we_par2, ↓we_par3, wo_some, wo_map, iaK_list, iaK_tuple, iaK_str, parK2_e, parK3_e, rd2, rd1, rd2B, rdN, rdAll, rd, hold, boolO, truO, intO, strO, frzO, retO, isIo_zero, isIo_succ, ioB_no, ioB_frz, ioB_own, ioB_io, le_line, lt_line, contAt, ML.putAt, Sl.cont, Sl.put, outsV, tupO, lstO, bo, noB, rtK_rt, rtK_nx, rtK1_rt, rtK1_nx, List.getElem?_cons_zero, List.getElem?_cons_succ, List.set_cons_zero, List.set_cons_succ, Option.map_some, Option.isSome_some, reduceIte, Bool.false_eq_true, Bool.true_eq_false, if_true, if_false, wipeR, ixN_lit, atI_lit, Option.bind_some, Nat.reduceLT, Nat.reduceLeDiff, ML.pos1, List.length_map, isT, List.map_cons, List.map_nil, List.length_cons, List.length_nil, List.cons_append, List.nil_append, List.append_nil, List.replicate, true_and, and_true, Nat.reduceSub, Nat.reduceAdd, Bool.not_true, Bool.not_false, decide_eq_true_eq, Bool.not_eq_true', decide_eq_false_iff_not, Int.reduceToNat, Int.reduceLT, Int.reduceLE, Int.reducePow, Int.reduceNeg, Bool.or_true, Bool.true_or, small_emod, small_lit, pow_10_18, and_self, addD, subD, mulD, modD, fdivD, negD, inD_ints, eqB_int, neB_int, ltB, leB, gtB, geB, isNB_none, notNB, isCB, ixD, lenD, absD, ML.intD, listD, tupD, slD, sl3, appD, metO, truD]); repeat ((first | rw [then_nx] | rw [then_rt] | rw [then_bk] | rw [then_ct]); simp only [↓we_seq, ↓we_asg, ↓we_ret, ↓we_retN, ↓we_sIf, ↓we_drop, ↓we_nx, ↓we_brk, ↓we_cnt, ↓we_var, ↓we_C, ↓we_frz, ↓we_hold, ↓we_bin, ↓we_cmp, ↓we_un, ↓we_isi, ↓we_aNil, ↓we_aCons, ↓we_cb, ↓we_tup, ↓we_lst, ↓we_b, ↓we_tru, ↓we_and, ↓we_or, ↓we_not, ↓we_andV, ↓we_orV, ↓we_notV, ↓we_mIf, ↓we_chain, ↓we_set, ↓we_mgSub, ↓we_mgTup, ↓we_mgNil, ↓we_mgCons, ↓we_iR1, ↓we_iR2, ↓we_for, ↓we_mNo, ↓we_part, ↓we_sl, ↓we_ms, ↓we_met, ↓we_call_, ↓we_callIo_, ↓we_lc_, ↓we_iA, ↓we_yes, ↓we_par2, ↓we_par3, wo_some, wo_map, iaK_list, iaK_tuple, iaK_str, parK2_e, parK3_e, rd2, rd1, rd2B, rdN, rdAll, rd, hold, boolO, truO, intO, strO, frzO, retO, isIo_zero, isIo_succ, ioB_no, ioB_frz, ioB_own, ioB_io, le_line, lt_line, contAt, ML.putAt, Sl.cont, Sl.put, outsV, tupO, lstO, bo, noB, rtK_rt, rtK_nx, rtK1_rt, rtK1_nx, List.getElem?_cons_zero, List.getElem?_cons_succ, List.set_cons_zero, List.set_cons_succ, Option.map_some, Option.isSome_some, reduceIte, Bool.false_eq_true, Bool.true_eq_false, if_true, if_false, wipeR, ixN_lit, atI_lit, Option.bind_some, Nat.reduceLT, Nat.reduceLeDiff, ML.pos1, List.length_map, isT, List.map_cons, List.map_nil, List.length_cons, List.length_nil, List.cons_append, List.nil_append, List.append_nil, List.replicate, true_and, and_true, Nat.reduceSub, Nat.reduceAdd, Bool.not_true, Bool.not_false, decide_eq_true_eq, Bool.not_eq_true', decide_eq_false_iff_not, Int.reduceToNat, Int.reduceLT, Int.reduceLE, Int.reducePow, Int.reduceNeg, Bool.or_true, Bool.true_or, small_emod, small_lit, pow_10_18, and_self, addD, subD, mulD, modD, fdivD, negD, inD_ints, eqB_int, neB_int, ltB, leB, gtB, geB, isNB_none, notNB, isCB, ixD, lenD, absD, ML.intD, listD, tupD, slD, sl3, appD, metO, truD])
    rfl
theorem lway_ok (d : D) (v : Int) (hv : v ≤ 16777216) : F0 m__law_is_way [.int v, d] (fun r => r = .v (.bool (isWay v d))) := by
  refine F0.def_ ?_
  cases d with
  | tuple ds =>
    (try simp only [↓we_seq, ↓we_asg, ↓we_ret, ↓we_retN, ↓we_sIf, ↓we_drop, ↓we_nx, ↓we_brk, ↓we_cnt, ↓we_var, ↓we_C, ↓we_frz, ↓we_hold, ↓we_bin, ↓we_cmp, ↓we_un, ↓we_isi, ↓we_aNil, ↓we_aCons, ↓we_cb, ↓we_tup, ↓we_lst, ↓we_b, ↓we_tru, ↓we_and, ↓we_or, ↓we_not, ↓we_andV, ↓we_orV, ↓we_notV, ↓we_mIf, ↓we_chain, ↓we_set, ↓we_mgSub, ↓we_mgTup, ↓we_mgNil, ↓we_mgCons, ↓we_iR1, ↓we_iR2, ↓we_for, ↓we_mNo, ↓we_part, ↓we_sl, ↓we_ms, ↓we_met, ↓we_call_, ↓we_callIo_, ↓we_lc_, ↓we_iA, ↓we_yes, ↓we_par2, ↓we_par3, wo_some, wo_map, iaK_list, iaK_tuple, iaK_str, parK2_e, parK3_e, rd2, rd1, rd2B, rdN, rdAll, rd, hold, boolO, truO, intO, strO, frzO, retO, isIo_zero, isIo_succ, ioB_no, ioB_frz, ioB_own, ioB_io, le_line, lt_line, contAt, ML.putAt, Sl.cont, Sl.put, outsV, tupO, lstO, bo, noB, rtK_rt, rtK_nx, rtK1_rt, rtK1_nx, List.getElem?_cons_zero, List.getElem?_cons_succ, List.set_cons_zero, List.set_cons_succ, Option.map_some, Option.isSome_some, reduceIte, Bool.false_eq_true, Bool.true_eq_false, if_true, if_false, wipeR, ixN_lit, atI_lit, Option.bind_some, Nat.reduceLT, Nat.reduceLeDiff, ML.pos1, List.length_map, isT, List.map_cons, List.map_nil, List.length_cons, List.length_nil, List.cons_append, List.nil_append, List.append_nil, List.replicate, true_and, and_true, Nat.reduceSub, Nat.reduceAdd, Bool.not_true, Bool.not_false, decide_eq_true_eq, Bool.not_eq_true', decide_eq_false_iff_not, Int.reduceToNat, Int.reduceLT, Int.reduceLE, Int.reducePow, Int.reduceNeg, Bool.or_true, Bool.true_or, small_emod, small_lit, pow_10_18, and_self, addD, subD, mulD, modD, fdivD, negD, inD_ints, eqB_int, neB_int, ltB, leB, gtB, geB, isNB_none, notNB, isCB, ixD, lenD, absD, ML.intD, listD, tupD, slD, sl3, appD, metO, truD]); repeat ((first | rw [then_nx] | rw [then_rt] | rw [then_bk] | rw [then_ct]); simp only [↓we_seq, ↓we_asg, ↓we_ret, ↓we_retN, ↓we_sIf, ↓we_drop, ↓we_nx, ↓we_brk, ↓we_cnt, ↓we_var, ↓we_C, ↓we_frz, ↓we_hold, ↓we_bin, ↓we_cmp, ↓we_un, ↓we_isi, ↓we_aNil, ↓we_aCons, ↓we_cb, ↓we_tup, ↓we_lst, ↓we_b, ↓we_tru, ↓we_and, ↓we_or, ↓we_not, ↓we_andV, ↓we_orV, ↓we_notV, ↓we_mIf, ↓we_chain, ↓we_set, ↓we_mgSub, ↓we_mgTup, ↓we_mgNil, ↓we_mgCons, ↓we_iR1, ↓we_iR2, ↓we_for, ↓we_mNo, ↓we_part, ↓we_sl, ↓we_ms, ↓we_met, ↓we_call_, ↓we_callIo_, ↓we_lc_, ↓we_iA, ↓we_yes, ↓we_par2, ↓we_par3, wo_some, wo_map, iaK_list, iaK_tuple, iaK_str, parK2_e, parK3_e, rd2, rd1, rd2B, rdN, rdAll, rd, hold, boolO, truO, intO, strO, frzO, retO, isIo_zero, isIo_succ, ioB_no, ioB_frz, ioB_own, ioB_io, le_line, lt_line, contAt, ML.putAt, Sl.cont, Sl.put, outsV, tupO, lstO, bo, noB, rtK_rt, rtK_nx, rtK1_rt, rtK1_nx, List.getElem?_cons_zero, List.getElem?_cons_succ, List.set_cons_zero, List.set_cons_succ, Option.map_some, Option.isSome_some, reduceIte, Bool.false_eq_true, Bool.true_eq_false, if_true, if_false, wipeR, ixN_lit, atI_lit, Option.bind_some, Nat.reduceLT, Nat.reduceLeDiff, ML.pos1, List.length_map, isT, List.map_cons, List.map_nil, List.length_cons, List.length_nil, List.cons_append, List.nil_append, List.append_nil, List.replicate, true_and, and_true, Nat.reduceSub, Nat.reduceAdd, Bool.not_true, Bool.not_false, decide_eq_true_eq, Bool.not_eq_true', decide_eq_false_iff_not, Int.reduceToNat, Int.reduceLT, Int.reduceLE, Int.reducePow, Int.reduceNeg, Bool.or_true, Bool.true_or, small_emod, small_lit, pow_10_18, and_self, addD, subD, mulD, modD, fdivD, negD, inD_ints, eqB_int, neB_int, ltB, leB, gtB, geB, isNB_none, notNB, isCB, ixD, lenD, absD, ML.intD, listD, tupD, slD, sl3, appD, metO, truD])
    split
    · rename_i hl
      (try simp only [↓we_seq, ↓we_asg, ↓we_ret, ↓we_retN, ↓we_sIf, ↓we_drop, ↓we_nx, ↓we_brk, ↓we_cnt, ↓we_var, ↓we_C, ↓we_frz, ↓we_hold, ↓we_bin, ↓we_cmp, ↓we_un, ↓we_isi, ↓we_aNil, ↓we_aCons, ↓we_cb, ↓we_tup, ↓we_lst, ↓we_b, ↓we_tru, ↓we_and, ↓we_or, ↓we_not, ↓we_andV, ↓we_orV, ↓we_notV, ↓we_mIf, ↓we_chain, ↓we_set, ↓we_mgSub, ↓we_mgTup, ↓we_mgNil, ↓we_mgCons, ↓we_iR1, ↓we_iR2, ↓we_for, ↓we_mNo, ↓we_part, ↓we_sl, ↓we_ms, ↓we_met, ↓we_call_, ↓we_callIo_, ↓we_lc_, ↓we_iA, ↓we_yes, ↓we_par2, ↓we_par3, wo_some, wo_map, iaK_list, iaK_tuple, iaK_str, parK2_e, parK3_e, rd2, rd1, rd2B, rdN, rdAll, rd, hold, boolO, truO, intO, strO, frzO, retO, isIo_zero, isIo_succ, ioB_no, ioB_frz, ioB_own, ioB_io, le_line, lt_line, contAt, ML.putAt, Sl.cont, Sl.put, outsV, tupO, lstO, bo, noB, rtK_rt, rtK_nx, rtK1_rt, rtK1_nx, List.getElem?_cons_zero, List.getElem?_cons_succ, List.set_cons_zero, List.set_cons_succ, Option.map_some, Option.isSome_some, reduceIte, Bool.false_eq_true, Bool.true_eq_false, if_true, if_false, wipeR, ixN_lit, atI_lit, Option.bind_some, Nat.reduceLT, Nat.reduceLeDiff, ML.pos1, List.length_map, isT, List.map_cons, List.map_nil, List.length_cons, List.length_nil, List.cons_append, List.nil_append, List.append_nil, List.replicate, true_and, and_true, Nat.reduceSub, Nat.reduceAdd, Bool.not_true, Bool.not_false, decide_eq_true_eq, Bool.not_eq_true', decide_eq_false_iff_not, Int.reduceToNat, Int.reduceLT, Int.reduceLE, Int.reducePow, Int.reduceNeg, Bool.or_true, Bool.true_or, small_emod, small_lit, pow_10_18, and_self, addD, subD, mulD, modD, fdivD, negD, inD_ints, eqB_int, neB_int, ltB, leB, gtB, geB, isNB_none, notNB, isCB, ixD, lenD, absD, ML.intD, listD, tupD, slD, sl3, appD, metO, truD]); repeat ((first | rw [then_nx] | rw [then_rt] | rw [then_bk] | rw [then_ct]); simp only [↓we_seq, ↓we_asg, ↓we_ret, ↓we_retN, ↓we_sIf, ↓we_drop, ↓we_nx, ↓we_brk, ↓we_cnt, ↓we_var, ↓we_C, ↓we_frz, ↓we_hold, ↓we_bin, ↓we_cmp, ↓we_un, ↓we_isi, ↓we_aNil, ↓we_aCons, ↓we_cb, ↓we_tup, ↓we_lst, ↓we_b, ↓we_tru, ↓we_and, ↓we_or, ↓we_not, ↓we_andV, ↓we_orV, ↓we_notV, ↓we_mIf, ↓we_chain, ↓we_set, ↓we_mgSub, ↓we_mgTup, ↓we_mgNil, ↓we_mgCons, ↓we_iR1, ↓we_iR2, ↓we_for, ↓we_mNo, ↓we_part, ↓we_sl, ↓we_ms, ↓we_met, ↓we_call_, ↓we_callIo_, ↓we_lc_, ↓we_iA, ↓we_yes, ↓we_par2, ↓we_par3, wo_some, wo_map, iaK_list, iaK_tuple, iaK_str, parK2_e, parK3_e, rd2, rd1, rd2B, rdN, rdAll, rd, hold, boolO, truO, intO, strO, frzO, retO, isIo_zero, isIo_succ, ioB_no, ioB_frz, ioB_own, ioB_io, le_line, lt_line, contAt, ML.putAt, Sl.cont, Sl.put, outsV, tupO, lstO, bo, noB, rtK_rt, rtK_nx, rtK1_rt, rtK1_nx, List.getElem?_cons_zero, List.getElem?_cons_succ, List.set_cons_zero, List.set_cons_succ, Option.map_some, Option.isSome_some, reduceIte, Bool.false_eq_true, Bool.true_eq_false, if_true, if_false, wipeR, ixN_lit, atI_lit, Option.bind_some, Nat.reduceLT, Nat.reduceLeDiff, ML.pos1, List.length_map, isT, List.map_cons, List.map_nil, List.length_cons, List.length_nil, List.cons_append, List.nil_append, List.append_nil, List.replicate, true_and, and_true, Nat.reduceSub, Nat.reduceAdd, Bool.not_true, Bool.not_false, decide_eq_true_eq, Bool.not_eq_true', decide_eq_false_iff_not, Int.reduceToNat, Int.reduceLT, Int.reduceLE, Int.reducePow, Int.reduceNeg, Bool.or_true, Bool.true_or, small_emod, small_lit, pow_10_18, and_self, addD, subD, mulD, modD, fdivD, negD, inD_ints, eqB_int, neB_int, ltB, leB, gtB, geB, isNB_none, notNB, isCB, ixD, lenD, absD, ML.intD, listD, tupD, slD, sl3, appD, metO, truD])
      refine wo_lcF (fun x => .bool (isNone x || isCnt 0 (v - 1) x)) (fun d m => ?_) (by rw [le_line]; omega) ?_
      · (try simp only [↓we_seq, ↓we_asg, ↓we_ret, ↓we_retN, ↓we_sIf, ↓we_drop, ↓we_nx, ↓we_brk, ↓we_cnt, ↓we_var, ↓we_C, ↓we_frz, ↓we_hold, ↓we_bin, ↓we_cmp, ↓we_un, ↓we_isi, ↓we_aNil, ↓we_aCons, ↓we_cb, ↓we_tup, ↓we_lst, ↓we_b, ↓we_tru, ↓we_and, ↓we_or, ↓we_not, ↓we_andV, ↓we_orV, ↓we_notV, ↓we_mIf, ↓we_chain, ↓we_set, ↓we_mgSub, ↓we_mgTup, ↓we_mgNil, ↓we_mgCons, ↓we_iR1, ↓we_iR2, ↓we_for, ↓we_mNo, ↓we_part, ↓we_sl, ↓we_ms, ↓we_met, ↓we_call_, ↓we_callIo_, ↓we_lc_, ↓we_iA, ↓we_yes, ↓we_par2, ↓we_par3, wo_some, wo_map, iaK_list, iaK_tuple, iaK_str, parK2_e, parK3_e, rd2, rd1, rd2B, rdN, rdAll, rd, hold, boolO, truO, intO, strO, frzO, retO, isIo_zero, isIo_succ, ioB_no, ioB_frz, ioB_own, ioB_io, le_line, lt_line, contAt, ML.putAt, Sl.cont, Sl.put, outsV, tupO, lstO, bo, noB, rtK_rt, rtK_nx, rtK1_rt, rtK1_nx, List.getElem?_cons_zero, List.getElem?_cons_succ, List.set_cons_zero, List.set_cons_succ, Option.map_some, Option.isSome_some, reduceIte, Bool.false_eq_true, Bool.true_eq_false, if_true, if_false, wipeR, ixN_lit, atI_lit, Option.bind_some, Nat.reduceLT, Nat.reduceLeDiff, ML.pos1, List.length_map, isT, List.map_cons, List.map_nil, List.length_cons, List.length_nil, List.cons_append, List.nil_append, List.append_nil, List.replicate, true_and, and_true, Nat.reduceSub, Nat.reduceAdd, Bool.not_true, Bool.not_false, decide_eq_true_eq, Bool.not_eq_true', decide_eq_false_iff_not, Int.reduceToNat, Int.reduceLT, Int.reduceLE, Int.reducePow, Int.reduceNeg, Bool.or_true, Bool.true_or, small_emod, small_lit, pow_10_18, and_self, addD, subD, mulD, modD, fdivD, negD, inD_ints, eqB_int, neB_int, ltB, leB, gtB, geB, isNB_none, notNB, isCB, ixD, lenD, absD, ML.intD, listD, tupD, slD, sl3, appD, metO, truD, compK]); repeat ((first | rw [then_nx] | rw [then_rt] | rw [then_bk] | rw [then_ct]); simp only [↓we_seq, ↓we_asg, ↓we_ret, ↓we_retN, ↓we_sIf, ↓we_drop, ↓we_nx, ↓we_brk, ↓we_cnt, ↓we_var, ↓we_C, ↓we_frz, ↓we_hold, ↓we_bin, ↓we_cmp, ↓we_un, ↓we_isi, ↓we_aNil, ↓we_aCons, ↓we_cb, ↓we_tup, ↓we_lst, ↓we_b, ↓we_tru, ↓we_and, ↓we_or, ↓we_not, ↓we_andV, ↓we_orV, ↓we_notV, ↓we_mIf, ↓we_chain, ↓we_set, ↓we_mgSub, ↓we_mgTup, ↓we_mgNil, ↓we_mgCons, ↓we_iR1, ↓we_iR2, ↓we_for, ↓we_mNo, ↓we_part, ↓we_sl, ↓we_ms, ↓we_met, ↓we_call_, ↓we_callIo_, ↓we_lc_, ↓we_iA, ↓we_yes, ↓we_par2, ↓we_par3, wo_some, wo_map, iaK_list, iaK_tuple, iaK_str, parK2_e, parK3_e, rd2, rd1, rd2B, rdN, rdAll, rd, hold, boolO, truO, intO, strO, frzO, retO, isIo_zero, isIo_succ, ioB_no, ioB_frz, ioB_own, ioB_io, le_line, lt_line, contAt, ML.putAt, Sl.cont, Sl.put, outsV, tupO, lstO, bo, noB, rtK_rt, rtK_nx, rtK1_rt, rtK1_nx, List.getElem?_cons_zero, List.getElem?_cons_succ, List.set_cons_zero, List.set_cons_succ, Option.map_some, Option.isSome_some, reduceIte, Bool.false_eq_true, Bool.true_eq_false, if_true, if_false, wipeR, ixN_lit, atI_lit, Option.bind_some, Nat.reduceLT, Nat.reduceLeDiff, ML.pos1, List.length_map, isT, List.map_cons, List.map_nil, List.length_cons, List.length_nil, List.cons_append, List.nil_append, List.append_nil, List.replicate, true_and, and_true, Nat.reduceSub, Nat.reduceAdd, Bool.not_true, Bool.not_false, decide_eq_true_eq, Bool.not_eq_true', decide_eq_false_iff_not, Int.reduceToNat, Int.reduceLT, Int.reduceLE, Int.reducePow, Int.reduceNeg, Bool.or_true, Bool.true_or, small_emod, small_lit, pow_10_18, and_self, addD, subD, mulD, modD, fdivD, negD, inD_ints, eqB_int, neB_int, ltB, leB, gtB, geB, isNB_none, notNB, isCB, ixD, lenD, absD, ML.intD, listD, tupD, slD, sl3, appD, metO, truD, compK]);
        cases hd : isNone d with
        | true => (try simp only [↓we_seq, ↓we_asg, ↓we_ret, ↓we_retN, ↓we_sIf, ↓we_drop, ↓we_nx, ↓we_brk, ↓we_cnt, ↓we_var, ↓we_C, ↓we_frz, ↓we_hold, ↓we_bin, ↓we_cmp, ↓we_un, ↓we_isi, ↓we_aNil, ↓we_aCons, ↓we_cb, ↓we_tup, ↓we_lst, ↓we_b, ↓we_tru, ↓we_and, ↓we_or, ↓we_not, ↓we_andV, ↓we_orV, ↓we_notV, ↓we_mIf, ↓we_chain, ↓we_set, ↓we_mgSub, ↓we_mgTup, ↓we_mgNil, ↓we_mgCons, ↓we_iR1, ↓we_iR2, ↓we_for, ↓we_mNo, ↓we_part, ↓we_sl, ↓we_ms, ↓we_met, ↓we_call_, ↓we_callIo_, ↓we_lc_, ↓we_iA, ↓we_yes, ↓we_par2, ↓we_par3, wo_some, wo_map, iaK_list, iaK_tuple, iaK_str, parK2_e, parK3_e, rd2, rd1, rd2B, rdN, rdAll, rd, hold, boolO, truO, intO, strO, frzO, retO, isIo_zero, isIo_succ, ioB_no, ioB_frz, ioB_own, ioB_io, le_line, lt_line, contAt, ML.putAt, Sl.cont, Sl.put, outsV, tupO, lstO, bo, noB, rtK_rt, rtK_nx, rtK1_rt, rtK1_nx, List.getElem?_cons_zero, List.getElem?_cons_succ, List.set_cons_zero, List.set_cons_succ, Option.map_some, Option.isSome_some, reduceIte, Bool.false_eq_true, Bool.true_eq_false, if_true, if_false, wipeR, ixN_lit, atI_lit, Option.bind_some, Nat.reduceLT, Nat.reduceLeDiff, ML.pos1, List.length_map, isT, List.map_cons, List.map_nil, List.length_cons, List.length_nil, List.cons_append, List.nil_append, List.append_nil, List.replicate, true_and, and_true, Nat.reduceSub, Nat.reduceAdd, Bool.not_true, Bool.not_false, decide_eq_true_eq, Bool.not_eq_true', decide_eq_false_iff_not, Int.reduceToNat, Int.reduceLT, Int.reduceLE, Int.reducePow, Int.reduceNeg, Bool.or_true, Bool.true_or, small_emod, small_lit, pow_10_18, and_self, addD, subD, mulD, modD, fdivD, negD, inD_ints, eqB_int, neB_int, ltB, leB, gtB, geB, isNB_none, notNB, isCB, ixD, lenD, absD, ML.intD, listD, tupD, slD, sl3, appD, metO, truD]); repeat ((first | rw [then_nx] | rw [then_rt] | rw [then_bk] | rw [then_ct]); simp only [↓we_seq, ↓we_asg, ↓we_ret, ↓we_retN, ↓we_sIf, ↓we_drop, ↓we_nx, ↓we_brk, ↓we_cnt, ↓we_var, ↓we_C, ↓we_frz, ↓we_hold, ↓we_bin, ↓we_cmp, ↓we_un, ↓we_isi, ↓we_aNil, ↓we_aCons, ↓we_cb, ↓we_tup, ↓we_lst, ↓we_b, ↓we_tru, ↓we_and, ↓we_or, ↓we_not, ↓we_andV, ↓we_orV, ↓we_notV, ↓we_mIf, ↓we_chain, ↓we_set, ↓we_mgSub, ↓we_mgTup, ↓we_mgNil, ↓we_mgCons, ↓we_iR1, ↓we_iR2, ↓we_for, ↓we_mNo, ↓we_part, ↓we_sl, ↓we_ms, ↓we_met, ↓we_call_, ↓we_callIo_, ↓we_lc_, ↓we_iA, ↓we_yes, ↓we_par2, ↓we_par3, wo_some, wo_map, iaK_list, iaK_tuple, iaK_str, parK2_e, parK3_e, rd2, rd1, rd2B, rdN, rdAll, rd, hold, boolO, truO, intO, strO, frzO, retO, isIo_zero, isIo_succ, ioB_no, ioB_frz, ioB_own, ioB_io, le_line, lt_line, contAt, ML.putAt, Sl.cont, Sl.put, outsV, tupO, lstO, bo, noB, rtK_rt, rtK_nx, rtK1_rt, rtK1_nx, List.getElem?_cons_zero, List.getElem?_cons_succ, List.set_cons_zero, List.set_cons_succ, Option.map_some, Option.isSome_some, reduceIte, Bool.false_eq_true, Bool.true_eq_false, if_true, if_false, wipeR, ixN_lit, atI_lit, Option.bind_some, Nat.reduceLT, Nat.reduceLeDiff, ML.pos1, List.length_map, isT, List.map_cons, List.map_nil, List.length_cons, List.length_nil, List.cons_append, List.nil_append, List.append_nil, List.replicate, true_and, and_true, Nat.reduceSub, Nat.reduceAdd, Bool.not_true, Bool.not_false, decide_eq_true_eq, Bool.not_eq_true', decide_eq_false_iff_not, Int.reduceToNat, Int.reduceLT, Int.reduceLE, Int.reducePow, Int.reduceNeg, Bool.or_true, Bool.true_or, small_emod, small_lit, pow_10_18, and_self, addD, subD, mulD, modD, fdivD, negD, inD_ints, eqB_int, neB_int, ltB, leB, gtB, geB, isNB_none, notNB, isCB, ixD, lenD, absD, ML.intD, listD, tupD, slD, sl3, appD, metO, truD])
        | false =>
          (try simp only [↓we_seq, ↓we_asg, ↓we_ret, ↓we_retN, ↓we_sIf, ↓we_drop, ↓we_nx, ↓we_brk, ↓we_cnt, ↓we_var, ↓we_C, ↓we_frz, ↓we_hold, ↓we_bin, ↓we_cmp, ↓we_un, ↓we_isi, ↓we_aNil, ↓we_aCons, ↓we_cb, ↓we_tup, ↓we_lst, ↓we_b, ↓we_tru, ↓we_and, ↓we_or, ↓we_not, ↓we_andV, ↓we_orV, ↓we_notV, ↓we_mIf, ↓we_chain, ↓we_set, ↓we_mgSub, ↓we_mgTup, ↓we_mgNil, ↓we_mgCons, ↓we_iR1, ↓we_iR2, ↓we_for, ↓we_mNo, ↓we_part, ↓we_sl, ↓we_ms, ↓we_met, ↓we_call_, ↓we_callIo_, ↓we_lc_, ↓we_iA, ↓we_yes, ↓we_par2, ↓we_par3, wo_some, wo_map, iaK_list, iaK_tuple, iaK_str, parK2_e, parK3_e, rd2, rd1, rd2B, rdN, rdAll, rd, hold, boolO, truO, intO, strO, frzO, retO, isIo_zero, isIo_succ, ioB_no, ioB_frz, ioB_own, ioB_io, le_line, lt_line, contAt, ML.putAt, Sl.cont, Sl.put, outsV, tupO, lstO, bo, noB, rtK_rt, rtK_nx, rtK1_rt, rtK1_nx, List.getElem?_cons_zero, List.getElem?_cons_succ, List.set_cons_zero, List.set_cons_succ, Option.map_some, Option.isSome_some, reduceIte, Bool.false_eq_true, Bool.true_eq_false, if_true, if_false, wipeR, ixN_lit, atI_lit, Option.bind_some, Nat.reduceLT, Nat.reduceLeDiff, ML.pos1, List.length_map, isT, List.map_cons, List.map_nil, List.length_cons, List.length_nil, List.cons_append, List.nil_append, List.append_nil, List.replicate, true_and, and_true, Nat.reduceSub, Nat.reduceAdd, Bool.not_true, Bool.not_false, decide_eq_true_eq, Bool.not_eq_true', decide_eq_false_iff_not, Int.reduceToNat, Int.reduceLT, Int.reduceLE, Int.reducePow, Int.reduceNeg, Bool.or_true, Bool.true_or, small_emod, small_lit, pow_10_18, and_self, addD, subD, mulD, modD, fdivD, negD, inD_ints, eqB_int, neB_int, ltB, leB, gtB, geB, isNB_none, notNB, isCB, ixD, lenD, absD, ML.intD, listD, tupD, slD, sl3, appD, metO, truD]); repeat ((first | rw [then_nx] | rw [then_rt] | rw [then_bk] | rw [then_ct]); simp only [↓we_seq, ↓we_asg, ↓we_ret, ↓we_retN, ↓we_sIf, ↓we_drop, ↓we_nx, ↓we_brk, ↓we_cnt, ↓we_var, ↓we_C, ↓we_frz, ↓we_hold, ↓we_bin, ↓we_cmp, ↓we_un, ↓we_isi, ↓we_aNil, ↓we_aCons, ↓we_cb, ↓we_tup, ↓we_lst, ↓we_b, ↓we_tru, ↓we_and, ↓we_or, ↓we_not, ↓we_andV, ↓we_orV, ↓we_notV, ↓we_mIf, ↓we_chain, ↓we_set, ↓we_mgSub, ↓we_mgTup, ↓we_mgNil, ↓we_mgCons, ↓we_iR1, ↓we_iR2, ↓we_for, ↓we_mNo, ↓we_part, ↓we_sl, ↓we_ms, ↓we_met, ↓we_call_, ↓we_callIo_, ↓we_lc_, ↓we_iA, ↓we_yes, ↓we_par2, ↓we_par3, wo_some, wo_map, iaK_list, iaK_tuple, iaK_str, parK2_e, parK3_e, rd2, rd1, rd2B, rdN, rdAll, rd, hold, boolO, truO, intO, strO, frzO, retO, isIo_zero, isIo_succ, ioB_no, ioB_frz, ioB_own, ioB_io, le_line, lt_line, contAt, ML.putAt, Sl.cont, Sl.put, outsV, tupO, lstO, bo, noB, rtK_rt, rtK_nx, rtK1_rt, rtK1_nx, List.getElem?_cons_zero, List.getElem?_cons_succ, List.set_cons_zero, List.set_cons_succ, Option.map_some, Option.isSome_some, reduceIte, Bool.false_eq_true, Bool.true_eq_false, if_true, if_false, wipeR, ixN_lit, atI_lit, Option.bind_some, Nat.reduceLT, Nat.reduceLeDiff, ML.pos1, List.length_map, isT, List.map_cons, List.map_nil, List.length_cons, List.length_nil, List.cons_append, List.nil_append, List.append_nil, List.replicate, true_and, and_true, Nat.reduceSub, Nat.reduceAdd, Bool.not_true, Bool.not_false, decide_eq_true_eq, Bool.not_eq_true', decide_eq_false_iff_not, Int.reduceToNat, Int.reduceLT, Int.reduceLE, Int.reducePow, Int.reduceNeg, Bool.or_true, Bool.true_or, small_emod, small_lit, pow_10_18, and_self, addD, subD, mulD, modD, fdivD, negD, inD_ints, eqB_int, neB_int, ltB, leB, gtB, geB, isNB_none, notNB, isCB, ixD, lenD, absD, ML.intD, listD, tupD, slD, sl3, appD, metO, truD])
          refine we_call (lcount_ok d 0 (v - 1)) rfl ?_
          rintro r - rfl
          (try simp only [↓we_seq, ↓we_asg, ↓we_ret, ↓we_retN, ↓we_sIf, ↓we_drop, ↓we_nx, ↓we_brk, ↓we_cnt, ↓we_var, ↓we_C, ↓we_frz, ↓we_hold, ↓we_bin, ↓we_cmp, ↓we_un, ↓we_isi, ↓we_aNil, ↓we_aCons, ↓we_cb, ↓we_tup, ↓we_lst, ↓we_b, ↓we_tru, ↓we_and, ↓we_or, ↓we_not, ↓we_andV, ↓we_orV, ↓we_notV, ↓we_mIf, ↓we_chain, ↓we_set, ↓we_mgSub, ↓we_mgTup, ↓we_mgNil, ↓we_mgCons, ↓we_iR1, ↓we_iR2, ↓we_for, ↓we_mNo, ↓we_part, ↓we_sl, ↓we_ms, ↓we_met, ↓we_call_, ↓we_callIo_, ↓we_lc_, ↓we_iA, ↓we_yes, ↓we_par2, ↓we_par3, wo_some, wo_map, iaK_list, iaK_tuple, iaK_str, parK2_e, parK3_e, rd2, rd1, rd2B, rdN, rdAll, rd, hold, boolO, truO, intO, strO, frzO, retO, isIo_zero, isIo_succ, ioB_no, ioB_frz, ioB_own, ioB_io, le_line, lt_line, contAt, ML.putAt, Sl.cont, Sl.put, outsV, tupO, lstO, bo, noB, rtK_rt, rtK_nx, rtK1_rt, rtK1_nx, List.getElem?_cons_zero, List.getElem?_cons_succ, List.set_cons_zero, List.set_cons_succ, Option.map_some, Option.isSome_some, reduceIte, Bool.false_eq_true, Bool.true_eq_false, if_true, if_false, wipeR, ixN_lit, atI_lit, Option.bind_some, Nat.reduceLT, Nat.reduceLeDiff, ML.pos1, List.length_map, isT, List.map_cons, List.map_nil, List.length_cons, List.length_nil, List.cons_append, List.nil_append, List.append_nil, List.replicate, true_and, and_true, Nat.reduceSub, Nat.reduceAdd, Bool.not_true, Bool.not_false, decide_eq_true_eq, Bool.not_eq_true', decide_eq_false_iff_not, Int.reduceToNat, Int.reduceLT, Int.reduceLE, Int.reducePow, Int.reduceNeg, Bool.or_true, Bool.true_or, small_emod, small_lit, pow_10_18, and_self, addD, subD, mulD, modD, fdivD, negD, inD_ints, eqB_int, neB_int, ltB, leB, gtB, geB, isNB_none, notNB, isCB, ixD, lenD, absD, ML.intD, listD, tupD, slD, sl3, appD, metO, truD, Bool.false_or]); repeat ((first | rw [then_nx] | rw [then_rt] | rw [then_bk] | rw [then_ct]); simp only [↓we_seq, ↓we_asg, ↓we_ret, ↓we_retN, ↓we_sIf, ↓we_drop, ↓we_nx, ↓we_brk, ↓we_cnt, ↓we_var, ↓we_C, ↓we_frz, ↓we_hold, ↓we_bin, ↓we_cmp, ↓we_un, ↓we_isi, ↓we_aNil, ↓we_aCons, ↓we_cb, ↓we_tup, ↓we_lst, ↓we_b, ↓we_tru, ↓we_and, ↓we_or, ↓we_not, ↓we_andV, ↓we_orV, ↓we_notV, ↓we_mIf, ↓we_chain, ↓we_set, ↓we_mgSub, ↓we_mgTup, ↓we_mgNil, ↓we_mgCons, ↓we_iR1, ↓we_iR2, ↓we_for, ↓we_mNo, ↓we_part, ↓we_sl, ↓we_ms, ↓we_met, ↓we_call_, ↓we_callIo_, ↓we_lc_, ↓we_iA, ↓we_yes, ↓we_par2, ↓we_par3, wo_some, wo_map, iaK_list, iaK_tuple, iaK_str, parK2_e, parK3_e, rd2, rd1, rd2B, rdN, rdAll, rd, hold, boolO, truO, intO, strO, frzO, retO, isIo_zero, isIo_succ, ioB_no, ioB_frz, ioB_own, ioB_io, le_line, lt_line, contAt, ML.putAt, Sl.cont, Sl.put, outsV, tupO, lstO, bo, noB, rtK_rt, rtK_nx, rtK1_rt, rtK1_nx, List.getElem?_cons_zero, List.getElem?_cons_succ, List.set_cons_zero, List.set_cons_succ, Option.map_some, Option.isSome_some, reduceIte, Bool.false_eq_true, Bool.true_eq_false, if_true, if_false, wipeR, ixN_lit, atI_lit, Option.bind_some, Nat.reduceLT, Nat.reduceLeDiff, ML.pos1, List.length_map, isT, List.map_cons, List.map_nil, List.length_cons, List.length_nil, List.cons_append, List.nil_append, List.append_nil, List.replicate, true_and, and_true, Nat.reduceSub, Nat.reduceAdd, Bool.not_true, Bool.not_false, decide_eq_true_eq, Bool.not_eq_true', decide_eq_false_iff_not, Int.reduceToNat, Int.reduceLT, Int.reduceLE, Int.reducePow, Int.reduceNeg, Bool.or_true, Bool.true_or, small_emod, small_lit, pow_10_18, and_self, addD, subD, mulD, modD, fdivD, negD, inD_ints, eqB_int, neB_int, ltB, leB, gtB, geB, isNB_none, notNB, isCB, ixD, lenD, absD, ML.intD, listD, tupD, slD, sl3, appD, metO, truD, Bool.false_or]);
      · (try simp only [↓we_seq, ↓we_asg, ↓we_ret, ↓we_retN, ↓we_sIf, ↓we_drop, ↓we_nx, ↓we_brk, ↓we_cnt, ↓we_var, ↓we_C, ↓we_frz, ↓we_hold, ↓we_bin, ↓we_cmp, ↓we_un, ↓we_isi, ↓we_aNil, ↓we_aCons, ↓we_cb, ↓we_tup, ↓we_lst, ↓we_b, ↓we_tru, ↓we_and, ↓we_or, ↓we_not, ↓we_andV, ↓we_orV, ↓we_notV, ↓we_mIf, ↓we_chain, ↓we_set, ↓we_mgSub, ↓we_mgTup, ↓we_mgNil, ↓we_mgCons, ↓we_iR1, ↓we_iR2, ↓we_for, ↓we_mNo, ↓we_part, ↓we_sl, ↓we_ms, ↓we_met, ↓we_call_, ↓we_callIo_, ↓we_lc_, ↓we_iA, ↓we_yes, ↓we_par2, ↓we_par3, wo_some, wo_map, iaK_list, iaK_tuple, iaK_str, parK2_e, parK3_e, rd2, rd1, rd2B, rdN, rdAll, rd, hold, boolO, truO, intO, strO, frzO, retO, isIo_zero, isIo_succ, ioB_no, ioB_frz, ioB_own, ioB_io, le_line, lt_line, contAt, ML.putAt, Sl.cont, Sl.put, outsV, tupO, lstO, bo, noB, rtK_rt, rtK_nx, rtK1_rt, rtK1_nx, List.getElem?_cons_zero, List.getElem?_cons_succ, List.set_cons_zero, List.set_cons_succ, Option.map_some, Option.isSome_some, reduceIte, Bool.false_eq_true, Bool.true_eq_false, if_true, if_false, wipeR, ixN_lit, atI_lit, Option.bind_some, Nat.reduceLT, Nat.reduceLeDiff, ML.pos1, List.length_map, isT, List.map_cons, List.map_nil, List.length_cons, List.length_nil, List.cons_append, List.nil_append, List.append_nil, List.replicate, true_and, and_true, Nat.reduceSub, Nat.reduceAdd, Bool.not_true, Bool.not_false, decide_eq_true_eq, Bool.not_eq_true', decide_eq_false_iff_not, Int.reduceToNat, Int.reduceLT, Int.reduceLE, Int.reducePow, Int.reduceNeg, Bool.or_true, Bool.true_or, small_emod, small_lit, pow_10_18, and_self, addD, subD, mulD, modD, fdivD, negD, inD_ints, eqB_int, neB_int, ltB, leB, gtB, geB, isNB_none, notNB, isCB, ixD, lenD, absD, ML.intD, listD, tupD, slD, sl3, appD, metO, truD, all_map]); repeat ((first | rw [then_nx] | rw [then_rt] | rw [then_bk] | rw [then_ct]); simp only [↓we_seq, ↓we_asg, ↓we_ret, ↓we_retN, ↓we_sIf, ↓we_drop, ↓we_nx, ↓we_brk, ↓we_cnt, ↓we_var, ↓we_C, ↓we_frz, ↓we_hold, ↓we_bin, ↓we_cmp, ↓we_un, ↓we_isi, ↓we_aNil, ↓we_aCons, ↓we_cb, ↓we_tup, ↓we_lst, ↓we_b, ↓we_tru, ↓we_and, ↓we_or, ↓we_not, ↓we_andV, ↓we_orV, ↓we_notV, ↓we_mIf, ↓we_chain, ↓we_set, ↓we_mgSub, ↓we_mgTup, ↓we_mgNil, ↓we_mgCons, ↓we_iR1, ↓we_iR2, ↓we_for, ↓we_mNo, ↓we_part, ↓we_sl, ↓we_ms, ↓we_met, ↓we_call_, ↓we_callIo_, ↓we_lc_, ↓we_iA, ↓we_yes, ↓we_par2, ↓we_par3, wo_some, wo_map, iaK_list, iaK_tuple, iaK_str, parK2_e, parK3_e, rd2, rd1, rd2B, rdN, rdAll, rd, hold, boolO, truO, intO, strO, frzO, retO, isIo_zero, isIo_succ, ioB_no, ioB_frz, ioB_own, ioB_io, le_line, lt_line, contAt, ML.putAt, Sl.cont, Sl.put, outsV, tupO, lstO, bo, noB, rtK_rt, rtK_nx, rtK1_rt, rtK1_nx, List.getElem?_cons_zero, List.getElem?_cons_succ, List.set_cons_zero, List.set_cons_succ, Option.map_some, Option.isSome_some, reduceIte, Bool.false_eq_true, Bool.true_eq_false, if_true, if_false, wipeR, ixN_lit, atI_lit, Option.bind_some, Nat.reduceLT, Nat.reduceLeDiff, ML.pos1, List.length_map, isT, List.map_cons, List.map_nil, List.length_cons, List.length_nil, List.cons_append, List.nil_append, List.append_nil, List.replicate, true_and, and_true, Nat.reduceSub, Nat.reduceAdd, Bool.not_true, Bool.not_false, decide_eq_true_eq, Bool.not_eq_true', decide_eq_false_iff_not, Int.reduceToNat, Int.reduceLT, Int.reduceLE, Int.reducePow, Int.reduceNeg, Bool.or_true, Bool.true_or, small_emod, small_lit, pow_10_18, and_self, addD, subD, mulD, modD, fdivD, negD, inD_ints, eqB_int, neB_int, ltB, leB, gtB, geB, isNB_none, notNB, isCB, ixD, lenD, absD, ML.intD, listD, tupD, slD, sl3, appD, metO, truD, all_map]);
        simp [hl, isWay]
    · rename_i hl
      (try simp only [↓we_seq, ↓we_asg, ↓we_ret, ↓we_retN, ↓we_sIf, ↓we_drop, ↓we_nx, ↓we_brk, ↓we_cnt, ↓we_var, ↓we_C, ↓we_frz, ↓we_hold, ↓we_bin, ↓we_cmp, ↓we_un, ↓we_isi, ↓we_aNil, ↓we_aCons, ↓we_cb, ↓we_tup, ↓we_lst, ↓we_b, ↓we_tru, ↓we_and, ↓we_or, ↓we_not, ↓we_andV, ↓we_orV, ↓we_notV, ↓we_mIf, ↓we_chain, ↓we_set, ↓we_mgSub, ↓we_mgTup, ↓we_mgNil, ↓we_mgCons, ↓we_iR1, ↓we_iR2, ↓we_for, ↓we_mNo, ↓we_part, ↓we_sl, ↓we_ms, ↓we_met, ↓we_call_, ↓we_callIo_, ↓we_lc_, ↓we_iA, ↓we_yes, ↓we_par2, ↓we_par3, wo_some, wo_map, iaK_list, iaK_tuple, iaK_str, parK2_e, parK3_e, rd2, rd1, rd2B, rdN, rdAll, rd, hold, boolO, truO, intO, strO, frzO, retO, isIo_zero, isIo_succ, ioB_no, ioB_frz, ioB_own, ioB_io, le_line, lt_line, contAt, ML.putAt, Sl.cont, Sl.put, outsV, tupO, lstO, bo, noB, rtK_rt, rtK_nx, rtK1_rt, rtK1_nx, List.getElem?_cons_zero, List.getElem?_cons_succ, List.set_cons_zero, List.set_cons_succ, Option.map_some, Option.isSome_some, reduceIte, Bool.false_eq_true, Bool.true_eq_false, if_true, if_false, wipeR, ixN_lit, atI_lit, Option.bind_some, Nat.reduceLT, Nat.reduceLeDiff, ML.pos1, List.length_map, isT, List.map_cons, List.map_nil, List.length_cons, List.length_nil, List.cons_append, List.nil_append, List.append_nil, List.replicate, true_and, and_true, Nat.reduceSub, Nat.reduceAdd, Bool.not_true, Bool.not_false, decide_eq_true_eq, Bool.not_eq_true', decide_eq_false_iff_not, Int.reduceToNat, Int.reduceLT, Int.reduceLE, Int.reducePow, Int.reduceNeg, Bool.or_true, Bool.true_or, small_emod, small_lit, pow_10_18, and_self, addD, subD, mulD, modD, fdivD, negD, inD_ints, eqB_int, neB_int, ltB, leB, gtB, geB, isNB_none, notNB, isCB, ixD, lenD, absD, ML.intD, listD, tupD, slD, sl3, appD, metO, truD]); repeat ((first | rw [then_nx] | rw [then_rt] | rw [then_bk] | rw [then_ct]); simp only [↓we_seq, ↓we_asg, ↓we_ret, ↓we_retN, ↓we_sIf, ↓we_drop, ↓we_nx, ↓we_brk, ↓we_cnt, ↓we_var, ↓we_C, ↓we_frz, ↓we_hold, ↓we_bin, ↓we_cmp, ↓we_un, ↓we_isi, ↓we_aNil, ↓we_aCons, ↓we_cb, ↓we_tup, ↓we_lst, ↓we_b, ↓we_tru, ↓we_and, ↓we_or, ↓we_not, ↓we_andV, ↓we_orV, ↓we_notV, ↓we_mIf, ↓we_chain, ↓we_set, ↓we_mgSub, ↓we_mgTup, ↓we_mgNil, ↓we_mgCons, ↓we_iR1, ↓we_iR2, ↓we_for, ↓we_mNo, ↓we_part, ↓we_sl, ↓we_ms, ↓we_met, ↓we_call_, ↓we_callIo_, ↓we_lc_, ↓we_iA, ↓we_yes, ↓we_par2, ↓we_par3, wo_some, wo_map, iaK_list, iaK_tuple, iaK_str, parK2_e, parK3_e, rd2, rd1, rd2B, rdN, rdAll, rd, hold, boolO, truO, intO, strO, frzO, retO, isIo_zero, isIo_succ, ioB_no, ioB_frz, ioB_own, ioB_io, le_line, lt_line, contAt, ML.putAt, Sl.cont, Sl.put, outsV, tupO, lstO, bo, noB, rtK_rt, rtK_nx, rtK1_rt, rtK1_nx, List.getElem?_cons_zero, List.getElem?_cons_succ, List.set_cons_zero, List.set_cons_succ, Option.map_some, Option.isSome_some, reduceIte, Bool.false_eq_true, Bool.true_eq_false, if_true, if_false, wipeR, ixN_lit, atI_lit, Option.bind_some, Nat.reduceLT, Nat.reduceLeDiff, ML.pos1, List.length_map, isT, List.map_cons, List.map_nil, List.length_cons, List.length_nil, List.cons_append, List.nil_append, List.append_nil, List.replicate, true_and, and_true, Nat.reduceSub, Nat.reduceAdd, Bool.not_true, Bool.not_false, decide_eq_true_eq, Bool.not_eq_true', decide_eq_false_iff_not, Int.reduceToNat, Int.reduceLT, Int.reduceLE, Int.reducePow, Int.reduceNeg, Bool.or_true, Bool.true_or, small_emod, small_lit, pow_10_18, and_self, addD, subD, mulD, modD, fdivD, negD, inD_ints, eqB_int, neB_int, ltB, leB, gtB, geB, isNB_none, notNB, isCB, ixD, lenD, absD, ML.intD, listD, tupD, slD, sl3, appD, metO, truD])
      simp [hl, isWay]
  | _ =>
    (try simp only [↓we_seq, ↓we_asg, ↓we_ret, ↓we_retN, ↓we_sIf, ↓we_drop, ↓we_nx, ↓we_brk, ↓we_cnt, ↓we_var, ↓we_C, ↓we_frz, ↓we_hold, ↓we_bin, ↓we_cmp, ↓we_un, ↓we_isi, ↓we_aNil, ↓we_aCons, ↓we_cb, ↓we_tup, ↓we_lst, ↓we_b, ↓we_tru, ↓we_and, ↓we_or, ↓we_not, ↓we_andV, ↓we_orV, ↓we_notV, ↓we_mIf, ↓we_chain, ↓we_set, ↓we_mgSub, ↓we_mgTup, ↓we_mgNil, ↓we_mgCons, ↓we_iR1, ↓we_iR2, ↓we_for, ↓we_mNo, ↓we_part, ↓we_sl, ↓we_ms, ↓we_met, ↓we_call_, ↓we_callIo_, ↓we_lc_, ↓we_iA, ↓we_yes, ↓we_par2, ↓we_par3, wo_some, wo_map, iaK_list, iaK_tuple, iaK_str, parK2_e, parK3_e, rd2, rd1, rd2B, rdN, rdAll, rd, hold, boolO, truO, intO, strO, frzO, retO, isIo_zero, isIo_succ, ioB_no, ioB_frz, ioB_own, ioB_io, le_line, lt_line, contAt, ML.putAt, Sl.cont, Sl.put, outsV, tupO, lstO, bo, noB, rtK_rt, rtK_nx, rtK1_rt, rtK1_nx, List.getElem?_cons_zero, List.getElem?_cons_succ, List.set_cons_zero, List.set_cons_succ, Option.map_some, Option.isSome_some, reduceIte, Bool.false_eq_true, Bool.true_eq_false, if_true, if_false, wipeR, ixN_lit, atI_lit, Option.bind_some, Nat.reduceLT, Nat.reduceLeDiff, ML.pos1, List.length_map, isT, List.map_cons, List.map_nil, List.length_cons, List.length_nil, List.cons_append, List.nil_append, List.append_nil, List.replicate, true_and, and_true, Nat.reduceSub, Nat.reduceAdd, Bool.not_true, Bool.not_false, decide_eq_true_eq, Bool.not_eq_true', decide_eq_false_iff_not, Int.reduceToNat, Int.reduceLT, Int.reduceLE, Int.reducePow, Int.reduceNeg, Bool.or_true, Bool.true_or, small_emod, small_lit, pow_10_18, and_self, addD, subD, mulD, modD, fdivD, negD, inD_ints, eqB_int, neB_int, ltB, leB, gtB, geB, isNB_none, notNB, isCB, ixD, lenD, absD, ML.intD, listD, tupD, slD, sl3, appD, metO, truD]); repeat ((first | rw [then_nx] | rw [then_rt] | rw [then_bk] | rw [then_ct]); simp only [↓we_seq, ↓we_asg, ↓we_ret, ↓we_retN, ↓we_sIf, ↓we_drop, ↓we_nx, ↓we_brk, ↓we_cnt, ↓we_var, ↓we_C, ↓we_frz, ↓we_hold, ↓we_bin, ↓we_cmp, ↓we_un, ↓we_isi, ↓we_aNil, ↓we_aCons, ↓we_cb, ↓we_tup, ↓we_lst, ↓we_b, ↓we_tru, ↓we_and, ↓we_or, ↓we_not, ↓we_andV, ↓we_orV, ↓we_notV, ↓we_mIf, ↓we_chain, ↓we_set, ↓we_mgSub, ↓we_mgTup, ↓we_mgNil, ↓we_mgCons, ↓we_iR1, ↓we_iR2, ↓we_for, ↓we_mNo, ↓we_part, ↓we_sl, ↓we_ms, ↓we_met, ↓we_call_, ↓we_callIo_, ↓we_lc_, ↓we_iA, ↓we_yes, ↓we_par2, ↓we_par3, wo_some, wo_map, iaK_list, iaK_tuple, iaK_str, parK2_e, parK3_e, rd2, rd1, rd2B, rdN, rdAll, rd, hold, boolO, truO, intO, strO, frzO, retO, isIo_zero, isIo_succ, ioB_no, ioB_frz, ioB_own, ioB_io, le_line, lt_line, contAt, ML.putAt, Sl.cont, Sl.put, outsV, tupO, lstO, bo, noB, rtK_rt, rtK_nx, rtK1_rt, rtK1_nx, List.getElem?_cons_zero, List.getElem?_cons_succ, List.set_cons_zero, List.set_cons_succ, Option.map_some, Option.isSome_some, reduceIte, Bool.false_eq_true, Bool.true_eq_false, if_true, if_false, wipeR, ixN_lit, atI_lit, Option.bind_some, Nat.reduceLT, Nat.reduceLeDiff, ML.pos1, List.length_map, isT, List.map_cons, List.map_nil, List.length_cons, List.length_nil, List.cons_append, List.nil_append, List.append_nil, List.replicate, true_and, and_true, Nat.reduceSub, Nat.reduceAdd, Bool.not_true, Bool.not_false, decide_eq_true_eq, Bool.not_eq_true', decide_eq_false_iff_not, Int.reduceToNat, Int.reduceLT, Int.reduceLE, Int.reducePow, Int.reduceNeg, Bool.or_true, Bool.true_or, small_emod, small_lit, pow_10_18, and_self, addD, subD, mulD, modD, fdivD, negD, inD_ints, eqB_int, neB_int, ltB, leB, gtB, geB, isNB_none, notNB, isCB, ixD, lenD, absD, ML.intD, listD, tupD, slD, sl3, appD, metO, truD])
    rfl
theorem vals_cons {v : Int} {d : D} (hv : 0 < v) (h : isVals v d = true) : ∃ i ds, d = .tuple (.int i :: ds) := by
  cases d with
  | tuple ds =>
    cases ds with
    | nil => simp [isVals] at h; omega
    | cons x ds =>
      cases x with
      | int i => exact ⟨i, ds, rfl⟩
      | _ => simp [isVals, isCnt] at h
  | _ => cases h
theorem map_ok (d : D) (v : Int) (h0 : 0 < v) (hv : v ≤ 16777216) : F0 m_is_map [.int v, d] (fun r => r = .v (.bool (isMap v d))) := by
  refine F0.def_ ?_
  (try simp only [↓we_seq, ↓we_asg, ↓we_ret, ↓we_retN, ↓we_sIf, ↓we_drop, ↓we_nx, ↓we_brk, ↓we_cnt, ↓we_var, ↓we_C, ↓we_frz, ↓we_hold, ↓we_bin, ↓we_cmp, ↓we_un, ↓we_isi, ↓we_aNil, ↓we_aCons, ↓we_cb, ↓we_tup, ↓we_lst, ↓we_b, ↓we_tru, ↓we_and, ↓we_or, ↓we_not, ↓we_andV, ↓we_orV, ↓we_notV, ↓we_mIf, ↓we_chain, ↓we_set, ↓we_mgSub, ↓we_mgTup, ↓we_mgNil, ↓we_mgCons, ↓we_iR1, ↓we_iR2, ↓we_for, ↓we_mNo, ↓we_part, ↓we_sl, ↓we_ms, ↓we_met, ↓we_call_, ↓we_callIo_, ↓we_lc_, ↓we_iA, ↓we_yes, ↓we_par2, ↓we_par3, wo_some, wo_map, iaK_list, iaK_tuple, iaK_str, parK2_e, parK3_e, rd2, rd1, rd2B, rdN, rdAll, rd, hold, boolO, truO, intO, strO, frzO, retO, isIo_zero, isIo_succ, ioB_no, ioB_frz, ioB_own, ioB_io, le_line, lt_line, contAt, ML.putAt, Sl.cont, Sl.put, outsV, tupO, lstO, bo, noB, rtK_rt, rtK_nx, rtK1_rt, rtK1_nx, List.getElem?_cons_zero, List.getElem?_cons_succ, List.set_cons_zero, List.set_cons_succ, Option.map_some, Option.isSome_some, reduceIte, Bool.false_eq_true, Bool.true_eq_false, if_true, if_false, wipeR, ixN_lit, atI_lit, Option.bind_some, Nat.reduceLT, Nat.reduceLeDiff, ML.pos1, List.length_map, isT, List.map_cons, List.map_nil, List.length_cons, List.length_nil, List.cons_append, List.nil_append, List.append_nil, List.replicate, true_and, and_true, Nat.reduceSub, Nat.reduceAdd, Bool.not_true, Bool.not_false, decide_eq_true_eq, Bool.not_eq_true', decide_eq_false_iff_not, Int.reduceToNat, Int.reduceLT, Int.reduceLE, Int.reducePow, Int.reduceNeg, Bool.or_true, Bool.true_or, small_emod, small_lit, pow_10_18, and_self, addD, subD, mulD, modD, fdivD, negD, inD_ints, eqB_int, neB_int, ltB, leB, gtB, geB, isNB_none, notNB, isCB, ixD, lenD, absD, ML.intD, listD, tupD, slD, sl3, appD, metO, truD]); repeat ((first | rw [then_nx] | rw [then_rt] | rw [then_bk] | rw [then_ct]); simp only [↓we_seq, ↓we_asg, ↓we_ret, ↓we_retN, ↓we_sIf, ↓we_drop, ↓we_nx, ↓we_brk, ↓we_cnt, ↓we_var, ↓we_C, ↓we_frz, ↓we_hold, ↓we_bin, ↓we_cmp, ↓we_un, ↓we_isi, ↓we_aNil, ↓we_aCons, ↓we_cb, ↓we_tup, ↓we_lst, ↓we_b, ↓we_tru, ↓we_and, ↓we_or, ↓we_not, ↓we_andV, ↓we_orV, ↓we_notV, ↓we_mIf, ↓we_chain, ↓we_set, ↓we_mgSub, ↓we_mgTup, ↓we_mgNil, ↓we_mgCons, ↓we_iR1, ↓we_iR2, ↓we_for, ↓we_mNo, ↓we_part, ↓we_sl, ↓we_ms, ↓we_met, ↓we_call_, ↓we_callIo_, ↓we_lc_, ↓we_iA, ↓we_yes, ↓we_par2, ↓we_par3, wo_some, wo_map, iaK_list, iaK_tuple, iaK_str, parK2_e, parK3_e, rd2, rd1, rd2B, rdN, rdAll, rd, hold, boolO, truO, intO, strO, frzO, retO, isIo_zero, isIo_succ, ioB_no, ioB_frz, ioB_own, ioB_io, le_line, lt_line, contAt, ML.putAt, Sl.cont, Sl.put, outsV, tupO, lstO, bo, noB, rtK_rt, rtK_nx, rtK1_rt, rtK1_nx, List.getElem?_cons_zero, List.getElem?_cons_succ, List.set_cons_zero, List.set_cons_succ, Option.map_some, Option.isSome_some, reduceIte, Bool.false_eq_true, Bool.true_eq_false, if_true, if_false, wipeR, ixN_lit, atI_lit, Option.bind_some, Nat.reduceLT, Nat.reduceLeDiff, ML.pos1, List.length_map, isT, List.map_cons, List.map_nil, List.length_cons, List.length_nil, List.cons_append, List.nil_append, List.append_nil, List.replicate, true_and, and_true, Nat.reduceSub, Nat.reduceAdd, Bool.not_true, Bool.not_false, decide_eq_true_eq, Bool.not_eq_true', decide_eq_false_iff_not, Int.reduceToNat, Int.reduceLT, Int.reduceLE, Int.reducePow, Int.reduceNeg, Bool.or_true, Bool.true_or, small_emod, small_lit, pow_10_18, and_self, addD, subD, mulD, modD, fdivD, negD, inD_ints, eqB_int, neB_int, ltB, leB, gtB, geB, isNB_none, notNB, isCB, ixD, lenD, absD, ML.intD, listD, tupD, slD, sl3, appD, metO, truD])
  refine we_call (vals_ok d v hv) rfl ?_
  rintro r - rfl
  (try simp only [↓we_seq, ↓we_asg, ↓we_ret, ↓we_retN, ↓we_sIf, ↓we_drop, ↓we_nx, ↓we_brk, ↓we_cnt, ↓we_var, ↓we_C, ↓we_frz, ↓we_hold, ↓we_bin, ↓we_cmp, ↓we_un, ↓we_isi, ↓we_aNil, ↓we_aCons, ↓we_cb, ↓we_tup, ↓we_lst, ↓we_b, ↓we_tru, ↓we_and, ↓we_or, ↓we_not, ↓we_andV, ↓we_orV, ↓we_notV, ↓we_mIf, ↓we_chain, ↓we_set, ↓we_mgSub, ↓we_mgTup, ↓we_mgNil, ↓we_mgCons, ↓we_iR1, ↓we_iR2, ↓we_for, ↓we_mNo, ↓we_part, ↓we_sl, ↓we_ms, ↓we_met, ↓we_call_, ↓we_callIo_, ↓we_lc_, ↓we_iA, ↓we_yes, ↓we_par2, ↓we_par3, wo_some, wo_map, iaK_list, iaK_tuple, iaK_str, parK2_e, parK3_e, rd2, rd1, rd2B, rdN, rdAll, rd, hold, boolO, truO, intO, strO, frzO, retO, isIo_zero, isIo_succ, ioB_no, ioB_frz, ioB_own, ioB_io, le_line, lt_line, contAt, ML.putAt, Sl.cont, Sl.put, outsV, tupO, lstO, bo, noB, rtK_rt, rtK_nx, rtK1_rt, rtK1_nx, List.getElem?_cons_zero, List.getElem?_cons_succ, List.set_cons_zero, List.set_cons_succ, Option.map_some, Option.isSome_some, reduceIte, Bool.false_eq_true, Bool.true_eq_false, if_true, if_false, wipeR, ixN_lit, atI_lit, Option.bind_some, Nat.reduceLT, Nat.reduceLeDiff, ML.pos1, List.length_map, isT, List.map_cons, List.map_nil, List.length_cons, List.length_nil, List.cons_append, List.nil_append, List.append_nil, List.replicate, true_and, and_true, Nat.reduceSub, Nat.reduceAdd, Bool.not_true, Bool.not_false, decide_eq_true_eq, Bool.not_eq_true', decide_eq_false_iff_not, Int.reduceToNat, Int.reduceLT, Int.reduceLE, Int.reducePow, Int.reduceNeg, Bool.or_true, Bool.true_or, small_emod, small_lit, pow_10_18, and_self, addD, subD, mulD, modD, fdivD, negD, inD_ints, eqB_int, neB_int, ltB, leB, gtB, geB, isNB_none, notNB, isCB, ixD, lenD, absD, ML.intD, listD, tupD, slD, sl3, appD, metO, truD]); repeat ((first | rw [then_nx] | rw [then_rt] | rw [then_bk] | rw [then_ct]); simp only [↓we_seq, ↓we_asg, ↓we_ret, ↓we_retN, ↓we_sIf, ↓we_drop, ↓we_nx, ↓we_brk, ↓we_cnt, ↓we_var, ↓we_C, ↓we_frz, ↓we_hold, ↓we_bin, ↓we_cmp, ↓we_un, ↓we_isi, ↓we_aNil, ↓we_aCons, ↓we_cb, ↓we_tup, ↓we_lst, ↓we_b, ↓we_tru, ↓we_and, ↓we_or, ↓we_not, ↓we_andV, ↓we_orV, ↓we_notV, ↓we_mIf, ↓we_chain, ↓we_set, ↓we_mgSub, ↓we_mgTup, ↓we_mgNil, ↓we_mgCons, ↓we_iR1, ↓we_iR2, ↓we_for, ↓we_mNo, ↓we_part, ↓we_sl, ↓we_ms, ↓we_met, ↓we_call_, ↓we_callIo_, ↓we_lc_, ↓we_iA, ↓we_yes, ↓we_par2, ↓we_par3, wo_some, wo_map, iaK_list, iaK_tuple, iaK_str, parK2_e, parK3_e, rd2, rd1, rd2B, rdN, rdAll, rd, hold, boolO, truO, intO, strO, frzO, retO, isIo_zero, isIo_succ, ioB_no, ioB_frz, ioB_own, ioB_io, le_line, lt_line, contAt, ML.putAt, Sl.cont, Sl.put, outsV, tupO, lstO, bo, noB, rtK_rt, rtK_nx, rtK1_rt, rtK1_nx, List.getElem?_cons_zero, List.getElem?_cons_succ, List.set_cons_zero, List.set_cons_succ, Option.map_some, Option.isSome_some, reduceIte, Bool.false_eq_true, Bool.true_eq_false, if_true, if_false, wipeR, ixN_lit, atI_lit, Option.bind_some, Nat.reduceLT, Nat.reduceLeDiff, ML.pos1, List.length_map, isT, List.map_cons, List.map_nil, List.length_cons, List.length_nil, List.cons_append, List.nil_append, List.append_nil, List.replicate, true_and, and_true, Nat.reduceSub, Nat.reduceAdd, Bool.not_true, Bool.not_false, decide_eq_true_eq, Bool.not_eq_true', decide_eq_false_iff_not, Int.reduceToNat, Int.reduceLT, Int.reduceLE, Int.reducePow, Int.reduceNeg, Bool.or_true, Bool.true_or, small_emod, small_lit, pow_10_18, and_self, addD, subD, mulD, modD, fdivD, negD, inD_ints, eqB_int, neB_int, ltB, leB, gtB, geB, isNB_none, notNB, isCB, ixD, lenD, absD, ML.intD, listD, tupD, slD, sl3, appD, metO, truD])
  cases h : isVals v d with
  | false =>
    (try simp only [↓we_seq, ↓we_asg, ↓we_ret, ↓we_retN, ↓we_sIf, ↓we_drop, ↓we_nx, ↓we_brk, ↓we_cnt, ↓we_var, ↓we_C, ↓we_frz, ↓we_hold, ↓we_bin, ↓we_cmp, ↓we_un, ↓we_isi, ↓we_aNil, ↓we_aCons, ↓we_cb, ↓we_tup, ↓we_lst, ↓we_b, ↓we_tru, ↓we_and, ↓we_or, ↓we_not, ↓we_andV, ↓we_orV, ↓we_notV, ↓we_mIf, ↓we_chain, ↓we_set, ↓we_mgSub, ↓we_mgTup, ↓we_mgNil, ↓we_mgCons, ↓we_iR1, ↓we_iR2, ↓we_for, ↓we_mNo, ↓we_part, ↓we_sl, ↓we_ms, ↓we_met, ↓we_call_, ↓we_callIo_, ↓we_lc_, ↓we_iA, ↓we_yes, ↓we_par2, ↓we_par3, wo_some, wo_map, iaK_list, iaK_tuple, iaK_str, parK2_e, parK3_e, rd2, rd1, rd2B, rdN, rdAll, rd, hold, boolO, truO, intO, strO, frzO, retO, isIo_zero, isIo_succ, ioB_no, ioB_frz, ioB_own, ioB_io, le_line, lt_line, contAt, ML.putAt, Sl.cont, Sl.put, outsV, tupO, lstO, bo, noB, rtK_rt, rtK_nx, rtK1_rt, rtK1_nx, List.getElem?_cons_zero, List.getElem?_cons_succ, List.set_cons_zero, List.set_cons_succ, Option.map_some, Option.isSome_some, reduceIte, Bool.false_eq_true, Bool.true_eq_false, if_true, if_false, wipeR, ixN_lit, atI_lit, Option.bind_some, Nat.reduceLT, Nat.reduceLeDiff, ML.pos1, List.length_map, isT, List.map_cons, List.map_nil, List.length_cons, List.length_nil, List.cons_append, List.nil_append, List.append_nil, List.replicate, true_and, and_true, Nat.reduceSub, Nat.reduceAdd, Bool.not_true, Bool.not_false, decide_eq_true_eq, Bool.not_eq_true', decide_eq_false_iff_not, Int.reduceToNat, Int.reduceLT, Int.reduceLE, Int.reducePow, Int.reduceNeg, Bool.or_true, Bool.true_or, small_emod, small_lit, pow_10_18, and_self, addD, subD, mulD, modD, fdivD, negD, inD_ints, eqB_int, neB_int, ltB, leB, gtB, geB, isNB_none, notNB, isCB, ixD, lenD, absD, ML.intD, listD, tupD, slD, sl3, appD, metO, truD]); repeat ((first | rw [then_nx] | rw [then_rt] | rw [then_bk] | rw [then_ct]); simp only [↓we_seq, ↓we_asg, ↓we_ret, ↓we_retN, ↓we_sIf, ↓we_drop, ↓we_nx, ↓we_brk, ↓we_cnt, ↓we_var, ↓we_C, ↓we_frz, ↓we_hold, ↓we_bin, ↓we_cmp, ↓we_un, ↓we_isi, ↓we_aNil, ↓we_aCons, ↓we_cb, ↓we_tup, ↓we_lst, ↓we_b, ↓we_tru, ↓we_and, ↓we_or, ↓we_not, ↓we_andV, ↓we_orV, ↓we_notV, ↓we_mIf, ↓we_chain, ↓we_set, ↓we_mgSub, ↓we_mgTup, ↓we_mgNil, ↓we_mgCons, ↓we_iR1, ↓we_iR2, ↓we_for, ↓we_mNo, ↓we_part, ↓we_sl, ↓we_ms, ↓we_met, ↓we_call_, ↓we_callIo_, ↓we_lc_, ↓we_iA, ↓we_yes, ↓we_par2, ↓we_par3, wo_some, wo_map, iaK_list, iaK_tuple, iaK_str, parK2_e, parK3_e, rd2, rd1, rd2B, rdN, rdAll, rd, hold, boolO, truO, intO, strO, frzO, retO, isIo_zero, isIo_succ, ioB_no, ioB_frz, ioB_own, ioB_io, le_line, lt_line, contAt, ML.putAt, Sl.cont, Sl.put, outsV, tupO, lstO, bo, noB, rtK_rt, rtK_nx, rtK1_rt, rtK1_nx, List.getElem?_cons_zero, List.getElem?_cons_succ, List.set_cons_zero, List.set_cons_succ, Option.map_some, Option.isSome_some, reduceIte, Bool.false_eq_true, Bool.true_eq_false, if_true, if_false, wipeR, ixN_lit, atI_lit, Option.bind_some, Nat.reduceLT, Nat.reduceLeDiff, ML.pos1, List.length_map, isT, List.map_cons, List.map_nil, List.length_cons, List.length_nil, List.cons_append, List.nil_append, List.append_nil, List.replicate, true_and, and_true, Nat.reduceSub, Nat.reduceAdd, Bool.not_true, Bool.not_false, decide_eq_true_eq, Bool.not_eq_true', decide_eq_false_iff_not, Int.reduceToNat, Int.reduceLT, Int.reduceLE, Int.reducePow, Int.reduceNeg, Bool.or_true, Bool.true_or, small_emod, small_lit, pow_10_18, and_self, addD, subD, mulD, modD, fdivD, negD, inD_ints, eqB_int, neB_int, ltB, leB, gtB, geB, isNB_none, notNB, isCB, ixD, lenD, absD, ML.intD, listD, tupD, slD, sl3, appD, metO, truD])
    simp [isMap, h]
  | true =>
    obtain ⟨i, ds, rfl⟩ := vals_cons h0 h
    (try simp only [↓we_seq, ↓we_asg, ↓we_ret, ↓we_retN, ↓we_sIf, ↓we_drop, ↓we_nx, ↓we_brk, ↓we_cnt, ↓we_var, ↓we_C, ↓we_frz, ↓we_hold, ↓we_bin, ↓we_cmp, ↓we_un, ↓we_isi, ↓we_aNil, ↓we_aCons, ↓we_cb, ↓we_tup, ↓we_lst, ↓we_b, ↓we_tru, ↓we_and, ↓we_or, ↓we_not, ↓we_andV, ↓we_orV, ↓we_notV, ↓we_mIf, ↓we_chain, ↓we_set, ↓we_mgSub, ↓we_mgTup, ↓we_mgNil, ↓we_mgCons, ↓we_iR1, ↓we_iR2, ↓we_for, ↓we_mNo, ↓we_part, ↓we_sl, ↓we_ms, ↓we_met, ↓we_call_, ↓we_callIo_, ↓we_lc_, ↓we_iA, ↓we_yes, ↓we_par2, ↓we_par3, wo_some, wo_map, iaK_list, iaK_tuple, iaK_str, parK2_e, parK3_e, rd2, rd1, rd2B, rdN, rdAll, rd, hold, boolO, truO, intO, strO, frzO, retO, isIo_zero, isIo_succ, ioB_no, ioB_frz, ioB_own, ioB_io, le_line, lt_line, contAt, ML.putAt, Sl.cont, Sl.put, outsV, tupO, lstO, bo, noB, rtK_rt, rtK_nx, rtK1_rt, rtK1_nx, List.getElem?_cons_zero, List.getElem?_cons_succ, List.set_cons_zero, List.set_cons_succ, Option.map_some, Option.isSome_some, reduceIte, Bool.false_eq_true, Bool.true_eq_false, if_true, if_false, wipeR, ixN_lit, atI_lit, Option.bind_some, Nat.reduceLT, Nat.reduceLeDiff, ML.pos1, List.length_map, isT, List.map_cons, List.map_nil, List.length_cons, List.length_nil, List.cons_append, List.nil_append, List.append_nil, List.replicate, true_and, and_true, Nat.reduceSub, Nat.reduceAdd, Bool.not_true, Bool.not_false, decide_eq_true_eq, Bool.not_eq_true', decide_eq_false_iff_not, Int.reduceToNat, Int.reduceLT, Int.reduceLE, Int.reducePow, Int.reduceNeg, Bool.or_true, Bool.true_or, small_emod, small_lit, pow_10_18, and_self, addD, subD, mulD, modD, fdivD, negD, inD_ints, eqB_int, neB_int, ltB, leB, gtB, geB, isNB_none, notNB, isCB, ixD, lenD, absD, ML.intD, listD, tupD, slD, sl3, appD, metO, truD]); repeat ((first | rw [then_nx] | rw [then_rt] | rw [then_bk] | rw [then_ct]); simp only [↓we_seq, ↓we_asg, ↓we_ret, ↓we_retN, ↓we_sIf, ↓we_drop, ↓we_nx, ↓we_brk, ↓we_cnt, ↓we_var, ↓we_C, ↓we_frz, ↓we_hold, ↓we_bin, ↓we_cmp, ↓we_un, ↓we_isi, ↓we_aNil, ↓we_aCons, ↓we_cb, ↓we_tup, ↓we_lst, ↓we_b, ↓we_tru, ↓we_and, ↓we_or, ↓we_not, ↓we_andV, ↓we_orV, ↓we_notV, ↓we_mIf, ↓we_chain, ↓we_set, ↓we_mgSub, ↓we_mgTup, ↓we_mgNil, ↓we_mgCons, ↓we_iR1, ↓we_iR2, ↓we_for, ↓we_mNo, ↓we_part, ↓we_sl, ↓we_ms, ↓we_met, ↓we_call_, ↓we_callIo_, ↓we_lc_, ↓we_iA, ↓we_yes, ↓we_par2, ↓we_par3, wo_some, wo_map, iaK_list, iaK_tuple, iaK_str, parK2_e, parK3_e, rd2, rd1, rd2B, rdN, rdAll, rd, hold, boolO, truO, intO, strO, frzO, retO, isIo_zero, isIo_succ, ioB_no, ioB_frz, ioB_own, ioB_io, le_line, lt_line, contAt, ML.putAt, Sl.cont, Sl.put, outsV, tupO, lstO, bo, noB, rtK_rt, rtK_nx, rtK1_rt, rtK1_nx, List.getElem?_cons_zero, List.getElem?_cons_succ, List.set_cons_zero, List.set_cons_succ, Option.map_some, Option.isSome_some, reduceIte, Bool.false_eq_true, Bool.true_eq_false, if_true, if_false, wipeR, ixN_lit, atI_lit, Option.bind_some, Nat.reduceLT, Nat.reduceLeDiff, ML.pos1, List.length_map, isT, List.map_cons, List.map_nil, List.length_cons, List.length_nil, List.cons_append, List.nil_append, List.append_nil, List.replicate, true_and, and_true, Nat.reduceSub, Nat.reduceAdd, Bool.not_true, Bool.not_false, decide_eq_true_eq, Bool.not_eq_true', decide_eq_false_iff_not, Int.reduceToNat, Int.reduceLT, Int.reduceLE, Int.reducePow, Int.reduceNeg, Bool.or_true, Bool.true_or, small_emod, small_lit, pow_10_18, and_self, addD, subD, mulD, modD, fdivD, negD, inD_ints, eqB_int, neB_int, ltB, leB, gtB, geB, isNB_none, notNB, isCB, ixD, lenD, absD, ML.intD, listD, tupD, slD, sl3, appD, metO, truD])
    simp [isMap, h, hd0]
theorem way_vals {v : Int} {ds : List D} : isVals v (.tuple ds) = (isWay v (.tuple ds) && !ds.any isNone) := by
  have : ds.all (isCnt 0 (v - 1)) = (ds.all (fun x => isNone x || isCnt 0 (v - 1) x) && !ds.any isNone) := by
    induction ds with
    | nil => rfl
    | cons d ds ih =>
      rw [List.all_cons, List.all_cons, List.any_cons, ih]
      cases d <;> simp [isNone, isCnt, Bool.and_assoc]
  show (decide ((ds.length : Int) = v) && ds.all (isCnt 0 (v - 1))) = ((decide ((ds.length : Int) = v) && ds.all (fun x => isNone x || isCnt 0 (v - 1) x)) && !ds.any isNone)
  rw [this, Bool.and_assoc]
theorem way_shaped {v : Int} {ds : List D} (h : isWay v (.tuple ds) = true) : SeqAt.shaped (.tuple ds) = true := by
  refine shaped_flat fun d m => ?_
  unfold isWay at h
  rw [Bool.and_eq_true, List.all_eq_true] at h
  have := h.2 d m
  cases d with
  | none => exact ⟨rfl, rfl⟩
  | int i => exact ⟨rfl, rfl⟩
  | _ => simp [isNone, isCnt] at this
theorem lmap_ok (d : D) (v : Int) (h0 : 0 < v) (hv : v ≤ 16777216) : F0 m__law_is_map [.int v, d] (fun r => r = .v (.bool (isMap v d))) := by
  refine F0.def_ ?_
  (try simp only [↓we_seq, ↓we_asg, ↓we_ret, ↓we_retN, ↓we_sIf, ↓we_drop, ↓we_nx, ↓we_brk, ↓we_cnt, ↓we_var, ↓we_C, ↓we_frz, ↓we_hold, ↓we_bin, ↓we_cmp, ↓we_un, ↓we_isi, ↓we_aNil, ↓we_aCons, ↓we_cb, ↓we_tup, ↓we_lst, ↓we_b, ↓we_tru, ↓we_and, ↓we_or, ↓we_not, ↓we_andV, ↓we_orV, ↓we_notV, ↓we_mIf, ↓we_chain, ↓we_set, ↓we_mgSub, ↓we_mgTup, ↓we_mgNil, ↓we_mgCons, ↓we_iR1, ↓we_iR2, ↓we_for, ↓we_mNo, ↓we_part, ↓we_sl, ↓we_ms, ↓we_met, ↓we_call_, ↓we_callIo_, ↓we_lc_, ↓we_iA, ↓we_yes, ↓we_par2, ↓we_par3, wo_some, wo_map, iaK_list, iaK_tuple, iaK_str, parK2_e, parK3_e, rd2, rd1, rd2B, rdN, rdAll, rd, hold, boolO, truO, intO, strO, frzO, retO, isIo_zero, isIo_succ, ioB_no, ioB_frz, ioB_own, ioB_io, le_line, lt_line, contAt, ML.putAt, Sl.cont, Sl.put, outsV, tupO, lstO, bo, noB, rtK_rt, rtK_nx, rtK1_rt, rtK1_nx, List.getElem?_cons_zero, List.getElem?_cons_succ, List.set_cons_zero, List.set_cons_succ, Option.map_some, Option.isSome_some, reduceIte, Bool.false_eq_true, Bool.true_eq_false, if_true, if_false, wipeR, ixN_lit, atI_lit, Option.bind_some, Nat.reduceLT, Nat.reduceLeDiff, ML.pos1, List.length_map, isT, List.map_cons, List.map_nil, List.length_cons, List.length_nil, List.cons_append, List.nil_append, List.append_nil, List.replicate, true_and, and_true, Nat.reduceSub, Nat.reduceAdd, Bool.not_true, Bool.not_false, decide_eq_true_eq, Bool.not_eq_true', decide_eq_false_iff_not, Int.reduceToNat, Int.reduceLT, Int.reduceLE, Int.reducePow, Int.reduceNeg, Bool.or_true, Bool.true_or, small_emod, small_lit, pow_10_18, and_self, addD, subD, mulD, modD, fdivD, negD, inD_ints, eqB_int, neB_int, ltB, leB, gtB, geB, isNB_none, notNB, isCB, ixD, lenD, absD, ML.intD, listD, tupD, slD, sl3, appD, metO, truD]); repeat ((first | rw [then_nx] | rw [then_rt] | rw [then_bk] | rw [then_ct]); simp only [↓we_seq, ↓we_asg, ↓we_ret, ↓we_retN, ↓we_sIf, ↓we_drop, ↓we_nx, ↓we_brk, ↓we_cnt, ↓we_var, ↓we_C, ↓we_frz, ↓we_hold, ↓we_bin, ↓we_cmp, ↓we_un, ↓we_isi, ↓we_aNil, ↓we_aCons, ↓we_cb, ↓we_tup, ↓we_lst, ↓we_b, ↓we_tru, ↓we_and, ↓we_or, ↓we_not, ↓we_andV, ↓we_orV, ↓we_notV, ↓we_mIf, ↓we_chain, ↓we_set, ↓we_mgSub, ↓we_mgTup, ↓we_mgNil, ↓we_mgCons, ↓we_iR1, ↓we_iR2, ↓we_for, ↓we_mNo, ↓we_part, ↓we_sl, ↓we_ms, ↓we_met, ↓we_call_, ↓we_callIo_, ↓we_lc_, ↓we_iA, ↓we_yes, ↓we_par2, ↓we_par3, wo_some, wo_map, iaK_list, iaK_tuple, iaK_str, parK2_e, parK3_e, rd2, rd1, rd2B, rdN, rdAll, rd, hold, boolO, truO, intO, strO, frzO, retO, isIo_zero, isIo_succ, ioB_no, ioB_frz, ioB_own, ioB_io, le_line, lt_line, contAt, ML.putAt, Sl.cont, Sl.put, outsV, tupO, lstO, bo, noB, rtK_rt, rtK_nx, rtK1_rt, rtK1_nx, List.getElem?_cons_zero, List.getElem?_cons_succ, List.set_cons_zero, List.set_cons_succ, Option.map_some, Option.isSome_some, reduceIte, Bool.false_eq_true, Bool.true_eq_false, if_true, if_false, wipeR, ixN_lit, atI_lit, Option.bind_some, Nat.reduceLT, Nat.reduceLeDiff, ML.pos1, List.length_map, isT, List.map_cons, List.map_nil, List.length_cons, List.length_nil, List.cons_append, List.nil_append, List.append_nil, List.replicate, true_and, and_true, Nat.reduceSub, Nat.reduceAdd, Bool.not_true, Bool.not_false, decide_eq_true_eq, Bool.not_eq_true', decide_eq_false_iff_not, Int.reduceToNat, Int.reduceLT, Int.reduceLE, Int.reducePow, Int.reduceNeg, Bool.or_true, Bool.true_or, small_emod, small_lit, pow_10_18, and_self, addD, subD, mulD, modD, fdivD, negD, inD_ints, eqB_int, neB_int, ltB, leB, gtB, geB, isNB_none, notNB, isCB, ixD, lenD, absD, ML.intD, listD, tupD, slD, sl3, appD, metO, truD])
  refine we_call (lway_ok d v hv) rfl ?_
  rintro r - rfl
  (try simp only [↓we_seq, ↓we_asg, ↓we_ret, ↓we_retN, ↓we_sIf, ↓we_drop, ↓we_nx, ↓we_brk, ↓we_cnt, ↓we_var, ↓we_C, ↓we_frz, ↓we_hold, ↓we_bin, ↓we_cmp, ↓we_un, ↓we_isi, ↓we_aNil, ↓we_aCons, ↓we_cb, ↓we_tup, ↓we_lst, ↓we_b, ↓we_tru, ↓we_and, ↓we_or, ↓we_not, ↓we_andV, ↓we_orV, ↓we_notV, ↓we_mIf, ↓we_chain, ↓we_set, ↓we_mgSub, ↓we_mgTup, ↓we_mgNil, ↓we_mgCons, ↓we_iR1, ↓we_iR2, ↓we_for, ↓we_mNo, ↓we_part, ↓we_sl, ↓we_ms, ↓we_met, ↓we_call_, ↓we_callIo_, ↓we_lc_, ↓we_iA, ↓we_yes, ↓we_par2, ↓we_par3, wo_some, wo_map, iaK_list, iaK_tuple, iaK_str, parK2_e, parK3_e, rd2, rd1, rd2B, rdN, rdAll, rd, hold, boolO, truO, intO, strO, frzO, retO, isIo_zero, isIo_succ, ioB_no, ioB_frz, ioB_own, ioB_io, le_line, lt_line, contAt, ML.putAt, Sl.cont, Sl.put, outsV, tupO, lstO, bo, noB, rtK_rt, rtK_nx, rtK1_rt, rtK1_nx, List.getElem?_cons_zero, List.getElem?_cons_succ, List.set_cons_zero, List.set_cons_succ, Option.map_some, Option.isSome_some, reduceIte, Bool.false_eq_true, Bool.true_eq_false, if_true, if_false, wipeR, ixN_lit, atI_lit, Option.bind_some, Nat.reduceLT, Nat.reduceLeDiff, ML.pos1, List.length_map, isT, List.map_cons, List.map_nil, List.length_cons, List.length_nil, List.cons_append, List.nil_append, List.append_nil, List.replicate, true_and, and_true, Nat.reduceSub, Nat.reduceAdd, Bool.not_true, Bool.not_false, decide_eq_true_eq, Bool.not_eq_true', decide_eq_false_iff_not, Int.reduceToNat, Int.reduceLT, Int.reduceLE, Int.reducePow, Int.reduceNeg, Bool.or_true, Bool.true_or, small_emod, small_lit, pow_10_18, and_self, addD, subD, mulD, modD, fdivD, negD, inD_ints, eqB_int, neB_int, ltB, leB, gtB, geB, isNB_none, notNB, isCB, ixD, lenD, absD, ML.intD, listD, tupD, slD, sl3, appD, metO, truD]); repeat ((first | rw [then_nx] | rw [then_rt] | rw [then_bk] | rw [then_ct]); simp only [↓we_seq, ↓we_asg, ↓we_ret, ↓we_retN, ↓we_sIf, ↓we_drop, ↓we_nx, ↓we_brk, ↓we_cnt, ↓we_var, ↓we_C, ↓we_frz, ↓we_hold, ↓we_bin, ↓we_cmp, ↓we_un, ↓we_isi, ↓we_aNil, ↓we_aCons, ↓we_cb, ↓we_tup, ↓we_lst, ↓we_b, ↓we_tru, ↓we_and, ↓we_or, ↓we_not, ↓we_andV, ↓we_orV, ↓we_notV, ↓we_mIf, ↓we_chain, ↓we_set, ↓we_mgSub, ↓we_mgTup, ↓we_mgNil, ↓we_mgCons, ↓we_iR1, ↓we_iR2, ↓we_for, ↓we_mNo, ↓we_part, ↓we_sl, ↓we_ms, ↓we_met, ↓we_call_, ↓we_callIo_, ↓we_lc_, ↓we_iA, ↓we_yes, ↓we_par2, ↓we_par3, wo_some, wo_map, iaK_list, iaK_tuple, iaK_str, parK2_e, parK3_e, rd2, rd1, rd2B, rdN, rdAll, rd, hold, boolO, truO, intO, strO, frzO, retO, isIo_zero, isIo_succ, ioB_no, ioB_frz, ioB_own, ioB_io, le_line, lt_line, contAt, ML.putAt, Sl.cont, Sl.put, outsV, tupO, lstO, bo, noB, rtK_rt, rtK_nx, rtK1_rt, rtK1_nx, List.getElem?_cons_zero, List.getElem?_cons_succ, List.set_cons_zero, List.set_cons_succ, Option.map_some, Option.isSome_some, reduceIte, Bool.false_eq_true, Bool.true_eq_false, if_true, if_false, wipeR, ixN_lit, atI_lit, Option.bind_some, Nat.reduceLT, Nat.reduceLeDiff, ML.pos1, List.length_map, isT, List.map_cons, List.map_nil, List.length_cons, List.length_nil, List.cons_append, List.nil_append, List.append_nil, List.replicate, true_and, and_true, Nat.reduceSub, Nat.reduceAdd, Bool.not_true, Bool.not_false, decide_eq_true_eq, Bool.not_eq_true', decide_eq_false_iff_not, Int.reduceToNat, Int.reduceLT, Int.reduceLE, Int.reducePow, Int.reduceNeg, Bool.or_true, Bool.true_or, small_emod, small_lit, pow_10_18, and_self, addD, subD, mulD, modD, fdivD, negD, inD_ints, eqB_int, neB_int, ltB, leB, gtB, geB, isNB_none, notNB, isCB, ixD, lenD, absD, ML.intD, listD, tupD, slD, sl3, appD, metO, truD])
  cases h : isWay v d with
  | false =>
    (try simp only [↓we_seq, ↓we_asg, ↓we_ret, ↓we_retN, ↓we_sIf, ↓we_drop, ↓we_nx, ↓we_brk, ↓we_cnt, ↓we_var, ↓we_C, ↓we_frz, ↓we_hold, ↓we_bin, ↓we_cmp, ↓we_un, ↓we_isi, ↓we_aNil, ↓we_aCons, ↓we_cb, ↓we_tup, ↓we_lst, ↓we_b, ↓we_tru, ↓we_and, ↓we_or, ↓we_not, ↓we_andV, ↓we_orV, ↓we_notV, ↓we_mIf, ↓we_chain, ↓we_set, ↓we_mgSub, ↓we_mgTup, ↓we_mgNil, ↓we_mgCons, ↓we_iR1, ↓we_iR2, ↓we_for, ↓we_mNo, ↓we_part, ↓we_sl, ↓we_ms, ↓we_met, ↓we_call_, ↓we_callIo_, ↓we_lc_, ↓we_iA, ↓we_yes, ↓we_par2, ↓we_par3, wo_some, wo_map, iaK_list, iaK_tuple, iaK_str, parK2_e, parK3_e, rd2, rd1, rd2B, rdN, rdAll, rd, hold, boolO, truO, intO, strO, frzO, retO, isIo_zero, isIo_succ, ioB_no, ioB_frz, ioB_own, ioB_io, le_line, lt_line, contAt, ML.putAt, Sl.cont, Sl.put, outsV, tupO, lstO, bo, noB, rtK_rt, rtK_nx, rtK1_rt, rtK1_nx, List.getElem?_cons_zero, List.getElem?_cons_succ, List.set_cons_zero, List.set_cons_succ, Option.map_some, Option.isSome_some, reduceIte, Bool.false_eq_true, Bool.true_eq_false, if_true, if_false, wipeR, ixN_lit, atI_lit, Option.bind_some, Nat.reduceLT, Nat.reduceLeDiff, ML.pos1, List.length_map, isT, List.map_cons, List.map_nil, List.length_cons, List.length_nil, List.cons_append, List.nil_append, List.append_nil, List.replicate, true_and, and_true, Nat.reduceSub, Nat.reduceAdd, Bool.not_true, Bool.not_false, decide_eq_true_eq, Bool.not_eq_true', decide_eq_false_iff_not, Int.reduceToNat, Int.reduceLT, Int.reduceLE, Int.reducePow, Int.reduceNeg, Bool.or_true, Bool.true_or, small_emod, small_lit, pow_10_18, and_self, addD, subD, mulD, modD, fdivD, negD, inD_ints, eqB_int, neB_int, ltB, leB, gtB, geB, isNB_none, notNB, isCB, ixD, lenD, absD, ML.intD, listD, tupD, slD, sl3, appD, metO, truD]); repeat ((first | rw [then_nx] | rw [then_rt] | rw [then_bk] | rw [then_ct]); simp only [↓we_seq, ↓we_asg, ↓we_ret, ↓we_retN, ↓we_sIf, ↓we_drop, ↓we_nx, ↓we_brk, ↓we_cnt, ↓we_var, ↓we_C, ↓we_frz, ↓we_hold, ↓we_bin, ↓we_cmp, ↓we_un, ↓we_isi, ↓we_aNil, ↓we_aCons, ↓we_cb, ↓we_tup, ↓we_lst, ↓we_b, ↓we_tru, ↓we_and, ↓we_or, ↓we_not, ↓we_andV, ↓we_orV, ↓we_notV, ↓we_mIf, ↓we_chain, ↓we_set, ↓we_mgSub, ↓we_mgTup, ↓we_mgNil, ↓we_mgCons, ↓we_iR1, ↓we_iR2, ↓we_for, ↓we_mNo, ↓we_part, ↓we_sl, ↓we_ms, ↓we_met, ↓we_call_, ↓we_callIo_, ↓we_lc_, ↓we_iA, ↓we_yes, ↓we_par2, ↓we_par3, wo_some, wo_map, iaK_list, iaK_tuple, iaK_str, parK2_e, parK3_e, rd2, rd1, rd2B, rdN, rdAll, rd, hold, boolO, truO, intO, strO, frzO, retO, isIo_zero, isIo_succ, ioB_no, ioB_frz, ioB_own, ioB_io, le_line, lt_line, contAt, ML.putAt, Sl.cont, Sl.put, outsV, tupO, lstO, bo, noB, rtK_rt, rtK_nx, rtK1_rt, rtK1_nx, List.getElem?_cons_zero, List.getElem?_cons_succ, List.set_cons_zero, List.set_cons_succ, Option.map_some, Option.isSome_some, reduceIte, Bool.false_eq_true, Bool.true_eq_false, if_true, if_false, wipeR, ixN_lit, atI_lit, Option.bind_some, Nat.reduceLT, Nat.reduceLeDiff, ML.pos1, List.length_map, isT, List.map_cons, List.map_nil, List.length_cons, List.length_nil, List.cons_append, List.nil_append, List.append_nil, List.replicate, true_and, and_true, Nat.reduceSub, Nat.reduceAdd, Bool.not_true, Bool.not_false, decide_eq_true_eq, Bool.not_eq_true', decide_eq_false_iff_not, Int.reduceToNat, Int.reduceLT, Int.reduceLE, Int.reducePow, Int.reduceNeg, Bool.or_true, Bool.true_or, small_emod, small_lit, pow_10_18, and_self, addD, subD, mulD, modD, fdivD, negD, inD_ints, eqB_int, neB_int, ltB, leB, gtB, geB, isNB_none, notNB, isCB, ixD, lenD, absD, ML.intD, listD, tupD, slD, sl3, appD, metO, truD])
    cases d with
    | tuple ds => simp [isMap, way_vals, h]
    | _ => rfl
  | true =>
    cases d with
    | tuple ds =>
      (try simp only [↓we_seq, ↓we_asg, ↓we_ret, ↓we_retN, ↓we_sIf, ↓we_drop, ↓we_nx, ↓we_brk, ↓we_cnt, ↓we_var, ↓we_C, ↓we_frz, ↓we_hold, ↓we_bin, ↓we_cmp, ↓we_un, ↓we_isi, ↓we_aNil, ↓we_aCons, ↓we_cb, ↓we_tup, ↓we_lst, ↓we_b, ↓we_tru, ↓we_and, ↓we_or, ↓we_not, ↓we_andV, ↓we_orV, ↓we_notV, ↓we_mIf, ↓we_chain, ↓we_set, ↓we_mgSub, ↓we_mgTup, ↓we_mgNil, ↓we_mgCons, ↓we_iR1, ↓we_iR2, ↓we_for, ↓we_mNo, ↓we_part, ↓we_sl, ↓we_ms, ↓we_met, ↓we_call_, ↓we_callIo_, ↓we_lc_, ↓we_iA, ↓we_yes, ↓we_par2, ↓we_par3, wo_some, wo_map, iaK_list, iaK_tuple, iaK_str, parK2_e, parK3_e, rd2, rd1, rd2B, rdN, rdAll, rd, hold, boolO, truO, intO, strO, frzO, retO, isIo_zero, isIo_succ, ioB_no, ioB_frz, ioB_own, ioB_io, le_line, lt_line, contAt, ML.putAt, Sl.cont, Sl.put, outsV, tupO, lstO, bo, noB, rtK_rt, rtK_nx, rtK1_rt, rtK1_nx, List.getElem?_cons_zero, List.getElem?_cons_succ, List.set_cons_zero, List.set_cons_succ, Option.map_some, Option.isSome_some, reduceIte, Bool.false_eq_true, Bool.true_eq_false, if_true, if_false, wipeR, ixN_lit, atI_lit, Option.bind_some, Nat.reduceLT, Nat.reduceLeDiff, ML.pos1, List.length_map, isT, List.map_cons, List.map_nil, List.length_cons, List.length_nil, List.cons_append, List.nil_append, List.append_nil, List.replicate, true_and, and_true, Nat.reduceSub, Nat.reduceAdd, Bool.not_true, Bool.not_false, decide_eq_true_eq, Bool.not_eq_true', decide_eq_false_iff_not, Int.reduceToNat, Int.reduceLT, Int.reduceLE, Int.reducePow, Int.reduceNeg, Bool.or_true, Bool.true_or, small_emod, small_lit, pow_10_18, and_self, addD, subD, mulD, modD, fdivD, negD, inD_ints, eqB_int, neB_int, ltB, leB, gtB, geB, isNB_none, notNB, isCB, ixD, lenD, absD, ML.intD, listD, tupD, slD, sl3, appD, metO, truD, ninD, inD_none (way_shaped h)]); repeat ((first | rw [then_nx] | rw [then_rt] | rw [then_bk] | rw [then_ct]); simp only [↓we_seq, ↓we_asg, ↓we_ret, ↓we_retN, ↓we_sIf, ↓we_drop, ↓we_nx, ↓we_brk, ↓we_cnt, ↓we_var, ↓we_C, ↓we_frz, ↓we_hold, ↓we_bin, ↓we_cmp, ↓we_un, ↓we_isi, ↓we_aNil, ↓we_aCons, ↓we_cb, ↓we_tup, ↓we_lst, ↓we_b, ↓we_tru, ↓we_and, ↓we_or, ↓we_not, ↓we_andV, ↓we_orV, ↓we_notV, ↓we_mIf, ↓we_chain, ↓we_set, ↓we_mgSub, ↓we_mgTup, ↓we_mgNil, ↓we_mgCons, ↓we_iR1, ↓we_iR2, ↓we_for, ↓we_mNo, ↓we_part, ↓we_sl, ↓we_ms, ↓we_met, ↓we_call_, ↓we_callIo_, ↓we_lc_, ↓we_iA, ↓we_yes, ↓we_par2, ↓we_par3, wo_some, wo_map, iaK_list, iaK_tuple, iaK_str, parK2_e, parK3_e, rd2, rd1, rd2B, rdN, rdAll, rd, hold, boolO, truO, intO, strO, frzO, retO, isIo_zero, isIo_succ, ioB_no, ioB_frz, ioB_own, ioB_io, le_line, lt_line, contAt, ML.putAt, Sl.cont, Sl.put, outsV, tupO, lstO, bo, noB, rtK_rt, rtK_nx, rtK1_rt, rtK1_nx, List.getElem?_cons_zero, List.getElem?_cons_succ, List.set_cons_zero, List.set_cons_succ, Option.map_some, Option.isSome_some, reduceIte, Bool.false_eq_true, Bool.true_eq_false, if_true, if_false, wipeR, ixN_lit, atI_lit, Option.bind_some, Nat.reduceLT, Nat.reduceLeDiff, ML.pos1, List.length_map, isT, List.map_cons, List.map_nil, List.length_cons, List.length_nil, List.cons_append, List.nil_append, List.append_nil, List.replicate, true_and, and_true, Nat.reduceSub, Nat.reduceAdd, Bool.not_true, Bool.not_false, decide_eq_true_eq, Bool.not_eq_true', decide_eq_false_iff_not, Int.reduceToNat, Int.reduceLT, Int.reduceLE, Int.reducePow, Int.reduceNeg, Bool.or_true, Bool.true_or, small_emod, small_lit, pow_10_18, and_self, addD, subD, mulD, modD, fdivD, negD, inD_ints, eqB_int, neB_int, ltB, leB, gtB, geB, isNB_none, notNB, isCB, ixD, lenD, absD, ML.intD, listD, tupD, slD, sl3, appD, metO, truD, ninD, inD_none (way_shaped h)]);
      cases hn : ds.any isNone with
      | true =>
        (try simp only [↓we_seq, ↓we_asg, ↓we_ret, ↓we_retN, ↓we_sIf, ↓we_drop, ↓we_nx, ↓we_brk, ↓we_cnt, ↓we_var, ↓we_C, ↓we_frz, ↓we_hold, ↓we_bin, ↓we_cmp, ↓we_un, ↓we_isi, ↓we_aNil, ↓we_aCons, ↓we_cb, ↓we_tup, ↓we_lst, ↓we_b, ↓we_tru, ↓we_and, ↓we_or, ↓we_not, ↓we_andV, ↓we_orV, ↓we_notV, ↓we_mIf, ↓we_chain, ↓we_set, ↓we_mgSub, ↓we_mgTup, ↓we_mgNil, ↓we_mgCons, ↓we_iR1, ↓we_iR2, ↓we_for, ↓we_mNo, ↓we_part, ↓we_sl, ↓we_ms, ↓we_met, ↓we_call_, ↓we_callIo_, ↓we_lc_, ↓we_iA, ↓we_yes, ↓we_par2, ↓we_par3, wo_some, wo_map, iaK_list, iaK_tuple, iaK_str, parK2_e, parK3_e, rd2, rd1, rd2B, rdN, rdAll, rd, hold, boolO, truO, intO, strO, frzO, retO, isIo_zero, isIo_succ, ioB_no, ioB_frz, ioB_own, ioB_io, le_line, lt_line, contAt, ML.putAt, Sl.cont, Sl.put, outsV, tupO, lstO, bo, noB, rtK_rt, rtK_nx, rtK1_rt, rtK1_nx, List.getElem?_cons_zero, List.getElem?_cons_succ, List.set_cons_zero, List.set_cons_succ, Option.map_some, Option.isSome_some, reduceIte, Bool.false_eq_true, Bool.true_eq_false, if_true, if_false, wipeR, ixN_lit, atI_lit, Option.bind_some, Nat.reduceLT, Nat.reduceLeDiff, ML.pos1, List.length_map, isT, List.map_cons, List.map_nil, List.length_cons, List.length_nil, List.cons_append, List.nil_append, List.append_nil, List.replicate, true_and, and_true, Nat.reduceSub, Nat.reduceAdd, Bool.not_true, Bool.not_false, decide_eq_true_eq, Bool.not_eq_true', decide_eq_false_iff_not, Int.reduceToNat, Int.reduceLT, Int.reduceLE, Int.reducePow, Int.reduceNeg, Bool.or_true, Bool.true_or, small_emod, small_lit, pow_10_18, and_self, addD, subD, mulD, modD, fdivD, negD, inD_ints, eqB_int, neB_int, ltB, leB, gtB, geB, isNB_none, notNB, isCB, ixD, lenD, absD, ML.intD, listD, tupD, slD, sl3, appD, metO, truD]); repeat ((first | rw [then_nx] | rw [then_rt] | rw [then_bk] | rw [then_ct]); simp only [↓we_seq, ↓we_asg, ↓we_ret, ↓we_retN, ↓we_sIf, ↓we_drop, ↓we_nx, ↓we_brk, ↓we_cnt, ↓we_var, ↓we_C, ↓we_frz, ↓we_hold, ↓we_bin, ↓we_cmp, ↓we_un, ↓we_isi, ↓we_aNil, ↓we_aCons, ↓we_cb, ↓we_tup, ↓we_lst, ↓we_b, ↓we_tru, ↓we_and, ↓we_or, ↓we_not, ↓we_andV, ↓we_orV, ↓we_notV, ↓we_mIf, ↓we_chain, ↓we_set, ↓we_mgSub, ↓we_mgTup, ↓we_mgNil, ↓we_mgCons, ↓we_iR1, ↓we_iR2, ↓we_for, ↓we_mNo, ↓we_part, ↓we_sl, ↓we_ms, ↓we_met, ↓we_call_, ↓we_callIo_, ↓we_lc_, ↓we_iA, ↓we_yes, ↓we_par2, ↓we_par3, wo_some, wo_map, iaK_list, iaK_tuple, iaK_str, parK2_e, parK3_e, rd2, rd1, rd2B, rdN, rdAll, rd, hold, boolO, truO, intO, strO, frzO, retO, isIo_zero, isIo_succ, ioB_no, ioB_frz, ioB_own, ioB_io, le_line, lt_line, contAt, ML.putAt, Sl.cont, Sl.put, outsV, tupO, lstO, bo, noB, rtK_rt, rtK_nx, rtK1_rt, rtK1_nx, List.getElem?_cons_zero, List.getElem?_cons_succ, List.set_cons_zero, List.set_cons_succ, Option.map_some, Option.isSome_some, reduceIte, Bool.false_eq_true, Bool.true_eq_false, if_true, if_false, wipeR, ixN_lit, atI_lit, Option.bind_some, Nat.reduceLT, Nat.reduceLeDiff, ML.pos1, List.length_map, isT, List.map_cons, List.map_nil, List.length_cons, List.length_nil, List.cons_append, List.nil_append, List.append_nil, List.replicate, true_and, and_true, Nat.reduceSub, Nat.reduceAdd, Bool.not_true, Bool.not_false, decide_eq_true_eq, Bool.not_eq_true', decide_eq_false_iff_not, Int.reduceToNat, Int.reduceLT, Int.reduceLE, Int.reducePow, Int.reduceNeg, Bool.or_true, Bool.true_or, small_emod, small_lit, pow_10_18, and_self, addD, subD, mulD, modD, fdivD, negD, inD_ints, eqB_int, neB_int, ltB, leB, gtB, geB, isNB_none, notNB, isCB, ixD, lenD, absD, ML.intD, listD, tupD, slD, sl3, appD, metO, truD])
        simp [isMap, way_vals, h, hn]
      | false =>
        have hv2 : isVals v (.tuple ds) = true := by rw [way_vals, h, hn]; rfl
        obtain ⟨i, es, e⟩ := vals_cons h0 hv2
        cases e
        (try simp only [↓we_seq, ↓we_asg, ↓we_ret, ↓we_retN, ↓we_sIf, ↓we_drop, ↓we_nx, ↓we_brk, ↓we_cnt, ↓we_var, ↓we_C, ↓we_frz, ↓we_hold, ↓we_bin, ↓we_cmp, ↓we_un, ↓we_isi, ↓we_aNil, ↓we_aCons, ↓we_cb, ↓we_tup, ↓we_lst, ↓we_b, ↓we_tru, ↓we_and, ↓we_or, ↓we_not, ↓we_andV, ↓we_orV, ↓we_notV, ↓we_mIf, ↓we_chain, ↓we_set, ↓we_mgSub, ↓we_mgTup, ↓we_mgNil, ↓we_mgCons, ↓we_iR1, ↓we_iR2, ↓we_for, ↓we_mNo, ↓we_part, ↓we_sl, ↓we_ms, ↓we_met, ↓we_call_, ↓we_callIo_, ↓we_lc_, ↓we_iA, ↓we_yes, ↓we_par2, ↓we_par3, wo_some, wo_map, iaK_list, iaK_tuple, iaK_str, parK2_e, parK3_e, rd2, rd1, rd2B, rdN, rdAll, rd, hold, boolO, truO, intO, strO, frzO, retO, isIo_zero, isIo_succ, ioB_no, ioB_frz, ioB_own, ioB_io, le_line, lt_line, contAt, ML.putAt, Sl.cont, Sl.put, outsV, tupO, lstO, bo, noB, rtK_rt, rtK_nx, rtK1_rt, rtK1_nx, List.getElem?_cons_zero, List.getElem?_cons_succ, List.set_cons_zero, List.set_cons_succ, Option.map_some, Option.isSome_some, reduceIte, Bool.false_eq_true, Bool.true_eq_false, if_true, if_false, wipeR, ixN_lit, atI_lit, Option.bind_some, Nat.reduceLT, Nat.reduceLeDiff, ML.pos1, List.length_map, isT, List.map_cons, List.map_nil, List.length_cons, List.length_nil, List.cons_append, List.nil_append, List.append_nil, List.replicate, true_and, and_true, Nat.reduceSub, Nat.reduceAdd, Bool.not_true, Bool.not_false, decide_eq_true_eq, Bool.not_eq_true', decide_eq_false_iff_not, Int.reduceToNat, Int.reduceLT, Int.reduceLE, Int.reducePow, Int.reduceNeg, Bool.or_true, Bool.true_or, small_emod, small_lit, pow_10_18, and_self, addD, subD, mulD, modD, fdivD, negD, inD_ints, eqB_int, neB_int, ltB, leB, gtB, geB, isNB_none, notNB, isCB, ixD, lenD, absD, ML.intD, listD, tupD, slD, sl3, appD, metO, truD]); repeat ((first | rw [then_nx] | rw [then_rt] | rw [then_bk] | rw [then_ct]); simp only [↓we_seq, ↓we_asg, ↓we_ret, ↓we_retN, ↓we_sIf, ↓we_drop, ↓we_nx, ↓we_brk, ↓we_cnt, ↓we_var, ↓we_C, ↓we_frz, ↓we_hold, ↓we_bin, ↓we_cmp, ↓we_un, ↓we_isi, ↓we_aNil, ↓we_aCons, ↓we_cb, ↓we_tup, ↓we_lst, ↓we_b, ↓we_tru, ↓we_and, ↓we_or, ↓we_not, ↓we_andV, ↓we_orV, ↓we_notV, ↓we_mIf, ↓we_chain, ↓we_set, ↓we_mgSub, ↓we_mgTup, ↓we_mgNil, ↓we_mgCons, ↓we_iR1, ↓we_iR2, ↓we_for, ↓we_mNo, ↓we_part, ↓we_sl, ↓we_ms, ↓we_met, ↓we_call_, ↓we_callIo_, ↓we_lc_, ↓we_iA, ↓we_yes, ↓we_par2, ↓we_par3, wo_some, wo_map, iaK_list, iaK_tuple, iaK_str, parK2_e, parK3_e, rd2, rd1, rd2B, rdN, rdAll, rd, hold, boolO, truO, intO, strO, frzO, retO, isIo_zero, isIo_succ, ioB_no, ioB_frz, ioB_own, ioB_io, le_line, lt_line, contAt, ML.putAt, Sl.cont, Sl.put, outsV, tupO, lstO, bo, noB, rtK_rt, rtK_nx, rtK1_rt, rtK1_nx, List.getElem?_cons_zero, List.getElem?_cons_succ, List.set_cons_zero, List.set_cons_succ, Option.map_some, Option.isSome_some, reduceIte, Bool.false_eq_true, Bool.true_eq_false, if_true, if_false, wipeR, ixN_lit, atI_lit, Option.bind_some, Nat.reduceLT, Nat.reduceLeDiff, ML.pos1, List.length_map, isT, List.map_cons, List.map_nil, List.length_cons, List.length_nil, List.cons_append, List.nil_append, List.append_nil, List.replicate, true_and, and_true, Nat.reduceSub, Nat.reduceAdd, Bool.not_true, Bool.not_false, decide_eq_true_eq, Bool.not_eq_true', decide_eq_false_iff_not, Int.reduceToNat, Int.reduceLT, Int.reduceLE, Int.reducePow, Int.reduceNeg, Bool.or_true, Bool.true_or, small_emod, small_lit, pow_10_18, and_self, addD, subD, mulD, modD, fdivD, negD, inD_ints, eqB_int, neB_int, ltB, leB, gtB, geB, isNB_none, notNB, isCB, ixD, lenD, absD, ML.intD, listD, tupD, slD, sl3, appD, metO, truD])
        simp [isMap, hv2, hd0]
    | _ => cases h
theorem isTab_tup {v : Int} {ds : List D} : isTab v (.tuple ds) = (decide ((ds.length : Int) = v) && (ds.all (isVals v) && hd00 (.tuple ds))) := rfl
theorem table_ok (d : D) (v : Int) (h0 : 0 < v) (hv : v ≤ 16777216) : F0 m_is_table [.int v, d] (fun r => r = .v (.bool (isTab v d))) := by
  refine F0.def_ ?_
  cases d with
  | tuple ds =>
    (try simp only [↓we_seq, ↓we_asg, ↓we_ret, ↓we_retN, ↓we_sIf, ↓we_drop, ↓we_nx, ↓we_brk, ↓we_cnt, ↓we_var, ↓we_C, ↓we_frz, ↓we_hold, ↓we_bin, ↓we_cmp, ↓we_un, ↓we_isi, ↓we_aNil, ↓we_aCons, ↓we_cb, ↓we_tup, ↓we_lst, ↓we_b, ↓we_tru, ↓we_and, ↓we_or, ↓we_not, ↓we_andV, ↓we_orV, ↓we_notV, ↓we_mIf, ↓we_chain, ↓we_set, ↓we_mgSub, ↓we_mgTup, ↓we_mgNil, ↓we_mgCons, ↓we_iR1, ↓we_iR2, ↓we_for, ↓we_mNo, ↓we_part, ↓we_sl, ↓we_ms, ↓we_met, ↓we_call_, ↓we_callIo_, ↓we_lc_, ↓we_iA, ↓we_yes, ↓we_par2, ↓we_par3, wo_some, wo_map, iaK_list, iaK_tuple, iaK_str, parK2_e, parK3_e, rd2, rd1, rd2B, rdN, rdAll, rd, hold, boolO, truO, intO, strO, frzO, retO, isIo_zero, isIo_succ, ioB_no, ioB_frz, ioB_own, ioB_io, le_line, lt_line, contAt, ML.putAt, Sl.cont, Sl.put, outsV, tupO, lstO, bo, noB, rtK_rt, rtK_nx, rtK1_rt, rtK1_nx, List.getElem?_cons_zero, List.getElem?_cons_succ, List.set_cons_zero, List.set_cons_succ, Option.map_some, Option.isSome_some, reduceIte, Bool.false_eq_true, Bool.true_eq_false, if_true, if_false, wipeR, ixN_lit, atI_lit, Option.bind_some, Nat.reduceLT, Nat.reduceLeDiff, ML.pos1, List.length_map, isT, List.map_cons, List.map_nil, List.length_cons, List.length_nil, List.cons_append, List.nil_append, List.append_nil, List.replicate, true_and, and_true, Nat.reduceSub, Nat.reduceAdd, Bool.not_true, Bool.not_false, decide_eq_true_eq, Bool.not_eq_true', decide_eq_false_iff_not, Int.reduceToNat, Int.reduceLT, Int.reduceLE, Int.reducePow, Int.reduceNeg, Bool.or_true, Bool.true_or, small_emod, small_lit, pow_10_18, and_self, addD, subD, mulD, modD, fdivD, negD, inD_ints, eqB_int, neB_int, ltB, leB, gtB, geB, isNB_none, notNB, isCB, ixD, lenD, absD, ML.intD, listD, tupD, slD, sl3, appD, metO, truD]); repeat ((first | rw [then_nx] | rw [then_rt] | rw [then_bk] | rw [then_ct]); simp only [↓we_seq, ↓we_asg, ↓we_ret, ↓we_retN, ↓we_sIf, ↓we_drop, ↓we_nx, ↓we_brk, ↓we_cnt, ↓we_var, ↓we_C, ↓we_frz, ↓we_hold, ↓we_bin, ↓we_cmp, ↓we_un, ↓we_isi, ↓we_aNil, ↓we_aCons, ↓we_cb, ↓we_tup, ↓we_lst, ↓we_b, ↓we_tru, ↓we_and, ↓we_or, ↓we_not, ↓we_andV, ↓we_orV, ↓we_notV, ↓we_mIf, ↓we_chain, ↓we_set, ↓we_mgSub, ↓we_mgTup, ↓we_mgNil, ↓we_mgCons, ↓we_iR1, ↓we_iR2, ↓we_for, ↓we_mNo, ↓we_part, ↓we_sl, ↓we_ms, ↓we_met, ↓we_call_, ↓we_callIo_, ↓we_lc_, ↓we_iA, ↓we_yes, ↓we_par2, ↓we_par3, wo_some, wo_map, iaK_list, iaK_tuple, iaK_str, parK2_e, parK3_e, rd2, rd1, rd2B, rdN, rdAll, rd, hold, boolO, truO, intO, strO, frzO, retO, isIo_zero, isIo_succ, ioB_no, ioB_frz, ioB_own, ioB_io, le_line, lt_line, contAt, ML.putAt, Sl.cont, Sl.put, outsV, tupO, lstO, bo, noB, rtK_rt, rtK_nx, rtK1_rt, rtK1_nx, List.getElem?_cons_zero, List.getElem?_cons_succ, List.set_cons_zero, List.set_cons_succ, Option.map_some, Option.isSome_some, reduceIte, Bool.false_eq_true, Bool.true_eq_false, if_true, if_false, wipeR, ixN_lit, atI_lit, Option.bind_some, Nat.reduceLT, Nat.reduceLeDiff, ML.pos1, List.length_map, isT, List.map_cons, List.map_nil, List.length_cons, List.length_nil, List.cons_append, List.nil_append, List.append_nil, List.replicate, true_and, and_true, Nat.reduceSub, Nat.reduceAdd, Bool.not_true, Bool.not_false, decide_eq_true_eq, Bool.not_eq_true', decide_eq_false_iff_not, Int.reduceToNat, Int.reduceLT, Int.reduceLE, Int.reducePow, Int.reduceNeg, Bool.or_true, Bool.true_or, small_emod, small_lit, pow_10_18, and_self, addD, subD, mulD, modD, fdivD, negD, inD_ints, eqB_int, neB_int, ltB, leB, gtB, geB, isNB_none, notNB, isCB, ixD, lenD, absD, ML.intD, listD, tupD, slD, sl3, appD, metO, truD])
    split
    · rename_i hl
      simp [isTab, hl]
    · rename_i hl
      refine wo_lcF (fun x => .bool (isVals v x)) (fun d m => ?_) (by rw [le_line]; omega) ?_
      · (try simp only [↓we_seq, ↓we_asg, ↓we_ret, ↓we_retN, ↓we_sIf, ↓we_drop, ↓we_nx, ↓we_brk, ↓we_cnt, ↓we_var, ↓we_C, ↓we_frz, ↓we_hold, ↓we_bin, ↓we_cmp, ↓we_un, ↓we_isi, ↓we_aNil, ↓we_aCons, ↓we_cb, ↓we_tup, ↓we_lst, ↓we_b, ↓we_tru, ↓we_and, ↓we_or, ↓we_not, ↓we_andV, ↓we_orV, ↓we_notV, ↓we_mIf, ↓we_chain, ↓we_set, ↓we_mgSub, ↓we_mgTup, ↓we_mgNil, ↓we_mgCons, ↓we_iR1, ↓we_iR2, ↓we_for, ↓we_mNo, ↓we_part, ↓we_sl, ↓we_ms, ↓we_met, ↓we_call_, ↓we_callIo_, ↓we_lc_, ↓we_iA, ↓we_yes, ↓we_par2, ↓we_par3, wo_some, wo_map, iaK_list, iaK_tuple, iaK_str, parK2_e, parK3_e, rd2, rd1, rd2B, rdN, rdAll, rd, hold, boolO, truO, intO, strO, frzO, retO, isIo_zero, isIo_succ, ioB_no, ioB_frz, ioB_own, ioB_io, le_line, lt_line, contAt, ML.putAt, Sl.cont, Sl.put, outsV, tupO, lstO, bo, noB, rtK_rt, rtK_nx, rtK1_rt, rtK1_nx, List.getElem?_cons_zero, List.getElem?_cons_succ, List.set_cons_zero, List.set_cons_succ, Option.map_some, Option.isSome_some, reduceIte, Bool.false_eq_true, Bool.true_eq_false, if_true, if_false, wipeR, ixN_lit, atI_lit, Option.bind_some, Nat.reduceLT, Nat.reduceLeDiff, ML.pos1, List.length_map, isT, List.map_cons, List.map_nil, List.length_cons, List.length_nil, List.cons_append, List.nil_append, List.append_nil, List.replicate, true_and, and_true, Nat.reduceSub, Nat.reduceAdd, Bool.not_true, Bool.not_false, decide_eq_true_eq, Bool.not_eq_true', decide_eq_false_iff_not, Int.reduceToNat, Int.reduceLT, Int.reduceLE, Int.reducePow, Int.reduceNeg, Bool.or_true, Bool.true_or, small_emod, small_lit, pow_10_18, and_self, addD, subD, mulD, modD, fdivD, negD, inD_ints, eqB_int, neB_int, ltB, leB, gtB, geB, isNB_none, notNB, isCB, ixD, lenD, absD, ML.intD, listD, tupD, slD, sl3, appD, metO, truD, compK]); repeat ((first | rw [then_nx] | rw [then_rt] | rw [then_bk] | rw [then_ct]); simp only [↓we_seq, ↓we_asg, ↓we_ret, ↓we_retN, ↓we_sIf, ↓we_drop, ↓we_nx, ↓we_brk, ↓we_cnt, ↓we_var, ↓we_C, ↓we_frz, ↓we_hold, ↓we_bin, ↓we_cmp, ↓we_un, ↓we_isi, ↓we_aNil, ↓we_aCons, ↓we_cb, ↓we_tup, ↓we_lst, ↓we_b, ↓we_tru, ↓we_and, ↓we_or, ↓we_not, ↓we_andV, ↓we_orV, ↓we_notV, ↓we_mIf, ↓we_chain, ↓we_set, ↓we_mgSub, ↓we_mgTup, ↓we_mgNil, ↓we_mgCons, ↓we_iR1, ↓we_iR2, ↓we_for, ↓we_mNo, ↓we_part, ↓we_sl, ↓we_ms, ↓we_met, ↓we_call_, ↓we_callIo_, ↓we_lc_, ↓we_iA, ↓we_yes, ↓we_par2, ↓we_par3, wo_some, wo_map, iaK_list, iaK_tuple, iaK_str, parK2_e, parK3_e, rd2, rd1, rd2B, rdN, rdAll, rd, hold, boolO, truO, intO, strO, frzO, retO, isIo_zero, isIo_succ, ioB_no, ioB_frz, ioB_own, ioB_io, le_line, lt_line, contAt, ML.putAt, Sl.cont, Sl.put, outsV, tupO, lstO, bo, noB, rtK_rt, rtK_nx, rtK1_rt, rtK1_nx, List.getElem?_cons_zero, List.getElem?_cons_succ, List.set_cons_zero, List.set_cons_succ, Option.map_some, Option.isSome_some, reduceIte, Bool.false_eq_true, Bool.true_eq_false, if_true, if_false, wipeR, ixN_lit, atI_lit, Option.bind_some, Nat.reduceLT, Nat.reduceLeDiff, ML.pos1, List.length_map, isT, List.map_cons, List.map_nil, List.length_cons, List.length_nil, List.cons_append, List.nil_append, List.append_nil, List.replicate, true_and, and_true, Nat.reduceSub, Nat.reduceAdd, Bool.not_true, Bool.not_false, decide_eq_true_eq, Bool.not_eq_true', decide_eq_false_iff_not, Int.reduceToNat, Int.reduceLT, Int.reduceLE, Int.reducePow, Int.reduceNeg, Bool.or_true, Bool.true_or, small_emod, small_lit, pow_10_18, and_self, addD, subD, mulD, modD, fdivD, negD, inD_ints, eqB_int, neB_int, ltB, leB, gtB, geB, isNB_none, notNB, isCB, ixD, lenD, absD, ML.intD, listD, tupD, slD, sl3, appD, metO, truD, compK]);
        refine we_call (vals_ok d v hv) rfl ?_
        rintro r - rfl
        (try simp only [↓we_seq, ↓we_asg, ↓we_ret, ↓we_retN, ↓we_sIf, ↓we_drop, ↓we_nx, ↓we_brk, ↓we_cnt, ↓we_var, ↓we_C, ↓we_frz, ↓we_hold, ↓we_bin, ↓we_cmp, ↓we_un, ↓we_isi, ↓we_aNil, ↓we_aCons, ↓we_cb, ↓we_tup, ↓we_lst, ↓we_b, ↓we_tru, ↓we_and, ↓we_or, ↓we_not, ↓we_andV, ↓we_orV, ↓we_notV, ↓we_mIf, ↓we_chain, ↓we_set, ↓we_mgSub, ↓we_mgTup, ↓we_mgNil, ↓we_mgCons, ↓we_iR1, ↓we_iR2, ↓we_for, ↓we_mNo, ↓we_part, ↓we_sl, ↓we_ms, ↓we_met, ↓we_call_, ↓we_callIo_, ↓we_lc_, ↓we_iA, ↓we_yes, ↓we_par2, ↓we_par3, wo_some, wo_map, iaK_list, iaK_tuple, iaK_str, parK2_e, parK3_e, rd2, rd1, rd2B, rdN, rdAll, rd, hold, boolO, truO, intO, strO, frzO, retO, isIo_zero, isIo_succ, ioB_no, ioB_frz, ioB_own, ioB_io, le_line, lt_line, contAt, ML.putAt, Sl.cont, Sl.put, outsV, tupO, lstO, bo, noB, rtK_rt, rtK_nx, rtK1_rt, rtK1_nx, List.getElem?_cons_zero, List.getElem?_cons_succ, List.set_cons_zero, List.set_cons_succ, Option.map_some, Option.isSome_some, reduceIte, Bool.false_eq_true, Bool.true_eq_false, if_true, if_false, wipeR, ixN_lit, atI_lit, Option.bind_some, Nat.reduceLT, Nat.reduceLeDiff, ML.pos1, List.length_map, isT, List.map_cons, List.map_nil, List.length_cons, List.length_nil, List.cons_append, List.nil_append, List.append_nil, List.replicate, true_and, and_true, Nat.reduceSub, Nat.reduceAdd, Bool.not_true, Bool.not_false, decide_eq_true_eq, Bool.not_eq_true', decide_eq_false_iff_not, Int.reduceToNat, Int.reduceLT, Int.reduceLE, Int.reducePow, Int.reduceNeg, Bool.or_true, Bool.true_or, small_emod, small_lit, pow_10_18, and_self, addD, subD, mulD, modD, fdivD, negD, inD_ints, eqB_int, neB_int, ltB, leB, gtB, geB, isNB_none, notNB, isCB, ixD, lenD, absD, ML.intD, listD, tupD, slD, sl3, appD, metO, truD]); repeat ((first | rw [then_nx] | rw [then_rt] | rw [then_bk] | rw [then_ct]); simp only [↓we_seq, ↓we_asg, ↓we_ret, ↓we_retN, ↓we_sIf, ↓we_drop, ↓we_nx, ↓we_brk, ↓we_cnt, ↓we_var, ↓we_C, ↓we_frz, ↓we_hold, ↓we_bin, ↓we_cmp, ↓we_un, ↓we_isi, ↓we_aNil, ↓we_aCons, ↓we_cb, ↓we_tup, ↓we_lst, ↓we_b, ↓we_tru, ↓we_and, ↓we_or, ↓we_not, ↓we_andV, ↓we_orV, ↓we_notV, ↓we_mIf, ↓we_chain, ↓we_set, ↓we_mgSub, ↓we_mgTup, ↓we_mgNil, ↓we_mgCons, ↓we_iR1, ↓we_iR2, ↓we_for, ↓we_mNo, ↓we_part, ↓we_sl, ↓we_ms, ↓we_met, ↓we_call_, ↓we_callIo_, ↓we_lc_, ↓we_iA, ↓we_yes, ↓we_par2, ↓we_par3, wo_some, wo_map, iaK_list, iaK_tuple, iaK_str, parK2_e, parK3_e, rd2, rd1, rd2B, rdN, rdAll, rd, hold, boolO, truO, intO, strO, frzO, retO, isIo_zero, isIo_succ, ioB_no, ioB_frz, ioB_own, ioB_io, le_line, lt_line, contAt, ML.putAt, Sl.cont, Sl.put, outsV, tupO, lstO, bo, noB, rtK_rt, rtK_nx, rtK1_rt, rtK1_nx, List.getElem?_cons_zero, List.getElem?_cons_succ, List.set_cons_zero, List.set_cons_succ, Option.map_some, Option.isSome_some, reduceIte, Bool.false_eq_true, Bool.true_eq_false, if_true, if_false, wipeR, ixN_lit, atI_lit, Option.bind_some, Nat.reduceLT, Nat.reduceLeDiff, ML.pos1, List.length_map, isT, List.map_cons, List.map_nil, List.length_cons, List.length_nil, List.cons_append, List.nil_append, List.append_nil, List.replicate, true_and, and_true, Nat.reduceSub, Nat.reduceAdd, Bool.not_true, Bool.not_false, decide_eq_true_eq, Bool.not_eq_true', decide_eq_false_iff_not, Int.reduceToNat, Int.reduceLT, Int.reduceLE, Int.reducePow, Int.reduceNeg, Bool.or_true, Bool.true_or, small_emod, small_lit, pow_10_18, and_self, addD, subD, mulD, modD, fdivD, negD, inD_ints, eqB_int, neB_int, ltB, leB, gtB, geB, isNB_none, notNB, isCB, ixD, lenD, absD, ML.intD, listD, tupD, slD, sl3, appD, metO, truD])
      · (try simp only [↓we_seq, ↓we_asg, ↓we_ret, ↓we_retN, ↓we_sIf, ↓we_drop, ↓we_nx, ↓we_brk, ↓we_cnt, ↓we_var, ↓we_C, ↓we_frz, ↓we_hold, ↓we_bin, ↓we_cmp, ↓we_un, ↓we_isi, ↓we_aNil, ↓we_aCons, ↓we_cb, ↓we_tup, ↓we_lst, ↓we_b, ↓we_tru, ↓we_and, ↓we_or, ↓we_not, ↓we_andV, ↓we_orV, ↓we_notV, ↓we_mIf, ↓we_chain, ↓we_set, ↓we_mgSub, ↓we_mgTup, ↓we_mgNil, ↓we_mgCons, ↓we_iR1, ↓we_iR2, ↓we_for, ↓we_mNo, ↓we_part, ↓we_sl, ↓we_ms, ↓we_met, ↓we_call_, ↓we_callIo_, ↓we_lc_, ↓we_iA, ↓we_yes, ↓we_par2, ↓we_par3, wo_some, wo_map, iaK_list, iaK_tuple, iaK_str, parK2_e, parK3_e, rd2, rd1, rd2B, rdN, rdAll, rd, hold, boolO, truO, intO, strO, frzO, retO, isIo_zero, isIo_succ, ioB_no, ioB_frz, ioB_own, ioB_io, le_line, lt_line, contAt, ML.putAt, Sl.cont, Sl.put, outsV, tupO, lstO, bo, noB, rtK_rt, rtK_nx, rtK1_rt, rtK1_nx, List.getElem?_cons_zero, List.getElem?_cons_succ, List.set_cons_zero, List.set_cons_succ, Option.map_some, Option.isSome_some, reduceIte, Bool.false_eq_true, Bool.true_eq_false, if_true, if_false, wipeR, ixN_lit, atI_lit, Option.bind_some, Nat.reduceLT, Nat.reduceLeDiff, ML.pos1, List.length_map, isT, List.map_cons, List.map_nil, List.length_cons, List.length_nil, List.cons_append, List.nil_append, List.append_nil, List.replicate, true_and, and_true, Nat.reduceSub, Nat.reduceAdd, Bool.not_true, Bool.not_false, decide_eq_true_eq, Bool.not_eq_true', decide_eq_false_iff_not, Int.reduceToNat, Int.reduceLT, Int.reduceLE, Int.reducePow, Int.reduceNeg, Bool.or_true, Bool.true_or, small_emod, small_lit, pow_10_18, and_self, addD, subD, mulD, modD, fdivD, negD, inD_ints, eqB_int, neB_int, ltB, leB, gtB, geB, isNB_none, notNB, isCB, ixD, lenD, absD, ML.intD, listD, tupD, slD, sl3, appD, metO, truD, all_map]); repeat ((first | rw [then_nx] | rw [then_rt] | rw [then_bk] | rw [then_ct]); simp only [↓we_seq, ↓we_asg, ↓we_ret, ↓we_retN, ↓we_sIf, ↓we_drop, ↓we_nx, ↓we_brk, ↓we_cnt, ↓we_var, ↓we_C, ↓we_frz, ↓we_hold, ↓we_bin, ↓we_cmp, ↓we_un, ↓we_isi, ↓we_aNil, ↓we_aCons, ↓we_cb, ↓we_tup, ↓we_lst, ↓we_b, ↓we_tru, ↓we_and, ↓we_or, ↓we_not, ↓we_andV, ↓we_orV, ↓we_notV, ↓we_mIf, ↓we_chain, ↓we_set, ↓we_mgSub, ↓we_mgTup, ↓we_mgNil, ↓we_mgCons, ↓we_iR1, ↓we_iR2, ↓we_for, ↓we_mNo, ↓we_part, ↓we_sl, ↓we_ms, ↓we_met, ↓we_call_, ↓we_callIo_, ↓we_lc_, ↓we_iA, ↓we_yes, ↓we_par2, ↓we_par3, wo_some, wo_map, iaK_list, iaK_tuple, iaK_str, parK2_e, parK3_e, rd2, rd1, rd2B, rdN, rdAll, rd, hold, boolO, truO, intO, strO, frzO, retO, isIo_zero, isIo_succ, ioB_no, ioB_frz, ioB_own, ioB_io, le_line, lt_line, contAt, ML.putAt, Sl.cont, Sl.put, outsV, tupO, lstO, bo, noB, rtK_rt, rtK_nx, rtK1_rt, rtK1_nx, List.getElem?_cons_zero, List.getElem?_cons_succ, List.set_cons_zero, List.set_cons_succ, Option.map_some, Option.isSome_some, reduceIte, Bool.false_eq_true, Bool.true_eq_false, if_true, if_false, wipeR, ixN_lit, atI_lit, Option.bind_some, Nat.reduceLT, Nat.reduceLeDiff, ML.pos1, List.length_map, isT, List.map_cons, List.map_nil, List.length_cons, List.length_nil, List.cons_append, List.nil_append, List.append_nil, List.replicate, true_and, and_true, Nat.reduceSub, Nat.reduceAdd, Bool.not_true, Bool.not_false, decide_eq_true_eq, Bool.not_eq_true', decide_eq_false_iff_not, Int.reduceToNat, Int.reduceLT, Int.reduceLE, Int.reducePow, Int.reduceNeg, Bool.or_true, Bool.true_or, small_emod, small_lit, pow_10_18, and_self, addD, subD, mulD, modD, fdivD, negD, inD_ints, eqB_int, neB_int, ltB, leB, gtB, geB, isNB_none, notNB, isCB, ixD, lenD, absD, ML.intD, listD, tupD, slD, sl3, appD, metO, truD, all_map]);
        have hl' : (ds.length : Int) = v := by omega
        cases ha : ds.all (isVals v) with
        | false =>
          (try simp only [↓we_seq, ↓we_asg, ↓we_ret, ↓we_retN, ↓we_sIf, ↓we_drop, ↓we_nx, ↓we_brk, ↓we_cnt, ↓we_var, ↓we_C, ↓we_frz, ↓we_hold, ↓we_bin, ↓we_cmp, ↓we_un, ↓we_isi, ↓we_aNil, ↓we_aCons, ↓we_cb, ↓we_tup, ↓we_lst, ↓we_b, ↓we_tru, ↓we_and, ↓we_or, ↓we_not, ↓we_andV, ↓we_orV, ↓we_notV, ↓we_mIf, ↓we_chain, ↓we_set, ↓we_mgSub, ↓we_mgTup, ↓we_mgNil, ↓we_mgCons, ↓we_iR1, ↓we_iR2, ↓we_for, ↓we_mNo, ↓we_part, ↓we_sl, ↓we_ms, ↓we_met, ↓we_call_, ↓we_callIo_, ↓we_lc_, ↓we_iA, ↓we_yes, ↓we_par2, ↓we_par3, wo_some, wo_map, iaK_list, iaK_tuple, iaK_str, parK2_e, parK3_e, rd2, rd1, rd2B, rdN, rdAll, rd, hold, boolO, truO, intO, strO, frzO, retO, isIo_zero, isIo_succ, ioB_no, ioB_frz, ioB_own, ioB_io, le_line, lt_line, contAt, ML.putAt, Sl.cont, Sl.put, outsV, tupO, lstO, bo, noB, rtK_rt, rtK_nx, rtK1_rt, rtK1_nx, List.getElem?_cons_zero, List.getElem?_cons_succ, List.set_cons_zero, List.set_cons_succ, Option.map_some, Option.isSome_some, reduceIte, Bool.false_eq_true, Bool.true_eq_false, if_true, if_false, wipeR, ixN_lit, atI_lit, Option.bind_some, Nat.reduceLT, Nat.reduceLeDiff, ML.pos1, List.length_map, isT, List.map_cons, List.map_nil, List.length_cons, List.length_nil, List.cons_append, List.nil_append, List.append_nil, List.replicate, true_and, and_true, Nat.reduceSub, Nat.reduceAdd, Bool.not_true, Bool.not_false, decide_eq_true_eq, Bool.not_eq_true', decide_eq_false_iff_not, Int.reduceToNat, Int.reduceLT, Int.reduceLE, Int.reducePow, Int.reduceNeg, Bool.or_true, Bool.true_or, small_emod, small_lit, pow_10_18, and_self, addD, subD, mulD, modD, fdivD, negD, inD_ints, eqB_int, neB_int, ltB, leB, gtB, geB, isNB_none, notNB, isCB, ixD, lenD, absD, ML.intD, listD, tupD, slD, sl3, appD, metO, truD]); repeat ((first | rw [then_nx] | rw [then_rt] | rw [then_bk] | rw [then_ct]); simp only [↓we_seq, ↓we_asg, ↓we_ret, ↓we_retN, ↓we_sIf, ↓we_drop, ↓we_nx, ↓we_brk, ↓we_cnt, ↓we_var, ↓we_C, ↓we_frz, ↓we_hold, ↓we_bin, ↓we_cmp, ↓we_un, ↓we_isi, ↓we_aNil, ↓we_aCons, ↓we_cb, ↓we_tup, ↓we_lst, ↓we_b, ↓we_tru, ↓we_and, ↓we_or, ↓we_not, ↓we_andV, ↓we_orV, ↓we_notV, ↓we_mIf, ↓we_chain, ↓we_set, ↓we_mgSub, ↓we_mgTup, ↓we_mgNil, ↓we_mgCons, ↓we_iR1, ↓we_iR2, ↓we_for, ↓we_mNo, ↓we_part, ↓we_sl, ↓we_ms, ↓we_met, ↓we_call_, ↓we_callIo_, ↓we_lc_, ↓we_iA, ↓we_yes, ↓we_par2, ↓we_par3, wo_some, wo_map, iaK_list, iaK_tuple, iaK_str, parK2_e, parK3_e, rd2, rd1, rd2B, rdN, rdAll, rd, hold, boolO, truO, intO, strO, frzO, retO, isIo_zero, isIo_succ, ioB_no, ioB_frz, ioB_own, ioB_io, le_line, lt_line, contAt, ML.putAt, Sl.cont, Sl.put, outsV, tupO, lstO, bo, noB, rtK_rt, rtK_nx, rtK1_rt, rtK1_nx, List.getElem?_cons_zero, List.getElem?_cons_succ, List.set_cons_zero, List.set_cons_succ, Option.map_some, Option.isSome_some, reduceIte, Bool.false_eq_true, Bool.true_eq_false, if_true, if_false, wipeR, ixN_lit, atI_lit, Option.bind_some, Nat.reduceLT, Nat.reduceLeDiff, ML.pos1, List.length_map, isT, List.map_cons, List.map_nil, List.length_cons, List.length_nil, List.cons_append, List.nil_append, List.append_nil, List.replicate, true_and, and_true, Nat.reduceSub, Nat.reduceAdd, Bool.not_true, Bool.not_false, decide_eq_true_eq, Bool.not_eq_true', decide_eq_false_iff_not, Int.reduceToNat, Int.reduceLT, Int.reduceLE, Int.reducePow, Int.reduceNeg, Bool.or_true, Bool.true_or, small_emod, small_lit, pow_10_18, and_self, addD, subD, mulD, modD, fdivD, negD, inD_ints, eqB_int, neB_int, ltB, leB, gtB, geB, isNB_none, notNB, isCB, ixD, lenD, absD, ML.intD, listD, tupD, slD, sl3, appD, metO, truD])
          simp [isTab, ha]
        | true =>
          cases ds with
          | nil => simp at hl'; omega
          | cons x xs =>
            have hx : isVals v x = true := by
              rw [List.all_cons, Bool.and_eq_true] at ha
              exact ha.1
            obtain ⟨i, es, rfl⟩ := vals_cons h0 hx
            (try simp only [↓we_seq, ↓we_asg, ↓we_ret, ↓we_retN, ↓we_sIf, ↓we_drop, ↓we_nx, ↓we_brk, ↓we_cnt, ↓we_var, ↓we_C, ↓we_frz, ↓we_hold, ↓we_bin, ↓we_cmp, ↓we_un, ↓we_isi, ↓we_aNil, ↓we_aCons, ↓we_cb, ↓we_tup, ↓we_lst, ↓we_b, ↓we_tru, ↓we_and, ↓we_or, ↓we_not, ↓we_andV, ↓we_orV, ↓we_notV, ↓we_mIf, ↓we_chain, ↓we_set, ↓we_mgSub, ↓we_mgTup, ↓we_mgNil, ↓we_mgCons, ↓we_iR1, ↓we_iR2, ↓we_for, ↓we_mNo, ↓we_part, ↓we_sl, ↓we_ms, ↓we_met, ↓we_call_, ↓we_callIo_, ↓we_lc_, ↓we_iA, ↓we_yes, ↓we_par2, ↓we_par3, wo_some, wo_map, iaK_list, iaK_tuple, iaK_str, parK2_e, parK3_e, rd2, rd1, rd2B, rdN, rdAll, rd, hold, boolO, truO, intO, strO, frzO, retO, isIo_zero, isIo_succ, ioB_no, ioB_frz, ioB_own, ioB_io, le_line, lt_line, contAt, ML.putAt, Sl.cont, Sl.put, outsV, tupO, lstO, bo, noB, rtK_rt, rtK_nx, rtK1_rt, rtK1_nx, List.getElem?_cons_zero, List.getElem?_cons_succ, List.set_cons_zero, List.set_cons_succ, Option.map_some, Option.isSome_some, reduceIte, Bool.false_eq_true, Bool.true_eq_false, if_true, if_false, wipeR, ixN_lit, atI_lit, Option.bind_some, Nat.reduceLT, Nat.reduceLeDiff, ML.pos1, List.length_map, isT, List.map_cons, List.map_nil, List.length_cons, List.length_nil, List.cons_append, List.nil_append, List.append_nil, List.replicate, true_and, and_true, Nat.reduceSub, Nat.reduceAdd, Bool.not_true, Bool.not_false, decide_eq_true_eq, Bool.not_eq_true', decide_eq_false_iff_not, Int.reduceToNat, Int.reduceLT, Int.reduceLE, Int.reducePow, Int.reduceNeg, Bool.or_true, Bool.true_or, small_emod, small_lit, pow_10_18, and_self, addD, subD, mulD, modD, fdivD, negD, inD_ints, eqB_int, neB_int, ltB, leB, gtB, geB, isNB_none, notNB, isCB, ixD, lenD, absD, ML.intD, listD, tupD, slD, sl3, appD, metO, truD]); repeat ((first | rw [then_nx] | rw [then_rt] | rw [then_bk] | rw [then_ct]); simp only [↓we_seq, ↓we_asg, ↓we_ret, ↓we_retN, ↓we_sIf, ↓we_drop, ↓we_nx, ↓we_brk, ↓we_cnt, ↓we_var, ↓we_C, ↓we_frz, ↓we_hold, ↓we_bin, ↓we_cmp, ↓we_un, ↓we_isi, ↓we_aNil, ↓we_aCons, ↓we_cb, ↓we_tup, ↓we_lst, ↓we_b, ↓we_tru, ↓we_and, ↓we_or, ↓we_not, ↓we_andV, ↓we_orV, ↓we_notV, ↓we_mIf, ↓we_chain, ↓we_set, ↓we_mgSub, ↓we_mgTup, ↓we_mgNil, ↓we_mgCons, ↓we_iR1, ↓we_iR2, ↓we_for, ↓we_mNo, ↓we_part, ↓we_sl, ↓we_ms, ↓we_met, ↓we_call_, ↓we_callIo_, ↓we_lc_, ↓we_iA, ↓we_yes, ↓we_par2, ↓we_par3, wo_some, wo_map, iaK_list, iaK_tuple, iaK_str, parK2_e, parK3_e, rd2, rd1, rd2B, rdN, rdAll, rd, hold, boolO, truO, intO, strO, frzO, retO, isIo_zero, isIo_succ, ioB_no, ioB_frz, ioB_own, ioB_io, le_line, lt_line, contAt, ML.putAt, Sl.cont, Sl.put, outsV, tupO, lstO, bo, noB, rtK_rt, rtK_nx, rtK1_rt, rtK1_nx, List.getElem?_cons_zero, List.getElem?_cons_succ, List.set_cons_zero, List.set_cons_succ, Option.map_some, Option.isSome_some, reduceIte, Bool.false_eq_true, Bool.true_eq_false, if_true, if_false, wipeR, ixN_lit, atI_lit, Option.bind_some, Nat.reduceLT, Nat.reduceLeDiff, ML.pos1, List.length_map, isT, List.map_cons, List.map_nil, List.length_cons, List.length_nil, List.cons_append, List.nil_append, List.append_nil, List.replicate, true_and, and_true, Nat.reduceSub, Nat.reduceAdd, Bool.not_true, Bool.not_false, decide_eq_true_eq, Bool.not_eq_true', decide_eq_false_iff_not, Int.reduceToNat, Int.reduceLT, Int.reduceLE, Int.reducePow, Int.reduceNeg, Bool.or_true, Bool.true_or, small_emod, small_lit, pow_10_18, and_self, addD, subD, mulD, modD, fdivD, negD, inD_ints, eqB_int, neB_int, ltB, leB, gtB, geB, isNB_none, notNB, isCB, ixD, lenD, absD, ML.intD, listD, tupD, slD, sl3, appD, metO, truD])
            rw [isTab_tup, ha, hl']
            simp [hd00, hd0]
  | _ =>
    (try simp only [↓we_seq, ↓we_asg, ↓we_ret, ↓we_retN, ↓we_sIf, ↓we_drop, ↓we_nx, ↓we_brk, ↓we_cnt, ↓we_var, ↓we_C, ↓we_frz, ↓we_hold, ↓we_bin, ↓we_cmp, ↓we_un, ↓we_isi, ↓we_aNil, ↓we_aCons, ↓we_cb, ↓we_tup, ↓we_lst, ↓we_b, ↓we_tru, ↓we_and, ↓we_or, ↓we_not, ↓we_andV, ↓we_orV, ↓we_notV, ↓we_mIf, ↓we_chain, ↓we_set, ↓we_mgSub, ↓we_mgTup, ↓we_mgNil, ↓we_mgCons, ↓we_iR1, ↓we_iR2, ↓we_for, ↓we_mNo, ↓we_part, ↓we_sl, ↓we_ms, ↓we_met, ↓we_call_, ↓we_callIo_, ↓we_lc_, ↓we_iA, ↓we_yes, ↓we_par2, ↓we_par3, wo_some, wo_map, iaK_list, iaK_tuple, iaK_str, parK2_e, parK3_e, rd2, rd1, rd2B, rdN, rdAll, rd, hold, boolO, truO, intO, strO, frzO, retO, isIo_zero, isIo_succ, ioB_no, ioB_frz, ioB_own, ioB_io, le_line, lt_line, contAt, ML.putAt, Sl.cont, Sl.put, outsV, tupO, lstO, bo, noB, rtK_rt, rtK_nx, rtK1_rt, rtK1_nx, List.getElem?_cons_zero, List.getElem?_cons_succ, List.set_cons_zero, List.set_cons_succ, Option.map_some, Option.isSome_some, reduceIte, Bool.false_eq_true, Bool.true_eq_false, if_true, if_false, wipeR, ixN_lit, atI_lit, Option.bind_some, Nat.reduceLT, Nat.reduceLeDiff, ML.pos1, List.length_map, isT, List.map_cons, List.map_nil, List.length_cons, List.length_nil, List.cons_append, List.nil_append, List.append_nil, List.replicate, true_and, and_true, Nat.reduceSub, Nat.reduceAdd, Bool.not_true, Bool.not_false, decide_eq_true_eq, Bool.not_eq_true', decide_eq_false_iff_not, Int.reduceToNat, Int.reduceLT, Int.reduceLE, Int.reducePow, Int.reduceNeg, Bool.or_true, Bool.true_or, small_emod, small_lit, pow_10_18, and_self, addD, subD, mulD, modD, fdivD, negD, inD_ints, eqB_int, neB_int, ltB, leB, gtB, geB, isNB_none, notNB, isCB, ixD, lenD, absD, ML.intD, listD, tupD, slD, sl3, appD, metO, truD]); repeat ((first | rw [then_nx] | rw [then_rt] | rw [then_bk] | rw [then_ct]); simp only [↓we_seq, ↓we_asg, ↓we_ret, ↓we_retN, ↓we_sIf, ↓we_drop, ↓we_nx, ↓we_brk, ↓we_cnt, ↓we_var, ↓we_C, ↓we_frz, ↓we_hold, ↓we_bin, ↓we_cmp, ↓we_un, ↓we_isi, ↓we_aNil, ↓we_aCons, ↓we_cb, ↓we_tup, ↓we_lst, ↓we_b, ↓we_tru, ↓we_and, ↓we_or, ↓we_not, ↓we_andV, ↓we_orV, ↓we_notV, ↓we_mIf, ↓we_chain, ↓we_set, ↓we_mgSub, ↓we_mgTup, ↓we_mgNil, ↓we_mgCons, ↓we_iR1, ↓we_iR2, ↓we_for, ↓we_mNo, ↓we_part, ↓we_sl, ↓we_ms, ↓we_met, ↓we_call_, ↓we_callIo_, ↓we_lc_, ↓we_iA, ↓we_yes, ↓we_par2, ↓we_par3, wo_some, wo_map, iaK_list, iaK_tuple, iaK_str, parK2_e, parK3_e, rd2, rd1, rd2B, rdN, rdAll, rd, hold, boolO, truO, intO, strO, frzO, retO, isIo_zero, isIo_succ, ioB_no, ioB_frz, ioB_own, ioB_io, le_line, lt_line, contAt, ML.putAt, Sl.cont, Sl.put, outsV, tupO, lstO, bo, noB, rtK_rt, rtK_nx, rtK1_rt, rtK1_nx, List.getElem?_cons_zero, List.getElem?_cons_succ, List.set_cons_zero, List.set_cons_succ, Option.map_some, Option.isSome_some, reduceIte, Bool.false_eq_true, Bool.true_eq_false, if_true, if_false, wipeR, ixN_lit, atI_lit, Option.bind_some, Nat.reduceLT, Nat.reduceLeDiff, ML.pos1, List.length_map, isT, List.map_cons, List.map_nil, List.length_cons, List.length_nil, List.cons_append, List.nil_append, List.append_nil, List.replicate, true_and, and_true, Nat.reduceSub, Nat.reduceAdd, Bool.not_true, Bool.not_false, decide_eq_true_eq, Bool.not_eq_true', decide_eq_false_iff_not, Int.reduceToNat, Int.reduceLT, Int.reduceLE, Int.reducePow, Int.reduceNeg, Bool.or_true, Bool.true_or, small_emod, small_lit, pow_10_18, and_self, addD, subD, mulD, modD, fdivD, negD, inD_ints, eqB_int, neB_int, ltB, leB, gtB, geB, isNB_none, notNB, isCB, ixD, lenD, absD, ML.intD, listD, tupD, slD, sl3, appD, metO, truD])
    rfl
theorem ltable_ok (d : D) (v : Int) (h0 : 0 < v) (hv : v ≤ 16777216) : F0 m__law_is_table [.int v, d] (fun r => r = .v (.bool (isTab v d))) := by
  refine F0.def_ ?_
  cases d with
  | tuple ds =>
    (try simp only [↓we_seq, ↓we_asg, ↓we_ret, ↓we_retN, ↓we_sIf, ↓we_drop, ↓we_nx, ↓we_brk, ↓we_cnt, ↓we_var, ↓we_C, ↓we_frz, ↓we_hold, ↓we_bin, ↓we_cmp, ↓we_un, ↓we_isi, ↓we_aNil, ↓we_aCons, ↓we_cb, ↓we_tup, ↓we_lst, ↓we_b, ↓we_tru, ↓we_and, ↓we_or, ↓we_not, ↓we_andV, ↓we_orV, ↓we_notV, ↓we_mIf, ↓we_chain, ↓we_set, ↓we_mgSub, ↓we_mgTup, ↓we_mgNil, ↓we_mgCons, ↓we_iR1, ↓we_iR2, ↓we_for, ↓we_mNo, ↓we_part, ↓we_sl, ↓we_ms, ↓we_met, ↓we_call_, ↓we_callIo_, ↓we_lc_, ↓we_iA, ↓we_yes, ↓we_par2, ↓we_par3, wo_some, wo_map, iaK_list, iaK_tuple, iaK_str, parK2_e, parK3_e, rd2, rd1, rd2B, rdN, rdAll, rd, hold, boolO, truO, intO, strO, frzO, retO, isIo_zero, isIo_succ, ioB_no, ioB_frz, ioB_own, ioB_io, le_line, lt_line, contAt, ML.putAt, Sl.cont, Sl.put, outsV, tupO, lstO, bo, noB, rtK_rt, rtK_nx, rtK1_rt, rtK1_nx, List.getElem?_cons_zero, List.getElem?_cons_succ, List.set_cons_zero, List.set_cons_succ, Option.map_some, Option.isSome_some, reduceIte, Bool.false_eq_true, Bool.true_eq_false, if_true, if_false, wipeR, ixN_lit, atI_lit, Option.bind_some, Nat.reduceLT, Nat.reduceLeDiff, ML.pos1, List.length_map, isT, List.map_cons, List.map_nil, List.length_cons, List.length_nil, List.cons_append, List.nil_append, List.append_nil, List.replicate, true_and, and_true, Nat.reduceSub, Nat.reduceAdd, Bool.not_true, Bool.not_false, decide_eq_true_eq, Bool.not_eq_true', decide_eq_false_iff_not, Int.reduceToNat, Int.reduceLT, Int.reduceLE, Int.reducePow, Int.reduceNeg, Bool.or_true, Bool.true_or, small_emod, small_lit, pow_10_18, and_self, addD, subD, mulD, modD, fdivD, negD, inD_ints, eqB_int, neB_int, ltB, leB, gtB, geB, isNB_none, notNB, isCB, ixD, lenD, absD, ML.intD, listD, tupD, slD, sl3, appD, metO, truD]); repeat ((first | rw [then_nx] | rw [then_rt] | rw [then_bk] | rw [then_ct]); simp only [↓we_seq, ↓we_asg, ↓we_ret, ↓we_retN, ↓we_sIf, ↓we_drop, ↓we_nx, ↓we_brk, ↓we_cnt, ↓we_var, ↓we_C, ↓we_frz, ↓we_hold, ↓we_bin, ↓we_cmp, ↓we_un, ↓we_isi, ↓we_aNil, ↓we_aCons, ↓we_cb, ↓we_tup, ↓we_lst, ↓we_b, ↓we_tru, ↓we_and, ↓we_or, ↓we_not, ↓we_andV, ↓we_orV, ↓we_notV, ↓we_mIf, ↓we_chain, ↓we_set, ↓we_mgSub, ↓we_mgTup, ↓we_mgNil, ↓we_mgCons, ↓we_iR1, ↓we_iR2, ↓we_for, ↓we_mNo, ↓we_part, ↓we_sl, ↓we_ms, ↓we_met, ↓we_call_, ↓we_callIo_, ↓we_lc_, ↓we_iA, ↓we_yes, ↓we_par2, ↓we_par3, wo_some, wo_map, iaK_list, iaK_tuple, iaK_str, parK2_e, parK3_e, rd2, rd1, rd2B, rdN, rdAll, rd, hold, boolO, truO, intO, strO, frzO, retO, isIo_zero, isIo_succ, ioB_no, ioB_frz, ioB_own, ioB_io, le_line, lt_line, contAt, ML.putAt, Sl.cont, Sl.put, outsV, tupO, lstO, bo, noB, rtK_rt, rtK_nx, rtK1_rt, rtK1_nx, List.getElem?_cons_zero, List.getElem?_cons_succ, List.set_cons_zero, List.set_cons_succ, Option.map_some, Option.isSome_some, reduceIte, Bool.false_eq_true, Bool.true_eq_false, if_true, if_false, wipeR, ixN_lit, atI_lit, Option.bind_some, Nat.reduceLT, Nat.reduceLeDiff, ML.pos1, List.length_map, isT, List.map_cons, List.map_nil, List.length_cons, List.length_nil, List.cons_append, List.nil_append, List.append_nil, List.replicate, true_and, and_true, Nat.reduceSub, Nat.reduceAdd, Bool.not_true, Bool.not_false, decide_eq_true_eq, Bool.not_eq_true', decide_eq_false_iff_not, Int.reduceToNat, Int.reduceLT, Int.reduceLE, Int.reducePow, Int.reduceNeg, Bool.or_true, Bool.true_or, small_emod, small_lit, pow_10_18, and_self, addD, subD, mulD, modD, fdivD, negD, inD_ints, eqB_int, neB_int, ltB, leB, gtB, geB, isNB_none, notNB, isCB, ixD, lenD, absD, ML.intD, listD, tupD, slD, sl3, appD, metO, truD])
    split
    · rename_i hl
      simp [isTab, hl]
    · rename_i hl
      refine wo_lcF (fun x => .bool (isVals v x)) (fun d m => ?_) (by rw [le_line]; omega) ?_
      · (try simp only [↓we_seq, ↓we_asg, ↓we_ret, ↓we_retN, ↓we_sIf, ↓we_drop, ↓we_nx, ↓we_brk, ↓we_cnt, ↓we_var, ↓we_C, ↓we_frz, ↓we_hold, ↓we_bin, ↓we_cmp, ↓we_un, ↓we_isi, ↓we_aNil, ↓we_aCons, ↓we_cb, ↓we_tup, ↓we_lst, ↓we_b, ↓we_tru, ↓we_and, ↓we_or, ↓we_not, ↓we_andV, ↓we_orV, ↓we_notV, ↓we_mIf, ↓we_chain, ↓we_set, ↓we_mgSub, ↓we_mgTup, ↓we_mgNil, ↓we_mgCons, ↓we_iR1, ↓we_iR2, ↓we_for, ↓we_mNo, ↓we_part, ↓we_sl, ↓we_ms, ↓we_met, ↓we_call_, ↓we_callIo_, ↓we_lc_, ↓we_iA, ↓we_yes, ↓we_par2, ↓we_par3, wo_some, wo_map, iaK_list, iaK_tuple, iaK_str, parK2_e, parK3_e, rd2, rd1, rd2B, rdN, rdAll, rd, hold, boolO, truO, intO, strO, frzO, retO, isIo_zero, isIo_succ, ioB_no, ioB_frz, ioB_own, ioB_io, le_line, lt_line, contAt, ML.putAt, Sl.cont, Sl.put, outsV, tupO, lstO, bo, noB, rtK_rt, rtK_nx, rtK1_rt, rtK1_nx, List.getElem?_cons_zero, List.getElem?_cons_succ, List.set_cons_zero, List.set_cons_succ, Option.map_some, Option.isSome_some, reduceIte, Bool.false_eq_true, Bool.true_eq_false, if_true, if_false, wipeR, ixN_lit, atI_lit, Option.bind_some, Nat.reduceLT, Nat.reduceLeDiff, ML.pos1, List.length_map, isT, List.map_cons, List.map_nil, List.length_cons, List.length_nil, List.cons_append, List.nil_append, List.append_nil, List.replicate, true_and, and_true, Nat.reduceSub, Nat.reduceAdd, Bool.not_true, Bool.not_false, decide_eq_true_eq, Bool.not_eq_true', decide_eq_false_iff_not, Int.reduceToNat, Int.reduceLT, Int.reduceLE, Int.reducePow, Int.reduceNeg, Bool.or_true, Bool.true_or, small_emod, small_lit, pow_10_18, and_self, addD, subD, mulD, modD, fdivD, negD, inD_ints, eqB_int, neB_int, ltB, leB, gtB, geB, isNB_none, notNB, isCB, ixD, lenD, absD, ML.intD, listD, tupD, slD, sl3, appD, metO, truD, compK]); repeat ((first | rw [then_nx] | rw [then_rt] | rw [then_bk] | rw [then_ct]); simp only [↓we_seq, ↓we_asg, ↓we_ret, ↓we_retN, ↓we_sIf, ↓we_drop, ↓we_nx, ↓we_brk, ↓we_cnt, ↓we_var, ↓we_C, ↓we_frz, ↓we_hold, ↓we_bin, ↓we_cmp, ↓we_un, ↓we_isi, ↓we_aNil, ↓we_aCons, ↓we_cb, ↓we_tup, ↓we_lst, ↓we_b, ↓we_tru, ↓we_and, ↓we_or, ↓we_not, ↓we_andV, ↓we_orV, ↓we_notV, ↓we_mIf, ↓we_chain, ↓we_set, ↓we_mgSub, ↓we_mgTup, ↓we_mgNil, ↓we_mgCons, ↓we_iR1, ↓we_iR2, ↓we_for, ↓we_mNo, ↓we_part, ↓we_sl, ↓we_ms, ↓we_met, ↓we_call_, ↓we_callIo_, ↓we_lc_, ↓we_iA, ↓we_yes, ↓we_par2, ↓we_par3, wo_some, wo_map, iaK_list, iaK_tuple, iaK_str, parK2_e, parK3_e, rd2, rd1, rd2B, rdN, rdAll, rd, hold, boolO, truO, intO, strO, frzO, retO, isIo_zero, isIo_succ, ioB_no, ioB_frz, ioB_own, ioB_io, le_line, lt_line, contAt, ML.putAt, Sl.cont, Sl.put, outsV, tupO, lstO, bo, noB, rtK_rt, rtK_nx, rtK1_rt, rtK1_nx, List.getElem?_cons_zero, List.getElem?_cons_succ, List.set_cons_zero, List.set_cons_succ, Option.map_some, Option.isSome_some, reduceIte, Bool.false_eq_true, Bool.true_eq_false, if_true, if_false, wipeR, ixN_lit, atI_lit, Option.bind_some, Nat.reduceLT, Nat.reduceLeDiff, ML.pos1, List.length_map, isT, List.map_cons, List.map_nil, List.length_cons, List.length_nil, List.cons_append, List.nil_append, List.append_nil, List.replicate, true_and, and_true, Nat.reduceSub, Nat.reduceAdd, Bool.not_true, Bool.not_false, decide_eq_true_eq, Bool.not_eq_true', decide_eq_false_iff_not, Int.reduceToNat, Int.reduceLT, Int.reduceLE, Int.reducePow, Int.reduceNeg, Bool.or_true, Bool.true_or, small_emod, small_lit, pow_10_18, and_self, addD, subD, mulD, modD, fdivD, negD, inD_ints, eqB_int, neB_int, ltB, leB, gtB, geB, isNB_none, notNB, isCB, ixD, lenD, absD, ML.intD, listD, tupD, slD, sl3, appD, metO, truD, compK]);
        refine we_call (lway_ok d v hv) rfl ?_
        rintro r - rfl
        (try simp only [↓we_seq, ↓we_asg, ↓we_ret, ↓we_retN, ↓we_sIf, ↓we_drop, ↓we_nx, ↓we_brk, ↓we_cnt, ↓we_var, ↓we_C, ↓we_frz, ↓we_hold, ↓we_bin, ↓we_cmp, ↓we_un, ↓we_isi, ↓we_aNil, ↓we_aCons, ↓we_cb, ↓we_tup, ↓we_lst, ↓we_b, ↓we_tru, ↓we_and, ↓we_or, ↓we_not, ↓we_andV, ↓we_orV, ↓we_notV, ↓we_mIf, ↓we_chain, ↓we_set, ↓we_mgSub, ↓we_mgTup, ↓we_mgNil, ↓we_mgCons, ↓we_iR1, ↓we_iR2, ↓we_for, ↓we_mNo, ↓we_part, ↓we_sl, ↓we_ms, ↓we_met, ↓we_call_, ↓we_callIo_, ↓we_lc_, ↓we_iA, ↓we_yes, ↓we_par2, ↓we_par3, wo_some, wo_map, iaK_list, iaK_tuple, iaK_str, parK2_e, parK3_e, rd2, rd1, rd2B, rdN, rdAll, rd, hold, boolO, truO, intO, strO, frzO, retO, isIo_zero, isIo_succ, ioB_no, ioB_frz, ioB_own, ioB_io, le_line, lt_line, contAt, ML.putAt, Sl.cont, Sl.put, outsV, tupO, lstO, bo, noB, rtK_rt, rtK_nx, rtK1_rt, rtK1_nx, List.getElem?_cons_zero, List.getElem?_cons_succ, List.set_cons_zero, List.set_cons_succ, Option.map_some, Option.isSome_some, reduceIte, Bool.false_eq_true, Bool.true_eq_false, if_true, if_false, wipeR, ixN_lit, atI_lit, Option.bind_some, Nat.reduceLT, Nat.reduceLeDiff, ML.pos1, List.length_map, isT, List.map_cons, List.map_nil, List.length_cons, List.length_nil, List.cons_append, List.nil_append, List.append_nil, List.replicate, true_and, and_true, Nat.reduceSub, Nat.reduceAdd, Bool.not_true, Bool.not_false, decide_eq_true_eq, Bool.not_eq_true', decide_eq_false_iff_not, Int.reduceToNat, Int.reduceLT, Int.reduceLE, Int.reducePow, Int.reduceNeg, Bool.or_true, Bool.true_or, small_emod, small_lit, pow_10_18, and_self, addD, subD, mulD, modD, fdivD, negD, inD_ints, eqB_int, neB_int, ltB, leB, gtB, geB, isNB_none, notNB, isCB, ixD, lenD, absD, ML.intD, listD, tupD, slD, sl3, appD, metO, truD]); repeat ((first | rw [then_nx] | rw [then_rt] | rw [then_bk] | rw [then_ct]); simp only [↓we_seq, ↓we_asg, ↓we_ret, ↓we_retN, ↓we_sIf, ↓we_drop, ↓we_nx, ↓we_brk, ↓we_cnt, ↓we_var, ↓we_C, ↓we_frz, ↓we_hold, ↓we_bin, ↓we_cmp, ↓we_un, ↓we_isi, ↓we_aNil, ↓we_aCons, ↓we_cb, ↓we_tup, ↓we_lst, ↓we_b, ↓we_tru, ↓we_and, ↓we_or, ↓we_not, ↓we_andV, ↓we_orV, ↓we_notV, ↓we_mIf, ↓we_chain, ↓we_set, ↓we_mgSub, ↓we_mgTup, ↓we_mgNil, ↓we_mgCons, ↓we_iR1, ↓we_iR2, ↓we_for, ↓we_mNo, ↓we_part, ↓we_sl, ↓we_ms, ↓we_met, ↓we_call_, ↓we_callIo_, ↓we_lc_, ↓we_iA, ↓we_yes, ↓we_par2, ↓we_par3, wo_some, wo_map, iaK_list, iaK_tuple, iaK_str, parK2_e, parK3_e, rd2, rd1, rd2B, rdN, rdAll, rd, hold, boolO, truO, intO, strO, frzO, retO, isIo_zero, isIo_succ, ioB_no, ioB_frz, ioB_own, ioB_io, le_line, lt_line, contAt, ML.putAt, Sl.cont, Sl.put, outsV, tupO, lstO, bo, noB, rtK_rt, rtK_nx, rtK1_rt, rtK1_nx, List.getElem?_cons_zero, List.getElem?_cons_succ, List.set_cons_zero, List.set_cons_succ, Option.map_some, Option.isSome_some, reduceIte, Bool.false_eq_true, Bool.true_eq_false, if_true, if_false, wipeR, ixN_lit, atI_lit, Option.bind_some, Nat.reduceLT, Nat.reduceLeDiff, ML.pos1, List.length_map, isT, List.map_cons, List.map_nil, List.length_cons, List.length_nil, List.cons_append, List.nil_append, List.append_nil, List.replicate, true_and, and_true, Nat.reduceSub, Nat.reduceAdd, Bool.not_true, Bool.not_false, decide_eq_true_eq, Bool.not_eq_true', decide_eq_false_iff_not, Int.reduceToNat, Int.reduceLT, Int.reduceLE, Int.reducePow, Int.reduceNeg, Bool.or_true, Bool.true_or, small_emod, small_lit, pow_10_18, and_self, addD, subD, mulD, modD, fdivD, negD, inD_ints, eqB_int, neB_int, ltB, leB, gtB, geB, isNB_none, notNB, isCB, ixD, lenD, absD, ML.intD, listD, tupD, slD, sl3, appD, metO, truD])
        cases h : isWay v d with
        | false =>
          (try simp only [↓we_seq, ↓we_asg, ↓we_ret, ↓we_retN, ↓we_sIf, ↓we_drop, ↓we_nx, ↓we_brk, ↓we_cnt, ↓we_var, ↓we_C, ↓we_frz, ↓we_hold, ↓we_bin, ↓we_cmp, ↓we_un, ↓we_isi, ↓we_aNil, ↓we_aCons, ↓we_cb, ↓we_tup, ↓we_lst, ↓we_b, ↓we_tru, ↓we_and, ↓we_or, ↓we_not, ↓we_andV, ↓we_orV, ↓we_notV, ↓we_mIf, ↓we_chain, ↓we_set, ↓we_mgSub, ↓we_mgTup, ↓we_mgNil, ↓we_mgCons, ↓we_iR1, ↓we_iR2, ↓we_for, ↓we_mNo, ↓we_part, ↓we_sl, ↓we_ms, ↓we_met, ↓we_call_, ↓we_callIo_, ↓we_lc_, ↓we_iA, ↓we_yes, ↓we_par2, ↓we_par3, wo_some, wo_map, iaK_list, iaK_tuple, iaK_str, parK2_e, parK3_e, rd2, rd1, rd2B, rdN, rdAll, rd, hold, boolO, truO, intO, strO, frzO, retO, isIo_zero, isIo_succ, ioB_no, ioB_frz, ioB_own, ioB_io, le_line, lt_line, contAt, ML.putAt, Sl.cont, Sl.put, outsV, tupO, lstO, bo, noB, rtK_rt, rtK_nx, rtK1_rt, rtK1_nx, List.getElem?_cons_zero, List.getElem?_cons_succ, List.set_cons_zero, List.set_cons_succ, Option.map_some, Option.isSome_some, reduceIte, Bool.false_eq_true, Bool.true_eq_false, if_true, if_false, wipeR, ixN_lit, atI_lit, Option.bind_some, Nat.reduceLT, Nat.reduceLeDiff, ML.pos1, List.length_map, isT, List.map_cons, List.map_nil, List.length_cons, List.length_nil, List.cons_append, List.nil_append, List.append_nil, List.replicate, true_and, and_true, Nat.reduceSub, Nat.reduceAdd, Bool.not_true, Bool.not_false, decide_eq_true_eq, Bool.not_eq_true', decide_eq_false_iff_not, Int.reduceToNat, Int.reduceLT, Int.reduceLE, Int.reducePow, Int.reduceNeg, Bool.or_true, Bool.true_or, small_emod, small_lit, pow_10_18, and_self, addD, subD, mulD, modD, fdivD, negD, inD_ints, eqB_int, neB_int, ltB, leB, gtB, geB, isNB_none, notNB, isCB, ixD, lenD, absD, ML.intD, listD, tupD, slD, sl3, appD, metO, truD]); repeat ((first | rw [then_nx] | rw [then_rt] | rw [then_bk] | rw [then_ct]); simp only [↓we_seq, ↓we_asg, ↓we_ret, ↓we_retN, ↓we_sIf, ↓we_drop, ↓we_nx, ↓we_brk, ↓we_cnt, ↓we_var, ↓we_C, ↓we_frz, ↓we_hold, ↓we_bin, ↓we_cmp, ↓we_un, ↓we_isi, ↓we_aNil, ↓we_aCons, ↓we_cb, ↓we_tup, ↓we_lst, ↓we_b, ↓we_tru, ↓we_and, ↓we_or, ↓we_not, ↓we_andV, ↓we_orV, ↓we_notV, ↓we_mIf, ↓we_chain, ↓we_set, ↓we_mgSub, ↓we_mgTup, ↓we_mgNil, ↓we_mgCons, ↓we_iR1, ↓we_iR2, ↓we_for, ↓we_mNo, ↓we_part, ↓we_sl, ↓we_ms, ↓we_met, ↓we_call_, ↓we_callIo_, ↓we_lc_, ↓we_iA, ↓we_yes, ↓we_par2, ↓we_par3, wo_some, wo_map, iaK_list, iaK_tuple, iaK_str, parK2_e, parK3_e, rd2, rd1, rd2B, rdN, rdAll, rd, hold, boolO, truO, intO, strO, frzO, retO, isIo_zero, isIo_succ, ioB_no, ioB_frz, ioB_own, ioB_io, le_line, lt_line, contAt, ML.putAt, Sl.cont, Sl.put, outsV, tupO, lstO, bo, noB, rtK_rt, rtK_nx, rtK1_rt, rtK1_nx, List.getElem?_cons_zero, List.getElem?_cons_succ, List.set_cons_zero, List.set_cons_succ, Option.map_some, Option.isSome_some, reduceIte, Bool.false_eq_true, Bool.true_eq_false, if_true, if_false, wipeR, ixN_lit, atI_lit, Option.bind_some, Nat.reduceLT, Nat.reduceLeDiff, ML.pos1, List.length_map, isT, List.map_cons, List.map_nil, List.length_cons, List.length_nil, List.cons_append, List.nil_append, List.append_nil, List.replicate, true_and, and_true, Nat.reduceSub, Nat.reduceAdd, Bool.not_true, Bool.not_false, decide_eq_true_eq, Bool.not_eq_true', decide_eq_false_iff_not, Int.reduceToNat, Int.reduceLT, Int.reduceLE, Int.reducePow, Int.reduceNeg, Bool.or_true, Bool.true_or, small_emod, small_lit, pow_10_18, and_self, addD, subD, mulD, modD, fdivD, negD, inD_ints, eqB_int, neB_int, ltB, leB, gtB, geB, isNB_none, notNB, isCB, ixD, lenD, absD, ML.intD, listD, tupD, slD, sl3, appD, metO, truD])
          cases d with
          | tuple ds => simp [way_vals, h]
          | _ => rfl
        | true =>
          cases d with
          | tuple ds =>
            (try simp only [↓we_seq, ↓we_asg, ↓we_ret, ↓we_retN, ↓we_sIf, ↓we_drop, ↓we_nx, ↓we_brk, ↓we_cnt, ↓we_var, ↓we_C, ↓we_frz, ↓we_hold, ↓we_bin, ↓we_cmp, ↓we_un, ↓we_isi, ↓we_aNil, ↓we_aCons, ↓we_cb, ↓we_tup, ↓we_lst, ↓we_b, ↓we_tru, ↓we_and, ↓we_or, ↓we_not, ↓we_andV, ↓we_orV, ↓we_notV, ↓we_mIf, ↓we_chain, ↓we_set, ↓we_mgSub, ↓we_mgTup, ↓we_mgNil, ↓we_mgCons, ↓we_iR1, ↓we_iR2, ↓we_for, ↓we_mNo, ↓we_part, ↓we_sl, ↓we_ms, ↓we_met, ↓we_call_, ↓we_callIo_, ↓we_lc_, ↓we_iA, ↓we_yes, ↓we_par2, ↓we_par3, wo_some, wo_map, iaK_list, iaK_tuple, iaK_str, parK2_e, parK3_e, rd2, rd1, rd2B, rdN, rdAll, rd, hold, boolO, truO, intO, strO, frzO, retO, isIo_zero, isIo_succ, ioB_no, ioB_frz, ioB_own, ioB_io, le_line, lt_line, contAt, ML.putAt, Sl.cont, Sl.put, outsV, tupO, lstO, bo, noB, rtK_rt, rtK_nx, rtK1_rt, rtK1_nx, List.getElem?_cons_zero, List.getElem?_cons_succ, List.set_cons_zero, List.set_cons_succ, Option.map_some, Option.isSome_some, reduceIte, Bool.false_eq_true, Bool.true_eq_false, if_true, if_false, wipeR, ixN_lit, atI_lit, Option.bind_some, Nat.reduceLT, Nat.reduceLeDiff, ML.pos1, List.length_map, isT, List.map_cons, List.map_nil, List.length_cons, List.length_nil, List.cons_append, List.nil_append, List.append_nil, List.replicate, true_and, and_true, Nat.reduceSub, Nat.reduceAdd, Bool.not_true, Bool.not_false, decide_eq_true_eq, Bool.not_eq_true', decide_eq_false_iff_not, Int.reduceToNat, Int.reduceLT, Int.reduceLE, Int.reducePow, Int.reduceNeg, Bool.or_true, Bool.true_or, small_emod, small_lit, pow_10_18, and_self, addD, subD, mulD, modD, fdivD, negD, inD_ints, eqB_int, neB_int, ltB, leB, gtB, geB, isNB_none, notNB, isCB, ixD, lenD, absD, ML.intD, listD, tupD, slD, sl3, appD, metO, truD, ninD, inD_none (way_shaped h)]); repeat ((first | rw [then_nx] | rw [then_rt] | rw [then_bk] | rw [then_ct]); simp only [↓we_seq, ↓we_asg, ↓we_ret, ↓we_retN, ↓we_sIf, ↓we_drop, ↓we_nx, ↓we_brk, ↓we_cnt, ↓we_var, ↓we_C, ↓we_frz, ↓we_hold, ↓we_bin, ↓we_cmp, ↓we_un, ↓we_isi, ↓we_aNil, ↓we_aCons, ↓we_cb, ↓we_tup, ↓we_lst, ↓we_b, ↓we_tru, ↓we_and, ↓we_or, ↓we_not, ↓we_andV, ↓we_orV, ↓we_notV, ↓we_mIf, ↓we_chain, ↓we_set, ↓we_mgSub, ↓we_mgTup, ↓we_mgNil, ↓we_mgCons, ↓we_iR1, ↓we_iR2, ↓we_for, ↓we_mNo, ↓we_part, ↓we_sl, ↓we_ms, ↓we_met, ↓we_call_, ↓we_callIo_, ↓we_lc_, ↓we_iA, ↓we_yes, ↓we_par2, ↓we_par3, wo_some, wo_map, iaK_list, iaK_tuple, iaK_str, parK2_e, parK3_e, rd2, rd1, rd2B, rdN, rdAll, rd, hold, boolO, truO, intO, strO, frzO, retO, isIo_zero, isIo_succ, ioB_no, ioB_frz, ioB_own, ioB_io, le_line, lt_line, contAt, ML.putAt, Sl.cont, Sl.put, outsV, tupO, lstO, bo, noB, rtK_rt, rtK_nx, rtK1_rt, rtK1_nx, List.getElem?_cons_zero, List.getElem?_cons_succ, List.set_cons_zero, List.set_cons_succ, Option.map_some, Option.isSome_some, reduceIte, Bool.false_eq_true, Bool.true_eq_false, if_true, if_false, wipeR, ixN_lit, atI_lit, Option.bind_some, Nat.reduceLT, Nat.reduceLeDiff, ML.pos1, List.length_map, isT, List.map_cons, List.map_nil, List.length_cons, List.length_nil, List.cons_append, List.nil_append, List.append_nil, List.replicate, true_and, and_true, Nat.reduceSub, Nat.reduceAdd, Bool.not_true, Bool.not_false, decide_eq_true_eq, Bool.not_eq_true', decide_eq_false_iff_not, Int.reduceToNat, Int.reduceLT, Int.reduceLE, Int.reducePow, Int.reduceNeg, Bool.or_true, Bool.true_or, small_emod, small_lit, pow_10_18, and_self, addD, subD, mulD, modD, fdivD, negD, inD_ints, eqB_int, neB_int, ltB, leB, gtB, geB, isNB_none, notNB, isCB, ixD, lenD, absD, ML.intD, listD, tupD, slD, sl3, appD, metO, truD, ninD, inD_none (way_shaped h)]);
            simp [way_vals, h]
          | _ => cases h
      · (try simp only [↓we_seq, ↓we_asg, ↓we_ret, ↓we_retN, ↓we_sIf, ↓we_drop, ↓we_nx, ↓we_brk, ↓we_cnt, ↓we_var, ↓we_C, ↓we_frz, ↓we_hold, ↓we_bin, ↓we_cmp, ↓we_un, ↓we_isi, ↓we_aNil, ↓we_aCons, ↓we_cb, ↓we_tup, ↓we_lst, ↓we_b, ↓we_tru, ↓we_and, ↓we_or, ↓we_not, ↓we_andV, ↓we_orV, ↓we_notV, ↓we_mIf, ↓we_chain, ↓we_set, ↓we_mgSub, ↓we_mgTup, ↓we_mgNil, ↓we_mgCons, ↓we_iR1, ↓we_iR2, ↓we_for, ↓we_mNo, ↓we_part, ↓we_sl, ↓we_ms, ↓we_met, ↓we_call_, ↓we_callIo_, ↓we_lc_, ↓we_iA, ↓we_yes, ↓we_par2, ↓we_par3, wo_some, wo_map, iaK_list, iaK_tuple, iaK_str, parK2_e, parK3_e, rd2, rd1, rd2B, rdN, rdAll, rd, hold, boolO, truO, intO, strO, frzO, retO, isIo_zero, isIo_succ, ioB_no, ioB_frz, ioB_own, ioB_io, le_line, lt_line, contAt, ML.putAt, Sl.cont, Sl.put, outsV, tupO, lstO, bo, noB, rtK_rt, rtK_nx, rtK1_rt, rtK1_nx, List.getElem?_cons_zero, List.getElem?_cons_succ, List.set_cons_zero, List.set_cons_succ, Option.map_some, Option.isSome_some, reduceIte, Bool.false_eq_true, Bool.true_eq_false, if_true, if_false, wipeR, ixN_lit, atI_lit, Option.bind_some, Nat.reduceLT, Nat.reduceLeDiff, ML.pos1, List.length_map, isT, List.map_cons, List.map_nil, List.length_cons, List.length_nil, List.cons_append, List.nil_append, List.append_nil, List.replicate, true_and, and_true, Nat.reduceSub, Nat.reduceAdd, Bool.not_true, Bool.not_false, decide_eq_true_eq, Bool.not_eq_true', decide_eq_false_iff_not, Int.reduceToNat, Int.reduceLT, Int.reduceLE, Int.reducePow, Int.reduceNeg, Bool.or_true, Bool.true_or, small_emod, small_lit, pow_10_18, and_self, addD, subD, mulD, modD, fdivD, negD, inD_ints, eqB_int, neB_int, ltB, leB, gtB, geB, isNB_none, notNB, isCB, ixD, lenD, absD, ML.intD, listD, tupD, slD, sl3, appD, metO, truD, all_map]); repeat ((first | rw [then_nx] | rw [then_rt] | rw [then_bk] | rw [then_ct]); simp only [↓we_seq, ↓we_asg, ↓we_ret, ↓we_retN, ↓we_sIf, ↓we_drop, ↓we_nx, ↓we_brk, ↓we_cnt, ↓we_var, ↓we_C, ↓we_frz, ↓we_hold, ↓we_bin, ↓we_cmp, ↓we_un, ↓we_isi, ↓we_aNil, ↓we_aCons, ↓we_cb, ↓we_tup, ↓we_lst, ↓we_b, ↓we_tru, ↓we_and, ↓we_or, ↓we_not, ↓we_andV, ↓we_orV, ↓we_notV, ↓we_mIf, ↓we_chain, ↓we_set, ↓we_mgSub, ↓we_mgTup, ↓we_mgNil, ↓we_mgCons, ↓we_iR1, ↓we_iR2, ↓we_for, ↓we_mNo, ↓we_part, ↓we_sl, ↓we_ms, ↓we_met, ↓we_call_, ↓we_callIo_, ↓we_lc_, ↓we_iA, ↓we_yes, ↓we_par2, ↓we_par3, wo_some, wo_map, iaK_list, iaK_tuple, iaK_str, parK2_e, parK3_e, rd2, rd1, rd2B, rdN, rdAll, rd, hold, boolO, truO, intO, strO, frzO, retO, isIo_zero, isIo_succ, ioB_no, ioB_frz, ioB_own, ioB_io, le_line, lt_line, contAt, ML.putAt, Sl.cont, Sl.put, outsV, tupO, lstO, bo, noB, rtK_rt, rtK_nx, rtK1_rt, rtK1_nx, List.getElem?_cons_zero, List.getElem?_cons_succ, List.set_cons_zero, List.set_cons_succ, Option.map_some, Option.isSome_some, reduceIte, Bool.false_eq_true, Bool.true_eq_false, if_true, if_false, wipeR, ixN_lit, atI_lit, Option.bind_some, Nat.reduceLT, Nat.reduceLeDiff, ML.pos1, List.length_map, isT, List.map_cons, List.map_nil, List.length_cons, List.length_nil, List.cons_append, List.nil_append, List.append_nil, List.replicate, true_and, and_true, Nat.reduceSub, Nat.reduceAdd, Bool.not_true, Bool.not_false, decide_eq_true_eq, Bool.not_eq_true', decide_eq_false_iff_not, Int.reduceToNat, Int.reduceLT, Int.reduceLE, Int.reducePow, Int.reduceNeg, Bool.or_true, Bool.true_or, small_emod, small_lit, pow_10_18, and_self, addD, subD, mulD, modD, fdivD, negD, inD_ints, eqB_int, neB_int, ltB, leB, gtB, geB, isNB_none, notNB, isCB, ixD, lenD, absD, ML.intD, listD, tupD, slD, sl3, appD, metO, truD, all_map]);
        have hl' : (ds.length : Int) = v := by omega
        cases ha : ds.all (isVals v) with
        | false =>
          (try simp only [↓we_seq, ↓we_asg, ↓we_ret, ↓we_retN, ↓we_sIf, ↓we_drop, ↓we_nx, ↓we_brk, ↓we_cnt, ↓we_var, ↓we_C, ↓we_frz, ↓we_hold, ↓we_bin, ↓we_cmp, ↓we_un, ↓we_isi, ↓we_aNil, ↓we_aCons, ↓we_cb, ↓we_tup, ↓we_lst, ↓we_b, ↓we_tru, ↓we_and, ↓we_or, ↓we_not, ↓we_andV, ↓we_orV, ↓we_notV, ↓we_mIf, ↓we_chain, ↓we_set, ↓we_mgSub, ↓we_mgTup, ↓we_mgNil, ↓we_mgCons, ↓we_iR1, ↓we_iR2, ↓we_for, ↓we_mNo, ↓we_part, ↓we_sl, ↓we_ms, ↓we_met, ↓we_call_, ↓we_callIo_, ↓we_lc_, ↓we_iA, ↓we_yes, ↓we_par2, ↓we_par3, wo_some, wo_map, iaK_list, iaK_tuple, iaK_str, parK2_e, parK3_e, rd2, rd1, rd2B, rdN, rdAll, rd, hold, boolO, truO, intO, strO, frzO, retO, isIo_zero, isIo_succ, ioB_no, ioB_frz, ioB_own, ioB_io, le_line, lt_line, contAt, ML.putAt, Sl.cont, Sl.put, outsV, tupO, lstO, bo, noB, rtK_rt, rtK_nx, rtK1_rt, rtK1_nx, List.getElem?_cons_zero, List.getElem?_cons_succ, List.set_cons_zero, List.set_cons_succ, Option.map_some, Option.isSome_some, reduceIte, Bool.false_eq_true, Bool.true_eq_false, if_true, if_false, wipeR, ixN_lit, atI_lit, Option.bind_some, Nat.reduceLT, Nat.reduceLeDiff, ML.pos1, List.length_map, isT, List.map_cons, List.map_nil, List.length_cons, List.length_nil, List.cons_append, List.nil_append, List.append_nil, List.replicate, true_and, and_true, Nat.reduceSub, Nat.reduceAdd, Bool.not_true, Bool.not_false, decide_eq_true_eq, Bool.not_eq_true', decide_eq_false_iff_not, Int.reduceToNat, Int.reduceLT, Int.reduceLE, Int.reducePow, Int.reduceNeg, Bool.or_true, Bool.true_or, small_emod, small_lit, pow_10_18, and_self, addD, subD, mulD, modD, fdivD, negD, inD_ints, eqB_int, neB_int, ltB, leB, gtB, geB, isNB_none, notNB, isCB, ixD, lenD, absD, ML.intD, listD, tupD, slD, sl3, appD, metO, truD]); repeat ((first | rw [then_nx] | rw [then_rt] | rw [then_bk] | rw [then_ct]); simp only [↓we_seq, ↓we_asg, ↓we_ret, ↓we_retN, ↓we_sIf, ↓we_drop, ↓we_nx, ↓we_brk, ↓we_cnt, ↓we_var, ↓we_C, ↓we_frz, ↓we_hold, ↓we_bin, ↓we_cmp, ↓we_un, ↓we_isi, ↓we_aNil, ↓we_aCons, ↓we_cb, ↓we_tup, ↓we_lst, ↓we_b, ↓we_tru, ↓we_and, ↓we_or, ↓we_not, ↓we_andV, ↓we_orV, ↓we_notV, ↓we_mIf, ↓we_chain, ↓we_set, ↓we_mgSub, ↓we_mgTup, ↓we_mgNil, ↓we_mgCons, ↓we_iR1, ↓we_iR2, ↓we_for, ↓we_mNo, ↓we_part, ↓we_sl, ↓we_ms, ↓we_met, ↓we_call_, ↓we_callIo_, ↓we_lc_, ↓we_iA, ↓we_yes, ↓we_par2, ↓we_par3, wo_some, wo_map, iaK_list, iaK_tuple, iaK_str, parK2_e, parK3_e, rd2, rd1, rd2B, rdN, rdAll, rd, hold, boolO, truO, intO, strO, frzO, retO, isIo_zero, isIo_succ, ioB_no, ioB_frz, ioB_own, ioB_io, le_line, lt_line, contAt, ML.putAt, Sl.cont, Sl.put, outsV, tupO, lstO, bo, noB, rtK_rt, rtK_nx, rtK1_rt, rtK1_nx, List.getElem?_cons_zero, List.getElem?_cons_succ, List.set_cons_zero, List.set_cons_succ, Option.map_some, Option.isSome_some, reduceIte, Bool.false_eq_true, Bool.true_eq_false, if_true, if_false, wipeR, ixN_lit, atI_lit, Option.bind_some, Nat.reduceLT, Nat.reduceLeDiff, ML.pos1, List.length_map, isT, List.map_cons, List.map_nil, List.length_cons, List.length_nil, List.cons_append, List.nil_append, List.append_nil, List.replicate, true_and, and_true, Nat.reduceSub, Nat.reduceAdd, Bool.not_true, Bool.not_false, decide_eq_true_eq, Bool.not_eq_true', decide_eq_false_iff_not, Int.reduceToNat, Int.reduceLT, Int.reduceLE, Int.reducePow, Int.reduceNeg, Bool.or_true, Bool.true_or, small_emod, small_lit, pow_10_18, and_self, addD, subD, mulD, modD, fdivD, negD, inD_ints, eqB_int, neB_int, ltB, leB, gtB, geB, isNB_none, notNB, isCB, ixD, lenD, absD, ML.intD, listD, tupD, slD, sl3, appD, metO, truD])
          simp [isTab, ha]
        | true =>
          cases ds with
          | nil => simp at hl'; omega
          | cons x xs =>
            have hx : isVals v x = true := by
              rw [List.all_cons, Bool.and_eq_true] at ha
              exact ha.1
            obtain ⟨i, es, rfl⟩ := vals_cons h0 hx
            (try simp only [↓we_seq, ↓we_asg, ↓we_ret, ↓we_retN, ↓we_sIf, ↓we_drop, ↓we_nx, ↓we_brk, ↓we_cnt, ↓we_var, ↓we_C, ↓we_frz, ↓we_hold, ↓we_bin, ↓we_cmp, ↓we_un, ↓we_isi, ↓we_aNil, ↓we_aCons, ↓we_cb, ↓we_tup, ↓we_lst, ↓we_b, ↓we_tru, ↓we_and, ↓we_or, ↓we_not, ↓we_andV, ↓we_orV, ↓we_notV, ↓we_mIf, ↓we_chain, ↓we_set, ↓we_mgSub, ↓we_mgTup, ↓we_mgNil, ↓we_mgCons, ↓we_iR1, ↓we_iR2, ↓we_for, ↓we_mNo, ↓we_part, ↓we_sl, ↓we_ms, ↓we_met, ↓we_call_, ↓we_callIo_, ↓we_lc_, ↓we_iA, ↓we_yes, ↓we_par2, ↓we_par3, wo_some, wo_map, iaK_list, iaK_tuple, iaK_str, parK2_e, parK3_e, rd2, rd1, rd2B, rdN, rdAll, rd, hold, boolO, truO, intO, strO, frzO, retO, isIo_zero, isIo_succ, ioB_no, ioB_frz, ioB_own, ioB_io, le_line, lt_line, contAt, ML.putAt, Sl.cont, Sl.put, outsV, tupO, lstO, bo, noB, rtK_rt, rtK_nx, rtK1_rt, rtK1_nx, List.getElem?_cons_zero, List.getElem?_cons_succ, List.set_cons_zero, List.set_cons_succ, Option.map_some, Option.isSome_some, reduceIte, Bool.false_eq_true, Bool.true_eq_false, if_true, if_false, wipeR, ixN_lit, atI_lit, Option.bind_some, Nat.reduceLT, Nat.reduceLeDiff, ML.pos1, List.length_map, isT, List.map_cons, List.map_nil, List.length_cons, List.length_nil, List.cons_append, List.nil_append, List.append_nil, List.replicate, true_and, and_true, Nat.reduceSub, Nat.reduceAdd, Bool.not_true, Bool.not_false, decide_eq_true_eq, Bool.not_eq_true', decide_eq_false_iff_not, Int.reduceToNat, Int.reduceLT, Int.reduceLE, Int.reducePow, Int.reduceNeg, Bool.or_true, Bool.true_or, small_emod, small_lit, pow_10_18, and_self, addD, subD, mulD, modD, fdivD, negD, inD_ints, eqB_int, neB_int, ltB, leB, gtB, geB, isNB_none, notNB, isCB, ixD, lenD, absD, ML.intD, listD, tupD, slD, sl3, appD, metO, truD]); repeat ((first | rw [then_nx] | rw [then_rt] | rw [then_bk] | rw [then_ct]); simp only [↓we_seq, ↓we_asg, ↓we_ret, ↓we_retN, ↓we_sIf, ↓we_drop, ↓we_nx, ↓we_brk, ↓we_cnt, ↓we_var, ↓we_C, ↓we_frz, ↓we_hold, ↓we_bin, ↓we_cmp, ↓we_un, ↓we_isi, ↓we_aNil, ↓we_aCons, ↓we_cb, ↓we_tup, ↓we_lst, ↓we_b, ↓we_tru, ↓we_and, ↓we_or, ↓we_not, ↓we_andV, ↓we_orV, ↓we_notV, ↓we_mIf, ↓we_chain, ↓we_set, ↓we_mgSub, ↓we_mgTup, ↓we_mgNil, ↓we_mgCons, ↓we_iR1, ↓we_iR2, ↓we_for, ↓we_mNo, ↓we_part, ↓we_sl, ↓we_ms, ↓we_met, ↓we_call_, ↓we_callIo_, ↓we_lc_, ↓we_iA, ↓we_yes, ↓we_par2, ↓we_par3, wo_some, wo_map, iaK_list, iaK_tuple, iaK_str, parK2_e, parK3_e, rd2, rd1, rd2B, rdN, rdAll, rd, hold, boolO, truO, intO, strO, frzO, retO, isIo_zero, isIo_succ, ioB_no, ioB_frz, ioB_own, ioB_io, le_line, lt_line, contAt, ML.putAt, Sl.cont, Sl.put, outsV, tupO, lstO, bo, noB, rtK_rt, rtK_nx, rtK1_rt, rtK1_nx, List.getElem?_cons_zero, List.getElem?_cons_succ, List.set_cons_zero, List.set_cons_succ, Option.map_some, Option.isSome_some, reduceIte, Bool.false_eq_true, Bool.true_eq_false, if_true, if_false, wipeR, ixN_lit, atI_lit, Option.bind_some, Nat.reduceLT, Nat.reduceLeDiff, ML.pos1, List.length_map, isT, List.map_cons, List.map_nil, List.length_cons, List.length_nil, List.cons_append, List.nil_append, List.append_nil, List.replicate, true_and, and_true, Nat.reduceSub, Nat.reduceAdd, Bool.not_true, Bool.not_false, decide_eq_true_eq, Bool.not_eq_true', decide_eq_false_iff_not, Int.reduceToNat, Int.reduceLT, Int.reduceLE, Int.reducePow, Int.reduceNeg, Bool.or_true, Bool.true_or, small_emod, small_lit, pow_10_18, and_self, addD, subD, mulD, modD, fdivD, negD, inD_ints, eqB_int, neB_int, ltB, leB, gtB, geB, isNB_none, notNB, isCB, ixD, lenD, absD, ML.intD, listD, tupD, slD, sl3, appD, metO, truD])
            rw [isTab_tup, ha, hl']
            simp [hd00, hd0]
  | _ =>
    (try simp only [↓we_seq, ↓we_asg, ↓we_ret, ↓we_retN, ↓we_sIf, ↓we_drop, ↓we_nx, ↓we_brk, ↓we_cnt, ↓we_var, ↓we_C, ↓we_frz, ↓we_hold, ↓we_bin, ↓we_cmp, ↓we_un, ↓we_isi, ↓we_aNil, ↓we_aCons, ↓we_cb, ↓we_tup, ↓we_lst, ↓we_b, ↓we_tru, ↓we_and, ↓we_or, ↓we_not, ↓we_andV, ↓we_orV, ↓we_notV, ↓we_mIf, ↓we_chain, ↓we_set, ↓we_mgSub, ↓we_mgTup, ↓we_mgNil, ↓we_mgCons, ↓we_iR1, ↓we_iR2, ↓we_for, ↓we_mNo, ↓we_part, ↓we_sl, ↓we_ms, ↓we_met, ↓we_call_, ↓we_callIo_, ↓we_lc_, ↓we_iA, ↓we_yes, ↓we_par2, ↓we_par3, wo_some, wo_map, iaK_list, iaK_tuple, iaK_str, parK2_e, parK3_e, rd2, rd1, rd2B, rdN, rdAll, rd, hold, boolO, truO, intO, strO, frzO, retO, isIo_zero, isIo_succ, ioB_no, ioB_frz, ioB_own, ioB_io, le_line, lt_line, contAt, ML.putAt, Sl.cont, Sl.put, outsV, tupO, lstO, bo, noB, rtK_rt, rtK_nx, rtK1_rt, rtK1_nx, List.getElem?_cons_zero, List.getElem?_cons_succ, List.set_cons_zero, List.set_cons_succ, Option.map_some, Option.isSome_some, reduceIte, Bool.false_eq_true, Bool.true_eq_false, if_true, if_false, wipeR, ixN_lit, atI_lit, Option.bind_some, Nat.reduceLT, Nat.reduceLeDiff, ML.pos1, List.length_map, isT, List.map_cons, List.map_nil, List.length_cons, List.length_nil, List.cons_append, List.nil_append, List.append_nil, List.replicate, true_and, and_true, Nat.reduceSub, Nat.reduceAdd, Bool.not_true, Bool.not_false, decide_eq_true_eq, Bool.not_eq_true', decide_eq_false_iff_not, Int.reduceToNat, Int.reduceLT, Int.reduceLE, Int.reducePow, Int.reduceNeg, Bool.or_true, Bool.true_or, small_emod, small_lit, pow_10_18, and_self, addD, subD, mulD, modD, fdivD, negD, inD_ints, eqB_int, neB_int, ltB, leB, gtB, geB, isNB_none, notNB, isCB, ixD, lenD, absD, ML.intD, listD, tupD, slD, sl3, appD, metO, truD]); repeat ((first | rw [then_nx] | rw [then_rt] | rw [then_bk] | rw [then_ct]); simp only [↓we_seq, ↓we_asg, ↓we_ret, ↓we_retN, ↓we_sIf, ↓we_drop, ↓we_nx, ↓we_brk, ↓we_cnt, ↓we_var, ↓we_C, ↓we_frz, ↓we_hold, ↓we_bin, ↓we_cmp, ↓we_un, ↓we_isi, ↓we_aNil, ↓we_aCons, ↓we_cb, ↓we_tup, ↓we_lst, ↓we_b, ↓we_tru, ↓we_and, ↓we_or, ↓we_not, ↓we_andV, ↓we_orV, ↓we_notV, ↓we_mIf, ↓we_chain, ↓we_set, ↓we_mgSub, ↓we_mgTup, ↓we_mgNil, ↓we_mgCons, ↓we_iR1, ↓we_iR2, ↓we_for, ↓we_mNo, ↓we_part, ↓we_sl, ↓we_ms, ↓we_met, ↓we_call_, ↓we_callIo_, ↓we_lc_, ↓we_iA, ↓we_yes, ↓we_par2, ↓we_par3, wo_some, wo_map, iaK_list, iaK_tuple, iaK_str, parK2_e, parK3_e, rd2, rd1, rd2B, rdN, rdAll, rd, hold, boolO, truO, intO, strO, frzO, retO, isIo_zero, isIo_succ, ioB_no, ioB_frz, ioB_own, ioB_io, le_line, lt_line, contAt, ML.putAt, Sl.cont, Sl.put, outsV, tupO, lstO, bo, noB, rtK_rt, rtK_nx, rtK1_rt, rtK1_nx, List.getElem?_cons_zero, List.getElem?_cons_succ, List.set_cons_zero, List.set_cons_succ, Option.map_some, Option.isSome_some, reduceIte, Bool.false_eq_true, Bool.true_eq_false, if_true, if_false, wipeR, ixN_lit, atI_lit, Option.bind_some, Nat.reduceLT, Nat.reduceLeDiff, ML.pos1, List.length_map, isT, List.map_cons, List.map_nil, List.length_cons, List.length_nil, List.cons_append, List.nil_append, List.append_nil, List.replicate, true_and, and_true, Nat.reduceSub, Nat.reduceAdd, Bool.not_true, Bool.not_false, decide_eq_true_eq, Bool.not_eq_true', decide_eq_false_iff_not, Int.reduceToNat, Int.reduceLT, Int.reduceLE, Int.reducePow, Int.reduceNeg, Bool.or_true, Bool.true_or, small_emod, small_lit, pow_10_18, and_self, addD, subD, mulD, modD, fdivD, negD, inD_ints, eqB_int, neB_int, ltB, leB, gtB, geB, isNB_none, notNB, isCB, ixD, lenD, absD, ML.intD, listD, tupD, slD, sl3, appD, metO, truD])
    rfl
/-- what _law_same may look at, so many calls deep -/
def okS : Nat → D → Prop
  | 0, _ => False
  | _ + 1, .dict _ => False
  | _ + 1, .str x => SeqAt.shaped (.str x) = true
  | k + 1, .list ds => ds.length < 16777216 ∧ ∀ d ∈ ds, okS k d
  | k + 1, .tuple ds => ds.length < 16777216 ∧ ∀ d ∈ ds, okS k d
  | _ + 1, _ => True
theorem isCB_bool {a b : Bool} : isCB (.bool a) (.bool b) = some (a == b) := rfl
theorem isCB_else {d : D} {b : Bool} (h : ∀ c, d ≠ .bool c) : isCB d (.bool b) = some false := by
  cases d with
  | bool c => exact absurd rfl (h c)
  | _ => rfl
theorem same_ok : ∀ (k : Nat) (d : D), okS k d → F0 (m__law_same k) [d, d] (fun r => r = .v (.bool true))
  | 0, d, h => h.elim
  | k + 1, d, h => by
    refine F0.def_ ?_
    cases d with
    | none => (try simp only [↓we_seq, ↓we_asg, ↓we_ret, ↓we_retN, ↓we_sIf, ↓we_drop, ↓we_nx, ↓we_brk, ↓we_cnt, ↓we_var, ↓we_C, ↓we_frz, ↓we_hold, ↓we_bin, ↓we_cmp, ↓we_un, ↓we_isi, ↓we_aNil, ↓we_aCons, ↓we_cb, ↓we_tup, ↓we_lst, ↓we_b, ↓we_tru, ↓we_and, ↓we_or, ↓we_not, ↓we_andV, ↓we_orV, ↓we_notV, ↓we_mIf, ↓we_chain, ↓we_set, ↓we_mgSub, ↓we_mgTup, ↓we_mgNil, ↓we_mgCons, ↓we_iR1, ↓we_iR2, ↓we_for, ↓we_mNo, ↓we_part, ↓we_sl, ↓we_ms, ↓we_met, ↓we_call_, ↓we_callIo_, ↓we_lc_, ↓we_iA, ↓we_yes, ↓we_par2, ↓we_par3, wo_some, wo_map, iaK_list, iaK_tuple, iaK_str, parK2_e, parK3_e, rd2, rd1, rd2B, rdN, rdAll, rd, hold, boolO, truO, intO, strO, frzO, retO, isIo_zero, isIo_succ, ioB_no, ioB_frz, ioB_own, ioB_io, le_line, lt_line, contAt, ML.putAt, Sl.cont, Sl.put, outsV, tupO, lstO, bo, noB, rtK_rt, rtK_nx, rtK1_rt, rtK1_nx, List.getElem?_cons_zero, List.getElem?_cons_succ, List.set_cons_zero, List.set_cons_succ, Option.map_some, Option.isSome_some, reduceIte, Bool.false_eq_true, Bool.true_eq_false, if_true, if_false, wipeR, ixN_lit, atI_lit, Option.bind_some, Nat.reduceLT, Nat.reduceLeDiff, ML.pos1, List.length_map, isT, List.map_cons, List.map_nil, List.length_cons, List.length_nil, List.cons_append, List.nil_append, List.append_nil, List.replicate, true_and, and_true, Nat.reduceSub, Nat.reduceAdd, Bool.not_true, Bool.not_false, decide_eq_true_eq, Bool.not_eq_true', decide_eq_false_iff_not, Int.reduceToNat, Int.reduceLT, Int.reduceLE, Int.reducePow, Int.reduceNeg, Bool.or_true, Bool.true_or, small_emod, small_lit, pow_10_18, and_self, addD, subD, mulD, modD, fdivD, negD, inD_ints, eqB_int, neB_int, ltB, leB, gtB, geB, isNB_none, notNB, isCB, ixD, lenD, absD, ML.intD, listD, tupD, slD, sl3, appD, metO, truD, isNone]); repeat ((first | rw [then_nx] | rw [then_rt] | rw [then_bk] | rw [then_ct]); simp only [↓we_seq, ↓we_asg, ↓we_ret, ↓we_retN, ↓we_sIf, ↓we_drop, ↓we_nx, ↓we_brk, ↓we_cnt, ↓we_var, ↓we_C, ↓we_frz, ↓we_hold, ↓we_bin, ↓we_cmp, ↓we_un, ↓we_isi, ↓we_aNil, ↓we_aCons, ↓we_cb, ↓we_tup, ↓we_lst, ↓we_b, ↓we_tru, ↓we_and, ↓we_or, ↓we_not, ↓we_andV, ↓we_orV, ↓we_notV, ↓we_mIf, ↓we_chain, ↓we_set, ↓we_mgSub, ↓we_mgTup, ↓we_mgNil, ↓we_mgCons, ↓we_iR1, ↓we_iR2, ↓we_for, ↓we_mNo, ↓we_part, ↓we_sl, ↓we_ms, ↓we_met, ↓we_call_, ↓we_callIo_, ↓we_lc_, ↓we_iA, ↓we_yes, ↓we_par2, ↓we_par3, wo_some, wo_map, iaK_list, iaK_tuple, iaK_str, parK2_e, parK3_e, rd2, rd1, rd2B, rdN, rdAll, rd, hold, boolO, truO, intO, strO, frzO, retO, isIo_zero, isIo_succ, ioB_no, ioB_frz, ioB_own, ioB_io, le_line, lt_line, contAt, ML.putAt, Sl.cont, Sl.put, outsV, tupO, lstO, bo, noB, rtK_rt, rtK_nx, rtK1_rt, rtK1_nx, List.getElem?_cons_zero, List.getElem?_cons_succ, List.set_cons_zero, List.set_cons_succ, Option.map_some, Option.isSome_some, reduceIte, Bool.false_eq_true, Bool.true_eq_false, if_true, if_false, wipeR, ixN_lit, atI_lit, Option.bind_some, Nat.reduceLT, Nat.reduceLeDiff, ML.pos1, List.length_map, isT, List.map_cons, List.map_nil, List.length_cons, List.length_nil, List.cons_append, List.nil_append, List.append_nil, List.replicate, true_and, and_true, Nat.reduceSub, Nat.reduceAdd, Bool.not_true, Bool.not_false, decide_eq_true_eq, Bool.not_eq_true', decide_eq_false_iff_not, Int.reduceToNat, Int.reduceLT, Int.reduceLE, Int.reducePow, Int.reduceNeg, Bool.or_true, Bool.true_or, small_emod, small_lit, pow_10_18, and_self, addD, subD, mulD, modD, fdivD, negD, inD_ints, eqB_int, neB_int, ltB, leB, gtB, geB, isNB_none, notNB, isCB, ixD, lenD, absD, ML.intD, listD, tupD, slD, sl3, appD, metO, truD, isNone]);
    | bool b =>
      cases b
      · (try simp only [↓we_seq, ↓we_asg, ↓we_ret, ↓we_retN, ↓we_sIf, ↓we_drop, ↓we_nx, ↓we_brk, ↓we_cnt, ↓we_var, ↓we_C, ↓we_frz, ↓we_hold, ↓we_bin, ↓we_cmp, ↓we_un, ↓we_isi, ↓we_aNil, ↓we_aCons, ↓we_cb, ↓we_tup, ↓we_lst, ↓we_b, ↓we_tru, ↓we_and, ↓we_or, ↓we_not, ↓we_andV, ↓we_orV, ↓we_notV, ↓we_mIf, ↓we_chain, ↓we_set, ↓we_mgSub, ↓we_mgTup, ↓we_mgNil, ↓we_mgCons, ↓we_iR1, ↓we_iR2, ↓we_for, ↓we_mNo, ↓we_part, ↓we_sl, ↓we_ms, ↓we_met, ↓we_call_, ↓we_callIo_, ↓we_lc_, ↓we_iA, ↓we_yes, ↓we_par2, ↓we_par3, wo_some, wo_map, iaK_list, iaK_tuple, iaK_str, parK2_e, parK3_e, rd2, rd1, rd2B, rdN, rdAll, rd, hold, boolO, truO, intO, strO, frzO, retO, isIo_zero, isIo_succ, ioB_no, ioB_frz, ioB_own, ioB_io, le_line, lt_line, contAt, ML.putAt, Sl.cont, Sl.put, outsV, tupO, lstO, bo, noB, rtK_rt, rtK_nx, rtK1_rt, rtK1_nx, List.getElem?_cons_zero, List.getElem?_cons_succ, List.set_cons_zero, List.set_cons_succ, Option.map_some, Option.isSome_some, reduceIte, Bool.false_eq_true, Bool.true_eq_false, if_true, if_false, wipeR, ixN_lit, atI_lit, Option.bind_some, Nat.reduceLT, Nat.reduceLeDiff, ML.pos1, List.length_map, isT, List.map_cons, List.map_nil, List.length_cons, List.length_nil, List.cons_append, List.nil_append, List.append_nil, List.replicate, true_and, and_true, Nat.reduceSub, Nat.reduceAdd, Bool.not_true, Bool.not_false, decide_eq_true_eq, Bool.not_eq_true', decide_eq_false_iff_not, Int.reduceToNat, Int.reduceLT, Int.reduceLE, Int.reducePow, Int.reduceNeg, Bool.or_true, Bool.true_or, small_emod, small_lit, pow_10_18, and_self, addD, subD, mulD, modD, fdivD, negD, inD_ints, eqB_int, neB_int, ltB, leB, gtB, geB, isNB_none, notNB, isCB, ixD, lenD, absD, ML.intD, listD, tupD, slD, sl3, appD, metO, truD, isNone, isCB_bool]); repeat ((first | rw [then_nx] | rw [then_rt] | rw [then_bk] | rw [then_ct]); simp only [↓we_seq, ↓we_asg, ↓we_ret, ↓we_retN, ↓we_sIf, ↓we_drop, ↓we_nx, ↓we_brk, ↓we_cnt, ↓we_var, ↓we_C, ↓we_frz, ↓we_hold, ↓we_bin, ↓we_cmp, ↓we_un, ↓we_isi, ↓we_aNil, ↓we_aCons, ↓we_cb, ↓we_tup, ↓we_lst, ↓we_b, ↓we_tru, ↓we_and, ↓we_or, ↓we_not, ↓we_andV, ↓we_orV, ↓we_notV, ↓we_mIf, ↓we_chain, ↓we_set, ↓we_mgSub, ↓we_mgTup, ↓we_mgNil, ↓we_mgCons, ↓we_iR1, ↓we_iR2, ↓we_for, ↓we_mNo, ↓we_part, ↓we_sl, ↓we_ms, ↓we_met, ↓we_call_, ↓we_callIo_, ↓we_lc_, ↓we_iA, ↓we_yes, ↓we_par2, ↓we_par3, wo_some, wo_map, iaK_list, iaK_tuple, iaK_str, parK2_e, parK3_e, rd2, rd1, rd2B, rdN, rdAll, rd, hold, boolO, truO, intO, strO, frzO, retO, isIo_zero, isIo_succ, ioB_no, ioB_frz, ioB_own, ioB_io, le_line, lt_line, contAt, ML.putAt, Sl.cont, Sl.put, outsV, tupO, lstO, bo, noB, rtK_rt, rtK_nx, rtK1_rt, rtK1_nx, List.getElem?_cons_zero, List.getElem?_cons_succ, List.set_cons_zero, List.set_cons_succ, Option.map_some, Option.isSome_some, reduceIte, Bool.false_eq_true, Bool.true_eq_false, if_true, if_false, wipeR, ixN_lit, atI_lit, Option.bind_some, Nat.reduceLT, Nat.reduceLeDiff, ML.pos1, List.length_map, isT, List.map_cons, List.map_nil, List.length_cons, List.length_nil, List.cons_append, List.nil_append, List.append_nil, List.replicate, true_and, and_true, Nat.reduceSub, Nat.reduceAdd, Bool.not_true, Bool.not_false, decide_eq_true_eq, Bool.not_eq_true', decide_eq_false_iff_not, Int.reduceToNat, Int.reduceLT, Int.reduceLE, Int.reducePow, Int.reduceNeg, Bool.or_true, Bool.true_or, small_emod, small_lit, pow_10_18, and_self, addD, subD, mulD, modD, fdivD, negD, inD_ints, eqB_int, neB_int, ltB, leB, gtB, geB, isNB_none, notNB, isCB, ixD, lenD, absD, ML.intD, listD, tupD, slD, sl3, appD, metO, truD, isNone, isCB_bool]);
        simp
      · (try simp only [↓we_seq, ↓we_asg, ↓we_ret, ↓we_retN, ↓we_sIf, ↓we_drop, ↓we_nx, ↓we_brk, ↓we_cnt, ↓we_var, ↓we_C, ↓we_frz, ↓we_hold, ↓we_bin, ↓we_cmp, ↓we_un, ↓we_isi, ↓we_aNil, ↓we_aCons, ↓we_cb, ↓we_tup, ↓we_lst, ↓we_b, ↓we_tru, ↓we_and, ↓we_or, ↓we_not, ↓we_andV, ↓we_orV, ↓we_notV, ↓we_mIf, ↓we_chain, ↓we_set, ↓we_mgSub, ↓we_mgTup, ↓we_mgNil, ↓we_mgCons, ↓we_iR1, ↓we_iR2, ↓we_for, ↓we_mNo, ↓we_part, ↓we_sl, ↓we_ms, ↓we_met, ↓we_call_, ↓we_callIo_, ↓we_lc_, ↓we_iA, ↓we_yes, ↓we_par2, ↓we_par3, wo_some, wo_map, iaK_list, iaK_tuple, iaK_str, parK2_e, parK3_e, rd2, rd1, rd2B, rdN, rdAll, rd, hold, boolO, truO, intO, strO, frzO, retO, isIo_zero, isIo_succ, ioB_no, ioB_frz, ioB_own, ioB_io, le_line, lt_line, contAt, ML.putAt, Sl.cont, Sl.put, outsV, tupO, lstO, bo, noB, rtK_rt, rtK_nx, rtK1_rt, rtK1_nx, List.getElem?_cons_zero, List.getElem?_cons_succ, List.set_cons_zero, List.set_cons_succ, Option.map_some, Option.isSome_some, reduceIte, Bool.false_eq_true, Bool.true_eq_false, if_true, if_false, wipeR, ixN_lit, atI_lit, Option.bind_some, Nat.reduceLT, Nat.reduceLeDiff, ML.pos1, List.length_map, isT, List.map_cons, List.map_nil, List.length_cons, List.length_nil, List.cons_append, List.nil_append, List.append_nil, List.replicate, true_and, and_true, Nat.reduceSub, Nat.reduceAdd, Bool.not_true, Bool.not_false, decide_eq_true_eq, Bool.not_eq_true', decide_eq_false_iff_not, Int.reduceToNat, Int.reduceLT, Int.reduceLE, Int.reducePow, Int.reduceNeg, Bool.or_true, Bool.true_or, small_emod, small_lit, pow_10_18, and_self, addD, subD, mulD, modD, fdivD, negD, inD_ints, eqB_int, neB_int, ltB, leB, gtB, geB, isNB_none, notNB, isCB, ixD, lenD, absD, ML.intD, listD, tupD, slD, sl3, appD, metO, truD, isNone, isCB_bool]); repeat ((first | rw [then_nx] | rw [then_rt] | rw [then_bk] | rw [then_ct]); simp only [↓we_seq, ↓we_asg, ↓we_ret, ↓we_retN, ↓we_sIf, ↓we_drop, ↓we_nx, ↓we_brk, ↓we_cnt, ↓we_var, ↓we_C, ↓we_frz, ↓we_hold, ↓we_bin, ↓we_cmp, ↓we_un, ↓we_isi, ↓we_aNil, ↓we_aCons, ↓we_cb, ↓we_tup, ↓we_lst, ↓we_b, ↓we_tru, ↓we_and, ↓we_or, ↓we_not, ↓we_andV, ↓we_orV, ↓we_notV, ↓we_mIf, ↓we_chain, ↓we_set, ↓we_mgSub, ↓we_mgTup, ↓we_mgNil, ↓we_mgCons, ↓we_iR1, ↓we_iR2, ↓we_for, ↓we_mNo, ↓we_part, ↓we_sl, ↓we_ms, ↓we_met, ↓we_call_, ↓we_callIo_, ↓we_lc_, ↓we_iA, ↓we_yes, ↓we_par2, ↓we_par3, wo_some, wo_map, iaK_list, iaK_tuple, iaK_str, parK2_e, parK3_e, rd2, rd1, rd2B, rdN, rdAll, rd, hold, boolO, truO, intO, strO, frzO, retO, isIo_zero, isIo_succ, ioB_no, ioB_frz, ioB_own, ioB_io, le_line, lt_line, contAt, ML.putAt, Sl.cont, Sl.put, outsV, tupO, lstO, bo, noB, rtK_rt, rtK_nx, rtK1_rt, rtK1_nx, List.getElem?_cons_zero, List.getElem?_cons_succ, List.set_cons_zero, List.set_cons_succ, Option.map_some, Option.isSome_some, reduceIte, Bool.false_eq_true, Bool.true_eq_false, if_true, if_false, wipeR, ixN_lit, atI_lit, Option.bind_some, Nat.reduceLT, Nat.reduceLeDiff, ML.pos1, List.length_map, isT, List.map_cons, List.map_nil, List.length_cons, List.length_nil, List.cons_append, List.nil_append, List.append_nil, List.replicate, true_and, and_true, Nat.reduceSub, Nat.reduceAdd, Bool.not_true, Bool.not_false, decide_eq_true_eq, Bool.not_eq_true', decide_eq_false_iff_not, Int.reduceToNat, Int.reduceLT, Int.reduceLE, Int.reducePow, Int.reduceNeg, Bool.or_true, Bool.true_or, small_emod, small_lit, pow_10_18, and_self, addD, subD, mulD, modD, fdivD, negD, inD_ints, eqB_int, neB_int, ltB, leB, gtB, geB, isNB_none, notNB, isCB, ixD, lenD, absD, ML.intD, listD, tupD, slD, sl3, appD, metO, truD, isNone, isCB_bool]);
        simp
    | int i =>
      (try simp only [↓we_seq, ↓we_asg, ↓we_ret, ↓we_retN, ↓we_sIf, ↓we_drop, ↓we_nx, ↓we_brk, ↓we_cnt, ↓we_var, ↓we_C, ↓we_frz, ↓we_hold, ↓we_bin, ↓we_cmp, ↓we_un, ↓we_isi, ↓we_aNil, ↓we_aCons, ↓we_cb, ↓we_tup, ↓we_lst, ↓we_b, ↓we_tru, ↓we_and, ↓we_or, ↓we_not, ↓we_andV, ↓we_orV, ↓we_notV, ↓we_mIf, ↓we_chain, ↓we_set, ↓we_mgSub, ↓we_mgTup, ↓we_mgNil, ↓we_mgCons, ↓we_iR1, ↓we_iR2, ↓we_for, ↓we_mNo, ↓we_part, ↓we_sl, ↓we_ms, ↓we_met, ↓we_call_, ↓we_callIo_, ↓we_lc_, ↓we_iA, ↓we_yes, ↓we_par2, ↓we_par3, wo_some, wo_map, iaK_list, iaK_tuple, iaK_str, parK2_e, parK3_e, rd2, rd1, rd2B, rdN, rdAll, rd, hold, boolO, truO, intO, strO, frzO, retO, isIo_zero, isIo_succ, ioB_no, ioB_frz, ioB_own, ioB_io, le_line, lt_line, contAt, ML.putAt, Sl.cont, Sl.put, outsV, tupO, lstO, bo, noB, rtK_rt, rtK_nx, rtK1_rt, rtK1_nx, List.getElem?_cons_zero, List.getElem?_cons_succ, List.set_cons_zero, List.set_cons_succ, Option.map_some, Option.isSome_some, reduceIte, Bool.false_eq_true, Bool.true_eq_false, if_true, if_false, wipeR, ixN_lit, atI_lit, Option.bind_some, Nat.reduceLT, Nat.reduceLeDiff, ML.pos1, List.length_map, isT, List.map_cons, List.map_nil, List.length_cons, List.length_nil, List.cons_append, List.nil_append, List.append_nil, List.replicate, true_and, and_true, Nat.reduceSub, Nat.reduceAdd, Bool.not_true, Bool.not_false, decide_eq_true_eq, Bool.not_eq_true', decide_eq_false_iff_not, Int.reduceToNat, Int.reduceLT, Int.reduceLE, Int.reducePow, Int.reduceNeg, Bool.or_true, Bool.true_or, small_emod, small_lit, pow_10_18, and_self, addD, subD, mulD, modD, fdivD, negD, inD_ints, eqB_int, neB_int, ltB, leB, gtB, geB, isNB_none, notNB, isCB, ixD, lenD, absD, ML.intD, listD, tupD, slD, sl3, appD, metO, truD, isNone, isCB]); repeat ((first | rw [then_nx] | rw [then_rt] | rw [then_bk] | rw [then_ct]); simp only [↓we_seq, ↓we_asg, ↓we_ret, ↓we_retN, ↓we_sIf, ↓we_drop, ↓we_nx, ↓we_brk, ↓we_cnt, ↓we_var, ↓we_C, ↓we_frz, ↓we_hold, ↓we_bin, ↓we_cmp, ↓we_un, ↓we_isi, ↓we_aNil, ↓we_aCons, ↓we_cb, ↓we_tup, ↓we_lst, ↓we_b, ↓we_tru, ↓we_and, ↓we_or, ↓we_not, ↓we_andV, ↓we_orV, ↓we_notV, ↓we_mIf, ↓we_chain, ↓we_set, ↓we_mgSub, ↓we_mgTup, ↓we_mgNil, ↓we_mgCons, ↓we_iR1, ↓we_iR2, ↓we_for, ↓we_mNo, ↓we_part, ↓we_sl, ↓we_ms, ↓we_met, ↓we_call_, ↓we_callIo_, ↓we_lc_, ↓we_iA, ↓we_yes, ↓we_par2, ↓we_par3, wo_some, wo_map, iaK_list, iaK_tuple, iaK_str, parK2_e, parK3_e, rd2, rd1, rd2B, rdN, rdAll, rd, hold, boolO, truO, intO, strO, frzO, retO, isIo_zero, isIo_succ, ioB_no, ioB_frz, ioB_own, ioB_io, le_line, lt_line, contAt, ML.putAt, Sl.cont, Sl.put, outsV, tupO, lstO, bo, noB, rtK_rt, rtK_nx, rtK1_rt, rtK1_nx, List.getElem?_cons_zero, List.getElem?_cons_succ, List.set_cons_zero, List.set_cons_succ, Option.map_some, Option.isSome_some, reduceIte, Bool.false_eq_true, Bool.true_eq_false, if_true, if_false, wipeR, ixN_lit, atI_lit, Option.bind_some, Nat.reduceLT, Nat.reduceLeDiff, ML.pos1, List.length_map, isT, List.map_cons, List.map_nil, List.length_cons, List.length_nil, List.cons_append, List.nil_append, List.append_nil, List.replicate, true_and, and_true, Nat.reduceSub, Nat.reduceAdd, Bool.not_true, Bool.not_false, decide_eq_true_eq, Bool.not_eq_true', decide_eq_false_iff_not, Int.reduceToNat, Int.reduceLT, Int.reduceLE, Int.reducePow, Int.reduceNeg, Bool.or_true, Bool.true_or, small_emod, small_lit, pow_10_18, and_self, addD, subD, mulD, modD, fdivD, negD, inD_ints, eqB_int, neB_int, ltB, leB, gtB, geB, isNB_none, notNB, isCB, ixD, lenD, absD, ML.intD, listD, tupD, slD, sl3, appD, metO, truD, isNone, isCB]);
      simp
    | str x =>
      have e : eqB (.str x) (.str x) = some true := by
        have hs : SeqAt.shaped (.str x) = true := h
        show (if shapedB (.str x) (.str x) = true then some (PyData.eqv (.str x) (.str x)) else none) = _
        rw [if_pos (by unfold shapedB; rw [hs]; rfl)]
        congr 1
        show (x == x) = true
        simp
      (try simp only [↓we_seq, ↓we_asg, ↓we_ret, ↓we_retN, ↓we_sIf, ↓we_drop, ↓we_nx, ↓we_brk, ↓we_cnt, ↓we_var, ↓we_C, ↓we_frz, ↓we_hold, ↓we_bin, ↓we_cmp, ↓we_un, ↓we_isi, ↓we_aNil, ↓we_aCons, ↓we_cb, ↓we_tup, ↓we_lst, ↓we_b, ↓we_tru, ↓we_and, ↓we_or, ↓we_not, ↓we_andV, ↓we_orV, ↓we_notV, ↓we_mIf, ↓we_chain, ↓we_set, ↓we_mgSub, ↓we_mgTup, ↓we_mgNil, ↓we_mgCons, ↓we_iR1, ↓we_iR2, ↓we_for, ↓we_mNo, ↓we_part, ↓we_sl, ↓we_ms, ↓we_met, ↓we_call_, ↓we_callIo_, ↓we_lc_, ↓we_iA, ↓we_yes, ↓we_par2, ↓we_par3, wo_some, wo_map, iaK_list, iaK_tuple, iaK_str, parK2_e, parK3_e, rd2, rd1, rd2B, rdN, rdAll, rd, hold, boolO, truO, intO, strO, frzO, retO, isIo_zero, isIo_succ, ioB_no, ioB_frz, ioB_own, ioB_io, le_line, lt_line, contAt, ML.putAt, Sl.cont, Sl.put, outsV, tupO, lstO, bo, noB, rtK_rt, rtK_nx, rtK1_rt, rtK1_nx, List.getElem?_cons_zero, List.getElem?_cons_succ, List.set_cons_zero, List.set_cons_succ, Option.map_some, Option.isSome_some, reduceIte, Bool.false_eq_true, Bool.true_eq_false, if_true, if_false, wipeR, ixN_lit, atI_lit, Option.bind_some, Nat.reduceLT, Nat.reduceLeDiff, ML.pos1, List.length_map, isT, List.map_cons, List.map_nil, List.length_cons, List.length_nil, List.cons_append, List.nil_append, List.append_nil, List.replicate, true_and, and_true, Nat.reduceSub, Nat.reduceAdd, Bool.not_true, Bool.not_false, decide_eq_true_eq, Bool.not_eq_true', decide_eq_false_iff_not, Int.reduceToNat, Int.reduceLT, Int.reduceLE, Int.reducePow, Int.reduceNeg, Bool.or_true, Bool.true_or, small_emod, small_lit, pow_10_18, and_self, addD, subD, mulD, modD, fdivD, negD, inD_ints, eqB_int, neB_int, ltB, leB, gtB, geB, isNB_none, notNB, isCB, ixD, lenD, absD, ML.intD, listD, tupD, slD, sl3, appD, metO, truD, isNone, isCB, e]); repeat ((first | rw [then_nx] | rw [then_rt] | rw [then_bk] | rw [then_ct]); simp only [↓we_seq, ↓we_asg, ↓we_ret, ↓we_retN, ↓we_sIf, ↓we_drop, ↓we_nx, ↓we_brk, ↓we_cnt, ↓we_var, ↓we_C, ↓we_frz, ↓we_hold, ↓we_bin, ↓we_cmp, ↓we_un, ↓we_isi, ↓we_aNil, ↓we_aCons, ↓we_cb, ↓we_tup, ↓we_lst, ↓we_b, ↓we_tru, ↓we_and, ↓we_or, ↓we_not, ↓we_andV, ↓we_orV, ↓we_notV, ↓we_mIf, ↓we_chain, ↓we_set, ↓we_mgSub, ↓we_mgTup, ↓we_mgNil, ↓we_mgCons, ↓we_iR1, ↓we_iR2, ↓we_for, ↓we_mNo, ↓we_part, ↓we_sl, ↓we_ms, ↓we_met, ↓we_call_, ↓we_callIo_, ↓we_lc_, ↓we_iA, ↓we_yes, ↓we_par2, ↓we_par3, wo_some, wo_map, iaK_list, iaK_tuple, iaK_str, parK2_e, parK3_e, rd2, rd1, rd2B, rdN, rdAll, rd, hold, boolO, truO, intO, strO, frzO, retO, isIo_zero, isIo_succ, ioB_no, ioB_frz, ioB_own, ioB_io, le_line, lt_line, contAt, ML.putAt, Sl.cont, Sl.put, outsV, tupO, lstO, bo, noB, rtK_rt, rtK_nx, rtK1_rt, rtK1_nx, List.getElem?_cons_zero, List.getElem?_cons_succ, List.set_cons_zero, List.set_cons_succ, Option.map_some, Option.isSome_some, reduceIte, Bool.false_eq_true, Bool.true_eq_false, if_true, if_false, wipeR, ixN_lit, atI_lit, Option.bind_some, Nat.reduceLT, Nat.reduceLeDiff, ML.pos1, List.length_map, isT, List.map_cons, List.map_nil, List.length_cons, List.length_nil, List.cons_append, List.nil_append, List.append_nil, List.replicate, true_and, and_true, Nat.reduceSub, Nat.reduceAdd, Bool.not_true, Bool.not_false, decide_eq_true_eq, Bool.not_eq_true', decide_eq_false_iff_not, Int.reduceToNat, Int.reduceLT, Int.reduceLE, Int.reducePow, Int.reduceNeg, Bool.or_true, Bool.true_or, small_emod, small_lit, pow_10_18, and_self, addD, subD, mulD, modD, fdivD, negD, inD_ints, eqB_int, neB_int, ltB, leB, gtB, geB, isNB_none, notNB, isCB, ixD, lenD, absD, ML.intD, listD, tupD, slD, sl3, appD, metO, truD, isNone, isCB, e]);
    | list ds =>
      obtain ⟨hl, hd⟩ : ds.length < 16777216 ∧ ∀ d ∈ ds, okS k d := h
      (try simp only [↓we_seq, ↓we_asg, ↓we_ret, ↓we_retN, ↓we_sIf, ↓we_drop, ↓we_nx, ↓we_brk, ↓we_cnt, ↓we_var, ↓we_C, ↓we_frz, ↓we_hold, ↓we_bin, ↓we_cmp, ↓we_un, ↓we_isi, ↓we_aNil, ↓we_aCons, ↓we_cb, ↓we_tup, ↓we_lst, ↓we_b, ↓we_tru, ↓we_and, ↓we_or, ↓we_not, ↓we_andV, ↓we_orV, ↓we_notV, ↓we_mIf, ↓we_chain, ↓we_set, ↓we_mgSub, ↓we_mgTup, ↓we_mgNil, ↓we_mgCons, ↓we_iR1, ↓we_iR2, ↓we_for, ↓we_mNo, ↓we_part, ↓we_sl, ↓we_ms, ↓we_met, ↓we_call_, ↓we_callIo_, ↓we_lc_, ↓we_iA, ↓we_yes, ↓we_par2, ↓we_par3, wo_some, wo_map, iaK_list, iaK_tuple, iaK_str, parK2_e, parK3_e, rd2, rd1, rd2B, rdN, rdAll, rd, hold, boolO, truO, intO, strO, frzO, retO, isIo_zero, isIo_succ, ioB_no, ioB_frz, ioB_own, ioB_io, le_line, lt_line, contAt, ML.putAt, Sl.cont, Sl.put, outsV, tupO, lstO, bo, noB, rtK_rt, rtK_nx, rtK1_rt, rtK1_nx, List.getElem?_cons_zero, List.getElem?_cons_succ, List.set_cons_zero, List.set_cons_succ, Option.map_some, Option.isSome_some, reduceIte, Bool.false_eq_true, Bool.true_eq_false, if_true, if_false, wipeR, ixN_lit, atI_lit, Option.bind_some, Nat.reduceLT, Nat.reduceLeDiff, ML.pos1, List.length_map, isT, List.map_cons, List.map_nil, List.length_cons, List.length_nil, List.cons_append, List.nil_append, List.append_nil, List.replicate, true_and, and_true, Nat.reduceSub, Nat.reduceAdd, Bool.not_true, Bool.not_false, decide_eq_true_eq, Bool.not_eq_true', decide_eq_false_iff_not, Int.reduceToNat, Int.reduceLT, Int.reduceLE, Int.reducePow, Int.reduceNeg, Bool.or_true, Bool.true_or, small_emod, small_lit, pow_10_18, and_self, addD, subD, mulD, modD, fdivD, negD, inD_ints, eqB_int, neB_int, ltB, leB, gtB, geB, isNB_none, notNB, isCB, ixD, lenD, absD, ML.intD, listD, tupD, slD, sl3, appD, metO, truD, isNone, isCB]); repeat ((first | rw [then_nx] | rw [then_rt] | rw [then_bk] | rw [then_ct]); simp only [↓we_seq, ↓we_asg, ↓we_ret, ↓we_retN, ↓we_sIf, ↓we_drop, ↓we_nx, ↓we_brk, ↓we_cnt, ↓we_var, ↓we_C, ↓we_frz, ↓we_hold, ↓we_bin, ↓we_cmp, ↓we_un, ↓we_isi, ↓we_aNil, ↓we_aCons, ↓we_cb, ↓we_tup, ↓we_lst, ↓we_b, ↓we_tru, ↓we_and, ↓we_or, ↓we_not, ↓we_andV, ↓we_orV, ↓we_notV, ↓we_mIf, ↓we_chain, ↓we_set, ↓we_mgSub, ↓we_mgTup, ↓we_mgNil, ↓we_mgCons, ↓we_iR1, ↓we_iR2, ↓we_for, ↓we_mNo, ↓we_part, ↓we_sl, ↓we_ms, ↓we_met, ↓we_call_, ↓we_callIo_, ↓we_lc_, ↓we_iA, ↓we_yes, ↓we_par2, ↓we_par3, wo_some, wo_map, iaK_list, iaK_tuple, iaK_str, parK2_e, parK3_e, rd2, rd1, rd2B, rdN, rdAll, rd, hold, boolO, truO, intO, strO, frzO, retO, isIo_zero, isIo_succ, ioB_no, ioB_frz, ioB_own, ioB_io, le_line, lt_line, contAt, ML.putAt, Sl.cont, Sl.put, outsV, tupO, lstO, bo, noB, rtK_rt, rtK_nx, rtK1_rt, rtK1_nx, List.getElem?_cons_zero, List.getElem?_cons_succ, List.set_cons_zero, List.set_cons_succ, Option.map_some, Option.isSome_some, reduceIte, Bool.false_eq_true, Bool.true_eq_false, if_true, if_false, wipeR, ixN_lit, atI_lit, Option.bind_some, Nat.reduceLT, Nat.reduceLeDiff, ML.pos1, List.length_map, isT, List.map_cons, List.map_nil, List.length_cons, List.length_nil, List.cons_append, List.nil_append, List.append_nil, List.replicate, true_and, and_true, Nat.reduceSub, Nat.reduceAdd, Bool.not_true, Bool.not_false, decide_eq_true_eq, Bool.not_eq_true', decide_eq_false_iff_not, Int.reduceToNat, Int.reduceLT, Int.reduceLE, Int.reducePow, Int.reduceNeg, Bool.or_true, Bool.true_or, small_emod, small_lit, pow_10_18, and_self, addD, subD, mulD, modD, fdivD, negD, inD_ints, eqB_int, neB_int, ltB, leB, gtB, geB, isNB_none, notNB, isCB, ixD, lenD, absD, ML.intD, listD, tupD, slD, sl3, appD, metO, truD, isNone, isCB]);
      refine wo_rgN (by omega) ?_
      (try simp only [↓we_seq, ↓we_asg, ↓we_ret, ↓we_retN, ↓we_sIf, ↓we_drop, ↓we_nx, ↓we_brk, ↓we_cnt, ↓we_var, ↓we_C, ↓we_frz, ↓we_hold, ↓we_bin, ↓we_cmp, ↓we_un, ↓we_isi, ↓we_aNil, ↓we_aCons, ↓we_cb, ↓we_tup, ↓we_lst, ↓we_b, ↓we_tru, ↓we_and, ↓we_or, ↓we_not, ↓we_andV, ↓we_orV, ↓we_notV, ↓we_mIf, ↓we_chain, ↓we_set, ↓we_mgSub, ↓we_mgTup, ↓we_mgNil, ↓we_mgCons, ↓we_iR1, ↓we_iR2, ↓we_for, ↓we_mNo, ↓we_part, ↓we_sl, ↓we_ms, ↓we_met, ↓we_call_, ↓we_callIo_, ↓we_lc_, ↓we_iA, ↓we_yes, ↓we_par2, ↓we_par3, wo_some, wo_map, iaK_list, iaK_tuple, iaK_str, parK2_e, parK3_e, rd2, rd1, rd2B, rdN, rdAll, rd, hold, boolO, truO, intO, strO, frzO, retO, isIo_zero, isIo_succ, ioB_no, ioB_frz, ioB_own, ioB_io, le_line, lt_line, contAt, ML.putAt, Sl.cont, Sl.put, outsV, tupO, lstO, bo, noB, rtK_rt, rtK_nx, rtK1_rt, rtK1_nx, List.getElem?_cons_zero, List.getElem?_cons_succ, List.set_cons_zero, List.set_cons_succ, Option.map_some, Option.isSome_some, reduceIte, Bool.false_eq_true, Bool.true_eq_false, if_true, if_false, wipeR, ixN_lit, atI_lit, Option.bind_some, Nat.reduceLT, Nat.reduceLeDiff, ML.pos1, List.length_map, isT, List.map_cons, List.map_nil, List.length_cons, List.length_nil, List.cons_append, List.nil_append, List.append_nil, List.replicate, true_and, and_true, Nat.reduceSub, Nat.reduceAdd, Bool.not_true, Bool.not_false, decide_eq_true_eq, Bool.not_eq_true', decide_eq_false_iff_not, Int.reduceToNat, Int.reduceLT, Int.reduceLE, Int.reducePow, Int.reduceNeg, Bool.or_true, Bool.true_or, small_emod, small_lit, pow_10_18, and_self, addD, subD, mulD, modD, fdivD, negD, inD_ints, eqB_int, neB_int, ltB, leB, gtB, geB, isNB_none, notNB, isCB, ixD, lenD, absD, ML.intD, listD, tupD, slD, sl3, appD, metO, truD]); repeat ((first | rw [then_nx] | rw [then_rt] | rw [then_bk] | rw [then_ct]); simp only [↓we_seq, ↓we_asg, ↓we_ret, ↓we_retN, ↓we_sIf, ↓we_drop, ↓we_nx, ↓we_brk, ↓we_cnt, ↓we_var, ↓we_C, ↓we_frz, ↓we_hold, ↓we_bin, ↓we_cmp, ↓we_un, ↓we_isi, ↓we_aNil, ↓we_aCons, ↓we_cb, ↓we_tup, ↓we_lst, ↓we_b, ↓we_tru, ↓we_and, ↓we_or, ↓we_not, ↓we_andV, ↓we_orV, ↓we_notV, ↓we_mIf, ↓we_chain, ↓we_set, ↓we_mgSub, ↓we_mgTup, ↓we_mgNil, ↓we_mgCons, ↓we_iR1, ↓we_iR2, ↓we_for, ↓we_mNo, ↓we_part, ↓we_sl, ↓we_ms, ↓we_met, ↓we_call_, ↓we_callIo_, ↓we_lc_, ↓we_iA, ↓we_yes, ↓we_par2, ↓we_par3, wo_some, wo_map, iaK_list, iaK_tuple, iaK_str, parK2_e, parK3_e, rd2, rd1, rd2B, rdN, rdAll, rd, hold, boolO, truO, intO, strO, frzO, retO, isIo_zero, isIo_succ, ioB_no, ioB_frz, ioB_own, ioB_io, le_line, lt_line, contAt, ML.putAt, Sl.cont, Sl.put, outsV, tupO, lstO, bo, noB, rtK_rt, rtK_nx, rtK1_rt, rtK1_nx, List.getElem?_cons_zero, List.getElem?_cons_succ, List.set_cons_zero, List.set_cons_succ, Option.map_some, Option.isSome_some, reduceIte, Bool.false_eq_true, Bool.true_eq_false, if_true, if_false, wipeR, ixN_lit, atI_lit, Option.bind_some, Nat.reduceLT, Nat.reduceLeDiff, ML.pos1, List.length_map, isT, List.map_cons, List.map_nil, List.length_cons, List.length_nil, List.cons_append, List.nil_append, List.append_nil, List.replicate, true_and, and_true, Nat.reduceSub, Nat.reduceAdd, Bool.not_true, Bool.not_false, decide_eq_true_eq, Bool.not_eq_true', decide_eq_false_iff_not, Int.reduceToNat, Int.reduceLT, Int.reduceLE, Int.reducePow, Int.reduceNeg, Bool.or_true, Bool.true_or, small_emod, small_lit, pow_10_18, and_self, addD, subD, mulD, modD, fdivD, negD, inD_ints, eqB_int, neB_int, ltB, leB, gtB, geB, isNB_none, notNB, isCB, ixD, lenD, absD, ML.intD, listD, tupD, slD, sl3, appD, metO, truD])
      refine wo_lcF (fun x => .bool ((fun _ => true) x)) (fun d m => ?_) (by rw [rgD_len, le_line]; omega) ?_
      · obtain ⟨i, hi, rfl⟩ := rgD_mem m
        (try simp only [↓we_seq, ↓we_asg, ↓we_ret, ↓we_retN, ↓we_sIf, ↓we_drop, ↓we_nx, ↓we_brk, ↓we_cnt, ↓we_var, ↓we_C, ↓we_frz, ↓we_hold, ↓we_bin, ↓we_cmp, ↓we_un, ↓we_isi, ↓we_aNil, ↓we_aCons, ↓we_cb, ↓we_tup, ↓we_lst, ↓we_b, ↓we_tru, ↓we_and, ↓we_or, ↓we_not, ↓we_andV, ↓we_orV, ↓we_notV, ↓we_mIf, ↓we_chain, ↓we_set, ↓we_mgSub, ↓we_mgTup, ↓we_mgNil, ↓we_mgCons, ↓we_iR1, ↓we_iR2, ↓we_for, ↓we_mNo, ↓we_part, ↓we_sl, ↓we_ms, ↓we_met, ↓we_call_, ↓we_callIo_, ↓we_lc_, ↓we_iA, ↓we_yes, ↓we_par2, ↓we_par3, wo_some, wo_map, iaK_list, iaK_tuple, iaK_str, parK2_e, parK3_e, rd2, rd1, rd2B, rdN, rdAll, rd, hold, boolO, truO, intO, strO, frzO, retO, isIo_zero, isIo_succ, ioB_no, ioB_frz, ioB_own, ioB_io, le_line, lt_line, contAt, ML.putAt, Sl.cont, Sl.put, outsV, tupO, lstO, bo, noB, rtK_rt, rtK_nx, rtK1_rt, rtK1_nx, List.getElem?_cons_zero, List.getElem?_cons_succ, List.set_cons_zero, List.set_cons_succ, Option.map_some, Option.isSome_some, reduceIte, Bool.false_eq_true, Bool.true_eq_false, if_true, if_false, wipeR, ixN_lit, atI_lit, Option.bind_some, Nat.reduceLT, Nat.reduceLeDiff, ML.pos1, List.length_map, isT, List.map_cons, List.map_nil, List.length_cons, List.length_nil, List.cons_append, List.nil_append, List.append_nil, List.replicate, true_and, and_true, Nat.reduceSub, Nat.reduceAdd, Bool.not_true, Bool.not_false, decide_eq_true_eq, Bool.not_eq_true', decide_eq_false_iff_not, Int.reduceToNat, Int.reduceLT, Int.reduceLE, Int.reducePow, Int.reduceNeg, Bool.or_true, Bool.true_or, small_emod, small_lit, pow_10_18, and_self, addD, subD, mulD, modD, fdivD, negD, inD_ints, eqB_int, neB_int, ltB, leB, gtB, geB, isNB_none, notNB, isCB, ixD, lenD, absD, ML.intD, listD, tupD, slD, sl3, appD, metO, truD, compK, atI_nat hi]); repeat ((first | rw [then_nx] | rw [then_rt] | rw [then_bk] | rw [then_ct]); simp only [↓we_seq, ↓we_asg, ↓we_ret, ↓we_retN, ↓we_sIf, ↓we_drop, ↓we_nx, ↓we_brk, ↓we_cnt, ↓we_var, ↓we_C, ↓we_frz, ↓we_hold, ↓we_bin, ↓we_cmp, ↓we_un, ↓we_isi, ↓we_aNil, ↓we_aCons, ↓we_cb, ↓we_tup, ↓we_lst, ↓we_b, ↓we_tru, ↓we_and, ↓we_or, ↓we_not, ↓we_andV, ↓we_orV, ↓we_notV, ↓we_mIf, ↓we_chain, ↓we_set, ↓we_mgSub, ↓we_mgTup, ↓we_mgNil, ↓we_mgCons, ↓we_iR1, ↓we_iR2, ↓we_for, ↓we_mNo, ↓we_part, ↓we_sl, ↓we_ms, ↓we_met, ↓we_call_, ↓we_callIo_, ↓we_lc_, ↓we_iA, ↓we_yes, ↓we_par2, ↓we_par3, wo_some, wo_map, iaK_list, iaK_tuple, iaK_str, parK2_e, parK3_e, rd2, rd1, rd2B, rdN, rdAll, rd, hold, boolO, truO, intO, strO, frzO, retO, isIo_zero, isIo_succ, ioB_no, ioB_frz, ioB_own, ioB_io, le_line, lt_line, contAt, ML.putAt, Sl.cont, Sl.put, outsV, tupO, lstO, bo, noB, rtK_rt, rtK_nx, rtK1_rt, rtK1_nx, List.getElem?_cons_zero, List.getElem?_cons_succ, List.set_cons_zero, List.set_cons_succ, Option.map_some, Option.isSome_some, reduceIte, Bool.false_eq_true, Bool.true_eq_false, if_true, if_false, wipeR, ixN_lit, atI_lit, Option.bind_some, Nat.reduceLT, Nat.reduceLeDiff, ML.pos1, List.length_map, isT, List.map_cons, List.map_nil, List.length_cons, List.length_nil, List.cons_append, List.nil_append, List.append_nil, List.replicate, true_and, and_true, Nat.reduceSub, Nat.reduceAdd, Bool.not_true, Bool.not_false, decide_eq_true_eq, Bool.not_eq_true', decide_eq_false_iff_not, Int.reduceToNat, Int.reduceLT, Int.reduceLE, Int.reducePow, Int.reduceNeg, Bool.or_true, Bool.true_or, small_emod, small_lit, pow_10_18, and_self, addD, subD, mulD, modD, fdivD, negD, inD_ints, eqB_int, neB_int, ltB, leB, gtB, geB, isNB_none, notNB, isCB, ixD, lenD, absD, ML.intD, listD, tupD, slD, sl3, appD, metO, truD, compK, atI_nat hi]);
        refine we_call (same_ok k _ (hd _ (List.getElem_mem hi))) rfl ?_
        rintro r - rfl
        (try simp only [↓we_seq, ↓we_asg, ↓we_ret, ↓we_retN, ↓we_sIf, ↓we_drop, ↓we_nx, ↓we_brk, ↓we_cnt, ↓we_var, ↓we_C, ↓we_frz, ↓we_hold, ↓we_bin, ↓we_cmp, ↓we_un, ↓we_isi, ↓we_aNil, ↓we_aCons, ↓we_cb, ↓we_tup, ↓we_lst, ↓we_b, ↓we_tru, ↓we_and, ↓we_or, ↓we_not, ↓we_andV, ↓we_orV, ↓we_notV, ↓we_mIf, ↓we_chain, ↓we_set, ↓we_mgSub, ↓we_mgTup, ↓we_mgNil, ↓we_mgCons, ↓we_iR1, ↓we_iR2, ↓we_for, ↓we_mNo, ↓we_part, ↓we_sl, ↓we_ms, ↓we_met, ↓we_call_, ↓we_callIo_, ↓we_lc_, ↓we_iA, ↓we_yes, ↓we_par2, ↓we_par3, wo_some, wo_map, iaK_list, iaK_tuple, iaK_str, parK2_e, parK3_e, rd2, rd1, rd2B, rdN, rdAll, rd, hold, boolO, truO, intO, strO, frzO, retO, isIo_zero, isIo_succ, ioB_no, ioB_frz, ioB_own, ioB_io, le_line, lt_line, contAt, ML.putAt, Sl.cont, Sl.put, outsV, tupO, lstO, bo, noB, rtK_rt, rtK_nx, rtK1_rt, rtK1_nx, List.getElem?_cons_zero, List.getElem?_cons_succ, List.set_cons_zero, List.set_cons_succ, Option.map_some, Option.isSome_some, reduceIte, Bool.false_eq_true, Bool.true_eq_false, if_true, if_false, wipeR, ixN_lit, atI_lit, Option.bind_some, Nat.reduceLT, Nat.reduceLeDiff, ML.pos1, List.length_map, isT, List.map_cons, List.map_nil, List.length_cons, List.length_nil, List.cons_append, List.nil_append, List.append_nil, List.replicate, true_and, and_true, Nat.reduceSub, Nat.reduceAdd, Bool.not_true, Bool.not_false, decide_eq_true_eq, Bool.not_eq_true', decide_eq_false_iff_not, Int.reduceToNat, Int.reduceLT, Int.reduceLE, Int.reducePow, Int.reduceNeg, Bool.or_true, Bool.true_or, small_emod, small_lit, pow_10_18, and_self, addD, subD, mulD, modD, fdivD, negD, inD_ints, eqB_int, neB_int, ltB, leB, gtB, geB, isNB_none, notNB, isCB, ixD, lenD, absD, ML.intD, listD, tupD, slD, sl3, appD, metO, truD]); repeat ((first | rw [then_nx] | rw [then_rt] | rw [then_bk] | rw [then_ct]); simp only [↓we_seq, ↓we_asg, ↓we_ret, ↓we_retN, ↓we_sIf, ↓we_drop, ↓we_nx, ↓we_brk, ↓we_cnt, ↓we_var, ↓we_C, ↓we_frz, ↓we_hold, ↓we_bin, ↓we_cmp, ↓we_un, ↓we_isi, ↓we_aNil, ↓we_aCons, ↓we_cb, ↓we_tup, ↓we_lst, ↓we_b, ↓we_tru, ↓we_and, ↓we_or, ↓we_not, ↓we_andV, ↓we_orV, ↓we_notV, ↓we_mIf, ↓we_chain, ↓we_set, ↓we_mgSub, ↓we_mgTup, ↓we_mgNil, ↓we_mgCons, ↓we_iR1, ↓we_iR2, ↓we_for, ↓we_mNo, ↓we_part, ↓we_sl, ↓we_ms, ↓we_met, ↓we_call_, ↓we_callIo_, ↓we_lc_, ↓we_iA, ↓we_yes, ↓we_par2, ↓we_par3, wo_some, wo_map, iaK_list, iaK_tuple, iaK_str, parK2_e, parK3_e, rd2, rd1, rd2B, rdN, rdAll, rd, hold, boolO, truO, intO, strO, frzO, retO, isIo_zero, isIo_succ, ioB_no, ioB_frz, ioB_own, ioB_io, le_line, lt_line, contAt, ML.putAt, Sl.cont, Sl.put, outsV, tupO, lstO, bo, noB, rtK_rt, rtK_nx, rtK1_rt, rtK1_nx, List.getElem?_cons_zero, List.getElem?_cons_succ, List.set_cons_zero, List.set_cons_succ, Option.map_some, Option.isSome_some, reduceIte, Bool.false_eq_true, Bool.true_eq_false, if_true, if_false, wipeR, ixN_lit, atI_lit, Option.bind_some, Nat.reduceLT, Nat.reduceLeDiff, ML.pos1, List.length_map, isT, List.map_cons, List.map_nil, List.length_cons, List.length_nil, List.cons_append, List.nil_append, List.append_nil, List.replicate, true_and, and_true, Nat.reduceSub, Nat.reduceAdd, Bool.not_true, Bool.not_false, decide_eq_true_eq, Bool.not_eq_true', decide_eq_false_iff_not, Int.reduceToNat, Int.reduceLT, Int.reduceLE, Int.reducePow, Int.reduceNeg, Bool.or_true, Bool.true_or, small_emod, small_lit, pow_10_18, and_self, addD, subD, mulD, modD, fdivD, negD, inD_ints, eqB_int, neB_int, ltB, leB, gtB, geB, isNB_none, notNB, isCB, ixD, lenD, absD, ML.intD, listD, tupD, slD, sl3, appD, metO, truD])
      · (try simp only [↓we_seq, ↓we_asg, ↓we_ret, ↓we_retN, ↓we_sIf, ↓we_drop, ↓we_nx, ↓we_brk, ↓we_cnt, ↓we_var, ↓we_C, ↓we_frz, ↓we_hold, ↓we_bin, ↓we_cmp, ↓we_un, ↓we_isi, ↓we_aNil, ↓we_aCons, ↓we_cb, ↓we_tup, ↓we_lst, ↓we_b, ↓we_tru, ↓we_and, ↓we_or, ↓we_not, ↓we_andV, ↓we_orV, ↓we_notV, ↓we_mIf, ↓we_chain, ↓we_set, ↓we_mgSub, ↓we_mgTup, ↓we_mgNil, ↓we_mgCons, ↓we_iR1, ↓we_iR2, ↓we_for, ↓we_mNo, ↓we_part, ↓we_sl, ↓we_ms, ↓we_met, ↓we_call_, ↓we_callIo_, ↓we_lc_, ↓we_iA, ↓we_yes, ↓we_par2, ↓we_par3, wo_some, wo_map, iaK_list, iaK_tuple, iaK_str, parK2_e, parK3_e, rd2, rd1, rd2B, rdN, rdAll, rd, hold, boolO, truO, intO, strO, frzO, retO, isIo_zero, isIo_succ, ioB_no, ioB_frz, ioB_own, ioB_io, le_line, lt_line, contAt, ML.putAt, Sl.cont, Sl.put, outsV, tupO, lstO, bo, noB, rtK_rt, rtK_nx, rtK1_rt, rtK1_nx, List.getElem?_cons_zero, List.getElem?_cons_succ, List.set_cons_zero, List.set_cons_succ, Option.map_some, Option.isSome_some, reduceIte, Bool.false_eq_true, Bool.true_eq_false, if_true, if_false, wipeR, ixN_lit, atI_lit, Option.bind_some, Nat.reduceLT, Nat.reduceLeDiff, ML.pos1, List.length_map, isT, List.map_cons, List.map_nil, List.length_cons, List.length_nil, List.cons_append, List.nil_append, List.append_nil, List.replicate, true_and, and_true, Nat.reduceSub, Nat.reduceAdd, Bool.not_true, Bool.not_false, decide_eq_true_eq, Bool.not_eq_true', decide_eq_false_iff_not, Int.reduceToNat, Int.reduceLT, Int.reduceLE, Int.reducePow, Int.reduceNeg, Bool.or_true, Bool.true_or, small_emod, small_lit, pow_10_18, and_self, addD, subD, mulD, modD, fdivD, negD, inD_ints, eqB_int, neB_int, ltB, leB, gtB, geB, isNB_none, notNB, isCB, ixD, lenD, absD, ML.intD, listD, tupD, slD, sl3, appD, metO, truD, all_map]); repeat ((first | rw [then_nx] | rw [then_rt] | rw [then_bk] | rw [then_ct]); simp only [↓we_seq, ↓we_asg, ↓we_ret, ↓we_retN, ↓we_sIf, ↓we_drop, ↓we_nx, ↓we_brk, ↓we_cnt, ↓we_var, ↓we_C, ↓we_frz, ↓we_hold, ↓we_bin, ↓we_cmp, ↓we_un, ↓we_isi, ↓we_aNil, ↓we_aCons, ↓we_cb, ↓we_tup, ↓we_lst, ↓we_b, ↓we_tru, ↓we_and, ↓we_or, ↓we_not, ↓we_andV, ↓we_orV, ↓we_notV, ↓we_mIf, ↓we_chain, ↓we_set, ↓we_mgSub, ↓we_mgTup, ↓we_mgNil, ↓we_mgCons, ↓we_iR1, ↓we_iR2, ↓we_for, ↓we_mNo, ↓we_part, ↓we_sl, ↓we_ms, ↓we_met, ↓we_call_, ↓we_callIo_, ↓we_lc_, ↓we_iA, ↓we_yes, ↓we_par2, ↓we_par3, wo_some, wo_map, iaK_list, iaK_tuple, iaK_str, parK2_e, parK3_e, rd2, rd1, rd2B, rdN, rdAll, rd, hold, boolO, truO, intO, strO, frzO, retO, isIo_zero, isIo_succ, ioB_no, ioB_frz, ioB_own, ioB_io, le_line, lt_line, contAt, ML.putAt, Sl.cont, Sl.put, outsV, tupO, lstO, bo, noB, rtK_rt, rtK_nx, rtK1_rt, rtK1_nx, List.getElem?_cons_zero, List.getElem?_cons_succ, List.set_cons_zero, List.set_cons_succ, Option.map_some, Option.isSome_some, reduceIte, Bool.false_eq_true, Bool.true_eq_false, if_true, if_false, wipeR, ixN_lit, atI_lit, Option.bind_some, Nat.reduceLT, Nat.reduceLeDiff, ML.pos1, List.length_map, isT, List.map_cons, List.map_nil, List.length_cons, List.length_nil, List.cons_append, List.nil_append, List.append_nil, List.replicate, true_and, and_true, Nat.reduceSub, Nat.reduceAdd, Bool.not_true, Bool.not_false, decide_eq_true_eq, Bool.not_eq_true', decide_eq_false_iff_not, Int.reduceToNat, Int.reduceLT, Int.reduceLE, Int.reducePow, Int.reduceNeg, Bool.or_true, Bool.true_or, small_emod, small_lit, pow_10_18, and_self, addD, subD, mulD, modD, fdivD, negD, inD_ints, eqB_int, neB_int, ltB, leB, gtB, geB, isNB_none, notNB, isCB, ixD, lenD, absD, ML.intD, listD, tupD, slD, sl3, appD, metO, truD, all_map]);
        simp
    | tuple ds =>
      obtain ⟨hl, hd⟩ : ds.length < 16777216 ∧ ∀ d ∈ ds, okS k d := h
      (try simp only [↓we_seq, ↓we_asg, ↓we_ret, ↓we_retN, ↓we_sIf, ↓we_drop, ↓we_nx, ↓we_brk, ↓we_cnt, ↓we_var, ↓we_C, ↓we_frz, ↓we_hold, ↓we_bin, ↓we_cmp, ↓we_un, ↓we_isi, ↓we_aNil, ↓we_aCons, ↓we_cb, ↓we_tup, ↓we_lst, ↓we_b, ↓we_tru, ↓we_and, ↓we_or, ↓we_not, ↓we_andV, ↓we_orV, ↓we_notV, ↓we_mIf, ↓we_chain, ↓we_set, ↓we_mgSub, ↓we_mgTup, ↓we_mgNil, ↓we_mgCons, ↓we_iR1, ↓we_iR2, ↓we_for, ↓we_mNo, ↓we_part, ↓we_sl, ↓we_ms, ↓we_met, ↓we_call_, ↓we_callIo_, ↓we_lc_, ↓we_iA, ↓we_yes, ↓we_par2, ↓we_par3, wo_some, wo_map, iaK_list, iaK_tuple, iaK_str, parK2_e, parK3_e, rd2, rd1, rd2B, rdN, rdAll, rd, hold, boolO, truO, intO, strO, frzO, retO, isIo_zero, isIo_succ, ioB_no, ioB_frz, ioB_own, ioB_io, le_line, lt_line, contAt, ML.putAt, Sl.cont, Sl.put, outsV, tupO, lstO, bo, noB, rtK_rt, rtK_nx, rtK1_rt, rtK1_nx, List.getElem?_cons_zero, List.getElem?_cons_succ, List.set_cons_zero, List.set_cons_succ, Option.map_some, Option.isSome_some, reduceIte, Bool.false_eq_true, Bool.true_eq_false, if_true, if_false, wipeR, ixN_lit, atI_lit, Option.bind_some, Nat.reduceLT, Nat.reduceLeDiff, ML.pos1, List.length_map, isT, List.map_cons, List.map_nil, List.length_cons, List.length_nil, List.cons_append, List.nil_append, List.append_nil, List.replicate, true_and, and_true, Nat.reduceSub, Nat.reduceAdd, Bool.not_true, Bool.not_false, decide_eq_true_eq, Bool.not_eq_true', decide_eq_false_iff_not, Int.reduceToNat, Int.reduceLT, Int.reduceLE, Int.reducePow, Int.reduceNeg, Bool.or_true, Bool.true_or, small_emod, small_lit, pow_10_18, and_self, addD, subD, mulD, modD, fdivD, negD, inD_ints, eqB_int, neB_int, ltB, leB, gtB, geB, isNB_none, notNB, isCB, ixD, lenD, absD, ML.intD, listD, tupD, slD, sl3, appD, metO, truD, isNone, isCB]); repeat ((first | rw [then_nx] | rw [then_rt] | rw [then_bk] | rw [then_ct]); simp only [↓we_seq, ↓we_asg, ↓we_ret, ↓we_retN, ↓we_sIf, ↓we_drop, ↓we_nx, ↓we_brk, ↓we_cnt, ↓we_var, ↓we_C, ↓we_frz, ↓we_hold, ↓we_bin, ↓we_cmp, ↓we_un, ↓we_isi, ↓we_aNil, ↓we_aCons, ↓we_cb, ↓we_tup, ↓we_lst, ↓we_b, ↓we_tru, ↓we_and, ↓we_or, ↓we_not, ↓we_andV, ↓we_orV, ↓we_notV, ↓we_mIf, ↓we_chain, ↓we_set, ↓we_mgSub, ↓we_mgTup, ↓we_mgNil, ↓we_mgCons, ↓we_iR1, ↓we_iR2, ↓we_for, ↓we_mNo, ↓we_part, ↓we_sl, ↓we_ms, ↓we_met, ↓we_call_, ↓we_callIo_, ↓we_lc_, ↓we_iA, ↓we_yes, ↓we_par2, ↓we_par3, wo_some, wo_map, iaK_list, iaK_tuple, iaK_str, parK2_e, parK3_e, rd2, rd1, rd2B, rdN, rdAll, rd, hold, boolO, truO, intO, strO, frzO, retO, isIo_zero, isIo_succ, ioB_no, ioB_frz, ioB_own, ioB_io, le_line, lt_line, contAt, ML.putAt, Sl.cont, Sl.put, outsV, tupO, lstO, bo, noB, rtK_rt, rtK_nx, rtK1_rt, rtK1_nx, List.getElem?_cons_zero, List.getElem?_cons_succ, List.set_cons_zero, List.set_cons_succ, Option.map_some, Option.isSome_some, reduceIte, Bool.false_eq_true, Bool.true_eq_false, if_true, if_false, wipeR, ixN_lit, atI_lit, Option.bind_some, Nat.reduceLT, Nat.reduceLeDiff, ML.pos1, List.length_map, isT, List.map_cons, List.map_nil, List.length_cons, List.length_nil, List.cons_append, List.nil_append, List.append_nil, List.replicate, true_and, and_true, Nat.reduceSub, Nat.reduceAdd, Bool.not_true, Bool.not_false, decide_eq_true_eq, Bool.not_eq_true', decide_eq_false_iff_not, Int.reduceToNat, Int.reduceLT, Int.reduceLE, Int.reducePow, Int.reduceNeg, Bool.or_true, Bool.true_or, small_emod, small_lit, pow_10_18, and_self, addD, subD, mulD, modD, fdivD, negD, inD_ints, eqB_int, neB_int, ltB, leB, gtB, geB, isNB_none, notNB, isCB, ixD, lenD, absD, ML.intD, listD, tupD, slD, sl3, appD, metO, truD, isNone, isCB]);
      refine wo_rgN (by omega) ?_
      (try simp only [↓we_seq, ↓we_asg, ↓we_ret, ↓we_retN, ↓we_sIf, ↓we_drop, ↓we_nx, ↓we_brk, ↓we_cnt, ↓we_var, ↓we_C, ↓we_frz, ↓we_hold, ↓we_bin, ↓we_cmp, ↓we_un, ↓we_isi, ↓we_aNil, ↓we_aCons, ↓we_cb, ↓we_tup, ↓we_lst, ↓we_b, ↓we_tru, ↓we_and, ↓we_or, ↓we_not, ↓we_andV, ↓we_orV, ↓we_notV, ↓we_mIf, ↓we_chain, ↓we_set, ↓we_mgSub, ↓we_mgTup, ↓we_mgNil, ↓we_mgCons, ↓we_iR1, ↓we_iR2, ↓we_for, ↓we_mNo, ↓we_part, ↓we_sl, ↓we_ms, ↓we_met, ↓we_call_, ↓we_callIo_, ↓we_lc_, ↓we_iA, ↓we_yes, ↓we_par2, ↓we_par3, wo_some, wo_map, iaK_list, iaK_tuple, iaK_str, parK2_e, parK3_e, rd2, rd1, rd2B, rdN, rdAll, rd, hold, boolO, truO, intO, strO, frzO, retO, isIo_zero, isIo_succ, ioB_no, ioB_frz, ioB_own, ioB_io, le_line, lt_line, contAt, ML.putAt, Sl.cont, Sl.put, outsV, tupO, lstO, bo, noB, rtK_rt, rtK_nx, rtK1_rt, rtK1_nx, List.getElem?_cons_zero, List.getElem?_cons_succ, List.set_cons_zero, List.set_cons_succ, Option.map_some, Option.isSome_some, reduceIte, Bool.false_eq_true, Bool.true_eq_false, if_true, if_false, wipeR, ixN_lit, atI_lit, Option.bind_some, Nat.reduceLT, Nat.reduceLeDiff, ML.pos1, List.length_map, isT, List.map_cons, List.map_nil, List.length_cons, List.length_nil, List.cons_append, List.nil_append, List.append_nil, List.replicate, true_and, and_true, Nat.reduceSub, Nat.reduceAdd, Bool.not_true, Bool.not_false, decide_eq_true_eq, Bool.not_eq_true', decide_eq_false_iff_not, Int.reduceToNat, Int.reduceLT, Int.reduceLE, Int.reducePow, Int.reduceNeg, Bool.or_true, Bool.true_or, small_emod, small_lit, pow_10_18, and_self, addD, subD, mulD, modD, fdivD, negD, inD_ints, eqB_int, neB_int, ltB, leB, gtB, geB, isNB_none, notNB, isCB, ixD, lenD, absD, ML.intD, listD, tupD, slD, sl3, appD, metO, truD]); repeat ((first | rw [then_nx] | rw [then_rt] | rw [then_bk] | rw [then_ct]); simp only [↓we_seq, ↓we_asg, ↓we_ret, ↓we_retN, ↓we_sIf, ↓we_drop, ↓we_nx, ↓we_brk, ↓we_cnt, ↓we_var, ↓we_C, ↓we_frz, ↓we_hold, ↓we_bin, ↓we_cmp, ↓we_un, ↓we_isi, ↓we_aNil, ↓we_aCons, ↓we_cb, ↓we_tup, ↓we_lst, ↓we_b, ↓we_tru, ↓we_and, ↓we_or, ↓we_not, ↓we_andV, ↓we_orV, ↓we_notV, ↓we_mIf, ↓we_chain, ↓we_set, ↓we_mgSub, ↓we_mgTup, ↓we_mgNil, ↓we_mgCons, ↓we_iR1, ↓we_iR2, ↓we_for, ↓we_mNo, ↓we_part, ↓we_sl, ↓we_ms, ↓we_met, ↓we_call_, ↓we_callIo_, ↓we_lc_, ↓we_iA, ↓we_yes, ↓we_par2, ↓we_par3, wo_some, wo_map, iaK_list, iaK_tuple, iaK_str, parK2_e, parK3_e, rd2, rd1, rd2B, rdN, rdAll, rd, hold, boolO, truO, intO, strO, frzO, retO, isIo_zero, isIo_succ, ioB_no, ioB_frz, ioB_own, ioB_io, le_line, lt_line, contAt, ML.putAt, Sl.cont, Sl.put, outsV, tupO, lstO, bo, noB, rtK_rt, rtK_nx, rtK1_rt, rtK1_nx, List.getElem?_cons_zero, List.getElem?_cons_succ, List.set_cons_zero, List.set_cons_succ, Option.map_some, Option.isSome_some, reduceIte, Bool.false_eq_true, Bool.true_eq_false, if_true, if_false, wipeR, ixN_lit, atI_lit, Option.bind_some, Nat.reduceLT, Nat.reduceLeDiff, ML.pos1, List.length_map, isT, List.map_cons, List.map_nil, List.length_cons, List.length_nil, List.cons_append, List.nil_append, List.append_nil, List.replicate, true_and, and_true, Nat.reduceSub, Nat.reduceAdd, Bool.not_true, Bool.not_false, decide_eq_true_eq, Bool.not_eq_true', decide_eq_false_iff_not, Int.reduceToNat, Int.reduceLT, Int.reduceLE, Int.reducePow, Int.reduceNeg, Bool.or_true, Bool.true_or, small_emod, small_lit, pow_10_18, and_self, addD, subD, mulD, modD, fdivD, negD, inD_ints, eqB_int, neB_int, ltB, leB, gtB, geB, isNB_none, notNB, isCB, ixD, lenD, absD, ML.intD, listD, tupD, slD, sl3, appD, metO, truD])
      refine wo_lcF (fun x => .bool ((fun _ => true) x)) (fun d m => ?_) (by rw [rgD_len, le_line]; omega) ?_
      · obtain ⟨i, hi, rfl⟩ := rgD_mem m
        (try simp only [↓we_seq, ↓we_asg, ↓we_ret, ↓we_retN, ↓we_sIf, ↓we_drop, ↓we_nx, ↓we_brk, ↓we_cnt, ↓we_var, ↓we_C, ↓we_frz, ↓we_hold, ↓we_bin, ↓we_cmp, ↓we_un, ↓we_isi, ↓we_aNil, ↓we_aCons, ↓we_cb, ↓we_tup, ↓we_lst, ↓we_b, ↓we_tru, ↓we_and, ↓we_or, ↓we_not, ↓we_andV, ↓we_orV, ↓we_notV, ↓we_mIf, ↓we_chain, ↓we_set, ↓we_mgSub, ↓we_mgTup, ↓we_mgNil, ↓we_mgCons, ↓we_iR1, ↓we_iR2, ↓we_for, ↓we_mNo, ↓we_part, ↓we_sl, ↓we_ms, ↓we_met, ↓we_call_, ↓we_callIo_, ↓we_lc_, ↓we_iA, ↓we_yes, ↓we_par2, ↓we_par3, wo_some, wo_map, iaK_list, iaK_tuple, iaK_str, parK2_e, parK3_e, rd2, rd1, rd2B, rdN, rdAll, rd, hold, boolO, truO, intO, strO, frzO, retO, isIo_zero, isIo_succ, ioB_no, ioB_frz, ioB_own, ioB_io, le_line, lt_line, contAt, ML.putAt, Sl.cont, Sl.put, outsV, tupO, lstO, bo, noB, rtK_rt, rtK_nx, rtK1_rt, rtK1_nx, List.getElem?_cons_zero, List.getElem?_cons_succ, List.set_cons_zero, List.set_cons_succ, Option.map_some, Option.isSome_some, reduceIte, Bool.false_eq_true, Bool.true_eq_false, if_true, if_false, wipeR, ixN_lit, atI_lit, Option.bind_some, Nat.reduceLT, Nat.reduceLeDiff, ML.pos1, List.length_map, isT, List.map_cons, List.map_nil, List.length_cons, List.length_nil, List.cons_append, List.nil_append, List.append_nil, List.replicate, true_and, and_true, Nat.reduceSub, Nat.reduceAdd, Bool.not_true, Bool.not_false, decide_eq_true_eq, Bool.not_eq_true', decide_eq_false_iff_not, Int.reduceToNat, Int.reduceLT, Int.reduceLE, Int.reducePow, Int.reduceNeg, Bool.or_true, Bool.true_or, small_emod, small_lit, pow_10_18, and_self, addD, subD, mulD, modD, fdivD, negD, inD_ints, eqB_int, neB_int, ltB, leB, gtB, geB, isNB_none, notNB, isCB, ixD, lenD, absD, ML.intD, listD, tupD, slD, sl3, appD, metO, truD, compK, atI_nat hi]); repeat ((first | rw [then_nx] | rw [then_rt] | rw [then_bk] | rw [then_ct]); simp only [↓we_seq, ↓we_asg, ↓we_ret, ↓we_retN, ↓we_sIf, ↓we_drop, ↓we_nx, ↓we_brk, ↓we_cnt, ↓we_var, ↓we_C, ↓we_frz, ↓we_hold, ↓we_bin, ↓we_cmp, ↓we_un, ↓we_isi, ↓we_aNil, ↓we_aCons, ↓we_cb, ↓we_tup, ↓we_lst, ↓we_b, ↓we_tru, ↓we_and, ↓we_or, ↓we_not, ↓we_andV, ↓we_orV, ↓we_notV, ↓we_mIf, ↓we_chain, ↓we_set, ↓we_mgSub, ↓we_mgTup, ↓we_mgNil, ↓we_mgCons, ↓we_iR1, ↓we_iR2, ↓we_for, ↓we_mNo, ↓we_part, ↓we_sl, ↓we_ms, ↓we_met, ↓we_call_, ↓we_callIo_, ↓we_lc_, ↓we_iA, ↓we_yes, ↓we_par2, ↓we_par3, wo_some, wo_map, iaK_list, iaK_tuple, iaK_str, parK2_e, parK3_e, rd2, rd1, rd2B, rdN, rdAll, rd, hold, boolO, truO, intO, strO, frzO, retO, isIo_zero, isIo_succ, ioB_no, ioB_frz, ioB_own, ioB_io, le_line, lt_line, contAt, ML.putAt, Sl.cont, Sl.put, outsV, tupO, lstO, bo, noB, rtK_rt, rtK_nx, rtK1_rt, rtK1_nx, List.getElem?_cons_zero, List.getElem?_cons_succ, List.set_cons_zero, List.set_cons_succ, Option.map_some, Option.isSome_some, reduceIte, Bool.false_eq_true, Bool.true_eq_false, if_true, if_false, wipeR, ixN_lit, atI_lit, Option.bind_some, Nat.reduceLT, Nat.reduceLeDiff, ML.pos1, List.length_map, isT, List.map_cons, List.map_nil, List.length_cons, List.length_nil, List.cons_append, List.nil_append, List.append_nil, List.replicate, true_and, and_true, Nat.reduceSub, Nat.reduceAdd, Bool.not_true, Bool.not_false, decide_eq_true_eq, Bool.not_eq_true', decide_eq_false_iff_not, Int.reduceToNat, Int.reduceLT, Int.reduceLE, Int.reducePow, Int.reduceNeg, Bool.or_true, Bool.true_or, small_emod, small_lit, pow_10_18, and_self, addD, subD, mulD, modD, fdivD, negD, inD_ints, eqB_int, neB_int, ltB, leB, gtB, geB, isNB_none, notNB, isCB, ixD, lenD, absD, ML.intD, listD, tupD, slD, sl3, appD, metO, truD, compK, atI_nat hi]);
        refine we_call (same_ok k _ (hd _ (List.getElem_mem hi))) rfl ?_
        rintro r - rfl
        (try simp only [↓we_seq, ↓we_asg, ↓we_ret, ↓we_retN, ↓we_sIf, ↓we_drop, ↓we_nx, ↓we_brk, ↓we_cnt, ↓we_var, ↓we_C, ↓we_frz, ↓we_hold, ↓we_bin, ↓we_cmp, ↓we_un, ↓we_isi, ↓we_aNil, ↓we_aCons, ↓we_cb, ↓we_tup, ↓we_lst, ↓we_b, ↓we_tru, ↓we_and, ↓we_or, ↓we_not, ↓we_andV, ↓we_orV, ↓we_notV, ↓we_mIf, ↓we_chain, ↓we_set, ↓we_mgSub, ↓we_mgTup, ↓we_mgNil, ↓we_mgCons, ↓we_iR1, ↓we_iR2, ↓we_for, ↓we_mNo, ↓we_part, ↓we_sl, ↓we_ms, ↓we_met, ↓we_call_, ↓we_callIo_, ↓we_lc_, ↓we_iA, ↓we_yes, ↓we_par2, ↓we_par3, wo_some, wo_map, iaK_list, iaK_tuple, iaK_str, parK2_e, parK3_e, rd2, rd1, rd2B, rdN, rdAll, rd, hold, boolO, truO, intO, strO, frzO, retO, isIo_zero, isIo_succ, ioB_no, ioB_frz, ioB_own, ioB_io, le_line, lt_line, contAt, ML.putAt, Sl.cont, Sl.put, outsV, tupO, lstO, bo, noB, rtK_rt, rtK_nx, rtK1_rt, rtK1_nx, List.getElem?_cons_zero, List.getElem?_cons_succ, List.set_cons_zero, List.set_cons_succ, Option.map_some, Option.isSome_some, reduceIte, Bool.false_eq_true, Bool.true_eq_false, if_true, if_false, wipeR, ixN_lit, atI_lit, Option.bind_some, Nat.reduceLT, Nat.reduceLeDiff, ML.pos1, List.length_map, isT, List.map_cons, List.map_nil, List.length_cons, List.length_nil, List.cons_append, List.nil_append, List.append_nil, List.replicate, true_and, and_true, Nat.reduceSub, Nat.reduceAdd, Bool.not_true, Bool.not_false, decide_eq_true_eq, Bool.not_eq_true', decide_eq_false_iff_not, Int.reduceToNat, Int.reduceLT, Int.reduceLE, Int.reducePow, Int.reduceNeg, Bool.or_true, Bool.true_or, small_emod, small_lit, pow_10_18, and_self, addD, subD, mulD, modD, fdivD, negD, inD_ints, eqB_int, neB_int, ltB, leB, gtB, geB, isNB_none, notNB, isCB, ixD, lenD, absD, ML.intD, listD, tupD, slD, sl3, appD, metO, truD]); repeat ((first | rw [then_nx] | rw [then_rt] | rw [then_bk] | rw [then_ct]); simp only [↓we_seq, ↓we_asg, ↓we_ret, ↓we_retN, ↓we_sIf, ↓we_drop, ↓we_nx, ↓we_brk, ↓we_cnt, ↓we_var, ↓we_C, ↓we_frz, ↓we_hold, ↓we_bin, ↓we_cmp, ↓we_un, ↓we_isi, ↓we_aNil, ↓we_aCons, ↓we_cb, ↓we_tup, ↓we_lst, ↓we_b, ↓we_tru, ↓we_and, ↓we_or, ↓we_not, ↓we_andV, ↓we_orV, ↓we_notV, ↓we_mIf, ↓we_chain, ↓we_set, ↓we_mgSub, ↓we_mgTup, ↓we_mgNil, ↓we_mgCons, ↓we_iR1, ↓we_iR2, ↓we_for, ↓we_mNo, ↓we_part, ↓we_sl, ↓we_ms, ↓we_met, ↓we_call_, ↓we_callIo_, ↓we_lc_, ↓we_iA, ↓we_yes, ↓we_par2, ↓we_par3, wo_some, wo_map, iaK_list, iaK_tuple, iaK_str, parK2_e, parK3_e, rd2, rd1, rd2B, rdN, rdAll, rd, hold, boolO, truO, intO, strO, frzO, retO, isIo_zero, isIo_succ, ioB_no, ioB_frz, ioB_own, ioB_io, le_line, lt_line, contAt, ML.putAt, Sl.cont, Sl.put, outsV, tupO, lstO, bo, noB, rtK_rt, rtK_nx, rtK1_rt, rtK1_nx, List.getElem?_cons_zero, List.getElem?_cons_succ, List.set_cons_zero, List.set_cons_succ, Option.map_some, Option.isSome_some, reduceIte, Bool.false_eq_true, Bool.true_eq_false, if_true, if_false, wipeR, ixN_lit, atI_lit, Option.bind_some, Nat.reduceLT, Nat.reduceLeDiff, ML.pos1, List.length_map, isT, List.map_cons, List.map_nil, List.length_cons, List.length_nil, List.cons_append, List.nil_append, List.append_nil, List.replicate, true_and, and_true, Nat.reduceSub, Nat.reduceAdd, Bool.not_true, Bool.not_false, decide_eq_true_eq, Bool.not_eq_true', decide_eq_false_iff_not, Int.reduceToNat, Int.reduceLT, Int.reduceLE, Int.reducePow, Int.reduceNeg, Bool.or_true, Bool.true_or, small_emod, small_lit, pow_10_18, and_self, addD, subD, mulD, modD, fdivD, negD, inD_ints, eqB_int, neB_int, ltB, leB, gtB, geB, isNB_none, notNB, isCB, ixD, lenD, absD, ML.intD, listD, tupD, slD, sl3, appD, metO, truD])
      · (try simp only [↓we_seq, ↓we_asg, ↓we_ret, ↓we_retN, ↓we_sIf, ↓we_drop, ↓we_nx, ↓we_brk, ↓we_cnt, ↓we_var, ↓we_C, ↓we_frz, ↓we_hold, ↓we_bin, ↓we_cmp, ↓we_un, ↓we_isi, ↓we_aNil, ↓we_aCons, ↓we_cb, ↓we_tup, ↓we_lst, ↓we_b, ↓we_tru, ↓we_and, ↓we_or, ↓we_not, ↓we_andV, ↓we_orV, ↓we_notV, ↓we_mIf, ↓we_chain, ↓we_set, ↓we_mgSub, ↓we_mgTup, ↓we_mgNil, ↓we_mgCons, ↓we_iR1, ↓we_iR2, ↓we_for, ↓we_mNo, ↓we_part, ↓we_sl, ↓we_ms, ↓we_met, ↓we_call_, ↓we_callIo_, ↓we_lc_, ↓we_iA, ↓we_yes, ↓we_par2, ↓we_par3, wo_some, wo_map, iaK_list, iaK_tuple, iaK_str, parK2_e, parK3_e, rd2, rd1, rd2B, rdN, rdAll, rd, hold, boolO, truO, intO, strO, frzO, retO, isIo_zero, isIo_succ, ioB_no, ioB_frz, ioB_own, ioB_io, le_line, lt_line, contAt, ML.putAt, Sl.cont, Sl.put, outsV, tupO, lstO, bo, noB, rtK_rt, rtK_nx, rtK1_rt, rtK1_nx, List.getElem?_cons_zero, List.getElem?_cons_succ, List.set_cons_zero, List.set_cons_succ, Option.map_some, Option.isSome_some, reduceIte, Bool.false_eq_true, Bool.true_eq_false, if_true, if_false, wipeR, ixN_lit, atI_lit, Option.bind_some, Nat.reduceLT, Nat.reduceLeDiff, ML.pos1, List.length_map, isT, List.map_cons, List.map_nil, List.length_cons, List.length_nil, List.cons_append, List.nil_append, List.append_nil, List.replicate, true_and, and_true, Nat.reduceSub, Nat.reduceAdd, Bool.not_true, Bool.not_false, decide_eq_true_eq, Bool.not_eq_true', decide_eq_false_iff_not, Int.reduceToNat, Int.reduceLT, Int.reduceLE, Int.reducePow, Int.reduceNeg, Bool.or_true, Bool.true_or, small_emod, small_lit, pow_10_18, and_self, addD, subD, mulD, modD, fdivD, negD, inD_ints, eqB_int, neB_int, ltB, leB, gtB, geB, isNB_none, notNB, isCB, ixD, lenD, absD, ML.intD, listD, tupD, slD, sl3, appD, metO, truD, all_map]); repeat ((first | rw [then_nx] | rw [then_rt] | rw [then_bk] | rw [then_ct]); simp only [↓we_seq, ↓we_asg, ↓we_ret, ↓we_retN, ↓we_sIf, ↓we_drop, ↓we_nx, ↓we_brk, ↓we_cnt, ↓we_var, ↓we_C, ↓we_frz, ↓we_hold, ↓we_bin, ↓we_cmp, ↓we_un, ↓we_isi, ↓we_aNil, ↓we_aCons, ↓we_cb, ↓we_tup, ↓we_lst, ↓we_b, ↓we_tru, ↓we_and, ↓we_or, ↓we_not, ↓we_andV, ↓we_orV, ↓we_notV, ↓we_mIf, ↓we_chain, ↓we_set, ↓we_mgSub, ↓we_mgTup, ↓we_mgNil, ↓we_mgCons, ↓we_iR1, ↓we_iR2, ↓we_for, ↓we_mNo, ↓we_part, ↓we_sl, ↓we_ms, ↓we_met, ↓we_call_, ↓we_callIo_, ↓we_lc_, ↓we_iA, ↓we_yes, ↓we_par2, ↓we_par3, wo_some, wo_map, iaK_list, iaK_tuple, iaK_str, parK2_e, parK3_e, rd2, rd1, rd2B, rdN, rdAll, rd, hold, boolO, truO, intO, strO, frzO, retO, isIo_zero, isIo_succ, ioB_no, ioB_frz, ioB_own, ioB_io, le_line, lt_line, contAt, ML.putAt, Sl.cont, Sl.put, outsV, tupO, lstO, bo, noB, rtK_rt, rtK_nx, rtK1_rt, rtK1_nx, List.getElem?_cons_zero, List.getElem?_cons_succ, List.set_cons_zero, List.set_cons_succ, Option.map_some, Option.isSome_some, reduceIte, Bool.false_eq_true, Bool.true_eq_false, if_true, if_false, wipeR, ixN_lit, atI_lit, Option.bind_some, Nat.reduceLT, Nat.reduceLeDiff, ML.pos1, List.length_map, isT, List.map_cons, List.map_nil, List.length_cons, List.length_nil, List.cons_append, List.nil_append, List.append_nil, List.replicate, true_and, and_true, Nat.reduceSub, Nat.reduceAdd, Bool.not_true, Bool.not_false, decide_eq_true_eq, Bool.not_eq_true', decide_eq_false_iff_not, Int.reduceToNat, Int.reduceLT, Int.reduceLE, Int.reducePow, Int.reduceNeg, Bool.or_true, Bool.true_or, small_emod, small_lit, pow_10_18, and_self, addD, subD, mulD, modD, fdivD, negD, inD_ints, eqB_int, neB_int, ltB, leB, gtB, geB, isNB_none, notNB, isCB, ixD, lenD, absD, ML.intD, listD, tupD, slD, sl3, appD, metO, truD, all_map]);
        simp
    | dict ds => exact h.elim
end K01

set_option Elab.async false
set_option linter.all false
set_option maxRecDepth 100000
set_option maxHeartbeats 4000000
namespace K01
open PySem PySem.Spec PyProof.Rows L2 ML
theorem abc_len : ("abcdefghijklmnopqrstuvwxyz" : Str).cps.toList.length = 26 := by decide +kernel
theorem abc_len2 : ("abcdefghijklmnopqrstuvwxyz" : Str).length = 26 := abc_len
theorem wo_sgn {P : Out → Prop} {k : Int} (h : 0 ≤ k) (h2 : k < 26) (q : ∀ c : Nat, P (.v (.str ⟨#[c]⟩))) : Wo (ixD (.str "abcdefghijklmnopqrstuvwxyz") (.int k)) P := by
  obtain ⟨x, m, e⟩ := atI_mem (xs := ("abcdefghijklmnopqrstuvwxyz" : Str).cps.toList) h (by rw [abc_len]; exact h2)
  refine ⟨.v (.str ⟨#[x]⟩), ?_, q x⟩
  show (if ("abcdefghijklmnopqrstuvwxyz" : Str).length ≤ sizeLine then (atI ("abcdefghijklmnopqrstuvwxyz" : Str).cps.toList k).map fun c => Out.v (.str ⟨#[c]⟩) else none) = _
  rw [if_pos (by rw [abc_len2, le_line]; omega), e]
  rfl
theorem strs_one : ∀ {ds ys : List D}, All2 (fun _ y => ∃ c : Nat, y = .str ⟨#[c]⟩) ds ys → ∃ zs, strsOf ys = some zs ∧ zs.length = ds.length ∧ ∀ z ∈ zs, z.length = 1
  | [], [], _ => ⟨[], rfl, rfl, fun _ m => by cases m⟩
  | d :: ds, y :: ys, h => by
    obtain ⟨⟨c, rfl⟩, h2⟩ := h
    obtain ⟨zs, e, l, a⟩ := strs_one h2
    refine ⟨⟨#[c]⟩ :: zs, ?_, by simp [l], fun z m => ?_⟩
    · show (strsOf ys).map _ = _
      rw [e]; rfl
    · cases m with
      | head => rfl
      | tail _ m => exact a z m
  | [], _ :: _, h => h.elim
  | _ :: _, [], h => h.elim
theorem ones_sum : ∀ {zs : List Str}, (∀ z ∈ zs, z.length = 1) → (zs.map (·.length)).sum = zs.length
  | [], _ => rfl
  | z :: zs, h => by
    rw [List.map_cons, List.sum_cons, ones_sum fun y m => h y (List.mem_cons_of_mem _ m), h z List.mem_cons_self, List.length_cons]
    omega
theorem nil_len : ("" : Str).length = 0 := by decide +kernel
theorem join_one {ds ys : List D} (h : All2 (fun _ y => ∃ c : Nat, y = .str ⟨#[c]⟩) ds ys) (hl : ds.length ≤ 1000) : ∃ x : Str, x.length = ds.length ∧ joinD (.str "") (.list ys) = some (.v (.str x)) := by
  obtain ⟨zs, e, l, a⟩ := strs_one h
  refine ⟨Txt.join "" zs, ?_, ?_⟩
  · exact (PySem.W.KT.join_ones zs a).trans l
  · show (match strsOf ys with
      | some ws => if (ws.map fun z : Str => z.length).sum + ws.length * ("" : Str).length ≤ 16777216 then some (Out.v (.str (Txt.join "" ws))) else none
      | none => none) = _
    rw [e]
    show (if (zs.map fun z : Str => z.length).sum + zs.length * ("" : Str).length ≤ 16777216 then some (Out.v (.str (Txt.join "" zs))) else none) = _
    rw [ones_sum a, nil_len, if_pos (by omega)]
theorem word_ok {c : List D} (hc : Dk c) : F1 m__law_word c [] (fun r c' => ∃ x : Str, r = .v (.str x) ∧ 1 ≤ x.length ∧ x.length ≤ 12 ∧ Dk c') := by
  refine F1.def_ ?_
  (try simp only [↓we_seq, ↓we_asg, ↓we_ret, ↓we_retN, ↓we_sIf, ↓we_drop, ↓we_nx, ↓we_brk, ↓we_cnt, ↓we_var, ↓we_C, ↓we_frz, ↓we_hold, ↓we_bin, ↓we_cmp, ↓we_un, ↓we_isi, ↓we_aNil, ↓we_aCons, ↓we_cb, ↓we_tup, ↓we_lst, ↓we_b, ↓we_tru, ↓we_and, ↓we_or, ↓we_not, ↓we_andV, ↓we_orV, ↓we_notV, ↓we_mIf, ↓we_chain, ↓we_set, ↓we_mgSub, ↓we_mgTup, ↓we_mgNil, ↓we_mgCons, ↓we_iR1, ↓we_iR2, ↓we_for, ↓we_mNo, ↓we_part, ↓we_sl, ↓we_ms, ↓we_met, ↓we_call_, ↓we_callIo_, ↓we_lc_, ↓we_iA, ↓we_yes, ↓we_par2, ↓we_par3, wo_some, wo_map, iaK_list, iaK_tuple, iaK_str, parK2_e, parK3_e, rd2, rd1, rd2B, rdN, rdAll, rd, hold, boolO, truO, intO, strO, frzO, retO, isIo_zero, isIo_succ, ioB_no, ioB_frz, ioB_own, ioB_io, le_line, lt_line, contAt, ML.putAt, Sl.cont, Sl.put, outsV, tupO, lstO, bo, noB, rtK_rt, rtK_nx, rtK1_rt, rtK1_nx, List.getElem?_cons_zero, List.getElem?_cons_succ, List.set_cons_zero, List.set_cons_succ, Option.map_some, Option.isSome_some, reduceIte, Bool.false_eq_true, Bool.true_eq_false, if_true, if_false, wipeR, ixN_lit, atI_lit, Option.bind_some, Nat.reduceLT, Nat.reduceLeDiff, ML.pos1, List.length_map, isT, List.map_cons, List.map_nil, List.length_cons, List.length_nil, List.cons_append, List.nil_append, List.append_nil, List.replicate, true_and, and_true, Nat.reduceSub, Nat.reduceAdd, Bool.not_true, Bool.not_false, decide_eq_true_eq, Bool.not_eq_true', decide_eq_false_iff_not, Int.reduceToNat, Int.reduceLT, Int.reduceLE, Int.reducePow, Int.reduceNeg, Bool.or_true, Bool.true_or, small_emod, small_lit, pow_10_18, and_self, addD, subD, mulD, modD, fdivD, negD, inD_ints, eqB_int, neB_int, ltB, leB, gtB, geB, isNB_none, notNB, isCB, ixD, lenD, absD, ML.intD, listD, tupD, slD, sl3, appD, metO, truD]); repeat ((first | rw [then_nx] | rw [then_rt] | rw [then_bk] | rw [then_ct]); simp only [↓we_seq, ↓we_asg, ↓we_ret, ↓we_retN, ↓we_sIf, ↓we_drop, ↓we_nx, ↓we_brk, ↓we_cnt, ↓we_var, ↓we_C, ↓we_frz, ↓we_hold, ↓we_bin, ↓we_cmp, ↓we_un, ↓we_isi, ↓we_aNil, ↓we_aCons, ↓we_cb, ↓we_tup, ↓we_lst, ↓we_b, ↓we_tru, ↓we_and, ↓we_or, ↓we_not, ↓we_andV, ↓we_orV, ↓we_notV, ↓we_mIf, ↓we_chain, ↓we_set, ↓we_mgSub, ↓we_mgTup, ↓we_mgNil, ↓we_mgCons, ↓we_iR1, ↓we_iR2, ↓we_for, ↓we_mNo, ↓we_part, ↓we_sl, ↓we_ms, ↓we_met, ↓we_call_, ↓we_callIo_, ↓we_lc_, ↓we_iA, ↓we_yes, ↓we_par2, ↓we_par3, wo_some, wo_map, iaK_list, iaK_tuple, iaK_str, parK2_e, parK3_e, rd2, rd1, rd2B, rdN, rdAll, rd, hold, boolO, truO, intO, strO, frzO, retO, isIo_zero, isIo_succ, ioB_no, ioB_frz, ioB_own, ioB_io, le_line, lt_line, contAt, ML.putAt, Sl.cont, Sl.put, outsV, tupO, lstO, bo, noB, rtK_rt, rtK_nx, rtK1_rt, rtK1_nx, List.getElem?_cons_zero, List.getElem?_cons_succ, List.set_cons_zero, List.set_cons_succ, Option.map_some, Option.isSome_some, reduceIte, Bool.false_eq_true, Bool.true_eq_false, if_true, if_false, wipeR, ixN_lit, atI_lit, Option.bind_some, Nat.reduceLT, Nat.reduceLeDiff, ML.pos1, List.length_map, isT, List.map_cons, List.map_nil, List.length_cons, List.length_nil, List.cons_append, List.nil_append, List.append_nil, List.replicate, true_and, and_true, Nat.reduceSub, Nat.reduceAdd, Bool.not_true, Bool.not_false, decide_eq_true_eq, Bool.not_eq_true', decide_eq_false_iff_not, Int.reduceToNat, Int.reduceLT, Int.reduceLE, Int.reducePow, Int.reduceNeg, Bool.or_true, Bool.true_or, small_emod, small_lit, pow_10_18, and_self, addD, subD, mulD, modD, fdivD, negD, inD_ints, eqB_int, neB_int, ltB, leB, gtB, geB, isNB_none, notNB, isCB, ixD, lenD, absD, ML.intD, listD, tupD, slD, sl3, appD, metO, truD])
  refine we_callIo (draw_ok hc (n := 8) (by decide) (by decide)) rfl rfl rfl ?_
  rintro r c' - ⟨k, rfl, h0, h1, hc'⟩
  (try simp only [↓we_seq, ↓we_asg, ↓we_ret, ↓we_retN, ↓we_sIf, ↓we_drop, ↓we_nx, ↓we_brk, ↓we_cnt, ↓we_var, ↓we_C, ↓we_frz, ↓we_hold, ↓we_bin, ↓we_cmp, ↓we_un, ↓we_isi, ↓we_aNil, ↓we_aCons, ↓we_cb, ↓we_tup, ↓we_lst, ↓we_b, ↓we_tru, ↓we_and, ↓we_or, ↓we_not, ↓we_andV, ↓we_orV, ↓we_notV, ↓we_mIf, ↓we_chain, ↓we_set, ↓we_mgSub, ↓we_mgTup, ↓we_mgNil, ↓we_mgCons, ↓we_iR1, ↓we_iR2, ↓we_for, ↓we_mNo, ↓we_part, ↓we_sl, ↓we_ms, ↓we_met, ↓we_call_, ↓we_callIo_, ↓we_lc_, ↓we_iA, ↓we_yes, ↓we_par2, ↓we_par3, wo_some, wo_map, iaK_list, iaK_tuple, iaK_str, parK2_e, parK3_e, rd2, rd1, rd2B, rdN, rdAll, rd, hold, boolO, truO, intO, strO, frzO, retO, isIo_zero, isIo_succ, ioB_no, ioB_frz, ioB_own, ioB_io, le_line, lt_line, contAt, ML.putAt, Sl.cont, Sl.put, outsV, tupO, lstO, bo, noB, rtK_rt, rtK_nx, rtK1_rt, rtK1_nx, List.getElem?_cons_zero, List.getElem?_cons_succ, List.set_cons_zero, List.set_cons_succ, Option.map_some, Option.isSome_some, reduceIte, Bool.false_eq_true, Bool.true_eq_false, if_true, if_false, wipeR, ixN_lit, atI_lit, Option.bind_some, Nat.reduceLT, Nat.reduceLeDiff, ML.pos1, List.length_map, isT, List.map_cons, List.map_nil, List.length_cons, List.length_nil, List.cons_append, List.nil_append, List.append_nil, List.replicate, true_and, and_true, Nat.reduceSub, Nat.reduceAdd, Bool.not_true, Bool.not_false, decide_eq_true_eq, Bool.not_eq_true', decide_eq_false_iff_not, Int.reduceToNat, Int.reduceLT, Int.reduceLE, Int.reducePow, Int.reduceNeg, Bool.or_true, Bool.true_or, small_emod, small_lit, pow_10_18, and_self, addD, subD, mulD, modD, fdivD, negD, inD_ints, eqB_int, neB_int, ltB, leB, gtB, geB, isNB_none, notNB, isCB, ixD, lenD, absD, ML.intD, listD, tupD, slD, sl3, appD, metO, truD]); repeat ((first | rw [then_nx] | rw [then_rt] | rw [then_bk] | rw [then_ct]); simp only [↓we_seq, ↓we_asg, ↓we_ret, ↓we_retN, ↓we_sIf, ↓we_drop, ↓we_nx, ↓we_brk, ↓we_cnt, ↓we_var, ↓we_C, ↓we_frz, ↓we_hold, ↓we_bin, ↓we_cmp, ↓we_un, ↓we_isi, ↓we_aNil, ↓we_aCons, ↓we_cb, ↓we_tup, ↓we_lst, ↓we_b, ↓we_tru, ↓we_and, ↓we_or, ↓we_not, ↓we_andV, ↓we_orV, ↓we_notV, ↓we_mIf, ↓we_chain, ↓we_set, ↓we_mgSub, ↓we_mgTup, ↓we_mgNil, ↓we_mgCons, ↓we_iR1, ↓we_iR2, ↓we_for, ↓we_mNo, ↓we_part, ↓we_sl, ↓we_ms, ↓we_met, ↓we_call_, ↓we_callIo_, ↓we_lc_, ↓we_iA, ↓we_yes, ↓we_par2, ↓we_par3, wo_some, wo_map, iaK_list, iaK_tuple, iaK_str, parK2_e, parK3_e, rd2, rd1, rd2B, rdN, rdAll, rd, hold, boolO, truO, intO, strO, frzO, retO, isIo_zero, isIo_succ, ioB_no, ioB_frz, ioB_own, ioB_io, le_line, lt_line, contAt, ML.putAt, Sl.cont, Sl.put, outsV, tupO, lstO, bo, noB, rtK_rt, rtK_nx, rtK1_rt, rtK1_nx, List.getElem?_cons_zero, List.getElem?_cons_succ, List.set_cons_zero, List.set_cons_succ, Option.map_some, Option.isSome_some, reduceIte, Bool.false_eq_true, Bool.true_eq_false, if_true, if_false, wipeR, ixN_lit, atI_lit, Option.bind_some, Nat.reduceLT, Nat.reduceLeDiff, ML.pos1, List.length_map, isT, List.map_cons, List.map_nil, List.length_cons, List.length_nil, List.cons_append, List.nil_append, List.append_nil, List.replicate, true_and, and_true, Nat.reduceSub, Nat.reduceAdd, Bool.not_true, Bool.not_false, decide_eq_true_eq, Bool.not_eq_true', decide_eq_false_iff_not, Int.reduceToNat, Int.reduceLT, Int.reduceLE, Int.reducePow, Int.reduceNeg, Bool.or_true, Bool.true_or, small_emod, small_lit, pow_10_18, and_self, addD, subD, mulD, modD, fdivD, negD, inD_ints, eqB_int, neB_int, ltB, leB, gtB, geB, isNB_none, notNB, isCB, ixD, lenD, absD, ML.intD, listD, tupD, slD, sl3, appD, metO, truD])
  refine wo_at h0 h1 ?_
  have key : ∀ m : Nat, 1 ≤ m → m ≤ 12 → ∀ (P : Prop), P → P := fun _ _ _ _ p => p
  have go : ∀ x ∈ ([.int 1, .int 1, .int 2, .int 3, .int 6, .int 11, .int 12, .int 12] : List D), ∃ m : Nat, x = .int m ∧ 1 ≤ m ∧ m ≤ 12 := by
    refine all_cons ⟨1, rfl, ?_⟩ (all_cons ⟨1, rfl, ?_⟩ (all_cons ⟨2, rfl, ?_⟩ (all_cons ⟨3, rfl, ?_⟩ (all_cons ⟨6, rfl, ?_⟩ (all_cons ⟨11, rfl, ?_⟩ (all_cons ⟨12, rfl, ?_⟩ (all_cons ⟨12, rfl, ?_⟩ all_nil))))))) <;> decide
  intro x hx
  obtain ⟨m, rfl, m1, m2⟩ := go x hx
  (try simp only [↓we_seq, ↓we_asg, ↓we_ret, ↓we_retN, ↓we_sIf, ↓we_drop, ↓we_nx, ↓we_brk, ↓we_cnt, ↓we_var, ↓we_C, ↓we_frz, ↓we_hold, ↓we_bin, ↓we_cmp, ↓we_un, ↓we_isi, ↓we_aNil, ↓we_aCons, ↓we_cb, ↓we_tup, ↓we_lst, ↓we_b, ↓we_tru, ↓we_and, ↓we_or, ↓we_not, ↓we_andV, ↓we_orV, ↓we_notV, ↓we_mIf, ↓we_chain, ↓we_set, ↓we_mgSub, ↓we_mgTup, ↓we_mgNil, ↓we_mgCons, ↓we_iR1, ↓we_iR2, ↓we_for, ↓we_mNo, ↓we_part, ↓we_sl, ↓we_ms, ↓we_met, ↓we_call_, ↓we_callIo_, ↓we_lc_, ↓we_iA, ↓we_yes, ↓we_par2, ↓we_par3, wo_some, wo_map, iaK_list, iaK_tuple, iaK_str, parK2_e, parK3_e, rd2, rd1, rd2B, rdN, rdAll, rd, hold, boolO, truO, intO, strO, frzO, retO, isIo_zero, isIo_succ, ioB_no, ioB_frz, ioB_own, ioB_io, le_line, lt_line, contAt, ML.putAt, Sl.cont, Sl.put, outsV, tupO, lstO, bo, noB, rtK_rt, rtK_nx, rtK1_rt, rtK1_nx, List.getElem?_cons_zero, List.getElem?_cons_succ, List.set_cons_zero, List.set_cons_succ, Option.map_some, Option.isSome_some, reduceIte, Bool.false_eq_true, Bool.true_eq_false, if_true, if_false, wipeR, ixN_lit, atI_lit, Option.bind_some, Nat.reduceLT, Nat.reduceLeDiff, ML.pos1, List.length_map, isT, List.map_cons, List.map_nil, List.length_cons, List.length_nil, List.cons_append, List.nil_append, List.append_nil, List.replicate, true_and, and_true, Nat.reduceSub, Nat.reduceAdd, Bool.not_true, Bool.not_false, decide_eq_true_eq, Bool.not_eq_true', decide_eq_false_iff_not, Int.reduceToNat, Int.reduceLT, Int.reduceLE, Int.reducePow, Int.reduceNeg, Bool.or_true, Bool.true_or, small_emod, small_lit, pow_10_18, and_self, addD, subD, mulD, modD, fdivD, negD, inD_ints, eqB_int, neB_int, ltB, leB, gtB, geB, isNB_none, notNB, isCB, ixD, lenD, absD, ML.intD, listD, tupD, slD, sl3, appD, metO, truD]); repeat ((first | rw [then_nx] | rw [then_rt] | rw [then_bk] | rw [then_ct]); simp only [↓we_seq, ↓we_asg, ↓we_ret, ↓we_retN, ↓we_sIf, ↓we_drop, ↓we_nx, ↓we_brk, ↓we_cnt, ↓we_var, ↓we_C, ↓we_frz, ↓we_hold, ↓we_bin, ↓we_cmp, ↓we_un, ↓we_isi, ↓we_aNil, ↓we_aCons, ↓we_cb, ↓we_tup, ↓we_lst, ↓we_b, ↓we_tru, ↓we_and, ↓we_or, ↓we_not, ↓we_andV, ↓we_orV, ↓we_notV, ↓we_mIf, ↓we_chain, ↓we_set, ↓we_mgSub, ↓we_mgTup, ↓we_mgNil, ↓we_mgCons, ↓we_iR1, ↓we_iR2, ↓we_for, ↓we_mNo, ↓we_part, ↓we_sl, ↓we_ms, ↓we_met, ↓we_call_, ↓we_callIo_, ↓we_lc_, ↓we_iA, ↓we_yes, ↓we_par2, ↓we_par3, wo_some, wo_map, iaK_list, iaK_tuple, iaK_str, parK2_e, parK3_e, rd2, rd1, rd2B, rdN, rdAll, rd, hold, boolO, truO, intO, strO, frzO, retO, isIo_zero, isIo_succ, ioB_no, ioB_frz, ioB_own, ioB_io, le_line, lt_line, contAt, ML.putAt, Sl.cont, Sl.put, outsV, tupO, lstO, bo, noB, rtK_rt, rtK_nx, rtK1_rt, rtK1_nx, List.getElem?_cons_zero, List.getElem?_cons_succ, List.set_cons_zero, List.set_cons_succ, Option.map_some, Option.isSome_some, reduceIte, Bool.false_eq_true, Bool.true_eq_false, if_true, if_false, wipeR, ixN_lit, atI_lit, Option.bind_some, Nat.reduceLT, Nat.reduceLeDiff, ML.pos1, List.length_map, isT, List.map_cons, List.map_nil, List.length_cons, List.length_nil, List.cons_append, List.nil_append, List.append_nil, List.replicate, true_and, and_true, Nat.reduceSub, Nat.reduceAdd, Bool.not_true, Bool.not_false, decide_eq_true_eq, Bool.not_eq_true', decide_eq_false_iff_not, Int.reduceToNat, Int.reduceLT, Int.reduceLE, Int.reducePow, Int.reduceNeg, Bool.or_true, Bool.true_or, small_emod, small_lit, pow_10_18, and_self, addD, subD, mulD, modD, fdivD, negD, inD_ints, eqB_int, neB_int, ltB, leB, gtB, geB, isNB_none, notNB, isCB, ixD, lenD, absD, ML.intD, listD, tupD, slD, sl3, appD, metO, truD])
  refine wo_rgN (by omega) ?_
  (try simp only [↓we_seq, ↓we_asg, ↓we_ret, ↓we_retN, ↓we_sIf, ↓we_drop, ↓we_nx, ↓we_brk, ↓we_cnt, ↓we_var, ↓we_C, ↓we_frz, ↓we_hold, ↓we_bin, ↓we_cmp, ↓we_un, ↓we_isi, ↓we_aNil, ↓we_aCons, ↓we_cb, ↓we_tup, ↓we_lst, ↓we_b, ↓we_tru, ↓we_and, ↓we_or, ↓we_not, ↓we_andV, ↓we_orV, ↓we_notV, ↓we_mIf, ↓we_chain, ↓we_set, ↓we_mgSub, ↓we_mgTup, ↓we_mgNil, ↓we_mgCons, ↓we_iR1, ↓we_iR2, ↓we_for, ↓we_mNo, ↓we_part, ↓we_sl, ↓we_ms, ↓we_met, ↓we_call_, ↓we_callIo_, ↓we_lc_, ↓we_iA, ↓we_yes, ↓we_par2, ↓we_par3, wo_some, wo_map, iaK_list, iaK_tuple, iaK_str, parK2_e, parK3_e, rd2, rd1, rd2B, rdN, rdAll, rd, hold, boolO, truO, intO, strO, frzO, retO, isIo_zero, isIo_succ, ioB_no, ioB_frz, ioB_own, ioB_io, le_line, lt_line, contAt, ML.putAt, Sl.cont, Sl.put, outsV, tupO, lstO, bo, noB, rtK_rt, rtK_nx, rtK1_rt, rtK1_nx, List.getElem?_cons_zero, List.getElem?_cons_succ, List.set_cons_zero, List.set_cons_succ, Option.map_some, Option.isSome_some, reduceIte, Bool.false_eq_true, Bool.true_eq_false, if_true, if_false, wipeR, ixN_lit, atI_lit, Option.bind_some, Nat.reduceLT, Nat.reduceLeDiff, ML.pos1, List.length_map, isT, List.map_cons, List.map_nil, List.length_cons, List.length_nil, List.cons_append, List.nil_append, List.append_nil, List.replicate, true_and, and_true, Nat.reduceSub, Nat.reduceAdd, Bool.not_true, Bool.not_false, decide_eq_true_eq, Bool.not_eq_true', decide_eq_false_iff_not, Int.reduceToNat, Int.reduceLT, Int.reduceLE, Int.reducePow, Int.reduceNeg, Bool.or_true, Bool.true_or, small_emod, small_lit, pow_10_18, and_self, addD, subD, mulD, modD, fdivD, negD, inD_ints, eqB_int, neB_int, ltB, leB, gtB, geB, isNB_none, notNB, isCB, ixD, lenD, absD, ML.intD, listD, tupD, slD, sl3, appD, metO, truD]); repeat ((first | rw [then_nx] | rw [then_rt] | rw [then_bk] | rw [then_ct]); simp only [↓we_seq, ↓we_asg, ↓we_ret, ↓we_retN, ↓we_sIf, ↓we_drop, ↓we_nx, ↓we_brk, ↓we_cnt, ↓we_var, ↓we_C, ↓we_frz, ↓we_hold, ↓we_bin, ↓we_cmp, ↓we_un, ↓we_isi, ↓we_aNil, ↓we_aCons, ↓we_cb, ↓we_tup, ↓we_lst, ↓we_b, ↓we_tru, ↓we_and, ↓we_or, ↓we_not, ↓we_andV, ↓we_orV, ↓we_notV, ↓we_mIf, ↓we_chain, ↓we_set, ↓we_mgSub, ↓we_mgTup, ↓we_mgNil, ↓we_mgCons, ↓we_iR1, ↓we_iR2, ↓we_for, ↓we_mNo, ↓we_part, ↓we_sl, ↓we_ms, ↓we_met, ↓we_call_, ↓we_callIo_, ↓we_lc_, ↓we_iA, ↓we_yes, ↓we_par2, ↓we_par3, wo_some, wo_map, iaK_list, iaK_tuple, iaK_str, parK2_e, parK3_e, rd2, rd1, rd2B, rdN, rdAll, rd, hold, boolO, truO, intO, strO, frzO, retO, isIo_zero, isIo_succ, ioB_no, ioB_frz, ioB_own, ioB_io, le_line, lt_line, contAt, ML.putAt, Sl.cont, Sl.put, outsV, tupO, lstO, bo, noB, rtK_rt, rtK_nx, rtK1_rt, rtK1_nx, List.getElem?_cons_zero, List.getElem?_cons_succ, List.set_cons_zero, List.set_cons_succ, Option.map_some, Option.isSome_some, reduceIte, Bool.false_eq_true, Bool.true_eq_false, if_true, if_false, wipeR, ixN_lit, atI_lit, Option.bind_some, Nat.reduceLT, Nat.reduceLeDiff, ML.pos1, List.length_map, isT, List.map_cons, List.map_nil, List.length_cons, List.length_nil, List.cons_append, List.nil_append, List.append_nil, List.replicate, true_and, and_true, Nat.reduceSub, Nat.reduceAdd, Bool.not_true, Bool.not_false, decide_eq_true_eq, Bool.not_eq_true', decide_eq_false_iff_not, Int.reduceToNat, Int.reduceLT, Int.reduceLE, Int.reducePow, Int.reduceNeg, Bool.or_true, Bool.true_or, small_emod, small_lit, pow_10_18, and_self, addD, subD, mulD, modD, fdivD, negD, inD_ints, eqB_int, neB_int, ltB, leB, gtB, geB, isNB_none, notNB, isCB, ixD, lenD, absD, ML.intD, listD, tupD, slD, sl3, appD, metO, truD])
  refine we_lc (fun ρ => ∃ c, Dk c ∧ ρ = [.io c, .frz (.int m), .no]) (fun _ y => ∃ c : Nat, y = .str ⟨#[c]⟩) ?_ ⟨c', hc', rfl⟩ (by rw [rgD_len, le_line]; omega) ?_
  · rintro d - ρ ⟨c, hc, rfl⟩
    (try simp only [↓we_seq, ↓we_asg, ↓we_ret, ↓we_retN, ↓we_sIf, ↓we_drop, ↓we_nx, ↓we_brk, ↓we_cnt, ↓we_var, ↓we_C, ↓we_frz, ↓we_hold, ↓we_bin, ↓we_cmp, ↓we_un, ↓we_isi, ↓we_aNil, ↓we_aCons, ↓we_cb, ↓we_tup, ↓we_lst, ↓we_b, ↓we_tru, ↓we_and, ↓we_or, ↓we_not, ↓we_andV, ↓we_orV, ↓we_notV, ↓we_mIf, ↓we_chain, ↓we_set, ↓we_mgSub, ↓we_mgTup, ↓we_mgNil, ↓we_mgCons, ↓we_iR1, ↓we_iR2, ↓we_for, ↓we_mNo, ↓we_part, ↓we_sl, ↓we_ms, ↓we_met, ↓we_call_, ↓we_callIo_, ↓we_lc_, ↓we_iA, ↓we_yes, ↓we_par2, ↓we_par3, wo_some, wo_map, iaK_list, iaK_tuple, iaK_str, parK2_e, parK3_e, rd2, rd1, rd2B, rdN, rdAll, rd, hold, boolO, truO, intO, strO, frzO, retO, isIo_zero, isIo_succ, ioB_no, ioB_frz, ioB_own, ioB_io, le_line, lt_line, contAt, ML.putAt, Sl.cont, Sl.put, outsV, tupO, lstO, bo, noB, rtK_rt, rtK_nx, rtK1_rt, rtK1_nx, List.getElem?_cons_zero, List.getElem?_cons_succ, List.set_cons_zero, List.set_cons_succ, Option.map_some, Option.isSome_some, reduceIte, Bool.false_eq_true, Bool.true_eq_false, if_true, if_false, wipeR, ixN_lit, atI_lit, Option.bind_some, Nat.reduceLT, Nat.reduceLeDiff, ML.pos1, List.length_map, isT, List.map_cons, List.map_nil, List.length_cons, List.length_nil, List.cons_append, List.nil_append, List.append_nil, List.replicate, true_and, and_true, Nat.reduceSub, Nat.reduceAdd, Bool.not_true, Bool.not_false, decide_eq_true_eq, Bool.not_eq_true', decide_eq_false_iff_not, Int.reduceToNat, Int.reduceLT, Int.reduceLE, Int.reducePow, Int.reduceNeg, Bool.or_true, Bool.true_or, small_emod, small_lit, pow_10_18, and_self, addD, subD, mulD, modD, fdivD, negD, inD_ints, eqB_int, neB_int, ltB, leB, gtB, geB, isNB_none, notNB, isCB, ixD, lenD, absD, ML.intD, listD, tupD, slD, sl3, appD, metO, truD, compK]); repeat ((first | rw [then_nx] | rw [then_rt] | rw [then_bk] | rw [then_ct]); simp only [↓we_seq, ↓we_asg, ↓we_ret, ↓we_retN, ↓we_sIf, ↓we_drop, ↓we_nx, ↓we_brk, ↓we_cnt, ↓we_var, ↓we_C, ↓we_frz, ↓we_hold, ↓we_bin, ↓we_cmp, ↓we_un, ↓we_isi, ↓we_aNil, ↓we_aCons, ↓we_cb, ↓we_tup, ↓we_lst, ↓we_b, ↓we_tru, ↓we_and, ↓we_or, ↓we_not, ↓we_andV, ↓we_orV, ↓we_notV, ↓we_mIf, ↓we_chain, ↓we_set, ↓we_mgSub, ↓we_mgTup, ↓we_mgNil, ↓we_mgCons, ↓we_iR1, ↓we_iR2, ↓we_for, ↓we_mNo, ↓we_part, ↓we_sl, ↓we_ms, ↓we_met, ↓we_call_, ↓we_callIo_, ↓we_lc_, ↓we_iA, ↓we_yes, ↓we_par2, ↓we_par3, wo_some, wo_map, iaK_list, iaK_tuple, iaK_str, parK2_e, parK3_e, rd2, rd1, rd2B, rdN, rdAll, rd, hold, boolO, truO, intO, strO, frzO, retO, isIo_zero, isIo_succ, ioB_no, ioB_frz, ioB_own, ioB_io, le_line, lt_line, contAt, ML.putAt, Sl.cont, Sl.put, outsV, tupO, lstO, bo, noB, rtK_rt, rtK_nx, rtK1_rt, rtK1_nx, List.getElem?_cons_zero, List.getElem?_cons_succ, List.set_cons_zero, List.set_cons_succ, Option.map_some, Option.isSome_some, reduceIte, Bool.false_eq_true, Bool.true_eq_false, if_true, if_false, wipeR, ixN_lit, atI_lit, Option.bind_some, Nat.reduceLT, Nat.reduceLeDiff, ML.pos1, List.length_map, isT, List.map_cons, List.map_nil, List.length_cons, List.length_nil, List.cons_append, List.nil_append, List.append_nil, List.replicate, true_and, and_true, Nat.reduceSub, Nat.reduceAdd, Bool.not_true, Bool.not_false, decide_eq_true_eq, Bool.not_eq_true', decide_eq_false_iff_not, Int.reduceToNat, Int.reduceLT, Int.reduceLE, Int.reducePow, Int.reduceNeg, Bool.or_true, Bool.true_or, small_emod, small_lit, pow_10_18, and_self, addD, subD, mulD, modD, fdivD, negD, inD_ints, eqB_int, neB_int, ltB, leB, gtB, geB, isNB_none, notNB, isCB, ixD, lenD, absD, ML.intD, listD, tupD, slD, sl3, appD, metO, truD, compK]);
    refine we_callIo (draw_ok hc (n := 26) (by decide) (by decide)) rfl rfl rfl ?_
    rintro r c' - ⟨k, rfl, h0, h1, hc'⟩
    (try simp only [↓we_seq, ↓we_asg, ↓we_ret, ↓we_retN, ↓we_sIf, ↓we_drop, ↓we_nx, ↓we_brk, ↓we_cnt, ↓we_var, ↓we_C, ↓we_frz, ↓we_hold, ↓we_bin, ↓we_cmp, ↓we_un, ↓we_isi, ↓we_aNil, ↓we_aCons, ↓we_cb, ↓we_tup, ↓we_lst, ↓we_b, ↓we_tru, ↓we_and, ↓we_or, ↓we_not, ↓we_andV, ↓we_orV, ↓we_notV, ↓we_mIf, ↓we_chain, ↓we_set, ↓we_mgSub, ↓we_mgTup, ↓we_mgNil, ↓we_mgCons, ↓we_iR1, ↓we_iR2, ↓we_for, ↓we_mNo, ↓we_part, ↓we_sl, ↓we_ms, ↓we_met, ↓we_call_, ↓we_callIo_, ↓we_lc_, ↓we_iA, ↓we_yes, ↓we_par2, ↓we_par3, wo_some, wo_map, iaK_list, iaK_tuple, iaK_str, parK2_e, parK3_e, rd2, rd1, rd2B, rdN, rdAll, rd, hold, boolO, truO, intO, strO, frzO, retO, isIo_zero, isIo_succ, ioB_no, ioB_frz, ioB_own, ioB_io, le_line, lt_line, contAt, ML.putAt, Sl.cont, Sl.put, outsV, tupO, lstO, bo, noB, rtK_rt, rtK_nx, rtK1_rt, rtK1_nx, List.getElem?_cons_zero, List.getElem?_cons_succ, List.set_cons_zero, List.set_cons_succ, Option.map_some, Option.isSome_some, reduceIte, Bool.false_eq_true, Bool.true_eq_false, if_true, if_false, wipeR, ixN_lit, atI_lit, Option.bind_some, Nat.reduceLT, Nat.reduceLeDiff, ML.pos1, List.length_map, isT, List.map_cons, List.map_nil, List.length_cons, List.length_nil, List.cons_append, List.nil_append, List.append_nil, List.replicate, true_and, and_true, Nat.reduceSub, Nat.reduceAdd, Bool.not_true, Bool.not_false, decide_eq_true_eq, Bool.not_eq_true', decide_eq_false_iff_not, Int.reduceToNat, Int.reduceLT, Int.reduceLE, Int.reducePow, Int.reduceNeg, Bool.or_true, Bool.true_or, small_emod, small_lit, pow_10_18, and_self, addD, subD, mulD, modD, fdivD, negD, inD_ints, eqB_int, neB_int, ltB, leB, gtB, geB, isNB_none, notNB, isCB, ixD, lenD, absD, ML.intD, listD, tupD, slD, sl3, appD, metO, truD]); repeat ((first | rw [then_nx] | rw [then_rt] | rw [then_bk] | rw [then_ct]); simp only [↓we_seq, ↓we_asg, ↓we_ret, ↓we_retN, ↓we_sIf, ↓we_drop, ↓we_nx, ↓we_brk, ↓we_cnt, ↓we_var, ↓we_C, ↓we_frz, ↓we_hold, ↓we_bin, ↓we_cmp, ↓we_un, ↓we_isi, ↓we_aNil, ↓we_aCons, ↓we_cb, ↓we_tup, ↓we_lst, ↓we_b, ↓we_tru, ↓we_and, ↓we_or, ↓we_not, ↓we_andV, ↓we_orV, ↓we_notV, ↓we_mIf, ↓we_chain, ↓we_set, ↓we_mgSub, ↓we_mgTup, ↓we_mgNil, ↓we_mgCons, ↓we_iR1, ↓we_iR2, ↓we_for, ↓we_mNo, ↓we_part, ↓we_sl, ↓we_ms, ↓we_met, ↓we_call_, ↓we_callIo_, ↓we_lc_, ↓we_iA, ↓we_yes, ↓we_par2, ↓we_par3, wo_some, wo_map, iaK_list, iaK_tuple, iaK_str, parK2_e, parK3_e, rd2, rd1, rd2B, rdN, rdAll, rd, hold, boolO, truO, intO, strO, frzO, retO, isIo_zero, isIo_succ, ioB_no, ioB_frz, ioB_own, ioB_io, le_line, lt_line, contAt, ML.putAt, Sl.cont, Sl.put, outsV, tupO, lstO, bo, noB, rtK_rt, rtK_nx, rtK1_rt, rtK1_nx, List.getElem?_cons_zero, List.getElem?_cons_succ, List.set_cons_zero, List.set_cons_succ, Option.map_some, Option.isSome_some, reduceIte, Bool.false_eq_true, Bool.true_eq_false, if_true, if_false, wipeR, ixN_lit, atI_lit, Option.bind_some, Nat.reduceLT, Nat.reduceLeDiff, ML.pos1, List.length_map, isT, List.map_cons, List.map_nil, List.length_cons, List.length_nil, List.cons_append, List.nil_append, List.append_nil, List.replicate, true_and, and_true, Nat.reduceSub, Nat.reduceAdd, Bool.not_true, Bool.not_false, decide_eq_true_eq, Bool.not_eq_true', decide_eq_false_iff_not, Int.reduceToNat, Int.reduceLT, Int.reduceLE, Int.reducePow, Int.reduceNeg, Bool.or_true, Bool.true_or, small_emod, small_lit, pow_10_18, and_self, addD, subD, mulD, modD, fdivD, negD, inD_ints, eqB_int, neB_int, ltB, leB, gtB, geB, isNB_none, notNB, isCB, ixD, lenD, absD, ML.intD, listD, tupD, slD, sl3, appD, metO, truD])
    refine wo_sgn h0 h1 fun ch => ?_
    (try simp only [↓we_seq, ↓we_asg, ↓we_ret, ↓we_retN, ↓we_sIf, ↓we_drop, ↓we_nx, ↓we_brk, ↓we_cnt, ↓we_var, ↓we_C, ↓we_frz, ↓we_hold, ↓we_bin, ↓we_cmp, ↓we_un, ↓we_isi, ↓we_aNil, ↓we_aCons, ↓we_cb, ↓we_tup, ↓we_lst, ↓we_b, ↓we_tru, ↓we_and, ↓we_or, ↓we_not, ↓we_andV, ↓we_orV, ↓we_notV, ↓we_mIf, ↓we_chain, ↓we_set, ↓we_mgSub, ↓we_mgTup, ↓we_mgNil, ↓we_mgCons, ↓we_iR1, ↓we_iR2, ↓we_for, ↓we_mNo, ↓we_part, ↓we_sl, ↓we_ms, ↓we_met, ↓we_call_, ↓we_callIo_, ↓we_lc_, ↓we_iA, ↓we_yes, ↓we_par2, ↓we_par3, wo_some, wo_map, iaK_list, iaK_tuple, iaK_str, parK2_e, parK3_e, rd2, rd1, rd2B, rdN, rdAll, rd, hold, boolO, truO, intO, strO, frzO, retO, isIo_zero, isIo_succ, ioB_no, ioB_frz, ioB_own, ioB_io, le_line, lt_line, contAt, ML.putAt, Sl.cont, Sl.put, outsV, tupO, lstO, bo, noB, rtK_rt, rtK_nx, rtK1_rt, rtK1_nx, List.getElem?_cons_zero, List.getElem?_cons_succ, List.set_cons_zero, List.set_cons_succ, Option.map_some, Option.isSome_some, reduceIte, Bool.false_eq_true, Bool.true_eq_false, if_true, if_false, wipeR, ixN_lit, atI_lit, Option.bind_some, Nat.reduceLT, Nat.reduceLeDiff, ML.pos1, List.length_map, isT, List.map_cons, List.map_nil, List.length_cons, List.length_nil, List.cons_append, List.nil_append, List.append_nil, List.replicate, true_and, and_true, Nat.reduceSub, Nat.reduceAdd, Bool.not_true, Bool.not_false, decide_eq_true_eq, Bool.not_eq_true', decide_eq_false_iff_not, Int.reduceToNat, Int.reduceLT, Int.reduceLE, Int.reducePow, Int.reduceNeg, Bool.or_true, Bool.true_or, small_emod, small_lit, pow_10_18, and_self, addD, subD, mulD, modD, fdivD, negD, inD_ints, eqB_int, neB_int, ltB, leB, gtB, geB, isNB_none, notNB, isCB, ixD, lenD, absD, ML.intD, listD, tupD, slD, sl3, appD, metO, truD]); repeat ((first | rw [then_nx] | rw [then_rt] | rw [then_bk] | rw [then_ct]); simp only [↓we_seq, ↓we_asg, ↓we_ret, ↓we_retN, ↓we_sIf, ↓we_drop, ↓we_nx, ↓we_brk, ↓we_cnt, ↓we_var, ↓we_C, ↓we_frz, ↓we_hold, ↓we_bin, ↓we_cmp, ↓we_un, ↓we_isi, ↓we_aNil, ↓we_aCons, ↓we_cb, ↓we_tup, ↓we_lst, ↓we_b, ↓we_tru, ↓we_and, ↓we_or, ↓we_not, ↓we_andV, ↓we_orV, ↓we_notV, ↓we_mIf, ↓we_chain, ↓we_set, ↓we_mgSub, ↓we_mgTup, ↓we_mgNil, ↓we_mgCons, ↓we_iR1, ↓we_iR2, ↓we_for, ↓we_mNo, ↓we_part, ↓we_sl, ↓we_ms, ↓we_met, ↓we_call_, ↓we_callIo_, ↓we_lc_, ↓we_iA, ↓we_yes, ↓we_par2, ↓we_par3, wo_some, wo_map, iaK_list, iaK_tuple, iaK_str, parK2_e, parK3_e, rd2, rd1, rd2B, rdN, rdAll, rd, hold, boolO, truO, intO, strO, frzO, retO, isIo_zero, isIo_succ, ioB_no, ioB_frz, ioB_own, ioB_io, le_line, lt_line, contAt, ML.putAt, Sl.cont, Sl.put, outsV, tupO, lstO, bo, noB, rtK_rt, rtK_nx, rtK1_rt, rtK1_nx, List.getElem?_cons_zero, List.getElem?_cons_succ, List.set_cons_zero, List.set_cons_succ, Option.map_some, Option.isSome_some, reduceIte, Bool.false_eq_true, Bool.true_eq_false, if_true, if_false, wipeR, ixN_lit, atI_lit, Option.bind_some, Nat.reduceLT, Nat.reduceLeDiff, ML.pos1, List.length_map, isT, List.map_cons, List.map_nil, List.length_cons, List.length_nil, List.cons_append, List.nil_append, List.append_nil, List.replicate, true_and, and_true, Nat.reduceSub, Nat.reduceAdd, Bool.not_true, Bool.not_false, decide_eq_true_eq, Bool.not_eq_true', decide_eq_false_iff_not, Int.reduceToNat, Int.reduceLT, Int.reduceLE, Int.reducePow, Int.reduceNeg, Bool.or_true, Bool.true_or, small_emod, small_lit, pow_10_18, and_self, addD, subD, mulD, modD, fdivD, negD, inD_ints, eqB_int, neB_int, ltB, leB, gtB, geB, isNB_none, notNB, isCB, ixD, lenD, absD, ML.intD, listD, tupD, slD, sl3, appD, metO, truD])
    exact ⟨⟨_, rfl⟩, _, hc', rfl⟩
  · rintro ys ρ ⟨c, hc, rfl⟩ a
    obtain ⟨x, hx, e⟩ := join_one a (by rw [rgD_len]; omega)
    (try simp only [↓we_seq, ↓we_asg, ↓we_ret, ↓we_retN, ↓we_sIf, ↓we_drop, ↓we_nx, ↓we_brk, ↓we_cnt, ↓we_var, ↓we_C, ↓we_frz, ↓we_hold, ↓we_bin, ↓we_cmp, ↓we_un, ↓we_isi, ↓we_aNil, ↓we_aCons, ↓we_cb, ↓we_tup, ↓we_lst, ↓we_b, ↓we_tru, ↓we_and, ↓we_or, ↓we_not, ↓we_andV, ↓we_orV, ↓we_notV, ↓we_mIf, ↓we_chain, ↓we_set, ↓we_mgSub, ↓we_mgTup, ↓we_mgNil, ↓we_mgCons, ↓we_iR1, ↓we_iR2, ↓we_for, ↓we_mNo, ↓we_part, ↓we_sl, ↓we_ms, ↓we_met, ↓we_call_, ↓we_callIo_, ↓we_lc_, ↓we_iA, ↓we_yes, ↓we_par2, ↓we_par3, wo_some, wo_map, iaK_list, iaK_tuple, iaK_str, parK2_e, parK3_e, rd2, rd1, rd2B, rdN, rdAll, rd, hold, boolO, truO, intO, strO, frzO, retO, isIo_zero, isIo_succ, ioB_no, ioB_frz, ioB_own, ioB_io, le_line, lt_line, contAt, ML.putAt, Sl.cont, Sl.put, outsV, tupO, lstO, bo, noB, rtK_rt, rtK_nx, rtK1_rt, rtK1_nx, List.getElem?_cons_zero, List.getElem?_cons_succ, List.set_cons_zero, List.set_cons_succ, Option.map_some, Option.isSome_some, reduceIte, Bool.false_eq_true, Bool.true_eq_false, if_true, if_false, wipeR, ixN_lit, atI_lit, Option.bind_some, Nat.reduceLT, Nat.reduceLeDiff, ML.pos1, List.length_map, isT, List.map_cons, List.map_nil, List.length_cons, List.length_nil, List.cons_append, List.nil_append, List.append_nil, List.replicate, true_and, and_true, Nat.reduceSub, Nat.reduceAdd, Bool.not_true, Bool.not_false, decide_eq_true_eq, Bool.not_eq_true', decide_eq_false_iff_not, Int.reduceToNat, Int.reduceLT, Int.reduceLE, Int.reducePow, Int.reduceNeg, Bool.or_true, Bool.true_or, small_emod, small_lit, pow_10_18, and_self, addD, subD, mulD, modD, fdivD, negD, inD_ints, eqB_int, neB_int, ltB, leB, gtB, geB, isNB_none, notNB, isCB, ixD, lenD, absD, ML.intD, listD, tupD, slD, sl3, appD, metO, truD, e]); repeat ((first | rw [then_nx] | rw [then_rt] | rw [then_bk] | rw [then_ct]); simp only [↓we_seq, ↓we_asg, ↓we_ret, ↓we_retN, ↓we_sIf, ↓we_drop, ↓we_nx, ↓we_brk, ↓we_cnt, ↓we_var, ↓we_C, ↓we_frz, ↓we_hold, ↓we_bin, ↓we_cmp, ↓we_un, ↓we_isi, ↓we_aNil, ↓we_aCons, ↓we_cb, ↓we_tup, ↓we_lst, ↓we_b, ↓we_tru, ↓we_and, ↓we_or, ↓we_not, ↓we_andV, ↓we_orV, ↓we_notV, ↓we_mIf, ↓we_chain, ↓we_set, ↓we_mgSub, ↓we_mgTup, ↓we_mgNil, ↓we_mgCons, ↓we_iR1, ↓we_iR2, ↓we_for, ↓we_mNo, ↓we_part, ↓we_sl, ↓we_ms, ↓we_met, ↓we_call_, ↓we_callIo_, ↓we_lc_, ↓we_iA, ↓we_yes, ↓we_par2, ↓we_par3, wo_some, wo_map, iaK_list, iaK_tuple, iaK_str, parK2_e, parK3_e, rd2, rd1, rd2B, rdN, rdAll, rd, hold, boolO, truO, intO, strO, frzO, retO, isIo_zero, isIo_succ, ioB_no, ioB_frz, ioB_own, ioB_io, le_line, lt_line, contAt, ML.putAt, Sl.cont, Sl.put, outsV, tupO, lstO, bo, noB, rtK_rt, rtK_nx, rtK1_rt, rtK1_nx, List.getElem?_cons_zero, List.getElem?_cons_succ, List.set_cons_zero, List.set_cons_succ, Option.map_some, Option.isSome_some, reduceIte, Bool.false_eq_true, Bool.true_eq_false, if_true, if_false, wipeR, ixN_lit, atI_lit, Option.bind_some, Nat.reduceLT, Nat.reduceLeDiff, ML.pos1, List.length_map, isT, List.map_cons, List.map_nil, List.length_cons, List.length_nil, List.cons_append, List.nil_append, List.append_nil, List.replicate, true_and, and_true, Nat.reduceSub, Nat.reduceAdd, Bool.not_true, Bool.not_false, decide_eq_true_eq, Bool.not_eq_true', decide_eq_false_iff_not, Int.reduceToNat, Int.reduceLT, Int.reduceLE, Int.reducePow, Int.reduceNeg, Bool.or_true, Bool.true_or, small_emod, small_lit, pow_10_18, and_self, addD, subD, mulD, modD, fdivD, negD, inD_ints, eqB_int, neB_int, ltB, leB, gtB, geB, isNB_none, notNB, isCB, ixD, lenD, absD, ML.intD, listD, tupD, slD, sl3, appD, metO, truD, e]);
    rw [rgD_len] at hx
    exact ⟨_, rfl, _, rfl, by omega, by omega, hc⟩
theorem item_ok {c : List D} {v : Int} (hc : Dk c) (h0 : 0 < v) (h1 : v ≤ 1000) : F1 m__law_item c [.int v] (fun r c' => ∃ d, r = .v d ∧ Dk c') := by
  refine F1.def_ ?_
  (try simp only [↓we_seq, ↓we_asg, ↓we_ret, ↓we_retN, ↓we_sIf, ↓we_drop, ↓we_nx, ↓we_brk, ↓we_cnt, ↓we_var, ↓we_C, ↓we_frz, ↓we_hold, ↓we_bin, ↓we_cmp, ↓we_un, ↓we_isi, ↓we_aNil, ↓we_aCons, ↓we_cb, ↓we_tup, ↓we_lst, ↓we_b, ↓we_tru, ↓we_and, ↓we_or, ↓we_not, ↓we_andV, ↓we_orV, ↓we_notV, ↓we_mIf, ↓we_chain, ↓we_set, ↓we_mgSub, ↓we_mgTup, ↓we_mgNil, ↓we_mgCons, ↓we_iR1, ↓we_iR2, ↓we_for, ↓we_mNo, ↓we_part, ↓we_sl, ↓we_ms, ↓we_met, ↓we_call_, ↓we_callIo_, ↓we_lc_, ↓we_iA, ↓we_yes, ↓we_par2, ↓we_par3, wo_some, wo_map, iaK_list, iaK_tuple, iaK_str, parK2_e, parK3_e, rd2, rd1, rd2B, rdN, rdAll, rd, hold, boolO, truO, intO, strO, frzO, retO, isIo_zero, isIo_succ, ioB_no, ioB_frz, ioB_own, ioB_io, le_line, lt_line, contAt, ML.putAt, Sl.cont, Sl.put, outsV, tupO, lstO, bo, noB, rtK_rt, rtK_nx, rtK1_rt, rtK1_nx, List.getElem?_cons_zero, List.getElem?_cons_succ, List.set_cons_zero, List.set_cons_succ, Option.map_some, Option.isSome_some, reduceIte, Bool.false_eq_true, Bool.true_eq_false, if_true, if_false, wipeR, ixN_lit, atI_lit, Option.bind_some, Nat.reduceLT, Nat.reduceLeDiff, ML.pos1, List.length_map, isT, List.map_cons, List.map_nil, List.length_cons, List.length_nil, List.cons_append, List.nil_append, List.append_nil, List.replicate, true_and, and_true, Nat.reduceSub, Nat.reduceAdd, Bool.not_true, Bool.not_false, decide_eq_true_eq, Bool.not_eq_true', decide_eq_false_iff_not, Int.reduceToNat, Int.reduceLT, Int.reduceLE, Int.reducePow, Int.reduceNeg, Bool.or_true, Bool.true_or, small_emod, small_lit, pow_10_18, and_self, addD, subD, mulD, modD, fdivD, negD, inD_ints, eqB_int, neB_int, ltB, leB, gtB, geB, isNB_none, notNB, isCB, ixD, lenD, absD, ML.intD, listD, tupD, slD, sl3, appD, metO, truD]); repeat ((first | rw [then_nx] | rw [then_rt] | rw [then_bk] | rw [then_ct]); simp only [↓we_seq, ↓we_asg, ↓we_ret, ↓we_retN, ↓we_sIf, ↓we_drop, ↓we_nx, ↓we_brk, ↓we_cnt, ↓we_var, ↓we_C, ↓we_frz, ↓we_hold, ↓we_bin, ↓we_cmp, ↓we_un, ↓we_isi, ↓we_aNil, ↓we_aCons, ↓we_cb, ↓we_tup, ↓we_lst, ↓we_b, ↓we_tru, ↓we_and, ↓we_or, ↓we_not, ↓we_andV, ↓we_orV, ↓we_notV, ↓we_mIf, ↓we_chain, ↓we_set, ↓we_mgSub, ↓we_mgTup, ↓we_mgNil, ↓we_mgCons, ↓we_iR1, ↓we_iR2, ↓we_for, ↓we_mNo, ↓we_part, ↓we_sl, ↓we_ms, ↓we_met, ↓we_call_, ↓we_callIo_, ↓we_lc_, ↓we_iA, ↓we_yes, ↓we_par2, ↓we_par3, wo_some, wo_map, iaK_list, iaK_tuple, iaK_str, parK2_e, parK3_e, rd2, rd1, rd2B, rdN, rdAll, rd, hold, boolO, truO, intO, strO, frzO, retO, isIo_zero, isIo_succ, ioB_no, ioB_frz, ioB_own, ioB_io, le_line, lt_line, contAt, ML.putAt, Sl.cont, Sl.put, outsV, tupO, lstO, bo, noB, rtK_rt, rtK_nx, rtK1_rt, rtK1_nx, List.getElem?_cons_zero, List.getElem?_cons_succ, List.set_cons_zero, List.set_cons_succ, Option.map_some, Option.isSome_some, reduceIte, Bool.false_eq_true, Bool.true_eq_false, if_true, if_false, wipeR, ixN_lit, atI_lit, Option.bind_some, Nat.reduceLT, Nat.reduceLeDiff, ML.pos1, List.length_map, isT, List.map_cons, List.map_nil, List.length_cons, List.length_nil, List.cons_append, List.nil_append, List.append_nil, List.replicate, true_and, and_true, Nat.reduceSub, Nat.reduceAdd, Bool.not_true, Bool.not_false, decide_eq_true_eq, Bool.not_eq_true', decide_eq_false_iff_not, Int.reduceToNat, Int.reduceLT, Int.reduceLE, Int.reducePow, Int.reduceNeg, Bool.or_true, Bool.true_or, small_emod, small_lit, pow_10_18, and_self, addD, subD, mulD, modD, fdivD, negD, inD_ints, eqB_int, neB_int, ltB, leB, gtB, geB, isNB_none, notNB, isCB, ixD, lenD, absD, ML.intD, listD, tupD, slD, sl3, appD, metO, truD])
  refine we_callIo (draw_ok hc (n := v) h0 (by omega)) rfl rfl rfl ?_
  rintro r c' - ⟨k, rfl, -, -, hc'⟩
  (try simp only [↓we_seq, ↓we_asg, ↓we_ret, ↓we_retN, ↓we_sIf, ↓we_drop, ↓we_nx, ↓we_brk, ↓we_cnt, ↓we_var, ↓we_C, ↓we_frz, ↓we_hold, ↓we_bin, ↓we_cmp, ↓we_un, ↓we_isi, ↓we_aNil, ↓we_aCons, ↓we_cb, ↓we_tup, ↓we_lst, ↓we_b, ↓we_tru, ↓we_and, ↓we_or, ↓we_not, ↓we_andV, ↓we_orV, ↓we_notV, ↓we_mIf, ↓we_chain, ↓we_set, ↓we_mgSub, ↓we_mgTup, ↓we_mgNil, ↓we_mgCons, ↓we_iR1, ↓we_iR2, ↓we_for, ↓we_mNo, ↓we_part, ↓we_sl, ↓we_ms, ↓we_met, ↓we_call_, ↓we_callIo_, ↓we_lc_, ↓we_iA, ↓we_yes, ↓we_par2, ↓we_par3, wo_some, wo_map, iaK_list, iaK_tuple, iaK_str, parK2_e, parK3_e, rd2, rd1, rd2B, rdN, rdAll, rd, hold, boolO, truO, intO, strO, frzO, retO, isIo_zero, isIo_succ, ioB_no, ioB_frz, ioB_own, ioB_io, le_line, lt_line, contAt, ML.putAt, Sl.cont, Sl.put, outsV, tupO, lstO, bo, noB, rtK_rt, rtK_nx, rtK1_rt, rtK1_nx, List.getElem?_cons_zero, List.getElem?_cons_succ, List.set_cons_zero, List.set_cons_succ, Option.map_some, Option.isSome_some, reduceIte, Bool.false_eq_true, Bool.true_eq_false, if_true, if_false, wipeR, ixN_lit, atI_lit, Option.bind_some, Nat.reduceLT, Nat.reduceLeDiff, ML.pos1, List.length_map, isT, List.map_cons, List.map_nil, List.length_cons, List.length_nil, List.cons_append, List.nil_append, List.append_nil, List.replicate, true_and, and_true, Nat.reduceSub, Nat.reduceAdd, Bool.not_true, Bool.not_false, decide_eq_true_eq, Bool.not_eq_true', decide_eq_false_iff_not, Int.reduceToNat, Int.reduceLT, Int.reduceLE, Int.reducePow, Int.reduceNeg, Bool.or_true, Bool.true_or, small_emod, small_lit, pow_10_18, and_self, addD, subD, mulD, modD, fdivD, negD, inD_ints, eqB_int, neB_int, ltB, leB, gtB, geB, isNB_none, notNB, isCB, ixD, lenD, absD, ML.intD, listD, tupD, slD, sl3, appD, metO, truD]); repeat ((first | rw [then_nx] | rw [then_rt] | rw [then_bk] | rw [then_ct]); simp only [↓we_seq, ↓we_asg, ↓we_ret, ↓we_retN, ↓we_sIf, ↓we_drop, ↓we_nx, ↓we_brk, ↓we_cnt, ↓we_var, ↓we_C, ↓we_frz, ↓we_hold, ↓we_bin, ↓we_cmp, ↓we_un, ↓we_isi, ↓we_aNil, ↓we_aCons, ↓we_cb, ↓we_tup, ↓we_lst, ↓we_b, ↓we_tru, ↓we_and, ↓we_or, ↓we_not, ↓we_andV, ↓we_orV, ↓we_notV, ↓we_mIf, ↓we_chain, ↓we_set, ↓we_mgSub, ↓we_mgTup, ↓we_mgNil, ↓we_mgCons, ↓we_iR1, ↓we_iR2, ↓we_for, ↓we_mNo, ↓we_part, ↓we_sl, ↓we_ms, ↓we_met, ↓we_call_, ↓we_callIo_, ↓we_lc_, ↓we_iA, ↓we_yes, ↓we_par2, ↓we_par3, wo_some, wo_map, iaK_list, iaK_tuple, iaK_str, parK2_e, parK3_e, rd2, rd1, rd2B, rdN, rdAll, rd, hold, boolO, truO, intO, strO, frzO, retO, isIo_zero, isIo_succ, ioB_no, ioB_frz, ioB_own, ioB_io, le_line, lt_line, contAt, ML.putAt, Sl.cont, Sl.put, outsV, tupO, lstO, bo, noB, rtK_rt, rtK_nx, rtK1_rt, rtK1_nx, List.getElem?_cons_zero, List.getElem?_cons_succ, List.set_cons_zero, List.set_cons_succ, Option.map_some, Option.isSome_some, reduceIte, Bool.false_eq_true, Bool.true_eq_false, if_true, if_false, wipeR, ixN_lit, atI_lit, Option.bind_some, Nat.reduceLT, Nat.reduceLeDiff, ML.pos1, List.length_map, isT, List.map_cons, List.map_nil, List.length_cons, List.length_nil, List.cons_append, List.nil_append, List.append_nil, List.replicate, true_and, and_true, Nat.reduceSub, Nat.reduceAdd, Bool.not_true, Bool.not_false, decide_eq_true_eq, Bool.not_eq_true', decide_eq_false_iff_not, Int.reduceToNat, Int.reduceLT, Int.reduceLE, Int.reducePow, Int.reduceNeg, Bool.or_true, Bool.true_or, small_emod, small_lit, pow_10_18, and_self, addD, subD, mulD, modD, fdivD, negD, inD_ints, eqB_int, neB_int, ltB, leB, gtB, geB, isNB_none, notNB, isCB, ixD, lenD, absD, ML.intD, listD, tupD, slD, sl3, appD, metO, truD])
  refine we_callIo (draw_ok hc' (n := 11) (by decide) (by decide)) rfl rfl rfl ?_
  rintro r c' - ⟨k, rfl, h0, h1, hc'⟩
  (try simp only [↓we_seq, ↓we_asg, ↓we_ret, ↓we_retN, ↓we_sIf, ↓we_drop, ↓we_nx, ↓we_brk, ↓we_cnt, ↓we_var, ↓we_C, ↓we_frz, ↓we_hold, ↓we_bin, ↓we_cmp, ↓we_un, ↓we_isi, ↓we_aNil, ↓we_aCons, ↓we_cb, ↓we_tup, ↓we_lst, ↓we_b, ↓we_tru, ↓we_and, ↓we_or, ↓we_not, ↓we_andV, ↓we_orV, ↓we_notV, ↓we_mIf, ↓we_chain, ↓we_set, ↓we_mgSub, ↓we_mgTup, ↓we_mgNil, ↓we_mgCons, ↓we_iR1, ↓we_iR2, ↓we_for, ↓we_mNo, ↓we_part, ↓we_sl, ↓we_ms, ↓we_met, ↓we_call_, ↓we_callIo_, ↓we_lc_, ↓we_iA, ↓we_yes, ↓we_par2, ↓we_par3, wo_some, wo_map, iaK_list, iaK_tuple, iaK_str, parK2_e, parK3_e, rd2, rd1, rd2B, rdN, rdAll, rd, hold, boolO, truO, intO, strO, frzO, retO, isIo_zero, isIo_succ, ioB_no, ioB_frz, ioB_own, ioB_io, le_line, lt_line, contAt, ML.putAt, Sl.cont, Sl.put, outsV, tupO, lstO, bo, noB, rtK_rt, rtK_nx, rtK1_rt, rtK1_nx, List.getElem?_cons_zero, List.getElem?_cons_succ, List.set_cons_zero, List.set_cons_succ, Option.map_some, Option.isSome_some, reduceIte, Bool.false_eq_true, Bool.true_eq_false, if_true, if_false, wipeR, ixN_lit, atI_lit, Option.bind_some, Nat.reduceLT, Nat.reduceLeDiff, ML.pos1, List.length_map, isT, List.map_cons, List.map_nil, List.length_cons, List.length_nil, List.cons_append, List.nil_append, List.append_nil, List.replicate, true_and, and_true, Nat.reduceSub, Nat.reduceAdd, Bool.not_true, Bool.not_false, decide_eq_true_eq, Bool.not_eq_true', decide_eq_false_iff_not, Int.reduceToNat, Int.reduceLT, Int.reduceLE, Int.reducePow, Int.reduceNeg, Bool.or_true, Bool.true_or, small_emod, small_lit, pow_10_18, and_self, addD, subD, mulD, modD, fdivD, negD, inD_ints, eqB_int, neB_int, ltB, leB, gtB, geB, isNB_none, notNB, isCB, ixD, lenD, absD, ML.intD, listD, tupD, slD, sl3, appD, metO, truD]); repeat ((first | rw [then_nx] | rw [then_rt] | rw [then_bk] | rw [then_ct]); simp only [↓we_seq, ↓we_asg, ↓we_ret, ↓we_retN, ↓we_sIf, ↓we_drop, ↓we_nx, ↓we_brk, ↓we_cnt, ↓we_var, ↓we_C, ↓we_frz, ↓we_hold, ↓we_bin, ↓we_cmp, ↓we_un, ↓we_isi, ↓we_aNil, ↓we_aCons, ↓we_cb, ↓we_tup, ↓we_lst, ↓we_b, ↓we_tru, ↓we_and, ↓we_or, ↓we_not, ↓we_andV, ↓we_orV, ↓we_notV, ↓we_mIf, ↓we_chain, ↓we_set, ↓we_mgSub, ↓we_mgTup, ↓we_mgNil, ↓we_mgCons, ↓we_iR1, ↓we_iR2, ↓we_for, ↓we_mNo, ↓we_part, ↓we_sl, ↓we_ms, ↓we_met, ↓we_call_, ↓we_callIo_, ↓we_lc_, ↓we_iA, ↓we_yes, ↓we_par2, ↓we_par3, wo_some, wo_map, iaK_list, iaK_tuple, iaK_str, parK2_e, parK3_e, rd2, rd1, rd2B, rdN, rdAll, rd, hold, boolO, truO, intO, strO, frzO, retO, isIo_zero, isIo_succ, ioB_no, ioB_frz, ioB_own, ioB_io, le_line, lt_line, contAt, ML.putAt, Sl.cont, Sl.put, outsV, tupO, lstO, bo, noB, rtK_rt, rtK_nx, rtK1_rt, rtK1_nx, List.getElem?_cons_zero, List.getElem?_cons_succ, List.set_cons_zero, List.set_cons_succ, Option.map_some, Option.isSome_some, reduceIte, Bool.false_eq_true, Bool.true_eq_false, if_true, if_false, wipeR, ixN_lit, atI_lit, Option.bind_some, Nat.reduceLT, Nat.reduceLeDiff, ML.pos1, List.length_map, isT, List.map_cons, List.map_nil, List.length_cons, List.length_nil, List.cons_append, List.nil_append, List.append_nil, List.replicate, true_and, and_true, Nat.reduceSub, Nat.reduceAdd, Bool.not_true, Bool.not_false, decide_eq_true_eq, Bool.not_eq_true', decide_eq_false_iff_not, Int.reduceToNat, Int.reduceLT, Int.reduceLE, Int.reducePow, Int.reduceNeg, Bool.or_true, Bool.true_or, small_emod, small_lit, pow_10_18, and_self, addD, subD, mulD, modD, fdivD, negD, inD_ints, eqB_int, neB_int, ltB, leB, gtB, geB, isNB_none, notNB, isCB, ixD, lenD, absD, ML.intD, listD, tupD, slD, sl3, appD, metO, truD])
  refine wo_at h0 h1 fun x _ => ?_
  (try simp only [↓we_seq, ↓we_asg, ↓we_ret, ↓we_retN, ↓we_sIf, ↓we_drop, ↓we_nx, ↓we_brk, ↓we_cnt, ↓we_var, ↓we_C, ↓we_frz, ↓we_hold, ↓we_bin, ↓we_cmp, ↓we_un, ↓we_isi, ↓we_aNil, ↓we_aCons, ↓we_cb, ↓we_tup, ↓we_lst, ↓we_b, ↓we_tru, ↓we_and, ↓we_or, ↓we_not, ↓we_andV, ↓we_orV, ↓we_notV, ↓we_mIf, ↓we_chain, ↓we_set, ↓we_mgSub, ↓we_mgTup, ↓we_mgNil, ↓we_mgCons, ↓we_iR1, ↓we_iR2, ↓we_for, ↓we_mNo, ↓we_part, ↓we_sl, ↓we_ms, ↓we_met, ↓we_call_, ↓we_callIo_, ↓we_lc_, ↓we_iA, ↓we_yes, ↓we_par2, ↓we_par3, wo_some, wo_map, iaK_list, iaK_tuple, iaK_str, parK2_e, parK3_e, rd2, rd1, rd2B, rdN, rdAll, rd, hold, boolO, truO, intO, strO, frzO, retO, isIo_zero, isIo_succ, ioB_no, ioB_frz, ioB_own, ioB_io, le_line, lt_line, contAt, ML.putAt, Sl.cont, Sl.put, outsV, tupO, lstO, bo, noB, rtK_rt, rtK_nx, rtK1_rt, rtK1_nx, List.getElem?_cons_zero, List.getElem?_cons_succ, List.set_cons_zero, List.set_cons_succ, Option.map_some, Option.isSome_some, reduceIte, Bool.false_eq_true, Bool.true_eq_false, if_true, if_false, wipeR, ixN_lit, atI_lit, Option.bind_some, Nat.reduceLT, Nat.reduceLeDiff, ML.pos1, List.length_map, isT, List.map_cons, List.map_nil, List.length_cons, List.length_nil, List.cons_append, List.nil_append, List.append_nil, List.replicate, true_and, and_true, Nat.reduceSub, Nat.reduceAdd, Bool.not_true, Bool.not_false, decide_eq_true_eq, Bool.not_eq_true', decide_eq_false_iff_not, Int.reduceToNat, Int.reduceLT, Int.reduceLE, Int.reducePow, Int.reduceNeg, Bool.or_true, Bool.true_or, small_emod, small_lit, pow_10_18, and_self, addD, subD, mulD, modD, fdivD, negD, inD_ints, eqB_int, neB_int, ltB, leB, gtB, geB, isNB_none, notNB, isCB, ixD, lenD, absD, ML.intD, listD, tupD, slD, sl3, appD, metO, truD]); repeat ((first | rw [then_nx] | rw [then_rt] | rw [then_bk] | rw [then_ct]); simp only [↓we_seq, ↓we_asg, ↓we_ret, ↓we_retN, ↓we_sIf, ↓we_drop, ↓we_nx, ↓we_brk, ↓we_cnt, ↓we_var, ↓we_C, ↓we_frz, ↓we_hold, ↓we_bin, ↓we_cmp, ↓we_un, ↓we_isi, ↓we_aNil, ↓we_aCons, ↓we_cb, ↓we_tup, ↓we_lst, ↓we_b, ↓we_tru, ↓we_and, ↓we_or, ↓we_not, ↓we_andV, ↓we_orV, ↓we_notV, ↓we_mIf, ↓we_chain, ↓we_set, ↓we_mgSub, ↓we_mgTup, ↓we_mgNil, ↓we_mgCons, ↓we_iR1, ↓we_iR2, ↓we_for, ↓we_mNo, ↓we_part, ↓we_sl, ↓we_ms, ↓we_met, ↓we_call_, ↓we_callIo_, ↓we_lc_, ↓we_iA, ↓we_yes, ↓we_par2, ↓we_par3, wo_some, wo_map, iaK_list, iaK_tuple, iaK_str, parK2_e, parK3_e, rd2, rd1, rd2B, rdN, rdAll, rd, hold, boolO, truO, intO, strO, frzO, retO, isIo_zero, isIo_succ, ioB_no, ioB_frz, ioB_own, ioB_io, le_line, lt_line, contAt, ML.putAt, Sl.cont, Sl.put, outsV, tupO, lstO, bo, noB, rtK_rt, rtK_nx, rtK1_rt, rtK1_nx, List.getElem?_cons_zero, List.getElem?_cons_succ, List.set_cons_zero, List.set_cons_succ, Option.map_some, Option.isSome_some, reduceIte, Bool.false_eq_true, Bool.true_eq_false, if_true, if_false, wipeR, ixN_lit, atI_lit, Option.bind_some, Nat.reduceLT, Nat.reduceLeDiff, ML.pos1, List.length_map, isT, List.map_cons, List.map_nil, List.length_cons, List.length_nil, List.cons_append, List.nil_append, List.append_nil, List.replicate, true_and, and_true, Nat.reduceSub, Nat.reduceAdd, Bool.not_true, Bool.not_false, decide_eq_true_eq, Bool.not_eq_true', decide_eq_false_iff_not, Int.reduceToNat, Int.reduceLT, Int.reduceLE, Int.reducePow, Int.reduceNeg, Bool.or_true, Bool.true_or, small_emod, small_lit, pow_10_18, and_self, addD, subD, mulD, modD, fdivD, negD, inD_ints, eqB_int, neB_int, ltB, leB, gtB, geB, isNB_none, notNB, isCB, ixD, lenD, absD, ML.intD, listD, tupD, slD, sl3, appD, metO, truD])
  exact ⟨_, rfl, _, rfl, hc'⟩
def okW (d : D) : Prop := d = .str "0" ∨ d = .str "00" ∨ ∀ x, d ≠ .str x
theorem row_ok {c : List D} {v : Int} (hc : Dk c) (h0 : 0 < v) (h1 : v ≤ 1000) : F1 m__law_row c [.int v] (fun r c' => ∃ d, r = .v d ∧ okW d ∧ Dk c') := by
  refine F1.def_ ?_
  (try simp only [↓we_seq, ↓we_asg, ↓we_ret, ↓we_retN, ↓we_sIf, ↓we_drop, ↓we_nx, ↓we_brk, ↓we_cnt, ↓we_var, ↓we_C, ↓we_frz, ↓we_hold, ↓we_bin, ↓we_cmp, ↓we_un, ↓we_isi, ↓we_aNil, ↓we_aCons, ↓we_cb, ↓we_tup, ↓we_lst, ↓we_b, ↓we_tru, ↓we_and, ↓we_or, ↓we_not, ↓we_andV, ↓we_orV, ↓we_notV, ↓we_mIf, ↓we_chain, ↓we_set, ↓we_mgSub, ↓we_mgTup, ↓we_mgNil, ↓we_mgCons, ↓we_iR1, ↓we_iR2, ↓we_for, ↓we_mNo, ↓we_part, ↓we_sl, ↓we_ms, ↓we_met, ↓we_call_, ↓we_callIo_, ↓we_lc_, ↓we_iA, ↓we_yes, ↓we_par2, ↓we_par3, wo_some, wo_map, iaK_list, iaK_tuple, iaK_str, parK2_e, parK3_e, rd2, rd1, rd2B, rdN, rdAll, rd, hold, boolO, truO, intO, strO, frzO, retO, isIo_zero, isIo_succ, ioB_no, ioB_frz, ioB_own, ioB_io, le_line, lt_line, contAt, ML.putAt, Sl.cont, Sl.put, outsV, tupO, lstO, bo, noB, rtK_rt, rtK_nx, rtK1_rt, rtK1_nx, List.getElem?_cons_zero, List.getElem?_cons_succ, List.set_cons_zero, List.set_cons_succ, Option.map_some, Option.isSome_some, reduceIte, Bool.false_eq_true, Bool.true_eq_false, if_true, if_false, wipeR, ixN_lit, atI_lit, Option.bind_some, Nat.reduceLT, Nat.reduceLeDiff, ML.pos1, List.length_map, isT, List.map_cons, List.map_nil, List.length_cons, List.length_nil, List.cons_append, List.nil_append, List.append_nil, List.replicate, true_and, and_true, Nat.reduceSub, Nat.reduceAdd, Bool.not_true, Bool.not_false, decide_eq_true_eq, Bool.not_eq_true', decide_eq_false_iff_not, Int.reduceToNat, Int.reduceLT, Int.reduceLE, Int.reducePow, Int.reduceNeg, Bool.or_true, Bool.true_or, small_emod, small_lit, pow_10_18, and_self, addD, subD, mulD, modD, fdivD, negD, inD_ints, eqB_int, neB_int, ltB, leB, gtB, geB, isNB_none, notNB, isCB, ixD, lenD, absD, ML.intD, listD, tupD, slD, sl3, appD, metO, truD]); repeat ((first | rw [then_nx] | rw [then_rt] | rw [then_bk] | rw [then_ct]); simp only [↓we_seq, ↓we_asg, ↓we_ret, ↓we_retN, ↓we_sIf, ↓we_drop, ↓we_nx, ↓we_brk, ↓we_cnt, ↓we_var, ↓we_C, ↓we_frz, ↓we_hold, ↓we_bin, ↓we_cmp, ↓we_un, ↓we_isi, ↓we_aNil, ↓we_aCons, ↓we_cb, ↓we_tup, ↓we_lst, ↓we_b, ↓we_tru, ↓we_and, ↓we_or, ↓we_not, ↓we_andV, ↓we_orV, ↓we_notV, ↓we_mIf, ↓we_chain, ↓we_set, ↓we_mgSub, ↓we_mgTup, ↓we_mgNil, ↓we_mgCons, ↓we_iR1, ↓we_iR2, ↓we_for, ↓we_mNo, ↓we_part, ↓we_sl, ↓we_ms, ↓we_met, ↓we_call_, ↓we_callIo_, ↓we_lc_, ↓we_iA, ↓we_yes, ↓we_par2, ↓we_par3, wo_some, wo_map, iaK_list, iaK_tuple, iaK_str, parK2_e, parK3_e, rd2, rd1, rd2B, rdN, rdAll, rd, hold, boolO, truO, intO, strO, frzO, retO, isIo_zero, isIo_succ, ioB_no, ioB_frz, ioB_own, ioB_io, le_line, lt_line, contAt, ML.putAt, Sl.cont, Sl.put, outsV, tupO, lstO, bo, noB, rtK_rt, rtK_nx, rtK1_rt, rtK1_nx, List.getElem?_cons_zero, List.getElem?_cons_succ, List.set_cons_zero, List.set_cons_succ, Option.map_some, Option.isSome_some, reduceIte, Bool.false_eq_true, Bool.true_eq_false, if_true, if_false, wipeR, ixN_lit, atI_lit, Option.bind_some, Nat.reduceLT, Nat.reduceLeDiff, ML.pos1, List.length_map, isT, List.map_cons, List.map_nil, List.length_cons, List.length_nil, List.cons_append, List.nil_append, List.append_nil, List.replicate, true_and, and_true, Nat.reduceSub, Nat.reduceAdd, Bool.not_true, Bool.not_false, decide_eq_true_eq, Bool.not_eq_true', decide_eq_false_iff_not, Int.reduceToNat, Int.reduceLT, Int.reduceLE, Int.reducePow, Int.reduceNeg, Bool.or_true, Bool.true_or, small_emod, small_lit, pow_10_18, and_self, addD, subD, mulD, modD, fdivD, negD, inD_ints, eqB_int, neB_int, ltB, leB, gtB, geB, isNB_none, notNB, isCB, ixD, lenD, absD, ML.intD, listD, tupD, slD, sl3, appD, metO, truD])
  refine wo_rg1 (by omega) (by omega) ?_
  (try simp only [↓we_seq, ↓we_asg, ↓we_ret, ↓we_retN, ↓we_sIf, ↓we_drop, ↓we_nx, ↓we_brk, ↓we_cnt, ↓we_var, ↓we_C, ↓we_frz, ↓we_hold, ↓we_bin, ↓we_cmp, ↓we_un, ↓we_isi, ↓we_aNil, ↓we_aCons, ↓we_cb, ↓we_tup, ↓we_lst, ↓we_b, ↓we_tru, ↓we_and, ↓we_or, ↓we_not, ↓we_andV, ↓we_orV, ↓we_notV, ↓we_mIf, ↓we_chain, ↓we_set, ↓we_mgSub, ↓we_mgTup, ↓we_mgNil, ↓we_mgCons, ↓we_iR1, ↓we_iR2, ↓we_for, ↓we_mNo, ↓we_part, ↓we_sl, ↓we_ms, ↓we_met, ↓we_call_, ↓we_callIo_, ↓we_lc_, ↓we_iA, ↓we_yes, ↓we_par2, ↓we_par3, wo_some, wo_map, iaK_list, iaK_tuple, iaK_str, parK2_e, parK3_e, rd2, rd1, rd2B, rdN, rdAll, rd, hold, boolO, truO, intO, strO, frzO, retO, isIo_zero, isIo_succ, ioB_no, ioB_frz, ioB_own, ioB_io, le_line, lt_line, contAt, ML.putAt, Sl.cont, Sl.put, outsV, tupO, lstO, bo, noB, rtK_rt, rtK_nx, rtK1_rt, rtK1_nx, List.getElem?_cons_zero, List.getElem?_cons_succ, List.set_cons_zero, List.set_cons_succ, Option.map_some, Option.isSome_some, reduceIte, Bool.false_eq_true, Bool.true_eq_false, if_true, if_false, wipeR, ixN_lit, atI_lit, Option.bind_some, Nat.reduceLT, Nat.reduceLeDiff, ML.pos1, List.length_map, isT, List.map_cons, List.map_nil, List.length_cons, List.length_nil, List.cons_append, List.nil_append, List.append_nil, List.replicate, true_and, and_true, Nat.reduceSub, Nat.reduceAdd, Bool.not_true, Bool.not_false, decide_eq_true_eq, Bool.not_eq_true', decide_eq_false_iff_not, Int.reduceToNat, Int.reduceLT, Int.reduceLE, Int.reducePow, Int.reduceNeg, Bool.or_true, Bool.true_or, small_emod, small_lit, pow_10_18, and_self, addD, subD, mulD, modD, fdivD, negD, inD_ints, eqB_int, neB_int, ltB, leB, gtB, geB, isNB_none, notNB, isCB, ixD, lenD, absD, ML.intD, listD, tupD, slD, sl3, appD, metO, truD]); repeat ((first | rw [then_nx] | rw [then_rt] | rw [then_bk] | rw [then_ct]); simp only [↓we_seq, ↓we_asg, ↓we_ret, ↓we_retN, ↓we_sIf, ↓we_drop, ↓we_nx, ↓we_brk, ↓we_cnt, ↓we_var, ↓we_C, ↓we_frz, ↓we_hold, ↓we_bin, ↓we_cmp, ↓we_un, ↓we_isi, ↓we_aNil, ↓we_aCons, ↓we_cb, ↓we_tup, ↓we_lst, ↓we_b, ↓we_tru, ↓we_and, ↓we_or, ↓we_not, ↓we_andV, ↓we_orV, ↓we_notV, ↓we_mIf, ↓we_chain, ↓we_set, ↓we_mgSub, ↓we_mgTup, ↓we_mgNil, ↓we_mgCons, ↓we_iR1, ↓we_iR2, ↓we_for, ↓we_mNo, ↓we_part, ↓we_sl, ↓we_ms, ↓we_met, ↓we_call_, ↓we_callIo_, ↓we_lc_, ↓we_iA, ↓we_yes, ↓we_par2, ↓we_par3, wo_some, wo_map, iaK_list, iaK_tuple, iaK_str, parK2_e, parK3_e, rd2, rd1, rd2B, rdN, rdAll, rd, hold, boolO, truO, intO, strO, frzO, retO, isIo_zero, isIo_succ, ioB_no, ioB_frz, ioB_own, ioB_io, le_line, lt_line, contAt, ML.putAt, Sl.cont, Sl.put, outsV, tupO, lstO, bo, noB, rtK_rt, rtK_nx, rtK1_rt, rtK1_nx, List.getElem?_cons_zero, List.getElem?_cons_succ, List.set_cons_zero, List.set_cons_succ, Option.map_some, Option.isSome_some, reduceIte, Bool.false_eq_true, Bool.true_eq_false, if_true, if_false, wipeR, ixN_lit, atI_lit, Option.bind_some, Nat.reduceLT, Nat.reduceLeDiff, ML.pos1, List.length_map, isT, List.map_cons, List.map_nil, List.length_cons, List.length_nil, List.cons_append, List.nil_append, List.append_nil, List.replicate, true_and, and_true, Nat.reduceSub, Nat.reduceAdd, Bool.not_true, Bool.not_false, decide_eq_true_eq, Bool.not_eq_true', decide_eq_false_iff_not, Int.reduceToNat, Int.reduceLT, Int.reduceLE, Int.reducePow, Int.reduceNeg, Bool.or_true, Bool.true_or, small_emod, small_lit, pow_10_18, and_self, addD, subD, mulD, modD, fdivD, negD, inD_ints, eqB_int, neB_int, ltB, leB, gtB, geB, isNB_none, notNB, isCB, ixD, lenD, absD, ML.intD, listD, tupD, slD, sl3, appD, metO, truD])
  refine we_lc (fun ρ => ∃ c, Dk c ∧ ρ = [.io c, .frz (.int v), .no, .no, .no]) (fun _ y => ∃ c : Int, y = .int c) ?_ ⟨c, hc, rfl⟩ (by rw [rgD_len, le_line]; omega) ?_
  · rintro d - ρ ⟨c, hc, rfl⟩
    (try simp only [↓we_seq, ↓we_asg, ↓we_ret, ↓we_retN, ↓we_sIf, ↓we_drop, ↓we_nx, ↓we_brk, ↓we_cnt, ↓we_var, ↓we_C, ↓we_frz, ↓we_hold, ↓we_bin, ↓we_cmp, ↓we_un, ↓we_isi, ↓we_aNil, ↓we_aCons, ↓we_cb, ↓we_tup, ↓we_lst, ↓we_b, ↓we_tru, ↓we_and, ↓we_or, ↓we_not, ↓we_andV, ↓we_orV, ↓we_notV, ↓we_mIf, ↓we_chain, ↓we_set, ↓we_mgSub, ↓we_mgTup, ↓we_mgNil, ↓we_mgCons, ↓we_iR1, ↓we_iR2, ↓we_for, ↓we_mNo, ↓we_part, ↓we_sl, ↓we_ms, ↓we_met, ↓we_call_, ↓we_callIo_, ↓we_lc_, ↓we_iA, ↓we_yes, ↓we_par2, ↓we_par3, wo_some, wo_map, iaK_list, iaK_tuple, iaK_str, parK2_e, parK3_e, rd2, rd1, rd2B, rdN, rdAll, rd, hold, boolO, truO, intO, strO, frzO, retO, isIo_zero, isIo_succ, ioB_no, ioB_frz, ioB_own, ioB_io, le_line, lt_line, contAt, ML.putAt, Sl.cont, Sl.put, outsV, tupO, lstO, bo, noB, rtK_rt, rtK_nx, rtK1_rt, rtK1_nx, List.getElem?_cons_zero, List.getElem?_cons_succ, List.set_cons_zero, List.set_cons_succ, Option.map_some, Option.isSome_some, reduceIte, Bool.false_eq_true, Bool.true_eq_false, if_true, if_false, wipeR, ixN_lit, atI_lit, Option.bind_some, Nat.reduceLT, Nat.reduceLeDiff, ML.pos1, List.length_map, isT, List.map_cons, List.map_nil, List.length_cons, List.length_nil, List.cons_append, List.nil_append, List.append_nil, List.replicate, true_and, and_true, Nat.reduceSub, Nat.reduceAdd, Bool.not_true, Bool.not_false, decide_eq_true_eq, Bool.not_eq_true', decide_eq_false_iff_not, Int.reduceToNat, Int.reduceLT, Int.reduceLE, Int.reducePow, Int.reduceNeg, Bool.or_true, Bool.true_or, small_emod, small_lit, pow_10_18, and_self, addD, subD, mulD, modD, fdivD, negD, inD_ints, eqB_int, neB_int, ltB, leB, gtB, geB, isNB_none, notNB, isCB, ixD, lenD, absD, ML.intD, listD, tupD, slD, sl3, appD, metO, truD, compK]); repeat ((first | rw [then_nx] | rw [then_rt] | rw [then_bk] | rw [then_ct]); simp only [↓we_seq, ↓we_asg, ↓we_ret, ↓we_retN, ↓we_sIf, ↓we_drop, ↓we_nx, ↓we_brk, ↓we_cnt, ↓we_var, ↓we_C, ↓we_frz, ↓we_hold, ↓we_bin, ↓we_cmp, ↓we_un, ↓we_isi, ↓we_aNil, ↓we_aCons, ↓we_cb, ↓we_tup, ↓we_lst, ↓we_b, ↓we_tru, ↓we_and, ↓we_or, ↓we_not, ↓we_andV, ↓we_orV, ↓we_notV, ↓we_mIf, ↓we_chain, ↓we_set, ↓we_mgSub, ↓we_mgTup, ↓we_mgNil, ↓we_mgCons, ↓we_iR1, ↓we_iR2, ↓we_for, ↓we_mNo, ↓we_part, ↓we_sl, ↓we_ms, ↓we_met, ↓we_call_, ↓we_callIo_, ↓we_lc_, ↓we_iA, ↓we_yes, ↓we_par2, ↓we_par3, wo_some, wo_map, iaK_list, iaK_tuple, iaK_str, parK2_e, parK3_e, rd2, rd1, rd2B, rdN, rdAll, rd, hold, boolO, truO, intO, strO, frzO, retO, isIo_zero, isIo_succ, ioB_no, ioB_frz, ioB_own, ioB_io, le_line, lt_line, contAt, ML.putAt, Sl.cont, Sl.put, outsV, tupO, lstO, bo, noB, rtK_rt, rtK_nx, rtK1_rt, rtK1_nx, List.getElem?_cons_zero, List.getElem?_cons_succ, List.set_cons_zero, List.set_cons_succ, Option.map_some, Option.isSome_some, reduceIte, Bool.false_eq_true, Bool.true_eq_false, if_true, if_false, wipeR, ixN_lit, atI_lit, Option.bind_some, Nat.reduceLT, Nat.reduceLeDiff, ML.pos1, List.length_map, isT, List.map_cons, List.map_nil, List.length_cons, List.length_nil, List.cons_append, List.nil_append, List.append_nil, List.replicate, true_and, and_true, Nat.reduceSub, Nat.reduceAdd, Bool.not_true, Bool.not_false, decide_eq_true_eq, Bool.not_eq_true', decide_eq_false_iff_not, Int.reduceToNat, Int.reduceLT, Int.reduceLE, Int.reducePow, Int.reduceNeg, Bool.or_true, Bool.true_or, small_emod, small_lit, pow_10_18, and_self, addD, subD, mulD, modD, fdivD, negD, inD_ints, eqB_int, neB_int, ltB, leB, gtB, geB, isNB_none, notNB, isCB, ixD, lenD, absD, ML.intD, listD, tupD, slD, sl3, appD, metO, truD, compK]);
    refine we_callIo (draw_ok hc (n := v) h0 (by omega)) rfl rfl rfl ?_
    rintro r c' - ⟨k, rfl, h0, h1, hc'⟩
    (try simp only [↓we_seq, ↓we_asg, ↓we_ret, ↓we_retN, ↓we_sIf, ↓we_drop, ↓we_nx, ↓we_brk, ↓we_cnt, ↓we_var, ↓we_C, ↓we_frz, ↓we_hold, ↓we_bin, ↓we_cmp, ↓we_un, ↓we_isi, ↓we_aNil, ↓we_aCons, ↓we_cb, ↓we_tup, ↓we_lst, ↓we_b, ↓we_tru, ↓we_and, ↓we_or, ↓we_not, ↓we_andV, ↓we_orV, ↓we_notV, ↓we_mIf, ↓we_chain, ↓we_set, ↓we_mgSub, ↓we_mgTup, ↓we_mgNil, ↓we_mgCons, ↓we_iR1, ↓we_iR2, ↓we_for, ↓we_mNo, ↓we_part, ↓we_sl, ↓we_ms, ↓we_met, ↓we_call_, ↓we_callIo_, ↓we_lc_, ↓we_iA, ↓we_yes, ↓we_par2, ↓we_par3, wo_some, wo_map, iaK_list, iaK_tuple, iaK_str, parK2_e, parK3_e, rd2, rd1, rd2B, rdN, rdAll, rd, hold, boolO, truO, intO, strO, frzO, retO, isIo_zero, isIo_succ, ioB_no, ioB_frz, ioB_own, ioB_io, le_line, lt_line, contAt, ML.putAt, Sl.cont, Sl.put, outsV, tupO, lstO, bo, noB, rtK_rt, rtK_nx, rtK1_rt, rtK1_nx, List.getElem?_cons_zero, List.getElem?_cons_succ, List.set_cons_zero, List.set_cons_succ, Option.map_some, Option.isSome_some, reduceIte, Bool.false_eq_true, Bool.true_eq_false, if_true, if_false, wipeR, ixN_lit, atI_lit, Option.bind_some, Nat.reduceLT, Nat.reduceLeDiff, ML.pos1, List.length_map, isT, List.map_cons, List.map_nil, List.length_cons, List.length_nil, List.cons_append, List.nil_append, List.append_nil, List.replicate, true_and, and_true, Nat.reduceSub, Nat.reduceAdd, Bool.not_true, Bool.not_false, decide_eq_true_eq, Bool.not_eq_true', decide_eq_false_iff_not, Int.reduceToNat, Int.reduceLT, Int.reduceLE, Int.reducePow, Int.reduceNeg, Bool.or_true, Bool.true_or, small_emod, small_lit, pow_10_18, and_self, addD, subD, mulD, modD, fdivD, negD, inD_ints, eqB_int, neB_int, ltB, leB, gtB, geB, isNB_none, notNB, isCB, ixD, lenD, absD, ML.intD, listD, tupD, slD, sl3, appD, metO, truD]); repeat ((first | rw [then_nx] | rw [then_rt] | rw [then_bk] | rw [then_ct]); simp only [↓we_seq, ↓we_asg, ↓we_ret, ↓we_retN, ↓we_sIf, ↓we_drop, ↓we_nx, ↓we_brk, ↓we_cnt, ↓we_var, ↓we_C, ↓we_frz, ↓we_hold, ↓we_bin, ↓we_cmp, ↓we_un, ↓we_isi, ↓we_aNil, ↓we_aCons, ↓we_cb, ↓we_tup, ↓we_lst, ↓we_b, ↓we_tru, ↓we_and, ↓we_or, ↓we_not, ↓we_andV, ↓we_orV, ↓we_notV, ↓we_mIf, ↓we_chain, ↓we_set, ↓we_mgSub, ↓we_mgTup, ↓we_mgNil, ↓we_mgCons, ↓we_iR1, ↓we_iR2, ↓we_for, ↓we_mNo, ↓we_part, ↓we_sl, ↓we_ms, ↓we_met, ↓we_call_, ↓we_callIo_, ↓we_lc_, ↓we_iA, ↓we_yes, ↓we_par2, ↓we_par3, wo_some, wo_map, iaK_list, iaK_tuple, iaK_str, parK2_e, parK3_e, rd2, rd1, rd2B, rdN, rdAll, rd, hold, boolO, truO, intO, strO, frzO, retO, isIo_zero, isIo_succ, ioB_no, ioB_frz, ioB_own, ioB_io, le_line, lt_line, contAt, ML.putAt, Sl.cont, Sl.put, outsV, tupO, lstO, bo, noB, rtK_rt, rtK_nx, rtK1_rt, rtK1_nx, List.getElem?_cons_zero, List.getElem?_cons_succ, List.set_cons_zero, List.set_cons_succ, Option.map_some, Option.isSome_some, reduceIte, Bool.false_eq_true, Bool.true_eq_false, if_true, if_false, wipeR, ixN_lit, atI_lit, Option.bind_some, Nat.reduceLT, Nat.reduceLeDiff, ML.pos1, List.length_map, isT, List.map_cons, List.map_nil, List.length_cons, List.length_nil, List.cons_append, List.nil_append, List.append_nil, List.replicate, true_and, and_true, Nat.reduceSub, Nat.reduceAdd, Bool.not_true, Bool.not_false, decide_eq_true_eq, Bool.not_eq_true', decide_eq_false_iff_not, Int.reduceToNat, Int.reduceLT, Int.reduceLE, Int.reducePow, Int.reduceNeg, Bool.or_true, Bool.true_or, small_emod, small_lit, pow_10_18, and_self, addD, subD, mulD, modD, fdivD, negD, inD_ints, eqB_int, neB_int, ltB, leB, gtB, geB, isNB_none, notNB, isCB, ixD, lenD, absD, ML.intD, listD, tupD, slD, sl3, appD, metO, truD])
    exact ⟨⟨_, rfl⟩, _, hc', rfl⟩
  rintro ys ρ ⟨c, hc, rfl⟩ a
  have hl := a.len
  rw [rgD_len] at hl
  (try simp only [↓we_seq, ↓we_asg, ↓we_ret, ↓we_retN, ↓we_sIf, ↓we_drop, ↓we_nx, ↓we_brk, ↓we_cnt, ↓we_var, ↓we_C, ↓we_frz, ↓we_hold, ↓we_bin, ↓we_cmp, ↓we_un, ↓we_isi, ↓we_aNil, ↓we_aCons, ↓we_cb, ↓we_tup, ↓we_lst, ↓we_b, ↓we_tru, ↓we_and, ↓we_or, ↓we_not, ↓we_andV, ↓we_orV, ↓we_notV, ↓we_mIf, ↓we_chain, ↓we_set, ↓we_mgSub, ↓we_mgTup, ↓we_mgNil, ↓we_mgCons, ↓we_iR1, ↓we_iR2, ↓we_for, ↓we_mNo, ↓we_part, ↓we_sl, ↓we_ms, ↓we_met, ↓we_call_, ↓we_callIo_, ↓we_lc_, ↓we_iA, ↓we_yes, ↓we_par2, ↓we_par3, wo_some, wo_map, iaK_list, iaK_tuple, iaK_str, parK2_e, parK3_e, rd2, rd1, rd2B, rdN, rdAll, rd, hold, boolO, truO, intO, strO, frzO, retO, isIo_zero, isIo_succ, ioB_no, ioB_frz, ioB_own, ioB_io, le_line, lt_line, contAt, ML.putAt, Sl.cont, Sl.put, outsV, tupO, lstO, bo, noB, rtK_rt, rtK_nx, rtK1_rt, rtK1_nx, List.getElem?_cons_zero, List.getElem?_cons_succ, List.set_cons_zero, List.set_cons_succ, Option.map_some, Option.isSome_some, reduceIte, Bool.false_eq_true, Bool.true_eq_false, if_true, if_false, wipeR, ixN_lit, atI_lit, Option.bind_some, Nat.reduceLT, Nat.reduceLeDiff, ML.pos1, List.length_map, isT, List.map_cons, List.map_nil, List.length_cons, List.length_nil, List.cons_append, List.nil_append, List.append_nil, List.replicate, true_and, and_true, Nat.reduceSub, Nat.reduceAdd, Bool.not_true, Bool.not_false, decide_eq_true_eq, Bool.not_eq_true', decide_eq_false_iff_not, Int.reduceToNat, Int.reduceLT, Int.reduceLE, Int.reducePow, Int.reduceNeg, Bool.or_true, Bool.true_or, small_emod, small_lit, pow_10_18, and_self, addD, subD, mulD, modD, fdivD, negD, inD_ints, eqB_int, neB_int, ltB, leB, gtB, geB, isNB_none, notNB, isCB, ixD, lenD, absD, ML.intD, listD, tupD, slD, sl3, appD, metO, truD]); repeat ((first | rw [then_nx] | rw [then_rt] | rw [then_bk] | rw [then_ct]); simp only [↓we_seq, ↓we_asg, ↓we_ret, ↓we_retN, ↓we_sIf, ↓we_drop, ↓we_nx, ↓we_brk, ↓we_cnt, ↓we_var, ↓we_C, ↓we_frz, ↓we_hold, ↓we_bin, ↓we_cmp, ↓we_un, ↓we_isi, ↓we_aNil, ↓we_aCons, ↓we_cb, ↓we_tup, ↓we_lst, ↓we_b, ↓we_tru, ↓we_and, ↓we_or, ↓we_not, ↓we_andV, ↓we_orV, ↓we_notV, ↓we_mIf, ↓we_chain, ↓we_set, ↓we_mgSub, ↓we_mgTup, ↓we_mgNil, ↓we_mgCons, ↓we_iR1, ↓we_iR2, ↓we_for, ↓we_mNo, ↓we_part, ↓we_sl, ↓we_ms, ↓we_met, ↓we_call_, ↓we_callIo_, ↓we_lc_, ↓we_iA, ↓we_yes, ↓we_par2, ↓we_par3, wo_some, wo_map, iaK_list, iaK_tuple, iaK_str, parK2_e, parK3_e, rd2, rd1, rd2B, rdN, rdAll, rd, hold, boolO, truO, intO, strO, frzO, retO, isIo_zero, isIo_succ, ioB_no, ioB_frz, ioB_own, ioB_io, le_line, lt_line, contAt, ML.putAt, Sl.cont, Sl.put, outsV, tupO, lstO, bo, noB, rtK_rt, rtK_nx, rtK1_rt, rtK1_nx, List.getElem?_cons_zero, List.getElem?_cons_succ, List.set_cons_zero, List.set_cons_succ, Option.map_some, Option.isSome_some, reduceIte, Bool.false_eq_true, Bool.true_eq_false, if_true, if_false, wipeR, ixN_lit, atI_lit, Option.bind_some, Nat.reduceLT, Nat.reduceLeDiff, ML.pos1, List.length_map, isT, List.map_cons, List.map_nil, List.length_cons, List.length_nil, List.cons_append, List.nil_append, List.append_nil, List.replicate, true_and, and_true, Nat.reduceSub, Nat.reduceAdd, Bool.not_true, Bool.not_false, decide_eq_true_eq, Bool.not_eq_true', decide_eq_false_iff_not, Int.reduceToNat, Int.reduceLT, Int.reduceLE, Int.reducePow, Int.reduceNeg, Bool.or_true, Bool.true_or, small_emod, small_lit, pow_10_18, and_self, addD, subD, mulD, modD, fdivD, negD, inD_ints, eqB_int, neB_int, ltB, leB, gtB, geB, isNB_none, notNB, isCB, ixD, lenD, absD, ML.intD, listD, tupD, slD, sl3, appD, metO, truD])
  refine we_callIo (draw_ok hc (n := 8) (by decide) (by decide)) rfl rfl rfl ?_
  rintro r c' - ⟨k, rfl, k0, k1, hc'⟩
  (try simp only [↓we_seq, ↓we_asg, ↓we_ret, ↓we_retN, ↓we_sIf, ↓we_drop, ↓we_nx, ↓we_brk, ↓we_cnt, ↓we_var, ↓we_C, ↓we_frz, ↓we_hold, ↓we_bin, ↓we_cmp, ↓we_un, ↓we_isi, ↓we_aNil, ↓we_aCons, ↓we_cb, ↓we_tup, ↓we_lst, ↓we_b, ↓we_tru, ↓we_and, ↓we_or, ↓we_not, ↓we_andV, ↓we_orV, ↓we_notV, ↓we_mIf, ↓we_chain, ↓we_set, ↓we_mgSub, ↓we_mgTup, ↓we_mgNil, ↓we_mgCons, ↓we_iR1, ↓we_iR2, ↓we_for, ↓we_mNo, ↓we_part, ↓we_sl, ↓we_ms, ↓we_met, ↓we_call_, ↓we_callIo_, ↓we_lc_, ↓we_iA, ↓we_yes, ↓we_par2, ↓we_par3, wo_some, wo_map, iaK_list, iaK_tuple, iaK_str, parK2_e, parK3_e, rd2, rd1, rd2B, rdN, rdAll, rd, hold, boolO, truO, intO, strO, frzO, retO, isIo_zero, isIo_succ, ioB_no, ioB_frz, ioB_own, ioB_io, le_line, lt_line, contAt, ML.putAt, Sl.cont, Sl.put, outsV, tupO, lstO, bo, noB, rtK_rt, rtK_nx, rtK1_rt, rtK1_nx, List.getElem?_cons_zero, List.getElem?_cons_succ, List.set_cons_zero, List.set_cons_succ, Option.map_some, Option.isSome_some, reduceIte, Bool.false_eq_true, Bool.true_eq_false, if_true, if_false, wipeR, ixN_lit, atI_lit, Option.bind_some, Nat.reduceLT, Nat.reduceLeDiff, ML.pos1, List.length_map, isT, List.map_cons, List.map_nil, List.length_cons, List.length_nil, List.cons_append, List.nil_append, List.append_nil, List.replicate, true_and, and_true, Nat.reduceSub, Nat.reduceAdd, Bool.not_true, Bool.not_false, decide_eq_true_eq, Bool.not_eq_true', decide_eq_false_iff_not, Int.reduceToNat, Int.reduceLT, Int.reduceLE, Int.reducePow, Int.reduceNeg, Bool.or_true, Bool.true_or, small_emod, small_lit, pow_10_18, and_self, addD, subD, mulD, modD, fdivD, negD, inD_ints, eqB_int, neB_int, ltB, leB, gtB, geB, isNB_none, notNB, isCB, ixD, lenD, absD, ML.intD, listD, tupD, slD, sl3, appD, metO, truD])
  (first | rw [then_nx] | rw [then_rt] | rw [then_bk] | rw [then_ct])
  refine we_cut (fun ρ => ∃ c ys, Dk c ∧ ys.length = v.toNat ∧ ρ = [.io c, .frz (.int v), .own ys, .frz (.int k), .no]) ?_ ?_
  · (try simp only [↓we_seq, ↓we_asg, ↓we_ret, ↓we_retN, ↓we_sIf, ↓we_drop, ↓we_nx, ↓we_brk, ↓we_cnt, ↓we_var, ↓we_C, ↓we_frz, ↓we_hold, ↓we_bin, ↓we_cmp, ↓we_un, ↓we_isi, ↓we_aNil, ↓we_aCons, ↓we_cb, ↓we_tup, ↓we_lst, ↓we_b, ↓we_tru, ↓we_and, ↓we_or, ↓we_not, ↓we_andV, ↓we_orV, ↓we_notV, ↓we_mIf, ↓we_chain, ↓we_set, ↓we_mgSub, ↓we_mgTup, ↓we_mgNil, ↓we_mgCons, ↓we_iR1, ↓we_iR2, ↓we_for, ↓we_mNo, ↓we_part, ↓we_sl, ↓we_ms, ↓we_met, ↓we_call_, ↓we_callIo_, ↓we_lc_, ↓we_iA, ↓we_yes, ↓we_par2, ↓we_par3, wo_some, wo_map, iaK_list, iaK_tuple, iaK_str, parK2_e, parK3_e, rd2, rd1, rd2B, rdN, rdAll, rd, hold, boolO, truO, intO, strO, frzO, retO, isIo_zero, isIo_succ, ioB_no, ioB_frz, ioB_own, ioB_io, le_line, lt_line, contAt, ML.putAt, Sl.cont, Sl.put, outsV, tupO, lstO, bo, noB, rtK_rt, rtK_nx, rtK1_rt, rtK1_nx, List.getElem?_cons_zero, List.getElem?_cons_succ, List.set_cons_zero, List.set_cons_succ, Option.map_some, Option.isSome_some, reduceIte, Bool.false_eq_true, Bool.true_eq_false, if_true, if_false, wipeR, ixN_lit, atI_lit, Option.bind_some, Nat.reduceLT, Nat.reduceLeDiff, ML.pos1, List.length_map, isT, List.map_cons, List.map_nil, List.length_cons, List.length_nil, List.cons_append, List.nil_append, List.append_nil, List.replicate, true_and, and_true, Nat.reduceSub, Nat.reduceAdd, Bool.not_true, Bool.not_false, decide_eq_true_eq, Bool.not_eq_true', decide_eq_false_iff_not, Int.reduceToNat, Int.reduceLT, Int.reduceLE, Int.reducePow, Int.reduceNeg, Bool.or_true, Bool.true_or, small_emod, small_lit, pow_10_18, and_self, addD, subD, mulD, modD, fdivD, negD, inD_ints, eqB_int, neB_int, ltB, leB, gtB, geB, isNB_none, notNB, isCB, ixD, lenD, absD, ML.intD, listD, tupD, slD, sl3, appD, metO, truD])
    split
    · rw [if_pos (by omega)]
      (try simp only [↓we_seq, ↓we_asg, ↓we_ret, ↓we_retN, ↓we_sIf, ↓we_drop, ↓we_nx, ↓we_brk, ↓we_cnt, ↓we_var, ↓we_C, ↓we_frz, ↓we_hold, ↓we_bin, ↓we_cmp, ↓we_un, ↓we_isi, ↓we_aNil, ↓we_aCons, ↓we_cb, ↓we_tup, ↓we_lst, ↓we_b, ↓we_tru, ↓we_and, ↓we_or, ↓we_not, ↓we_andV, ↓we_orV, ↓we_notV, ↓we_mIf, ↓we_chain, ↓we_set, ↓we_mgSub, ↓we_mgTup, ↓we_mgNil, ↓we_mgCons, ↓we_iR1, ↓we_iR2, ↓we_for, ↓we_mNo, ↓we_part, ↓we_sl, ↓we_ms, ↓we_met, ↓we_call_, ↓we_callIo_, ↓we_lc_, ↓we_iA, ↓we_yes, ↓we_par2, ↓we_par3, wo_some, wo_map, iaK_list, iaK_tuple, iaK_str, parK2_e, parK3_e, rd2, rd1, rd2B, rdN, rdAll, rd, hold, boolO, truO, intO, strO, frzO, retO, isIo_zero, isIo_succ, ioB_no, ioB_frz, ioB_own, ioB_io, le_line, lt_line, contAt, ML.putAt, Sl.cont, Sl.put, outsV, tupO, lstO, bo, noB, rtK_rt, rtK_nx, rtK1_rt, rtK1_nx, List.getElem?_cons_zero, List.getElem?_cons_succ, List.set_cons_zero, List.set_cons_succ, Option.map_some, Option.isSome_some, reduceIte, Bool.false_eq_true, Bool.true_eq_false, if_true, if_false, wipeR, ixN_lit, atI_lit, Option.bind_some, Nat.reduceLT, Nat.reduceLeDiff, ML.pos1, List.length_map, isT, List.map_cons, List.map_nil, List.length_cons, List.length_nil, List.cons_append, List.nil_append, List.append_nil, List.replicate, true_and, and_true, Nat.reduceSub, Nat.reduceAdd, Bool.not_true, Bool.not_false, decide_eq_true_eq, Bool.not_eq_true', decide_eq_false_iff_not, Int.reduceToNat, Int.reduceLT, Int.reduceLE, Int.reducePow, Int.reduceNeg, Bool.or_true, Bool.true_or, small_emod, small_lit, pow_10_18, and_self, addD, subD, mulD, modD, fdivD, negD, inD_ints, eqB_int, neB_int, ltB, leB, gtB, geB, isNB_none, notNB, isCB, ixD, lenD, absD, ML.intD, listD, tupD, slD, sl3, appD, metO, truD])
      exact ⟨c', _, hc', by rw [List.length_set]; exact hl, rfl⟩
    · exact ⟨c', ys, hc', hl, rfl⟩
  rintro ρ ⟨c, ys, hc, hl, rfl⟩
  refine we_cut (fun ρ => ∃ c ys, Dk c ∧ ys.length = v.toNat ∧ ρ = [.io c, .frz (.int v), .own ys, .frz (.int k), .no]) ?_ ?_
  · (try simp only [↓we_seq, ↓we_asg, ↓we_ret, ↓we_retN, ↓we_sIf, ↓we_drop, ↓we_nx, ↓we_brk, ↓we_cnt, ↓we_var, ↓we_C, ↓we_frz, ↓we_hold, ↓we_bin, ↓we_cmp, ↓we_un, ↓we_isi, ↓we_aNil, ↓we_aCons, ↓we_cb, ↓we_tup, ↓we_lst, ↓we_b, ↓we_tru, ↓we_and, ↓we_or, ↓we_not, ↓we_andV, ↓we_orV, ↓we_notV, ↓we_mIf, ↓we_chain, ↓we_set, ↓we_mgSub, ↓we_mgTup, ↓we_mgNil, ↓we_mgCons, ↓we_iR1, ↓we_iR2, ↓we_for, ↓we_mNo, ↓we_part, ↓we_sl, ↓we_ms, ↓we_met, ↓we_call_, ↓we_callIo_, ↓we_lc_, ↓we_iA, ↓we_yes, ↓we_par2, ↓we_par3, wo_some, wo_map, iaK_list, iaK_tuple, iaK_str, parK2_e, parK3_e, rd2, rd1, rd2B, rdN, rdAll, rd, hold, boolO, truO, intO, strO, frzO, retO, isIo_zero, isIo_succ, ioB_no, ioB_frz, ioB_own, ioB_io, le_line, lt_line, contAt, ML.putAt, Sl.cont, Sl.put, outsV, tupO, lstO, bo, noB, rtK_rt, rtK_nx, rtK1_rt, rtK1_nx, List.getElem?_cons_zero, List.getElem?_cons_succ, List.set_cons_zero, List.set_cons_succ, Option.map_some, Option.isSome_some, reduceIte, Bool.false_eq_true, Bool.true_eq_false, if_true, if_false, wipeR, ixN_lit, atI_lit, Option.bind_some, Nat.reduceLT, Nat.reduceLeDiff, ML.pos1, List.length_map, isT, List.map_cons, List.map_nil, List.length_cons, List.length_nil, List.cons_append, List.nil_append, List.append_nil, List.replicate, true_and, and_true, Nat.reduceSub, Nat.reduceAdd, Bool.not_true, Bool.not_false, decide_eq_true_eq, Bool.not_eq_true', decide_eq_false_iff_not, Int.reduceToNat, Int.reduceLT, Int.reduceLE, Int.reducePow, Int.reduceNeg, Bool.or_true, Bool.true_or, small_emod, small_lit, pow_10_18, and_self, addD, subD, mulD, modD, fdivD, negD, inD_ints, eqB_int, neB_int, ltB, leB, gtB, geB, isNB_none, notNB, isCB, ixD, lenD, absD, ML.intD, listD, tupD, slD, sl3, appD, metO, truD])
    split
    · refine we_callIo (item_ok hc h0 h1) rfl rfl rfl ?_
      rintro r c' - ⟨d, rfl, hc'⟩
      (try simp only [↓we_seq, ↓we_asg, ↓we_ret, ↓we_retN, ↓we_sIf, ↓we_drop, ↓we_nx, ↓we_brk, ↓we_cnt, ↓we_var, ↓we_C, ↓we_frz, ↓we_hold, ↓we_bin, ↓we_cmp, ↓we_un, ↓we_isi, ↓we_aNil, ↓we_aCons, ↓we_cb, ↓we_tup, ↓we_lst, ↓we_b, ↓we_tru, ↓we_and, ↓we_or, ↓we_not, ↓we_andV, ↓we_orV, ↓we_notV, ↓we_mIf, ↓we_chain, ↓we_set, ↓we_mgSub, ↓we_mgTup, ↓we_mgNil, ↓we_mgCons, ↓we_iR1, ↓we_iR2, ↓we_for, ↓we_mNo, ↓we_part, ↓we_sl, ↓we_ms, ↓we_met, ↓we_call_, ↓we_callIo_, ↓we_lc_, ↓we_iA, ↓we_yes, ↓we_par2, ↓we_par3, wo_some, wo_map, iaK_list, iaK_tuple, iaK_str, parK2_e, parK3_e, rd2, rd1, rd2B, rdN, rdAll, rd, hold, boolO, truO, intO, strO, frzO, retO, isIo_zero, isIo_succ, ioB_no, ioB_frz, ioB_own, ioB_io, le_line, lt_line, contAt, ML.putAt, Sl.cont, Sl.put, outsV, tupO, lstO, bo, noB, rtK_rt, rtK_nx, rtK1_rt, rtK1_nx, List.getElem?_cons_zero, List.getElem?_cons_succ, List.set_cons_zero, List.set_cons_succ, Option.map_some, Option.isSome_some, reduceIte, Bool.false_eq_true, Bool.true_eq_false, if_true, if_false, wipeR, ixN_lit, atI_lit, Option.bind_some, Nat.reduceLT, Nat.reduceLeDiff, ML.pos1, List.length_map, isT, List.map_cons, List.map_nil, List.length_cons, List.length_nil, List.cons_append, List.nil_append, List.append_nil, List.replicate, true_and, and_true, Nat.reduceSub, Nat.reduceAdd, Bool.not_true, Bool.not_false, decide_eq_true_eq, Bool.not_eq_true', decide_eq_false_iff_not, Int.reduceToNat, Int.reduceLT, Int.reduceLE, Int.reducePow, Int.reduceNeg, Bool.or_true, Bool.true_or, small_emod, small_lit, pow_10_18, and_self, addD, subD, mulD, modD, fdivD, negD, inD_ints, eqB_int, neB_int, ltB, leB, gtB, geB, isNB_none, notNB, isCB, ixD, lenD, absD, ML.intD, listD, tupD, slD, sl3, appD, metO, truD])
      refine we_callIo (draw_ok hc' (n := v) h0 (by omega)) rfl rfl rfl ?_
      rintro r c' - ⟨j, rfl, j0, j1, hc'⟩
      obtain ⟨n, hn, hn2⟩ := ixN_in (m := ys.length) j0 (by omega)
      (try simp only [↓we_seq, ↓we_asg, ↓we_ret, ↓we_retN, ↓we_sIf, ↓we_drop, ↓we_nx, ↓we_brk, ↓we_cnt, ↓we_var, ↓we_C, ↓we_frz, ↓we_hold, ↓we_bin, ↓we_cmp, ↓we_un, ↓we_isi, ↓we_aNil, ↓we_aCons, ↓we_cb, ↓we_tup, ↓we_lst, ↓we_b, ↓we_tru, ↓we_and, ↓we_or, ↓we_not, ↓we_andV, ↓we_orV, ↓we_notV, ↓we_mIf, ↓we_chain, ↓we_set, ↓we_mgSub, ↓we_mgTup, ↓we_mgNil, ↓we_mgCons, ↓we_iR1, ↓we_iR2, ↓we_for, ↓we_mNo, ↓we_part, ↓we_sl, ↓we_ms, ↓we_met, ↓we_call_, ↓we_callIo_, ↓we_lc_, ↓we_iA, ↓we_yes, ↓we_par2, ↓we_par3, wo_some, wo_map, iaK_list, iaK_tuple, iaK_str, parK2_e, parK3_e, rd2, rd1, rd2B, rdN, rdAll, rd, hold, boolO, truO, intO, strO, frzO, retO, isIo_zero, isIo_succ, ioB_no, ioB_frz, ioB_own, ioB_io, le_line, lt_line, contAt, ML.putAt, Sl.cont, Sl.put, outsV, tupO, lstO, bo, noB, rtK_rt, rtK_nx, rtK1_rt, rtK1_nx, List.getElem?_cons_zero, List.getElem?_cons_succ, List.set_cons_zero, List.set_cons_succ, Option.map_some, Option.isSome_some, reduceIte, Bool.false_eq_true, Bool.true_eq_false, if_true, if_false, wipeR, ixN_lit, atI_lit, Option.bind_some, Nat.reduceLT, Nat.reduceLeDiff, ML.pos1, List.length_map, isT, List.map_cons, List.map_nil, List.length_cons, List.length_nil, List.cons_append, List.nil_append, List.append_nil, List.replicate, true_and, and_true, Nat.reduceSub, Nat.reduceAdd, Bool.not_true, Bool.not_false, decide_eq_true_eq, Bool.not_eq_true', decide_eq_false_iff_not, Int.reduceToNat, Int.reduceLT, Int.reduceLE, Int.reducePow, Int.reduceNeg, Bool.or_true, Bool.true_or, small_emod, small_lit, pow_10_18, and_self, addD, subD, mulD, modD, fdivD, negD, inD_ints, eqB_int, neB_int, ltB, leB, gtB, geB, isNB_none, notNB, isCB, ixD, lenD, absD, ML.intD, listD, tupD, slD, sl3, appD, metO, truD, hn]);
      exact ⟨c', _, hc', by rw [List.length_set]; exact hl, rfl⟩
    · exact ⟨c, ys, hc, hl, rfl⟩
  rintro ρ ⟨c, ys, hc, hl, rfl⟩
  refine we_cut (fun ρ => ∃ c ys, Dk c ∧ ys.length = v.toNat ∧ ρ = [.io c, .frz (.int v), .own ys, .frz (.int k), .no]) ?_ ?_
  · (try simp only [↓we_seq, ↓we_asg, ↓we_ret, ↓we_retN, ↓we_sIf, ↓we_drop, ↓we_nx, ↓we_brk, ↓we_cnt, ↓we_var, ↓we_C, ↓we_frz, ↓we_hold, ↓we_bin, ↓we_cmp, ↓we_un, ↓we_isi, ↓we_aNil, ↓we_aCons, ↓we_cb, ↓we_tup, ↓we_lst, ↓we_b, ↓we_tru, ↓we_and, ↓we_or, ↓we_not, ↓we_andV, ↓we_orV, ↓we_notV, ↓we_mIf, ↓we_chain, ↓we_set, ↓we_mgSub, ↓we_mgTup, ↓we_mgNil, ↓we_mgCons, ↓we_iR1, ↓we_iR2, ↓we_for, ↓we_mNo, ↓we_part, ↓we_sl, ↓we_ms, ↓we_met, ↓we_call_, ↓we_callIo_, ↓we_lc_, ↓we_iA, ↓we_yes, ↓we_par2, ↓we_par3, wo_some, wo_map, iaK_list, iaK_tuple, iaK_str, parK2_e, parK3_e, rd2, rd1, rd2B, rdN, rdAll, rd, hold, boolO, truO, intO, strO, frzO, retO, isIo_zero, isIo_succ, ioB_no, ioB_frz, ioB_own, ioB_io, le_line, lt_line, contAt, ML.putAt, Sl.cont, Sl.put, outsV, tupO, lstO, bo, noB, rtK_rt, rtK_nx, rtK1_rt, rtK1_nx, List.getElem?_cons_zero, List.getElem?_cons_succ, List.set_cons_zero, List.set_cons_succ, Option.map_some, Option.isSome_some, reduceIte, Bool.false_eq_true, Bool.true_eq_false, if_true, if_false, wipeR, ixN_lit, atI_lit, Option.bind_some, Nat.reduceLT, Nat.reduceLeDiff, ML.pos1, List.length_map, isT, List.map_cons, List.map_nil, List.length_cons, List.length_nil, List.cons_append, List.nil_append, List.append_nil, List.replicate, true_and, and_true, Nat.reduceSub, Nat.reduceAdd, Bool.not_true, Bool.not_false, decide_eq_true_eq, Bool.not_eq_true', decide_eq_false_iff_not, Int.reduceToNat, Int.reduceLT, Int.reduceLE, Int.reducePow, Int.reduceNeg, Bool.or_true, Bool.true_or, small_emod, small_lit, pow_10_18, and_self, addD, subD, mulD, modD, fdivD, negD, inD_ints, eqB_int, neB_int, ltB, leB, gtB, geB, isNB_none, notNB, isCB, ixD, lenD, absD, ML.intD, listD, tupD, slD, sl3, appD, metO, truD])
    split
    · refine we_callIo (draw_ok hc (n := v) h0 (by omega)) rfl rfl rfl ?_
      rintro r c' - ⟨j, rfl, j0, j1, hc'⟩
      obtain ⟨n, hn, hn2⟩ := ixN_in (m := ys.length) j0 (by omega)
      (try simp only [↓we_seq, ↓we_asg, ↓we_ret, ↓we_retN, ↓we_sIf, ↓we_drop, ↓we_nx, ↓we_brk, ↓we_cnt, ↓we_var, ↓we_C, ↓we_frz, ↓we_hold, ↓we_bin, ↓we_cmp, ↓we_un, ↓we_isi, ↓we_aNil, ↓we_aCons, ↓we_cb, ↓we_tup, ↓we_lst, ↓we_b, ↓we_tru, ↓we_and, ↓we_or, ↓we_not, ↓we_andV, ↓we_orV, ↓we_notV, ↓we_mIf, ↓we_chain, ↓we_set, ↓we_mgSub, ↓we_mgTup, ↓we_mgNil, ↓we_mgCons, ↓we_iR1, ↓we_iR2, ↓we_for, ↓we_mNo, ↓we_part, ↓we_sl, ↓we_ms, ↓we_met, ↓we_call_, ↓we_callIo_, ↓we_lc_, ↓we_iA, ↓we_yes, ↓we_par2, ↓we_par3, wo_some, wo_map, iaK_list, iaK_tuple, iaK_str, parK2_e, parK3_e, rd2, rd1, rd2B, rdN, rdAll, rd, hold, boolO, truO, intO, strO, frzO, retO, isIo_zero, isIo_succ, ioB_no, ioB_frz, ioB_own, ioB_io, le_line, lt_line, contAt, ML.putAt, Sl.cont, Sl.put, outsV, tupO, lstO, bo, noB, rtK_rt, rtK_nx, rtK1_rt, rtK1_nx, List.getElem?_cons_zero, List.getElem?_cons_succ, List.set_cons_zero, List.set_cons_succ, Option.map_some, Option.isSome_some, reduceIte, Bool.false_eq_true, Bool.true_eq_false, if_true, if_false, wipeR, ixN_lit, atI_lit, Option.bind_some, Nat.reduceLT, Nat.reduceLeDiff, ML.pos1, List.length_map, isT, List.map_cons, List.map_nil, List.length_cons, List.length_nil, List.cons_append, List.nil_append, List.append_nil, List.replicate, true_and, and_true, Nat.reduceSub, Nat.reduceAdd, Bool.not_true, Bool.not_false, decide_eq_true_eq, Bool.not_eq_true', decide_eq_false_iff_not, Int.reduceToNat, Int.reduceLT, Int.reduceLE, Int.reducePow, Int.reduceNeg, Bool.or_true, Bool.true_or, small_emod, small_lit, pow_10_18, and_self, addD, subD, mulD, modD, fdivD, negD, inD_ints, eqB_int, neB_int, ltB, leB, gtB, geB, isNB_none, notNB, isCB, ixD, lenD, absD, ML.intD, listD, tupD, slD, sl3, appD, metO, truD, hn]);
      exact ⟨c', _, hc', by rw [List.length_set]; exact hl, rfl⟩
    · exact ⟨c, ys, hc, hl, rfl⟩
  rintro ρ ⟨c, ys, hc, hl, rfl⟩
  refine we_cut (fun ρ => ∃ c s, Dk c ∧ (∃ ys, s = .own ys ∨ s = .frz (.list ys)) ∧ ρ = [.io c, .frz (.int v), s, .frz (.int k), .no]) ?_ ?_
  · (try simp only [↓we_seq, ↓we_asg, ↓we_ret, ↓we_retN, ↓we_sIf, ↓we_drop, ↓we_nx, ↓we_brk, ↓we_cnt, ↓we_var, ↓we_C, ↓we_frz, ↓we_hold, ↓we_bin, ↓we_cmp, ↓we_un, ↓we_isi, ↓we_aNil, ↓we_aCons, ↓we_cb, ↓we_tup, ↓we_lst, ↓we_b, ↓we_tru, ↓we_and, ↓we_or, ↓we_not, ↓we_andV, ↓we_orV, ↓we_notV, ↓we_mIf, ↓we_chain, ↓we_set, ↓we_mgSub, ↓we_mgTup, ↓we_mgNil, ↓we_mgCons, ↓we_iR1, ↓we_iR2, ↓we_for, ↓we_mNo, ↓we_part, ↓we_sl, ↓we_ms, ↓we_met, ↓we_call_, ↓we_callIo_, ↓we_lc_, ↓we_iA, ↓we_yes, ↓we_par2, ↓we_par3, wo_some, wo_map, iaK_list, iaK_tuple, iaK_str, parK2_e, parK3_e, rd2, rd1, rd2B, rdN, rdAll, rd, hold, boolO, truO, intO, strO, frzO, retO, isIo_zero, isIo_succ, ioB_no, ioB_frz, ioB_own, ioB_io, le_line, lt_line, contAt, ML.putAt, Sl.cont, Sl.put, outsV, tupO, lstO, bo, noB, rtK_rt, rtK_nx, rtK1_rt, rtK1_nx, List.getElem?_cons_zero, List.getElem?_cons_succ, List.set_cons_zero, List.set_cons_succ, Option.map_some, Option.isSome_some, reduceIte, Bool.false_eq_true, Bool.true_eq_false, if_true, if_false, wipeR, ixN_lit, atI_lit, Option.bind_some, Nat.reduceLT, Nat.reduceLeDiff, ML.pos1, List.length_map, isT, List.map_cons, List.map_nil, List.length_cons, List.length_nil, List.cons_append, List.nil_append, List.append_nil, List.replicate, true_and, and_true, Nat.reduceSub, Nat.reduceAdd, Bool.not_true, Bool.not_false, decide_eq_true_eq, Bool.not_eq_true', decide_eq_false_iff_not, Int.reduceToNat, Int.reduceLT, Int.reduceLE, Int.reducePow, Int.reduceNeg, Bool.or_true, Bool.true_or, small_emod, small_lit, pow_10_18, and_self, addD, subD, mulD, modD, fdivD, negD, inD_ints, eqB_int, neB_int, ltB, leB, gtB, geB, isNB_none, notNB, isCB, ixD, lenD, absD, ML.intD, listD, tupD, slD, sl3, appD, metO, truD])
    split
    · rename_i hk
      have all3 : ∀ x ∈ ([.list (ML.cutD ys (some 1) none), .list (ys ++ [.int 0]), .list (ys ++ ys)] : List D), ∃ ys, x = .list ys := all_cons ⟨_, rfl⟩ (all_cons ⟨_, rfl⟩ (all_cons ⟨_, rfl⟩ all_nil))
      rw [if_pos (by omega)]
      (try simp only [↓we_seq, ↓we_asg, ↓we_ret, ↓we_retN, ↓we_sIf, ↓we_drop, ↓we_nx, ↓we_brk, ↓we_cnt, ↓we_var, ↓we_C, ↓we_frz, ↓we_hold, ↓we_bin, ↓we_cmp, ↓we_un, ↓we_isi, ↓we_aNil, ↓we_aCons, ↓we_cb, ↓we_tup, ↓we_lst, ↓we_b, ↓we_tru, ↓we_and, ↓we_or, ↓we_not, ↓we_andV, ↓we_orV, ↓we_notV, ↓we_mIf, ↓we_chain, ↓we_set, ↓we_mgSub, ↓we_mgTup, ↓we_mgNil, ↓we_mgCons, ↓we_iR1, ↓we_iR2, ↓we_for, ↓we_mNo, ↓we_part, ↓we_sl, ↓we_ms, ↓we_met, ↓we_call_, ↓we_callIo_, ↓we_lc_, ↓we_iA, ↓we_yes, ↓we_par2, ↓we_par3, wo_some, wo_map, iaK_list, iaK_tuple, iaK_str, parK2_e, parK3_e, rd2, rd1, rd2B, rdN, rdAll, rd, hold, boolO, truO, intO, strO, frzO, retO, isIo_zero, isIo_succ, ioB_no, ioB_frz, ioB_own, ioB_io, le_line, lt_line, contAt, ML.putAt, Sl.cont, Sl.put, outsV, tupO, lstO, bo, noB, rtK_rt, rtK_nx, rtK1_rt, rtK1_nx, List.getElem?_cons_zero, List.getElem?_cons_succ, List.set_cons_zero, List.set_cons_succ, Option.map_some, Option.isSome_some, reduceIte, Bool.false_eq_true, Bool.true_eq_false, if_true, if_false, wipeR, ixN_lit, atI_lit, Option.bind_some, Nat.reduceLT, Nat.reduceLeDiff, ML.pos1, List.length_map, isT, List.map_cons, List.map_nil, List.length_cons, List.length_nil, List.cons_append, List.nil_append, List.append_nil, List.replicate, true_and, and_true, Nat.reduceSub, Nat.reduceAdd, Bool.not_true, Bool.not_false, decide_eq_true_eq, Bool.not_eq_true', decide_eq_false_iff_not, Int.reduceToNat, Int.reduceLT, Int.reduceLE, Int.reducePow, Int.reduceNeg, Bool.or_true, Bool.true_or, small_emod, small_lit, pow_10_18, and_self, addD, subD, mulD, modD, fdivD, negD, inD_ints, eqB_int, neB_int, ltB, leB, gtB, geB, isNB_none, notNB, isCB, ixD, lenD, absD, ML.intD, listD, tupD, slD, sl3, appD, metO, truD])
      rw [if_pos (by omega)]
      (try simp only [↓we_seq, ↓we_asg, ↓we_ret, ↓we_retN, ↓we_sIf, ↓we_drop, ↓we_nx, ↓we_brk, ↓we_cnt, ↓we_var, ↓we_C, ↓we_frz, ↓we_hold, ↓we_bin, ↓we_cmp, ↓we_un, ↓we_isi, ↓we_aNil, ↓we_aCons, ↓we_cb, ↓we_tup, ↓we_lst, ↓we_b, ↓we_tru, ↓we_and, ↓we_or, ↓we_not, ↓we_andV, ↓we_orV, ↓we_notV, ↓we_mIf, ↓we_chain, ↓we_set, ↓we_mgSub, ↓we_mgTup, ↓we_mgNil, ↓we_mgCons, ↓we_iR1, ↓we_iR2, ↓we_for, ↓we_mNo, ↓we_part, ↓we_sl, ↓we_ms, ↓we_met, ↓we_call_, ↓we_callIo_, ↓we_lc_, ↓we_iA, ↓we_yes, ↓we_par2, ↓we_par3, wo_some, wo_map, iaK_list, iaK_tuple, iaK_str, parK2_e, parK3_e, rd2, rd1, rd2B, rdN, rdAll, rd, hold, boolO, truO, intO, strO, frzO, retO, isIo_zero, isIo_succ, ioB_no, ioB_frz, ioB_own, ioB_io, le_line, lt_line, contAt, ML.putAt, Sl.cont, Sl.put, outsV, tupO, lstO, bo, noB, rtK_rt, rtK_nx, rtK1_rt, rtK1_nx, List.getElem?_cons_zero, List.getElem?_cons_succ, List.set_cons_zero, List.set_cons_succ, Option.map_some, Option.isSome_some, reduceIte, Bool.false_eq_true, Bool.true_eq_false, if_true, if_false, wipeR, ixN_lit, atI_lit, Option.bind_some, Nat.reduceLT, Nat.reduceLeDiff, ML.pos1, List.length_map, isT, List.map_cons, List.map_nil, List.length_cons, List.length_nil, List.cons_append, List.nil_append, List.append_nil, List.replicate, true_and, and_true, Nat.reduceSub, Nat.reduceAdd, Bool.not_true, Bool.not_false, decide_eq_true_eq, Bool.not_eq_true', decide_eq_false_iff_not, Int.reduceToNat, Int.reduceLT, Int.reduceLE, Int.reducePow, Int.reduceNeg, Bool.or_true, Bool.true_or, small_emod, small_lit, pow_10_18, and_self, addD, subD, mulD, modD, fdivD, negD, inD_ints, eqB_int, neB_int, ltB, leB, gtB, geB, isNB_none, notNB, isCB, ixD, lenD, absD, ML.intD, listD, tupD, slD, sl3, appD, metO, truD])
      refine we_callIo (draw_ok hc (n := 3) (by decide) (by decide)) rfl rfl rfl ?_
      rintro r c' - ⟨j, rfl, j0, j1, hc'⟩
      (try simp only [↓we_seq, ↓we_asg, ↓we_ret, ↓we_retN, ↓we_sIf, ↓we_drop, ↓we_nx, ↓we_brk, ↓we_cnt, ↓we_var, ↓we_C, ↓we_frz, ↓we_hold, ↓we_bin, ↓we_cmp, ↓we_un, ↓we_isi, ↓we_aNil, ↓we_aCons, ↓we_cb, ↓we_tup, ↓we_lst, ↓we_b, ↓we_tru, ↓we_and, ↓we_or, ↓we_not, ↓we_andV, ↓we_orV, ↓we_notV, ↓we_mIf, ↓we_chain, ↓we_set, ↓we_mgSub, ↓we_mgTup, ↓we_mgNil, ↓we_mgCons, ↓we_iR1, ↓we_iR2, ↓we_for, ↓we_mNo, ↓we_part, ↓we_sl, ↓we_ms, ↓we_met, ↓we_call_, ↓we_callIo_, ↓we_lc_, ↓we_iA, ↓we_yes, ↓we_par2, ↓we_par3, wo_some, wo_map, iaK_list, iaK_tuple, iaK_str, parK2_e, parK3_e, rd2, rd1, rd2B, rdN, rdAll, rd, hold, boolO, truO, intO, strO, frzO, retO, isIo_zero, isIo_succ, ioB_no, ioB_frz, ioB_own, ioB_io, le_line, lt_line, contAt, ML.putAt, Sl.cont, Sl.put, outsV, tupO, lstO, bo, noB, rtK_rt, rtK_nx, rtK1_rt, rtK1_nx, List.getElem?_cons_zero, List.getElem?_cons_succ, List.set_cons_zero, List.set_cons_succ, Option.map_some, Option.isSome_some, reduceIte, Bool.false_eq_true, Bool.true_eq_false, if_true, if_false, wipeR, ixN_lit, atI_lit, Option.bind_some, Nat.reduceLT, Nat.reduceLeDiff, ML.pos1, List.length_map, isT, List.map_cons, List.map_nil, List.length_cons, List.length_nil, List.cons_append, List.nil_append, List.append_nil, List.replicate, true_and, and_true, Nat.reduceSub, Nat.reduceAdd, Bool.not_true, Bool.not_false, decide_eq_true_eq, Bool.not_eq_true', decide_eq_false_iff_not, Int.reduceToNat, Int.reduceLT, Int.reduceLE, Int.reducePow, Int.reduceNeg, Bool.or_true, Bool.true_or, small_emod, small_lit, pow_10_18, and_self, addD, subD, mulD, modD, fdivD, negD, inD_ints, eqB_int, neB_int, ltB, leB, gtB, geB, isNB_none, notNB, isCB, ixD, lenD, absD, ML.intD, listD, tupD, slD, sl3, appD, metO, truD])
      refine wo_at j0 j1 fun x hx => ?_
      obtain ⟨ys, rfl⟩ := all3 x hx
      (try simp only [↓we_seq, ↓we_asg, ↓we_ret, ↓we_retN, ↓we_sIf, ↓we_drop, ↓we_nx, ↓we_brk, ↓we_cnt, ↓we_var, ↓we_C, ↓we_frz, ↓we_hold, ↓we_bin, ↓we_cmp, ↓we_un, ↓we_isi, ↓we_aNil, ↓we_aCons, ↓we_cb, ↓we_tup, ↓we_lst, ↓we_b, ↓we_tru, ↓we_and, ↓we_or, ↓we_not, ↓we_andV, ↓we_orV, ↓we_notV, ↓we_mIf, ↓we_chain, ↓we_set, ↓we_mgSub, ↓we_mgTup, ↓we_mgNil, ↓we_mgCons, ↓we_iR1, ↓we_iR2, ↓we_for, ↓we_mNo, ↓we_part, ↓we_sl, ↓we_ms, ↓we_met, ↓we_call_, ↓we_callIo_, ↓we_lc_, ↓we_iA, ↓we_yes, ↓we_par2, ↓we_par3, wo_some, wo_map, iaK_list, iaK_tuple, iaK_str, parK2_e, parK3_e, rd2, rd1, rd2B, rdN, rdAll, rd, hold, boolO, truO, intO, strO, frzO, retO, isIo_zero, isIo_succ, ioB_no, ioB_frz, ioB_own, ioB_io, le_line, lt_line, contAt, ML.putAt, Sl.cont, Sl.put, outsV, tupO, lstO, bo, noB, rtK_rt, rtK_nx, rtK1_rt, rtK1_nx, List.getElem?_cons_zero, List.getElem?_cons_succ, List.set_cons_zero, List.set_cons_succ, Option.map_some, Option.isSome_some, reduceIte, Bool.false_eq_true, Bool.true_eq_false, if_true, if_false, wipeR, ixN_lit, atI_lit, Option.bind_some, Nat.reduceLT, Nat.reduceLeDiff, ML.pos1, List.length_map, isT, List.map_cons, List.map_nil, List.length_cons, List.length_nil, List.cons_append, List.nil_append, List.append_nil, List.replicate, true_and, and_true, Nat.reduceSub, Nat.reduceAdd, Bool.not_true, Bool.not_false, decide_eq_true_eq, Bool.not_eq_true', decide_eq_false_iff_not, Int.reduceToNat, Int.reduceLT, Int.reduceLE, Int.reducePow, Int.reduceNeg, Bool.or_true, Bool.true_or, small_emod, small_lit, pow_10_18, and_self, addD, subD, mulD, modD, fdivD, negD, inD_ints, eqB_int, neB_int, ltB, leB, gtB, geB, isNB_none, notNB, isCB, ixD, lenD, absD, ML.intD, listD, tupD, slD, sl3, appD, metO, truD])
      exact ⟨c', _, hc', ⟨ys, .inr rfl⟩, rfl⟩
    · exact ⟨c, _, hc, ⟨ys, .inl rfl⟩, rfl⟩
  rintro ρ ⟨c, s, hc, ⟨ys, rfl | rfl⟩, rfl⟩
  · have all6 : ∀ x ∈ ([.list ys, .none, .int 0, .str "0", .str "00", .tuple [.tuple ys]] : List D), okW x := by
      refine all_cons ?_ (all_cons ?_ (all_cons ?_ (all_cons ?_ (all_cons ?_ (all_cons ?_ all_nil)))))
      · exact .inr (.inr fun x e => by cases e)
      · exact .inr (.inr fun x e => by cases e)
      · exact .inr (.inr fun x e => by cases e)
      · exact .inl rfl
      · exact .inr (.inl rfl)
      · exact .inr (.inr fun x e => by cases e)
    (try simp only [↓we_seq, ↓we_asg, ↓we_ret, ↓we_retN, ↓we_sIf, ↓we_drop, ↓we_nx, ↓we_brk, ↓we_cnt, ↓we_var, ↓we_C, ↓we_frz, ↓we_hold, ↓we_bin, ↓we_cmp, ↓we_un, ↓we_isi, ↓we_aNil, ↓we_aCons, ↓we_cb, ↓we_tup, ↓we_lst, ↓we_b, ↓we_tru, ↓we_and, ↓we_or, ↓we_not, ↓we_andV, ↓we_orV, ↓we_notV, ↓we_mIf, ↓we_chain, ↓we_set, ↓we_mgSub, ↓we_mgTup, ↓we_mgNil, ↓we_mgCons, ↓we_iR1, ↓we_iR2, ↓we_for, ↓we_mNo, ↓we_part, ↓we_sl, ↓we_ms, ↓we_met, ↓we_call_, ↓we_callIo_, ↓we_lc_, ↓we_iA, ↓we_yes, ↓we_par2, ↓we_par3, wo_some, wo_map, iaK_list, iaK_tuple, iaK_str, parK2_e, parK3_e, rd2, rd1, rd2B, rdN, rdAll, rd, hold, boolO, truO, intO, strO, frzO, retO, isIo_zero, isIo_succ, ioB_no, ioB_frz, ioB_own, ioB_io, le_line, lt_line, contAt, ML.putAt, Sl.cont, Sl.put, outsV, tupO, lstO, bo, noB, rtK_rt, rtK_nx, rtK1_rt, rtK1_nx, List.getElem?_cons_zero, List.getElem?_cons_succ, List.set_cons_zero, List.set_cons_succ, Option.map_some, Option.isSome_some, reduceIte, Bool.false_eq_true, Bool.true_eq_false, if_true, if_false, wipeR, ixN_lit, atI_lit, Option.bind_some, Nat.reduceLT, Nat.reduceLeDiff, ML.pos1, List.length_map, isT, List.map_cons, List.map_nil, List.length_cons, List.length_nil, List.cons_append, List.nil_append, List.append_nil, List.replicate, true_and, and_true, Nat.reduceSub, Nat.reduceAdd, Bool.not_true, Bool.not_false, decide_eq_true_eq, Bool.not_eq_true', decide_eq_false_iff_not, Int.reduceToNat, Int.reduceLT, Int.reduceLE, Int.reducePow, Int.reduceNeg, Bool.or_true, Bool.true_or, small_emod, small_lit, pow_10_18, and_self, addD, subD, mulD, modD, fdivD, negD, inD_ints, eqB_int, neB_int, ltB, leB, gtB, geB, isNB_none, notNB, isCB, ixD, lenD, absD, ML.intD, listD, tupD, slD, sl3, appD, metO, truD])
    split
    · refine we_callIo (draw_ok hc (n := 2) (by decide) (by decide)) rfl rfl rfl ?_
      rintro r c' - ⟨j, rfl, j0, j1, hc'⟩
      (try simp only [↓we_seq, ↓we_asg, ↓we_ret, ↓we_retN, ↓we_sIf, ↓we_drop, ↓we_nx, ↓we_brk, ↓we_cnt, ↓we_var, ↓we_C, ↓we_frz, ↓we_hold, ↓we_bin, ↓we_cmp, ↓we_un, ↓we_isi, ↓we_aNil, ↓we_aCons, ↓we_cb, ↓we_tup, ↓we_lst, ↓we_b, ↓we_tru, ↓we_and, ↓we_or, ↓we_not, ↓we_andV, ↓we_orV, ↓we_notV, ↓we_mIf, ↓we_chain, ↓we_set, ↓we_mgSub, ↓we_mgTup, ↓we_mgNil, ↓we_mgCons, ↓we_iR1, ↓we_iR2, ↓we_for, ↓we_mNo, ↓we_part, ↓we_sl, ↓we_ms, ↓we_met, ↓we_call_, ↓we_callIo_, ↓we_lc_, ↓we_iA, ↓we_yes, ↓we_par2, ↓we_par3, wo_some, wo_map, iaK_list, iaK_tuple, iaK_str, parK2_e, parK3_e, rd2, rd1, rd2B, rdN, rdAll, rd, hold, boolO, truO, intO, strO, frzO, retO, isIo_zero, isIo_succ, ioB_no, ioB_frz, ioB_own, ioB_io, le_line, lt_line, contAt, ML.putAt, Sl.cont, Sl.put, outsV, tupO, lstO, bo, noB, rtK_rt, rtK_nx, rtK1_rt, rtK1_nx, List.getElem?_cons_zero, List.getElem?_cons_succ, List.set_cons_zero, List.set_cons_succ, Option.map_some, Option.isSome_some, reduceIte, Bool.false_eq_true, Bool.true_eq_false, if_true, if_false, wipeR, ixN_lit, atI_lit, Option.bind_some, Nat.reduceLT, Nat.reduceLeDiff, ML.pos1, List.length_map, isT, List.map_cons, List.map_nil, List.length_cons, List.length_nil, List.cons_append, List.nil_append, List.append_nil, List.replicate, true_and, and_true, Nat.reduceSub, Nat.reduceAdd, Bool.not_true, Bool.not_false, decide_eq_true_eq, Bool.not_eq_true', decide_eq_false_iff_not, Int.reduceToNat, Int.reduceLT, Int.reduceLE, Int.reducePow, Int.reduceNeg, Bool.or_true, Bool.true_or, small_emod, small_lit, pow_10_18, and_self, addD, subD, mulD, modD, fdivD, negD, inD_ints, eqB_int, neB_int, ltB, leB, gtB, geB, isNB_none, notNB, isCB, ixD, lenD, absD, ML.intD, listD, tupD, slD, sl3, appD, metO, truD])
      split
      · refine we_callIo (draw_ok hc' (n := 6) (by decide) (by decide)) rfl rfl rfl ?_
        rintro r c' - ⟨j, rfl, j0, j1, hc'⟩
        (try simp only [↓we_seq, ↓we_asg, ↓we_ret, ↓we_retN, ↓we_sIf, ↓we_drop, ↓we_nx, ↓we_brk, ↓we_cnt, ↓we_var, ↓we_C, ↓we_frz, ↓we_hold, ↓we_bin, ↓we_cmp, ↓we_un, ↓we_isi, ↓we_aNil, ↓we_aCons, ↓we_cb, ↓we_tup, ↓we_lst, ↓we_b, ↓we_tru, ↓we_and, ↓we_or, ↓we_not, ↓we_andV, ↓we_orV, ↓we_notV, ↓we_mIf, ↓we_chain, ↓we_set, ↓we_mgSub, ↓we_mgTup, ↓we_mgNil, ↓we_mgCons, ↓we_iR1, ↓we_iR2, ↓we_for, ↓we_mNo, ↓we_part, ↓we_sl, ↓we_ms, ↓we_met, ↓we_call_, ↓we_callIo_, ↓we_lc_, ↓we_iA, ↓we_yes, ↓we_par2, ↓we_par3, wo_some, wo_map, iaK_list, iaK_tuple, iaK_str, parK2_e, parK3_e, rd2, rd1, rd2B, rdN, rdAll, rd, hold, boolO, truO, intO, strO, frzO, retO, isIo_zero, isIo_succ, ioB_no, ioB_frz, ioB_own, ioB_io, le_line, lt_line, contAt, ML.putAt, Sl.cont, Sl.put, outsV, tupO, lstO, bo, noB, rtK_rt, rtK_nx, rtK1_rt, rtK1_nx, List.getElem?_cons_zero, List.getElem?_cons_succ, List.set_cons_zero, List.set_cons_succ, Option.map_some, Option.isSome_some, reduceIte, Bool.false_eq_true, Bool.true_eq_false, if_true, if_false, wipeR, ixN_lit, atI_lit, Option.bind_some, Nat.reduceLT, Nat.reduceLeDiff, ML.pos1, List.length_map, isT, List.map_cons, List.map_nil, List.length_cons, List.length_nil, List.cons_append, List.nil_append, List.append_nil, List.replicate, true_and, and_true, Nat.reduceSub, Nat.reduceAdd, Bool.not_true, Bool.not_false, decide_eq_true_eq, Bool.not_eq_true', decide_eq_false_iff_not, Int.reduceToNat, Int.reduceLT, Int.reduceLE, Int.reducePow, Int.reduceNeg, Bool.or_true, Bool.true_or, small_emod, small_lit, pow_10_18, and_self, addD, subD, mulD, modD, fdivD, negD, inD_ints, eqB_int, neB_int, ltB, leB, gtB, geB, isNB_none, notNB, isCB, ixD, lenD, absD, ML.intD, listD, tupD, slD, sl3, appD, metO, truD])
        refine wo_at j0 j1 fun x hx => ?_
        (try simp only [↓we_seq, ↓we_asg, ↓we_ret, ↓we_retN, ↓we_sIf, ↓we_drop, ↓we_nx, ↓we_brk, ↓we_cnt, ↓we_var, ↓we_C, ↓we_frz, ↓we_hold, ↓we_bin, ↓we_cmp, ↓we_un, ↓we_isi, ↓we_aNil, ↓we_aCons, ↓we_cb, ↓we_tup, ↓we_lst, ↓we_b, ↓we_tru, ↓we_and, ↓we_or, ↓we_not, ↓we_andV, ↓we_orV, ↓we_notV, ↓we_mIf, ↓we_chain, ↓we_set, ↓we_mgSub, ↓we_mgTup, ↓we_mgNil, ↓we_mgCons, ↓we_iR1, ↓we_iR2, ↓we_for, ↓we_mNo, ↓we_part, ↓we_sl, ↓we_ms, ↓we_met, ↓we_call_, ↓we_callIo_, ↓we_lc_, ↓we_iA, ↓we_yes, ↓we_par2, ↓we_par3, wo_some, wo_map, iaK_list, iaK_tuple, iaK_str, parK2_e, parK3_e, rd2, rd1, rd2B, rdN, rdAll, rd, hold, boolO, truO, intO, strO, frzO, retO, isIo_zero, isIo_succ, ioB_no, ioB_frz, ioB_own, ioB_io, le_line, lt_line, contAt, ML.putAt, Sl.cont, Sl.put, outsV, tupO, lstO, bo, noB, rtK_rt, rtK_nx, rtK1_rt, rtK1_nx, List.getElem?_cons_zero, List.getElem?_cons_succ, List.set_cons_zero, List.set_cons_succ, Option.map_some, Option.isSome_some, reduceIte, Bool.false_eq_true, Bool.true_eq_false, if_true, if_false, wipeR, ixN_lit, atI_lit, Option.bind_some, Nat.reduceLT, Nat.reduceLeDiff, ML.pos1, List.length_map, isT, List.map_cons, List.map_nil, List.length_cons, List.length_nil, List.cons_append, List.nil_append, List.append_nil, List.replicate, true_and, and_true, Nat.reduceSub, Nat.reduceAdd, Bool.not_true, Bool.not_false, decide_eq_true_eq, Bool.not_eq_true', decide_eq_false_iff_not, Int.reduceToNat, Int.reduceLT, Int.reduceLE, Int.reducePow, Int.reduceNeg, Bool.or_true, Bool.true_or, small_emod, small_lit, pow_10_18, and_self, addD, subD, mulD, modD, fdivD, negD, inD_ints, eqB_int, neB_int, ltB, leB, gtB, geB, isNB_none, notNB, isCB, ixD, lenD, absD, ML.intD, listD, tupD, slD, sl3, appD, metO, truD]); repeat ((first | rw [then_nx] | rw [then_rt] | rw [then_bk] | rw [then_ct]); simp only [↓we_seq, ↓we_asg, ↓we_ret, ↓we_retN, ↓we_sIf, ↓we_drop, ↓we_nx, ↓we_brk, ↓we_cnt, ↓we_var, ↓we_C, ↓we_frz, ↓we_hold, ↓we_bin, ↓we_cmp, ↓we_un, ↓we_isi, ↓we_aNil, ↓we_aCons, ↓we_cb, ↓we_tup, ↓we_lst, ↓we_b, ↓we_tru, ↓we_and, ↓we_or, ↓we_not, ↓we_andV, ↓we_orV, ↓we_notV, ↓we_mIf, ↓we_chain, ↓we_set, ↓we_mgSub, ↓we_mgTup, ↓we_mgNil, ↓we_mgCons, ↓we_iR1, ↓we_iR2, ↓we_for, ↓we_mNo, ↓we_part, ↓we_sl, ↓we_ms, ↓we_met, ↓we_call_, ↓we_callIo_, ↓we_lc_, ↓we_iA, ↓we_yes, ↓we_par2, ↓we_par3, wo_some, wo_map, iaK_list, iaK_tuple, iaK_str, parK2_e, parK3_e, rd2, rd1, rd2B, rdN, rdAll, rd, hold, boolO, truO, intO, strO, frzO, retO, isIo_zero, isIo_succ, ioB_no, ioB_frz, ioB_own, ioB_io, le_line, lt_line, contAt, ML.putAt, Sl.cont, Sl.put, outsV, tupO, lstO, bo, noB, rtK_rt, rtK_nx, rtK1_rt, rtK1_nx, List.getElem?_cons_zero, List.getElem?_cons_succ, List.set_cons_zero, List.set_cons_succ, Option.map_some, Option.isSome_some, reduceIte, Bool.false_eq_true, Bool.true_eq_false, if_true, if_false, wipeR, ixN_lit, atI_lit, Option.bind_some, Nat.reduceLT, Nat.reduceLeDiff, ML.pos1, List.length_map, isT, List.map_cons, List.map_nil, List.length_cons, List.length_nil, List.cons_append, List.nil_append, List.append_nil, List.replicate, true_and, and_true, Nat.reduceSub, Nat.reduceAdd, Bool.not_true, Bool.not_false, decide_eq_true_eq, Bool.not_eq_true', decide_eq_false_iff_not, Int.reduceToNat, Int.reduceLT, Int.reduceLE, Int.reducePow, Int.reduceNeg, Bool.or_true, Bool.true_or, small_emod, small_lit, pow_10_18, and_self, addD, subD, mulD, modD, fdivD, negD, inD_ints, eqB_int, neB_int, ltB, leB, gtB, geB, isNB_none, notNB, isCB, ixD, lenD, absD, ML.intD, listD, tupD, slD, sl3, appD, metO, truD])
        exact ⟨_, rfl, _, rfl, all6 x hx, hc'⟩
      · (try simp only [↓we_seq, ↓we_asg, ↓we_ret, ↓we_retN, ↓we_sIf, ↓we_drop, ↓we_nx, ↓we_brk, ↓we_cnt, ↓we_var, ↓we_C, ↓we_frz, ↓we_hold, ↓we_bin, ↓we_cmp, ↓we_un, ↓we_isi, ↓we_aNil, ↓we_aCons, ↓we_cb, ↓we_tup, ↓we_lst, ↓we_b, ↓we_tru, ↓we_and, ↓we_or, ↓we_not, ↓we_andV, ↓we_orV, ↓we_notV, ↓we_mIf, ↓we_chain, ↓we_set, ↓we_mgSub, ↓we_mgTup, ↓we_mgNil, ↓we_mgCons, ↓we_iR1, ↓we_iR2, ↓we_for, ↓we_mNo, ↓we_part, ↓we_sl, ↓we_ms, ↓we_met, ↓we_call_, ↓we_callIo_, ↓we_lc_, ↓we_iA, ↓we_yes, ↓we_par2, ↓we_par3, wo_some, wo_map, iaK_list, iaK_tuple, iaK_str, parK2_e, parK3_e, rd2, rd1, rd2B, rdN, rdAll, rd, hold, boolO, truO, intO, strO, frzO, retO, isIo_zero, isIo_succ, ioB_no, ioB_frz, ioB_own, ioB_io, le_line, lt_line, contAt, ML.putAt, Sl.cont, Sl.put, outsV, tupO, lstO, bo, noB, rtK_rt, rtK_nx, rtK1_rt, rtK1_nx, List.getElem?_cons_zero, List.getElem?_cons_succ, List.set_cons_zero, List.set_cons_succ, Option.map_some, Option.isSome_some, reduceIte, Bool.false_eq_true, Bool.true_eq_false, if_true, if_false, wipeR, ixN_lit, atI_lit, Option.bind_some, Nat.reduceLT, Nat.reduceLeDiff, ML.pos1, List.length_map, isT, List.map_cons, List.map_nil, List.length_cons, List.length_nil, List.cons_append, List.nil_append, List.append_nil, List.replicate, true_and, and_true, Nat.reduceSub, Nat.reduceAdd, Bool.not_true, Bool.not_false, decide_eq_true_eq, Bool.not_eq_true', decide_eq_false_iff_not, Int.reduceToNat, Int.reduceLT, Int.reduceLE, Int.reducePow, Int.reduceNeg, Bool.or_true, Bool.true_or, small_emod, small_lit, pow_10_18, and_self, addD, subD, mulD, modD, fdivD, negD, inD_ints, eqB_int, neB_int, ltB, leB, gtB, geB, isNB_none, notNB, isCB, ixD, lenD, absD, ML.intD, listD, tupD, slD, sl3, appD, metO, truD]); repeat ((first | rw [then_nx] | rw [then_rt] | rw [then_bk] | rw [then_ct]); simp only [↓we_seq, ↓we_asg, ↓we_ret, ↓we_retN, ↓we_sIf, ↓we_drop, ↓we_nx, ↓we_brk, ↓we_cnt, ↓we_var, ↓we_C, ↓we_frz, ↓we_hold, ↓we_bin, ↓we_cmp, ↓we_un, ↓we_isi, ↓we_aNil, ↓we_aCons, ↓we_cb, ↓we_tup, ↓we_lst, ↓we_b, ↓we_tru, ↓we_and, ↓we_or, ↓we_not, ↓we_andV, ↓we_orV, ↓we_notV, ↓we_mIf, ↓we_chain, ↓we_set, ↓we_mgSub, ↓we_mgTup, ↓we_mgNil, ↓we_mgCons, ↓we_iR1, ↓we_iR2, ↓we_for, ↓we_mNo, ↓we_part, ↓we_sl, ↓we_ms, ↓we_met, ↓we_call_, ↓we_callIo_, ↓we_lc_, ↓we_iA, ↓we_yes, ↓we_par2, ↓we_par3, wo_some, wo_map, iaK_list, iaK_tuple, iaK_str, parK2_e, parK3_e, rd2, rd1, rd2B, rdN, rdAll, rd, hold, boolO, truO, intO, strO, frzO, retO, isIo_zero, isIo_succ, ioB_no, ioB_frz, ioB_own, ioB_io, le_line, lt_line, contAt, ML.putAt, Sl.cont, Sl.put, outsV, tupO, lstO, bo, noB, rtK_rt, rtK_nx, rtK1_rt, rtK1_nx, List.getElem?_cons_zero, List.getElem?_cons_succ, List.set_cons_zero, List.set_cons_succ, Option.map_some, Option.isSome_some, reduceIte, Bool.false_eq_true, Bool.true_eq_false, if_true, if_false, wipeR, ixN_lit, atI_lit, Option.bind_some, Nat.reduceLT, Nat.reduceLeDiff, ML.pos1, List.length_map, isT, List.map_cons, List.map_nil, List.length_cons, List.length_nil, List.cons_append, List.nil_append, List.append_nil, List.replicate, true_and, and_true, Nat.reduceSub, Nat.reduceAdd, Bool.not_true, Bool.not_false, decide_eq_true_eq, Bool.not_eq_true', decide_eq_false_iff_not, Int.reduceToNat, Int.reduceLT, Int.reduceLE, Int.reducePow, Int.reduceNeg, Bool.or_true, Bool.true_or, small_emod, small_lit, pow_10_18, and_self, addD, subD, mulD, modD, fdivD, negD, inD_ints, eqB_int, neB_int, ltB, leB, gtB, geB, isNB_none, notNB, isCB, ixD, lenD, absD, ML.intD, listD, tupD, slD, sl3, appD, metO, truD])
        exact ⟨_, rfl, _, rfl, .inr (.inr fun x e => by cases e), hc'⟩
    · (try simp only [↓we_seq, ↓we_asg, ↓we_ret, ↓we_retN, ↓we_sIf, ↓we_drop, ↓we_nx, ↓we_brk, ↓we_cnt, ↓we_var, ↓we_C, ↓we_frz, ↓we_hold, ↓we_bin, ↓we_cmp, ↓we_un, ↓we_isi, ↓we_aNil, ↓we_aCons, ↓we_cb, ↓we_tup, ↓we_lst, ↓we_b, ↓we_tru, ↓we_and, ↓we_or, ↓we_not, ↓we_andV, ↓we_orV, ↓we_notV, ↓we_mIf, ↓we_chain, ↓we_set, ↓we_mgSub, ↓we_mgTup, ↓we_mgNil, ↓we_mgCons, ↓we_iR1, ↓we_iR2, ↓we_for, ↓we_mNo, ↓we_part, ↓we_sl, ↓we_ms, ↓we_met, ↓we_call_, ↓we_callIo_, ↓we_lc_, ↓we_iA, ↓we_yes, ↓we_par2, ↓we_par3, wo_some, wo_map, iaK_list, iaK_tuple, iaK_str, parK2_e, parK3_e, rd2, rd1, rd2B, rdN, rdAll, rd, hold, boolO, truO, intO, strO, frzO, retO, isIo_zero, isIo_succ, ioB_no, ioB_frz, ioB_own, ioB_io, le_line, lt_line, contAt, ML.putAt, Sl.cont, Sl.put, outsV, tupO, lstO, bo, noB, rtK_rt, rtK_nx, rtK1_rt, rtK1_nx, List.getElem?_cons_zero, List.getElem?_cons_succ, List.set_cons_zero, List.set_cons_succ, Option.map_some, Option.isSome_some, reduceIte, Bool.false_eq_true, Bool.true_eq_false, if_true, if_false, wipeR, ixN_lit, atI_lit, Option.bind_some, Nat.reduceLT, Nat.reduceLeDiff, ML.pos1, List.length_map, isT, List.map_cons, List.map_nil, List.length_cons, List.length_nil, List.cons_append, List.nil_append, List.append_nil, List.replicate, true_and, and_true, Nat.reduceSub, Nat.reduceAdd, Bool.not_true, Bool.not_false, decide_eq_true_eq, Bool.not_eq_true', decide_eq_false_iff_not, Int.reduceToNat, Int.reduceLT, Int.reduceLE, Int.reducePow, Int.reduceNeg, Bool.or_true, Bool.true_or, small_emod, small_lit, pow_10_18, and_self, addD, subD, mulD, modD, fdivD, negD, inD_ints, eqB_int, neB_int, ltB, leB, gtB, geB, isNB_none, notNB, isCB, ixD, lenD, absD, ML.intD, listD, tupD, slD, sl3, appD, metO, truD]); repeat ((first | rw [then_nx] | rw [then_rt] | rw [then_bk] | rw [then_ct]); simp only [↓we_seq, ↓we_asg, ↓we_ret, ↓we_retN, ↓we_sIf, ↓we_drop, ↓we_nx, ↓we_brk, ↓we_cnt, ↓we_var, ↓we_C, ↓we_frz, ↓we_hold, ↓we_bin, ↓we_cmp, ↓we_un, ↓we_isi, ↓we_aNil, ↓we_aCons, ↓we_cb, ↓we_tup, ↓we_lst, ↓we_b, ↓we_tru, ↓we_and, ↓we_or, ↓we_not, ↓we_andV, ↓we_orV, ↓we_notV, ↓we_mIf, ↓we_chain, ↓we_set, ↓we_mgSub, ↓we_mgTup, ↓we_mgNil, ↓we_mgCons, ↓we_iR1, ↓we_iR2, ↓we_for, ↓we_mNo, ↓we_part, ↓we_sl, ↓we_ms, ↓we_met, ↓we_call_, ↓we_callIo_, ↓we_lc_, ↓we_iA, ↓we_yes, ↓we_par2, ↓we_par3, wo_some, wo_map, iaK_list, iaK_tuple, iaK_str, parK2_e, parK3_e, rd2, rd1, rd2B, rdN, rdAll, rd, hold, boolO, truO, intO, strO, frzO, retO, isIo_zero, isIo_succ, ioB_no, ioB_frz, ioB_own, ioB_io, le_line, lt_line, contAt, ML.putAt, Sl.cont, Sl.put, outsV, tupO, lstO, bo, noB, rtK_rt, rtK_nx, rtK1_rt, rtK1_nx, List.getElem?_cons_zero, List.getElem?_cons_succ, List.set_cons_zero, List.set_cons_succ, Option.map_some, Option.isSome_some, reduceIte, Bool.false_eq_true, Bool.true_eq_false, if_true, if_false, wipeR, ixN_lit, atI_lit, Option.bind_some, Nat.reduceLT, Nat.reduceLeDiff, ML.pos1, List.length_map, isT, List.map_cons, List.map_nil, List.length_cons, List.length_nil, List.cons_append, List.nil_append, List.append_nil, List.replicate, true_and, and_true, Nat.reduceSub, Nat.reduceAdd, Bool.not_true, Bool.not_false, decide_eq_true_eq, Bool.not_eq_true', decide_eq_false_iff_not, Int.reduceToNat, Int.reduceLT, Int.reduceLE, Int.reducePow, Int.reduceNeg, Bool.or_true, Bool.true_or, small_emod, small_lit, pow_10_18, and_self, addD, subD, mulD, modD, fdivD, negD, inD_ints, eqB_int, neB_int, ltB, leB, gtB, geB, isNB_none, notNB, isCB, ixD, lenD, absD, ML.intD, listD, tupD, slD, sl3, appD, metO, truD])
      exact ⟨_, rfl, _, rfl, .inr (.inr fun x e => by cases e), hc⟩
  · have all6 : ∀ x ∈ ([.list ys, .none, .int 0, .str "0", .str "00", .tuple [.tuple ys]] : List D), okW x := by
      refine all_cons ?_ (all_cons ?_ (all_cons ?_ (all_cons ?_ (all_cons ?_ (all_cons ?_ all_nil)))))
      · exact .inr (.inr fun x e => by cases e)
      · exact .inr (.inr fun x e => by cases e)
      · exact .inr (.inr fun x e => by cases e)
      · exact .inl rfl
      · exact .inr (.inl rfl)
      · exact .inr (.inr fun x e => by cases e)
    (try simp only [↓we_seq, ↓we_asg, ↓we_ret, ↓we_retN, ↓we_sIf, ↓we_drop, ↓we_nx, ↓we_brk, ↓we_cnt, ↓we_var, ↓we_C, ↓we_frz, ↓we_hold, ↓we_bin, ↓we_cmp, ↓we_un, ↓we_isi, ↓we_aNil, ↓we_aCons, ↓we_cb, ↓we_tup, ↓we_lst, ↓we_b, ↓we_tru, ↓we_and, ↓we_or, ↓we_not, ↓we_andV, ↓we_orV, ↓we_notV, ↓we_mIf, ↓we_chain, ↓we_set, ↓we_mgSub, ↓we_mgTup, ↓we_mgNil, ↓we_mgCons, ↓we_iR1, ↓we_iR2, ↓we_for, ↓we_mNo, ↓we_part, ↓we_sl, ↓we_ms, ↓we_met, ↓we_call_, ↓we_callIo_, ↓we_lc_, ↓we_iA, ↓we_yes, ↓we_par2, ↓we_par3, wo_some, wo_map, iaK_list, iaK_tuple, iaK_str, parK2_e, parK3_e, rd2, rd1, rd2B, rdN, rdAll, rd, hold, boolO, truO, intO, strO, frzO, retO, isIo_zero, isIo_succ, ioB_no, ioB_frz, ioB_own, ioB_io, le_line, lt_line, contAt, ML.putAt, Sl.cont, Sl.put, outsV, tupO, lstO, bo, noB, rtK_rt, rtK_nx, rtK1_rt, rtK1_nx, List.getElem?_cons_zero, List.getElem?_cons_succ, List.set_cons_zero, List.set_cons_succ, Option.map_some, Option.isSome_some, reduceIte, Bool.false_eq_true, Bool.true_eq_false, if_true, if_false, wipeR, ixN_lit, atI_lit, Option.bind_some, Nat.reduceLT, Nat.reduceLeDiff, ML.pos1, List.length_map, isT, List.map_cons, List.map_nil, List.length_cons, List.length_nil, List.cons_append, List.nil_append, List.append_nil, List.replicate, true_and, and_true, Nat.reduceSub, Nat.reduceAdd, Bool.not_true, Bool.not_false, decide_eq_true_eq, Bool.not_eq_true', decide_eq_false_iff_not, Int.reduceToNat, Int.reduceLT, Int.reduceLE, Int.reducePow, Int.reduceNeg, Bool.or_true, Bool.true_or, small_emod, small_lit, pow_10_18, and_self, addD, subD, mulD, modD, fdivD, negD, inD_ints, eqB_int, neB_int, ltB, leB, gtB, geB, isNB_none, notNB, isCB, ixD, lenD, absD, ML.intD, listD, tupD, slD, sl3, appD, metO, truD])
    split
    · refine we_callIo (draw_ok hc (n := 2) (by decide) (by decide)) rfl rfl rfl ?_
      rintro r c' - ⟨j, rfl, j0, j1, hc'⟩
      (try simp only [↓we_seq, ↓we_asg, ↓we_ret, ↓we_retN, ↓we_sIf, ↓we_drop, ↓we_nx, ↓we_brk, ↓we_cnt, ↓we_var, ↓we_C, ↓we_frz, ↓we_hold, ↓we_bin, ↓we_cmp, ↓we_un, ↓we_isi, ↓we_aNil, ↓we_aCons, ↓we_cb, ↓we_tup, ↓we_lst, ↓we_b, ↓we_tru, ↓we_and, ↓we_or, ↓we_not, ↓we_andV, ↓we_orV, ↓we_notV, ↓we_mIf, ↓we_chain, ↓we_set, ↓we_mgSub, ↓we_mgTup, ↓we_mgNil, ↓we_mgCons, ↓we_iR1, ↓we_iR2, ↓we_for, ↓we_mNo, ↓we_part, ↓we_sl, ↓we_ms, ↓we_met, ↓we_call_, ↓we_callIo_, ↓we_lc_, ↓we_iA, ↓we_yes, ↓we_par2, ↓we_par3, wo_some, wo_map, iaK_list, iaK_tuple, iaK_str, parK2_e, parK3_e, rd2, rd1, rd2B, rdN, rdAll, rd, hold, boolO, truO, intO, strO, frzO, retO, isIo_zero, isIo_succ, ioB_no, ioB_frz, ioB_own, ioB_io, le_line, lt_line, contAt, ML.putAt, Sl.cont, Sl.put, outsV, tupO, lstO, bo, noB, rtK_rt, rtK_nx, rtK1_rt, rtK1_nx, List.getElem?_cons_zero, List.getElem?_cons_succ, List.set_cons_zero, List.set_cons_succ, Option.map_some, Option.isSome_some, reduceIte, Bool.false_eq_true, Bool.true_eq_false, if_true, if_false, wipeR, ixN_lit, atI_lit, Option.bind_some, Nat.reduceLT, Nat.reduceLeDiff, ML.pos1, List.length_map, isT, List.map_cons, List.map_nil, List.length_cons, List.length_nil, List.cons_append, List.nil_append, List.append_nil, List.replicate, true_and, and_true, Nat.reduceSub, Nat.reduceAdd, Bool.not_true, Bool.not_false, decide_eq_true_eq, Bool.not_eq_true', decide_eq_false_iff_not, Int.reduceToNat, Int.reduceLT, Int.reduceLE, Int.reducePow, Int.reduceNeg, Bool.or_true, Bool.true_or, small_emod, small_lit, pow_10_18, and_self, addD, subD, mulD, modD, fdivD, negD, inD_ints, eqB_int, neB_int, ltB, leB, gtB, geB, isNB_none, notNB, isCB, ixD, lenD, absD, ML.intD, listD, tupD, slD, sl3, appD, metO, truD])
      split
      · refine we_callIo (draw_ok hc' (n := 6) (by decide) (by decide)) rfl rfl rfl ?_
        rintro r c' - ⟨j, rfl, j0, j1, hc'⟩
        (try simp only [↓we_seq, ↓we_asg, ↓we_ret, ↓we_retN, ↓we_sIf, ↓we_drop, ↓we_nx, ↓we_brk, ↓we_cnt, ↓we_var, ↓we_C, ↓we_frz, ↓we_hold, ↓we_bin, ↓we_cmp, ↓we_un, ↓we_isi, ↓we_aNil, ↓we_aCons, ↓we_cb, ↓we_tup, ↓we_lst, ↓we_b, ↓we_tru, ↓we_and, ↓we_or, ↓we_not, ↓we_andV, ↓we_orV, ↓we_notV, ↓we_mIf, ↓we_chain, ↓we_set, ↓we_mgSub, ↓we_mgTup, ↓we_mgNil, ↓we_mgCons, ↓we_iR1, ↓we_iR2, ↓we_for, ↓we_mNo, ↓we_part, ↓we_sl, ↓we_ms, ↓we_met, ↓we_call_, ↓we_callIo_, ↓we_lc_, ↓we_iA, ↓we_yes, ↓we_par2, ↓we_par3, wo_some, wo_map, iaK_list, iaK_tuple, iaK_str, parK2_e, parK3_e, rd2, rd1, rd2B, rdN, rdAll, rd, hold, boolO, truO, intO, strO, frzO, retO, isIo_zero, isIo_succ, ioB_no, ioB_frz, ioB_own, ioB_io, le_line, lt_line, contAt, ML.putAt, Sl.cont, Sl.put, outsV, tupO, lstO, bo, noB, rtK_rt, rtK_nx, rtK1_rt, rtK1_nx, List.getElem?_cons_zero, List.getElem?_cons_succ, List.set_cons_zero, List.set_cons_succ, Option.map_some, Option.isSome_some, reduceIte, Bool.false_eq_true, Bool.true_eq_false, if_true, if_false, wipeR, ixN_lit, atI_lit, Option.bind_some, Nat.reduceLT, Nat.reduceLeDiff, ML.pos1, List.length_map, isT, List.map_cons, List.map_nil, List.length_cons, List.length_nil, List.cons_append, List.nil_append, List.append_nil, List.replicate, true_and, and_true, Nat.reduceSub, Nat.reduceAdd, Bool.not_true, Bool.not_false, decide_eq_true_eq, Bool.not_eq_true', decide_eq_false_iff_not, Int.reduceToNat, Int.reduceLT, Int.reduceLE, Int.reducePow, Int.reduceNeg, Bool.or_true, Bool.true_or, small_emod, small_lit, pow_10_18, and_self, addD, subD, mulD, modD, fdivD, negD, inD_ints, eqB_int, neB_int, ltB, leB, gtB, geB, isNB_none, notNB, isCB, ixD, lenD, absD, ML.intD, listD, tupD, slD, sl3, appD, metO, truD])
        refine wo_at j0 j1 fun x hx => ?_
        (try simp only [↓we_seq, ↓we_asg, ↓we_ret, ↓we_retN, ↓we_sIf, ↓we_drop, ↓we_nx, ↓we_brk, ↓we_cnt, ↓we_var, ↓we_C, ↓we_frz, ↓we_hold, ↓we_bin, ↓we_cmp, ↓we_un, ↓we_isi, ↓we_aNil, ↓we_aCons, ↓we_cb, ↓we_tup, ↓we_lst, ↓we_b, ↓we_tru, ↓we_and, ↓we_or, ↓we_not, ↓we_andV, ↓we_orV, ↓we_notV, ↓we_mIf, ↓we_chain, ↓we_set, ↓we_mgSub, ↓we_mgTup, ↓we_mgNil, ↓we_mgCons, ↓we_iR1, ↓we_iR2, ↓we_for, ↓we_mNo, ↓we_part, ↓we_sl, ↓we_ms, ↓we_met, ↓we_call_, ↓we_callIo_, ↓we_lc_, ↓we_iA, ↓we_yes, ↓we_par2, ↓we_par3, wo_some, wo_map, iaK_list, iaK_tuple, iaK_str, parK2_e, parK3_e, rd2, rd1, rd2B, rdN, rdAll, rd, hold, boolO, truO, intO, strO, frzO, retO, isIo_zero, isIo_succ, ioB_no, ioB_frz, ioB_own, ioB_io, le_line, lt_line, contAt, ML.putAt, Sl.cont, Sl.put, outsV, tupO, lstO, bo, noB, rtK_rt, rtK_nx, rtK1_rt, rtK1_nx, List.getElem?_cons_zero, List.getElem?_cons_succ, List.set_cons_zero, List.set_cons_succ, Option.map_some, Option.isSome_some, reduceIte, Bool.false_eq_true, Bool.true_eq_false, if_true, if_false, wipeR, ixN_lit, atI_lit, Option.bind_some, Nat.reduceLT, Nat.reduceLeDiff, ML.pos1, List.length_map, isT, List.map_cons, List.map_nil, List.length_cons, List.length_nil, List.cons_append, List.nil_append, List.append_nil, List.replicate, true_and, and_true, Nat.reduceSub, Nat.reduceAdd, Bool.not_true, Bool.not_false, decide_eq_true_eq, Bool.not_eq_true', decide_eq_false_iff_not, Int.reduceToNat, Int.reduceLT, Int.reduceLE, Int.reducePow, Int.reduceNeg, Bool.or_true, Bool.true_or, small_emod, small_lit, pow_10_18, and_self, addD, subD, mulD, modD, fdivD, negD, inD_ints, eqB_int, neB_int, ltB, leB, gtB, geB, isNB_none, notNB, isCB, ixD, lenD, absD, ML.intD, listD, tupD, slD, sl3, appD, metO, truD]); repeat ((first | rw [then_nx] | rw [then_rt] | rw [then_bk] | rw [then_ct]); simp only [↓we_seq, ↓we_asg, ↓we_ret, ↓we_retN, ↓we_sIf, ↓we_drop, ↓we_nx, ↓we_brk, ↓we_cnt, ↓we_var, ↓we_C, ↓we_frz, ↓we_hold, ↓we_bin, ↓we_cmp, ↓we_un, ↓we_isi, ↓we_aNil, ↓we_aCons, ↓we_cb, ↓we_tup, ↓we_lst, ↓we_b, ↓we_tru, ↓we_and, ↓we_or, ↓we_not, ↓we_andV, ↓we_orV, ↓we_notV, ↓we_mIf, ↓we_chain, ↓we_set, ↓we_mgSub, ↓we_mgTup, ↓we_mgNil, ↓we_mgCons, ↓we_iR1, ↓we_iR2, ↓we_for, ↓we_mNo, ↓we_part, ↓we_sl, ↓we_ms, ↓we_met, ↓we_call_, ↓we_callIo_, ↓we_lc_, ↓we_iA, ↓we_yes, ↓we_par2, ↓we_par3, wo_some, wo_map, iaK_list, iaK_tuple, iaK_str, parK2_e, parK3_e, rd2, rd1, rd2B, rdN, rdAll, rd, hold, boolO, truO, intO, strO, frzO, retO, isIo_zero, isIo_succ, ioB_no, ioB_frz, ioB_own, ioB_io, le_line, lt_line, contAt, ML.putAt, Sl.cont, Sl.put, outsV, tupO, lstO, bo, noB, rtK_rt, rtK_nx, rtK1_rt, rtK1_nx, List.getElem?_cons_zero, List.getElem?_cons_succ, List.set_cons_zero, List.set_cons_succ, Option.map_some, Option.isSome_some, reduceIte, Bool.false_eq_true, Bool.true_eq_false, if_true, if_false, wipeR, ixN_lit, atI_lit, Option.bind_some, Nat.reduceLT, Nat.reduceLeDiff, ML.pos1, List.length_map, isT, List.map_cons, List.map_nil, List.length_cons, List.length_nil, List.cons_append, List.nil_append, List.append_nil, List.replicate, true_and, and_true, Nat.reduceSub, Nat.reduceAdd, Bool.not_true, Bool.not_false, decide_eq_true_eq, Bool.not_eq_true', decide_eq_false_iff_not, Int.reduceToNat, Int.reduceLT, Int.reduceLE, Int.reducePow, Int.reduceNeg, Bool.or_true, Bool.true_or, small_emod, small_lit, pow_10_18, and_self, addD, subD, mulD, modD, fdivD, negD, inD_ints, eqB_int, neB_int, ltB, leB, gtB, geB, isNB_none, notNB, isCB, ixD, lenD, absD, ML.intD, listD, tupD, slD, sl3, appD, metO, truD])
        exact ⟨_, rfl, _, rfl, all6 x hx, hc'⟩
      · (try simp only [↓we_seq, ↓we_asg, ↓we_ret, ↓we_retN, ↓we_sIf, ↓we_drop, ↓we_nx, ↓we_brk, ↓we_cnt, ↓we_var, ↓we_C, ↓we_frz, ↓we_hold, ↓we_bin, ↓we_cmp, ↓we_un, ↓we_isi, ↓we_aNil, ↓we_aCons, ↓we_cb, ↓we_tup, ↓we_lst, ↓we_b, ↓we_tru, ↓we_and, ↓we_or, ↓we_not, ↓we_andV, ↓we_orV, ↓we_notV, ↓we_mIf, ↓we_chain, ↓we_set, ↓we_mgSub, ↓we_mgTup, ↓we_mgNil, ↓we_mgCons, ↓we_iR1, ↓we_iR2, ↓we_for, ↓we_mNo, ↓we_part, ↓we_sl, ↓we_ms, ↓we_met, ↓we_call_, ↓we_callIo_, ↓we_lc_, ↓we_iA, ↓we_yes, ↓we_par2, ↓we_par3, wo_some, wo_map, iaK_list, iaK_tuple, iaK_str, parK2_e, parK3_e, rd2, rd1, rd2B, rdN, rdAll, rd, hold, boolO, truO, intO, strO, frzO, retO, isIo_zero, isIo_succ, ioB_no, ioB_frz, ioB_own, ioB_io, le_line, lt_line, contAt, ML.putAt, Sl.cont, Sl.put, outsV, tupO, lstO, bo, noB, rtK_rt, rtK_nx, rtK1_rt, rtK1_nx, List.getElem?_cons_zero, List.getElem?_cons_succ, List.set_cons_zero, List.set_cons_succ, Option.map_some, Option.isSome_some, reduceIte, Bool.false_eq_true, Bool.true_eq_false, if_true, if_false, wipeR, ixN_lit, atI_lit, Option.bind_some, Nat.reduceLT, Nat.reduceLeDiff, ML.pos1, List.length_map, isT, List.map_cons, List.map_nil, List.length_cons, List.length_nil, List.cons_append, List.nil_append, List.append_nil, List.replicate, true_and, and_true, Nat.reduceSub, Nat.reduceAdd, Bool.not_true, Bool.not_false, decide_eq_true_eq, Bool.not_eq_true', decide_eq_false_iff_not, Int.reduceToNat, Int.reduceLT, Int.reduceLE, Int.reducePow, Int.reduceNeg, Bool.or_true, Bool.true_or, small_emod, small_lit, pow_10_18, and_self, addD, subD, mulD, modD, fdivD, negD, inD_ints, eqB_int, neB_int, ltB, leB, gtB, geB, isNB_none, notNB, isCB, ixD, lenD, absD, ML.intD, listD, tupD, slD, sl3, appD, metO, truD]); repeat ((first | rw [then_nx] | rw [then_rt] | rw [then_bk] | rw [then_ct]); simp only [↓we_seq, ↓we_asg, ↓we_ret, ↓we_retN, ↓we_sIf, ↓we_drop, ↓we_nx, ↓we_brk, ↓we_cnt, ↓we_var, ↓we_C, ↓we_frz, ↓we_hold, ↓we_bin, ↓we_cmp, ↓we_un, ↓we_isi, ↓we_aNil, ↓we_aCons, ↓we_cb, ↓we_tup, ↓we_lst, ↓we_b, ↓we_tru, ↓we_and, ↓we_or, ↓we_not, ↓we_andV, ↓we_orV, ↓we_notV, ↓we_mIf, ↓we_chain, ↓we_set, ↓we_mgSub, ↓we_mgTup, ↓we_mgNil, ↓we_mgCons, ↓we_iR1, ↓we_iR2, ↓we_for, ↓we_mNo, ↓we_part, ↓we_sl, ↓we_ms, ↓we_met, ↓we_call_, ↓we_callIo_, ↓we_lc_, ↓we_iA, ↓we_yes, ↓we_par2, ↓we_par3, wo_some, wo_map, iaK_list, iaK_tuple, iaK_str, parK2_e, parK3_e, rd2, rd1, rd2B, rdN, rdAll, rd, hold, boolO, truO, intO, strO, frzO, retO, isIo_zero, isIo_succ, ioB_no, ioB_frz, ioB_own, ioB_io, le_line, lt_line, contAt, ML.putAt, Sl.cont, Sl.put, outsV, tupO, lstO, bo, noB, rtK_rt, rtK_nx, rtK1_rt, rtK1_nx, List.getElem?_cons_zero, List.getElem?_cons_succ, List.set_cons_zero, List.set_cons_succ, Option.map_some, Option.isSome_some, reduceIte, Bool.false_eq_true, Bool.true_eq_false, if_true, if_false, wipeR, ixN_lit, atI_lit, Option.bind_some, Nat.reduceLT, Nat.reduceLeDiff, ML.pos1, List.length_map, isT, List.map_cons, List.map_nil, List.length_cons, List.length_nil, List.cons_append, List.nil_append, List.append_nil, List.replicate, true_and, and_true, Nat.reduceSub, Nat.reduceAdd, Bool.not_true, Bool.not_false, decide_eq_true_eq, Bool.not_eq_true', decide_eq_false_iff_not, Int.reduceToNat, Int.reduceLT, Int.reduceLE, Int.reducePow, Int.reduceNeg, Bool.or_true, Bool.true_or, small_emod, small_lit, pow_10_18, and_self, addD, subD, mulD, modD, fdivD, negD, inD_ints, eqB_int, neB_int, ltB, leB, gtB, geB, isNB_none, notNB, isCB, ixD, lenD, absD, ML.intD, listD, tupD, slD, sl3, appD, metO, truD])
        exact ⟨_, rfl, _, rfl, .inr (.inr fun x e => by cases e), hc'⟩
    · (try simp only [↓we_seq, ↓we_asg, ↓we_ret, ↓we_retN, ↓we_sIf, ↓we_drop, ↓we_nx, ↓we_brk, ↓we_cnt, ↓we_var, ↓we_C, ↓we_frz, ↓we_hold, ↓we_bin, ↓we_cmp, ↓we_un, ↓we_isi, ↓we_aNil, ↓we_aCons, ↓we_cb, ↓we_tup, ↓we_lst, ↓we_b, ↓we_tru, ↓we_and, ↓we_or, ↓we_not, ↓we_andV, ↓we_orV, ↓we_notV, ↓we_mIf, ↓we_chain, ↓we_set, ↓we_mgSub, ↓we_mgTup, ↓we_mgNil, ↓we_mgCons, ↓we_iR1, ↓we_iR2, ↓we_for, ↓we_mNo, ↓we_part, ↓we_sl, ↓we_ms, ↓we_met, ↓we_call_, ↓we_callIo_, ↓we_lc_, ↓we_iA, ↓we_yes, ↓we_par2, ↓we_par3, wo_some, wo_map, iaK_list, iaK_tuple, iaK_str, parK2_e, parK3_e, rd2, rd1, rd2B, rdN, rdAll, rd, hold, boolO, truO, intO, strO, frzO, retO, isIo_zero, isIo_succ, ioB_no, ioB_frz, ioB_own, ioB_io, le_line, lt_line, contAt, ML.putAt, Sl.cont, Sl.put, outsV, tupO, lstO, bo, noB, rtK_rt, rtK_nx, rtK1_rt, rtK1_nx, List.getElem?_cons_zero, List.getElem?_cons_succ, List.set_cons_zero, List.set_cons_succ, Option.map_some, Option.isSome_some, reduceIte, Bool.false_eq_true, Bool.true_eq_false, if_true, if_false, wipeR, ixN_lit, atI_lit, Option.bind_some, Nat.reduceLT, Nat.reduceLeDiff, ML.pos1, List.length_map, isT, List.map_cons, List.map_nil, List.length_cons, List.length_nil, List.cons_append, List.nil_append, List.append_nil, List.replicate, true_and, and_true, Nat.reduceSub, Nat.reduceAdd, Bool.not_true, Bool.not_false, decide_eq_true_eq, Bool.not_eq_true', decide_eq_false_iff_not, Int.reduceToNat, Int.reduceLT, Int.reduceLE, Int.reducePow, Int.reduceNeg, Bool.or_true, Bool.true_or, small_emod, small_lit, pow_10_18, and_self, addD, subD, mulD, modD, fdivD, negD, inD_ints, eqB_int, neB_int, ltB, leB, gtB, geB, isNB_none, notNB, isCB, ixD, lenD, absD, ML.intD, listD, tupD, slD, sl3, appD, metO, truD]); repeat ((first | rw [then_nx] | rw [then_rt] | rw [then_bk] | rw [then_ct]); simp only [↓we_seq, ↓we_asg, ↓we_ret, ↓we_retN, ↓we_sIf, ↓we_drop, ↓we_nx, ↓we_brk, ↓we_cnt, ↓we_var, ↓we_C, ↓we_frz, ↓we_hold, ↓we_bin, ↓we_cmp, ↓we_un, ↓we_isi, ↓we_aNil, ↓we_aCons, ↓we_cb, ↓we_tup, ↓we_lst, ↓we_b, ↓we_tru, ↓we_and, ↓we_or, ↓we_not, ↓we_andV, ↓we_orV, ↓we_notV, ↓we_mIf, ↓we_chain, ↓we_set, ↓we_mgSub, ↓we_mgTup, ↓we_mgNil, ↓we_mgCons, ↓we_iR1, ↓we_iR2, ↓we_for, ↓we_mNo, ↓we_part, ↓we_sl, ↓we_ms, ↓we_met, ↓we_call_, ↓we_callIo_, ↓we_lc_, ↓we_iA, ↓we_yes, ↓we_par2, ↓we_par3, wo_some, wo_map, iaK_list, iaK_tuple, iaK_str, parK2_e, parK3_e, rd2, rd1, rd2B, rdN, rdAll, rd, hold, boolO, truO, intO, strO, frzO, retO, isIo_zero, isIo_succ, ioB_no, ioB_frz, ioB_own, ioB_io, le_line, lt_line, contAt, ML.putAt, Sl.cont, Sl.put, outsV, tupO, lstO, bo, noB, rtK_rt, rtK_nx, rtK1_rt, rtK1_nx, List.getElem?_cons_zero, List.getElem?_cons_succ, List.set_cons_zero, List.set_cons_succ, Option.map_some, Option.isSome_some, reduceIte, Bool.false_eq_true, Bool.true_eq_false, if_true, if_false, wipeR, ixN_lit, atI_lit, Option.bind_some, Nat.reduceLT, Nat.reduceLeDiff, ML.pos1, List.length_map, isT, List.map_cons, List.map_nil, List.length_cons, List.length_nil, List.cons_append, List.nil_append, List.append_nil, List.replicate, true_and, and_true, Nat.reduceSub, Nat.reduceAdd, Bool.not_true, Bool.not_false, decide_eq_true_eq, Bool.not_eq_true', decide_eq_false_iff_not, Int.reduceToNat, Int.reduceLT, Int.reduceLE, Int.reducePow, Int.reduceNeg, Bool.or_true, Bool.true_or, small_emod, small_lit, pow_10_18, and_self, addD, subD, mulD, modD, fdivD, negD, inD_ints, eqB_int, neB_int, ltB, leB, gtB, geB, isNB_none, notNB, isCB, ixD, lenD, absD, ML.intD, listD, tupD, slD, sl3, appD, metO, truD])
      exact ⟨_, rfl, _, rfl, .inr (.inr fun x e => by cases e), hc⟩
def tupLen (n : Nat) (d : D) : Prop := ∃ xs : List D, d = .tuple xs ∧ xs.length = n
theorem rows_ok {c : List D} {v : Int} (hc : Dk c) (h0 : 0 < v) (h1 : v ≤ 1000) : F1 m__law_rows c [.int v] (fun r c' => ∃ d, r = .v d ∧ Dk c') := by
  refine F1.def_ ?_
  (try simp only [↓we_seq, ↓we_asg, ↓we_ret, ↓we_retN, ↓we_sIf, ↓we_drop, ↓we_nx, ↓we_brk, ↓we_cnt, ↓we_var, ↓we_C, ↓we_frz, ↓we_hold, ↓we_bin, ↓we_cmp, ↓we_un, ↓we_isi, ↓we_aNil, ↓we_aCons, ↓we_cb, ↓we_tup, ↓we_lst, ↓we_b, ↓we_tru, ↓we_and, ↓we_or, ↓we_not, ↓we_andV, ↓we_orV, ↓we_notV, ↓we_mIf, ↓we_chain, ↓we_set, ↓we_mgSub, ↓we_mgTup, ↓we_mgNil, ↓we_mgCons, ↓we_iR1, ↓we_iR2, ↓we_for, ↓we_mNo, ↓we_part, ↓we_sl, ↓we_ms, ↓we_met, ↓we_call_, ↓we_callIo_, ↓we_lc_, ↓we_iA, ↓we_yes, ↓we_par2, ↓we_par3, wo_some, wo_map, iaK_list, iaK_tuple, iaK_str, parK2_e, parK3_e, rd2, rd1, rd2B, rdN, rdAll, rd, hold, boolO, truO, intO, strO, frzO, retO, isIo_zero, isIo_succ, ioB_no, ioB_frz, ioB_own, ioB_io, le_line, lt_line, contAt, ML.putAt, Sl.cont, Sl.put, outsV, tupO, lstO, bo, noB, rtK_rt, rtK_nx, rtK1_rt, rtK1_nx, List.getElem?_cons_zero, List.getElem?_cons_succ, List.set_cons_zero, List.set_cons_succ, Option.map_some, Option.isSome_some, reduceIte, Bool.false_eq_true, Bool.true_eq_false, if_true, if_false, wipeR, ixN_lit, atI_lit, Option.bind_some, Nat.reduceLT, Nat.reduceLeDiff, ML.pos1, List.length_map, isT, List.map_cons, List.map_nil, List.length_cons, List.length_nil, List.cons_append, List.nil_append, List.append_nil, List.replicate, true_and, and_true, Nat.reduceSub, Nat.reduceAdd, Bool.not_true, Bool.not_false, decide_eq_true_eq, Bool.not_eq_true', decide_eq_false_iff_not, Int.reduceToNat, Int.reduceLT, Int.reduceLE, Int.reducePow, Int.reduceNeg, Bool.or_true, Bool.true_or, small_emod, small_lit, pow_10_18, and_self, addD, subD, mulD, modD, fdivD, negD, inD_ints, eqB_int, neB_int, ltB, leB, gtB, geB, isNB_none, notNB, isCB, ixD, lenD, absD, ML.intD, listD, tupD, slD, sl3, appD, metO, truD]); repeat ((first | rw [then_nx] | rw [then_rt] | rw [then_bk] | rw [then_ct]); simp only [↓we_seq, ↓we_asg, ↓we_ret, ↓we_retN, ↓we_sIf, ↓we_drop, ↓we_nx, ↓we_brk, ↓we_cnt, ↓we_var, ↓we_C, ↓we_frz, ↓we_hold, ↓we_bin, ↓we_cmp, ↓we_un, ↓we_isi, ↓we_aNil, ↓we_aCons, ↓we_cb, ↓we_tup, ↓we_lst, ↓we_b, ↓we_tru, ↓we_and, ↓we_or, ↓we_not, ↓we_andV, ↓we_orV, ↓we_notV, ↓we_mIf, ↓we_chain, ↓we_set, ↓we_mgSub, ↓we_mgTup, ↓we_mgNil, ↓we_mgCons, ↓we_iR1, ↓we_iR2, ↓we_for, ↓we_mNo, ↓we_part, ↓we_sl, ↓we_ms, ↓we_met, ↓we_call_, ↓we_callIo_, ↓we_lc_, ↓we_iA, ↓we_yes, ↓we_par2, ↓we_par3, wo_some, wo_map, iaK_list, iaK_tuple, iaK_str, parK2_e, parK3_e, rd2, rd1, rd2B, rdN, rdAll, rd, hold, boolO, truO, intO, strO, frzO, retO, isIo_zero, isIo_succ, ioB_no, ioB_frz, ioB_own, ioB_io, le_line, lt_line, contAt, ML.putAt, Sl.cont, Sl.put, outsV, tupO, lstO, bo, noB, rtK_rt, rtK_nx, rtK1_rt, rtK1_nx, List.getElem?_cons_zero, List.getElem?_cons_succ, List.set_cons_zero, List.set_cons_succ, Option.map_some, Option.isSome_some, reduceIte, Bool.false_eq_true, Bool.true_eq_false, if_true, if_false, wipeR, ixN_lit, atI_lit, Option.bind_some, Nat.reduceLT, Nat.reduceLeDiff, ML.pos1, List.length_map, isT, List.map_cons, List.map_nil, List.length_cons, List.length_nil, List.cons_append, List.nil_append, List.append_nil, List.replicate, true_and, and_true, Nat.reduceSub, Nat.reduceAdd, Bool.not_true, Bool.not_false, decide_eq_true_eq, Bool.not_eq_true', decide_eq_false_iff_not, Int.reduceToNat, Int.reduceLT, Int.reduceLE, Int.reducePow, Int.reduceNeg, Bool.or_true, Bool.true_or, small_emod, small_lit, pow_10_18, and_self, addD, subD, mulD, modD, fdivD, negD, inD_ints, eqB_int, neB_int, ltB, leB, gtB, geB, isNB_none, notNB, isCB, ixD, lenD, absD, ML.intD, listD, tupD, slD, sl3, appD, metO, truD])
  refine wo_rg1 (by omega) (by omega) ?_
  (try simp only [↓we_seq, ↓we_asg, ↓we_ret, ↓we_retN, ↓we_sIf, ↓we_drop, ↓we_nx, ↓we_brk, ↓we_cnt, ↓we_var, ↓we_C, ↓we_frz, ↓we_hold, ↓we_bin, ↓we_cmp, ↓we_un, ↓we_isi, ↓we_aNil, ↓we_aCons, ↓we_cb, ↓we_tup, ↓we_lst, ↓we_b, ↓we_tru, ↓we_and, ↓we_or, ↓we_not, ↓we_andV, ↓we_orV, ↓we_notV, ↓we_mIf, ↓we_chain, ↓we_set, ↓we_mgSub, ↓we_mgTup, ↓we_mgNil, ↓we_mgCons, ↓we_iR1, ↓we_iR2, ↓we_for, ↓we_mNo, ↓we_part, ↓we_sl, ↓we_ms, ↓we_met, ↓we_call_, ↓we_callIo_, ↓we_lc_, ↓we_iA, ↓we_yes, ↓we_par2, ↓we_par3, wo_some, wo_map, iaK_list, iaK_tuple, iaK_str, parK2_e, parK3_e, rd2, rd1, rd2B, rdN, rdAll, rd, hold, boolO, truO, intO, strO, frzO, retO, isIo_zero, isIo_succ, ioB_no, ioB_frz, ioB_own, ioB_io, le_line, lt_line, contAt, ML.putAt, Sl.cont, Sl.put, outsV, tupO, lstO, bo, noB, rtK_rt, rtK_nx, rtK1_rt, rtK1_nx, List.getElem?_cons_zero, List.getElem?_cons_succ, List.set_cons_zero, List.set_cons_succ, Option.map_some, Option.isSome_some, reduceIte, Bool.false_eq_true, Bool.true_eq_false, if_true, if_false, wipeR, ixN_lit, atI_lit, Option.bind_some, Nat.reduceLT, Nat.reduceLeDiff, ML.pos1, List.length_map, isT, List.map_cons, List.map_nil, List.length_cons, List.length_nil, List.cons_append, List.nil_append, List.append_nil, List.replicate, true_and, and_true, Nat.reduceSub, Nat.reduceAdd, Bool.not_true, Bool.not_false, decide_eq_true_eq, Bool.not_eq_true', decide_eq_false_iff_not, Int.reduceToNat, Int.reduceLT, Int.reduceLE, Int.reducePow, Int.reduceNeg, Bool.or_true, Bool.true_or, small_emod, small_lit, pow_10_18, and_self, addD, subD, mulD, modD, fdivD, negD, inD_ints, eqB_int, neB_int, ltB, leB, gtB, geB, isNB_none, notNB, isCB, ixD, lenD, absD, ML.intD, listD, tupD, slD, sl3, appD, metO, truD]); repeat ((first | rw [then_nx] | rw [then_rt] | rw [then_bk] | rw [then_ct]); simp only [↓we_seq, ↓we_asg, ↓we_ret, ↓we_retN, ↓we_sIf, ↓we_drop, ↓we_nx, ↓we_brk, ↓we_cnt, ↓we_var, ↓we_C, ↓we_frz, ↓we_hold, ↓we_bin, ↓we_cmp, ↓we_un, ↓we_isi, ↓we_aNil, ↓we_aCons, ↓we_cb, ↓we_tup, ↓we_lst, ↓we_b, ↓we_tru, ↓we_and, ↓we_or, ↓we_not, ↓we_andV, ↓we_orV, ↓we_notV, ↓we_mIf, ↓we_chain, ↓we_set, ↓we_mgSub, ↓we_mgTup, ↓we_mgNil, ↓we_mgCons, ↓we_iR1, ↓we_iR2, ↓we_for, ↓we_mNo, ↓we_part, ↓we_sl, ↓we_ms, ↓we_met, ↓we_call_, ↓we_callIo_, ↓we_lc_, ↓we_iA, ↓we_yes, ↓we_par2, ↓we_par3, wo_some, wo_map, iaK_list, iaK_tuple, iaK_str, parK2_e, parK3_e, rd2, rd1, rd2B, rdN, rdAll, rd, hold, boolO, truO, intO, strO, frzO, retO, isIo_zero, isIo_succ, ioB_no, ioB_frz, ioB_own, ioB_io, le_line, lt_line, contAt, ML.putAt, Sl.cont, Sl.put, outsV, tupO, lstO, bo, noB, rtK_rt, rtK_nx, rtK1_rt, rtK1_nx, List.getElem?_cons_zero, List.getElem?_cons_succ, List.set_cons_zero, List.set_cons_succ, Option.map_some, Option.isSome_some, reduceIte, Bool.false_eq_true, Bool.true_eq_false, if_true, if_false, wipeR, ixN_lit, atI_lit, Option.bind_some, Nat.reduceLT, Nat.reduceLeDiff, ML.pos1, List.length_map, isT, List.map_cons, List.map_nil, List.length_cons, List.length_nil, List.cons_append, List.nil_append, List.append_nil, List.replicate, true_and, and_true, Nat.reduceSub, Nat.reduceAdd, Bool.not_true, Bool.not_false, decide_eq_true_eq, Bool.not_eq_true', decide_eq_false_iff_not, Int.reduceToNat, Int.reduceLT, Int.reduceLE, Int.reducePow, Int.reduceNeg, Bool.or_true, Bool.true_or, small_emod, small_lit, pow_10_18, and_self, addD, subD, mulD, modD, fdivD, negD, inD_ints, eqB_int, neB_int, ltB, leB, gtB, geB, isNB_none, notNB, isCB, ixD, lenD, absD, ML.intD, listD, tupD, slD, sl3, appD, metO, truD])
  refine we_lc (fun ρ => ∃ c, Dk c ∧ ρ = [.io c, .frz (.int v), .no, .no, .no, .no, .no]) (fun _ y => tupLen v.toNat y) ?_ ⟨c, hc, rfl⟩ (by rw [rgD_len, le_line]; omega) ?_
  · rintro d - ρ ⟨c, hc, rfl⟩
    (try simp only [↓we_seq, ↓we_asg, ↓we_ret, ↓we_retN, ↓we_sIf, ↓we_drop, ↓we_nx, ↓we_brk, ↓we_cnt, ↓we_var, ↓we_C, ↓we_frz, ↓we_hold, ↓we_bin, ↓we_cmp, ↓we_un, ↓we_isi, ↓we_aNil, ↓we_aCons, ↓we_cb, ↓we_tup, ↓we_lst, ↓we_b, ↓we_tru, ↓we_and, ↓we_or, ↓we_not, ↓we_andV, ↓we_orV, ↓we_notV, ↓we_mIf, ↓we_chain, ↓we_set, ↓we_mgSub, ↓we_mgTup, ↓we_mgNil, ↓we_mgCons, ↓we_iR1, ↓we_iR2, ↓we_for, ↓we_mNo, ↓we_part, ↓we_sl, ↓we_ms, ↓we_met, ↓we_call_, ↓we_callIo_, ↓we_lc_, ↓we_iA, ↓we_yes, ↓we_par2, ↓we_par3, wo_some, wo_map, iaK_list, iaK_tuple, iaK_str, parK2_e, parK3_e, rd2, rd1, rd2B, rdN, rdAll, rd, hold, boolO, truO, intO, strO, frzO, retO, isIo_zero, isIo_succ, ioB_no, ioB_frz, ioB_own, ioB_io, le_line, lt_line, contAt, ML.putAt, Sl.cont, Sl.put, outsV, tupO, lstO, bo, noB, rtK_rt, rtK_nx, rtK1_rt, rtK1_nx, List.getElem?_cons_zero, List.getElem?_cons_succ, List.set_cons_zero, List.set_cons_succ, Option.map_some, Option.isSome_some, reduceIte, Bool.false_eq_true, Bool.true_eq_false, if_true, if_false, wipeR, ixN_lit, atI_lit, Option.bind_some, Nat.reduceLT, Nat.reduceLeDiff, ML.pos1, List.length_map, isT, List.map_cons, List.map_nil, List.length_cons, List.length_nil, List.cons_append, List.nil_append, List.append_nil, List.replicate, true_and, and_true, Nat.reduceSub, Nat.reduceAdd, Bool.not_true, Bool.not_false, decide_eq_true_eq, Bool.not_eq_true', decide_eq_false_iff_not, Int.reduceToNat, Int.reduceLT, Int.reduceLE, Int.reducePow, Int.reduceNeg, Bool.or_true, Bool.true_or, small_emod, small_lit, pow_10_18, and_self, addD, subD, mulD, modD, fdivD, negD, inD_ints, eqB_int, neB_int, ltB, leB, gtB, geB, isNB_none, notNB, isCB, ixD, lenD, absD, ML.intD, listD, tupD, slD, sl3, appD, metO, truD, compK]); repeat ((first | rw [then_nx] | rw [then_rt] | rw [then_bk] | rw [then_ct]); simp only [↓we_seq, ↓we_asg, ↓we_ret, ↓we_retN, ↓we_sIf, ↓we_drop, ↓we_nx, ↓we_brk, ↓we_cnt, ↓we_var, ↓we_C, ↓we_frz, ↓we_hold, ↓we_bin, ↓we_cmp, ↓we_un, ↓we_isi, ↓we_aNil, ↓we_aCons, ↓we_cb, ↓we_tup, ↓we_lst, ↓we_b, ↓we_tru, ↓we_and, ↓we_or, ↓we_not, ↓we_andV, ↓we_orV, ↓we_notV, ↓we_mIf, ↓we_chain, ↓we_set, ↓we_mgSub, ↓we_mgTup, ↓we_mgNil, ↓we_mgCons, ↓we_iR1, ↓we_iR2, ↓we_for, ↓we_mNo, ↓we_part, ↓we_sl, ↓we_ms, ↓we_met, ↓we_call_, ↓we_callIo_, ↓we_lc_, ↓we_iA, ↓we_yes, ↓we_par2, ↓we_par3, wo_some, wo_map, iaK_list, iaK_tuple, iaK_str, parK2_e, parK3_e, rd2, rd1, rd2B, rdN, rdAll, rd, hold, boolO, truO, intO, strO, frzO, retO, isIo_zero, isIo_succ, ioB_no, ioB_frz, ioB_own, ioB_io, le_line, lt_line, contAt, ML.putAt, Sl.cont, Sl.put, outsV, tupO, lstO, bo, noB, rtK_rt, rtK_nx, rtK1_rt, rtK1_nx, List.getElem?_cons_zero, List.getElem?_cons_succ, List.set_cons_zero, List.set_cons_succ, Option.map_some, Option.isSome_some, reduceIte, Bool.false_eq_true, Bool.true_eq_false, if_true, if_false, wipeR, ixN_lit, atI_lit, Option.bind_some, Nat.reduceLT, Nat.reduceLeDiff, ML.pos1, List.length_map, isT, List.map_cons, List.map_nil, List.length_cons, List.length_nil, List.cons_append, List.nil_append, List.append_nil, List.replicate, true_and, and_true, Nat.reduceSub, Nat.reduceAdd, Bool.not_true, Bool.not_false, decide_eq_true_eq, Bool.not_eq_true', decide_eq_false_iff_not, Int.reduceToNat, Int.reduceLT, Int.reduceLE, Int.reducePow, Int.reduceNeg, Bool.or_true, Bool.true_or, small_emod, small_lit, pow_10_18, and_self, addD, subD, mulD, modD, fdivD, negD, inD_ints, eqB_int, neB_int, ltB, leB, gtB, geB, isNB_none, notNB, isCB, ixD, lenD, absD, ML.intD, listD, tupD, slD, sl3, appD, metO, truD, compK]);
    refine wo_rg1 (by omega) (by omega) ?_
    (try simp only [↓we_seq, ↓we_asg, ↓we_ret, ↓we_retN, ↓we_sIf, ↓we_drop, ↓we_nx, ↓we_brk, ↓we_cnt, ↓we_var, ↓we_C, ↓we_frz, ↓we_hold, ↓we_bin, ↓we_cmp, ↓we_un, ↓we_isi, ↓we_aNil, ↓we_aCons, ↓we_cb, ↓we_tup, ↓we_lst, ↓we_b, ↓we_tru, ↓we_and, ↓we_or, ↓we_not, ↓we_andV, ↓we_orV, ↓we_notV, ↓we_mIf, ↓we_chain, ↓we_set, ↓we_mgSub, ↓we_mgTup, ↓we_mgNil, ↓we_mgCons, ↓we_iR1, ↓we_iR2, ↓we_for, ↓we_mNo, ↓we_part, ↓we_sl, ↓we_ms, ↓we_met, ↓we_call_, ↓we_callIo_, ↓we_lc_, ↓we_iA, ↓we_yes, ↓we_par2, ↓we_par3, wo_some, wo_map, iaK_list, iaK_tuple, iaK_str, parK2_e, parK3_e, rd2, rd1, rd2B, rdN, rdAll, rd, hold, boolO, truO, intO, strO, frzO, retO, isIo_zero, isIo_succ, ioB_no, ioB_frz, ioB_own, ioB_io, le_line, lt_line, contAt, ML.putAt, Sl.cont, Sl.put, outsV, tupO, lstO, bo, noB, rtK_rt, rtK_nx, rtK1_rt, rtK1_nx, List.getElem?_cons_zero, List.getElem?_cons_succ, List.set_cons_zero, List.set_cons_succ, Option.map_some, Option.isSome_some, reduceIte, Bool.false_eq_true, Bool.true_eq_false, if_true, if_false, wipeR, ixN_lit, atI_lit, Option.bind_some, Nat.reduceLT, Nat.reduceLeDiff, ML.pos1, List.length_map, isT, List.map_cons, List.map_nil, List.length_cons, List.length_nil, List.cons_append, List.nil_append, List.append_nil, List.replicate, true_and, and_true, Nat.reduceSub, Nat.reduceAdd, Bool.not_true, Bool.not_false, decide_eq_true_eq, Bool.not_eq_true', decide_eq_false_iff_not, Int.reduceToNat, Int.reduceLT, Int.reduceLE, Int.reducePow, Int.reduceNeg, Bool.or_true, Bool.true_or, small_emod, small_lit, pow_10_18, and_self, addD, subD, mulD, modD, fdivD, negD, inD_ints, eqB_int, neB_int, ltB, leB, gtB, geB, isNB_none, notNB, isCB, ixD, lenD, absD, ML.intD, listD, tupD, slD, sl3, appD, metO, truD]); repeat ((first | rw [then_nx] | rw [then_rt] | rw [then_bk] | rw [then_ct]); simp only [↓we_seq, ↓we_asg, ↓we_ret, ↓we_retN, ↓we_sIf, ↓we_drop, ↓we_nx, ↓we_brk, ↓we_cnt, ↓we_var, ↓we_C, ↓we_frz, ↓we_hold, ↓we_bin, ↓we_cmp, ↓we_un, ↓we_isi, ↓we_aNil, ↓we_aCons, ↓we_cb, ↓we_tup, ↓we_lst, ↓we_b, ↓we_tru, ↓we_and, ↓we_or, ↓we_not, ↓we_andV, ↓we_orV, ↓we_notV, ↓we_mIf, ↓we_chain, ↓we_set, ↓we_mgSub, ↓we_mgTup, ↓we_mgNil, ↓we_mgCons, ↓we_iR1, ↓we_iR2, ↓we_for, ↓we_mNo, ↓we_part, ↓we_sl, ↓we_ms, ↓we_met, ↓we_call_, ↓we_callIo_, ↓we_lc_, ↓we_iA, ↓we_yes, ↓we_par2, ↓we_par3, wo_some, wo_map, iaK_list, iaK_tuple, iaK_str, parK2_e, parK3_e, rd2, rd1, rd2B, rdN, rdAll, rd, hold, boolO, truO, intO, strO, frzO, retO, isIo_zero, isIo_succ, ioB_no, ioB_frz, ioB_own, ioB_io, le_line, lt_line, contAt, ML.putAt, Sl.cont, Sl.put, outsV, tupO, lstO, bo, noB, rtK_rt, rtK_nx, rtK1_rt, rtK1_nx, List.getElem?_cons_zero, List.getElem?_cons_succ, List.set_cons_zero, List.set_cons_succ, Option.map_some, Option.isSome_some, reduceIte, Bool.false_eq_true, Bool.true_eq_false, if_true, if_false, wipeR, ixN_lit, atI_lit, Option.bind_some, Nat.reduceLT, Nat.reduceLeDiff, ML.pos1, List.length_map, isT, List.map_cons, List.map_nil, List.length_cons, List.length_nil, List.cons_append, List.nil_append, List.append_nil, List.replicate, true_and, and_true, Nat.reduceSub, Nat.reduceAdd, Bool.not_true, Bool.not_false, decide_eq_true_eq, Bool.not_eq_true', decide_eq_false_iff_not, Int.reduceToNat, Int.reduceLT, Int.reduceLE, Int.reducePow, Int.reduceNeg, Bool.or_true, Bool.true_or, small_emod, small_lit, pow_10_18, and_self, addD, subD, mulD, modD, fdivD, negD, inD_ints, eqB_int, neB_int, ltB, leB, gtB, geB, isNB_none, notNB, isCB, ixD, lenD, absD, ML.intD, listD, tupD, slD, sl3, appD, metO, truD])
    refine we_lc (fun ρ => ∃ c, Dk c ∧ ρ = [.io c, .frz (.int v), .no, .no, .frz d, .no, .no]) (fun _ y => ∃ c : Int, y = .int c) ?_ ⟨c, hc, rfl⟩ (by rw [rgD_len, le_line]; omega) ?_
    · rintro d - ρ ⟨c, hc, rfl⟩
      (try simp only [↓we_seq, ↓we_asg, ↓we_ret, ↓we_retN, ↓we_sIf, ↓we_drop, ↓we_nx, ↓we_brk, ↓we_cnt, ↓we_var, ↓we_C, ↓we_frz, ↓we_hold, ↓we_bin, ↓we_cmp, ↓we_un, ↓we_isi, ↓we_aNil, ↓we_aCons, ↓we_cb, ↓we_tup, ↓we_lst, ↓we_b, ↓we_tru, ↓we_and, ↓we_or, ↓we_not, ↓we_andV, ↓we_orV, ↓we_notV, ↓we_mIf, ↓we_chain, ↓we_set, ↓we_mgSub, ↓we_mgTup, ↓we_mgNil, ↓we_mgCons, ↓we_iR1, ↓we_iR2, ↓we_for, ↓we_mNo, ↓we_part, ↓we_sl, ↓we_ms, ↓we_met, ↓we_call_, ↓we_callIo_, ↓we_lc_, ↓we_iA, ↓we_yes, ↓we_par2, ↓we_par3, wo_some, wo_map, iaK_list, iaK_tuple, iaK_str, parK2_e, parK3_e, rd2, rd1, rd2B, rdN, rdAll, rd, hold, boolO, truO, intO, strO, frzO, retO, isIo_zero, isIo_succ, ioB_no, ioB_frz, ioB_own, ioB_io, le_line, lt_line, contAt, ML.putAt, Sl.cont, Sl.put, outsV, tupO, lstO, bo, noB, rtK_rt, rtK_nx, rtK1_rt, rtK1_nx, List.getElem?_cons_zero, List.getElem?_cons_succ, List.set_cons_zero, List.set_cons_succ, Option.map_some, Option.isSome_some, reduceIte, Bool.false_eq_true, Bool.true_eq_false, if_true, if_false, wipeR, ixN_lit, atI_lit, Option.bind_some, Nat.reduceLT, Nat.reduceLeDiff, ML.pos1, List.length_map, isT, List.map_cons, List.map_nil, List.length_cons, List.length_nil, List.cons_append, List.nil_append, List.append_nil, List.replicate, true_and, and_true, Nat.reduceSub, Nat.reduceAdd, Bool.not_true, Bool.not_false, decide_eq_true_eq, Bool.not_eq_true', decide_eq_false_iff_not, Int.reduceToNat, Int.reduceLT, Int.reduceLE, Int.reducePow, Int.reduceNeg, Bool.or_true, Bool.true_or, small_emod, small_lit, pow_10_18, and_self, addD, subD, mulD, modD, fdivD, negD, inD_ints, eqB_int, neB_int, ltB, leB, gtB, geB, isNB_none, notNB, isCB, ixD, lenD, absD, ML.intD, listD, tupD, slD, sl3, appD, metO, truD, compK]); repeat ((first | rw [then_nx] | rw [then_rt] | rw [then_bk] | rw [then_ct]); simp only [↓we_seq, ↓we_asg, ↓we_ret, ↓we_retN, ↓we_sIf, ↓we_drop, ↓we_nx, ↓we_brk, ↓we_cnt, ↓we_var, ↓we_C, ↓we_frz, ↓we_hold, ↓we_bin, ↓we_cmp, ↓we_un, ↓we_isi, ↓we_aNil, ↓we_aCons, ↓we_cb, ↓we_tup, ↓we_lst, ↓we_b, ↓we_tru, ↓we_and, ↓we_or, ↓we_not, ↓we_andV, ↓we_orV, ↓we_notV, ↓we_mIf, ↓we_chain, ↓we_set, ↓we_mgSub, ↓we_mgTup, ↓we_mgNil, ↓we_mgCons, ↓we_iR1, ↓we_iR2, ↓we_for, ↓we_mNo, ↓we_part, ↓we_sl, ↓we_ms, ↓we_met, ↓we_call_, ↓we_callIo_, ↓we_lc_, ↓we_iA, ↓we_yes, ↓we_par2, ↓we_par3, wo_some, wo_map, iaK_list, iaK_tuple, iaK_str, parK2_e, parK3_e, rd2, rd1, rd2B, rdN, rdAll, rd, hold, boolO, truO, intO, strO, frzO, retO, isIo_zero, isIo_succ, ioB_no, ioB_frz, ioB_own, ioB_io, le_line, lt_line, contAt, ML.putAt, Sl.cont, Sl.put, outsV, tupO, lstO, bo, noB, rtK_rt, rtK_nx, rtK1_rt, rtK1_nx, List.getElem?_cons_zero, List.getElem?_cons_succ, List.set_cons_zero, List.set_cons_succ, Option.map_some, Option.isSome_some, reduceIte, Bool.false_eq_true, Bool.true_eq_false, if_true, if_false, wipeR, ixN_lit, atI_lit, Option.bind_some, Nat.reduceLT, Nat.reduceLeDiff, ML.pos1, List.length_map, isT, List.map_cons, List.map_nil, List.length_cons, List.length_nil, List.cons_append, List.nil_append, List.append_nil, List.replicate, true_and, and_true, Nat.reduceSub, Nat.reduceAdd, Bool.not_true, Bool.not_false, decide_eq_true_eq, Bool.not_eq_true', decide_eq_false_iff_not, Int.reduceToNat, Int.reduceLT, Int.reduceLE, Int.reducePow, Int.reduceNeg, Bool.or_true, Bool.true_or, small_emod, small_lit, pow_10_18, and_self, addD, subD, mulD, modD, fdivD, negD, inD_ints, eqB_int, neB_int, ltB, leB, gtB, geB, isNB_none, notNB, isCB, ixD, lenD, absD, ML.intD, listD, tupD, slD, sl3, appD, metO, truD, compK]);
      refine we_callIo (draw_ok hc (n := v) h0 (by omega)) rfl rfl rfl ?_
      rintro r c' - ⟨k, rfl, h0, h1, hc'⟩
      (try simp only [↓we_seq, ↓we_asg, ↓we_ret, ↓we_retN, ↓we_sIf, ↓we_drop, ↓we_nx, ↓we_brk, ↓we_cnt, ↓we_var, ↓we_C, ↓we_frz, ↓we_hold, ↓we_bin, ↓we_cmp, ↓we_un, ↓we_isi, ↓we_aNil, ↓we_aCons, ↓we_cb, ↓we_tup, ↓we_lst, ↓we_b, ↓we_tru, ↓we_and, ↓we_or, ↓we_not, ↓we_andV, ↓we_orV, ↓we_notV, ↓we_mIf, ↓we_chain, ↓we_set, ↓we_mgSub, ↓we_mgTup, ↓we_mgNil, ↓we_mgCons, ↓we_iR1, ↓we_iR2, ↓we_for, ↓we_mNo, ↓we_part, ↓we_sl, ↓we_ms, ↓we_met, ↓we_call_, ↓we_callIo_, ↓we_lc_, ↓we_iA, ↓we_yes, ↓we_par2, ↓we_par3, wo_some, wo_map, iaK_list, iaK_tuple, iaK_str, parK2_e, parK3_e, rd2, rd1, rd2B, rdN, rdAll, rd, hold, boolO, truO, intO, strO, frzO, retO, isIo_zero, isIo_succ, ioB_no, ioB_frz, ioB_own, ioB_io, le_line, lt_line, contAt, ML.putAt, Sl.cont, Sl.put, outsV, tupO, lstO, bo, noB, rtK_rt, rtK_nx, rtK1_rt, rtK1_nx, List.getElem?_cons_zero, List.getElem?_cons_succ, List.set_cons_zero, List.set_cons_succ, Option.map_some, Option.isSome_some, reduceIte, Bool.false_eq_true, Bool.true_eq_false, if_true, if_false, wipeR, ixN_lit, atI_lit, Option.bind_some, Nat.reduceLT, Nat.reduceLeDiff, ML.pos1, List.length_map, isT, List.map_cons, List.map_nil, List.length_cons, List.length_nil, List.cons_append, List.nil_append, List.append_nil, List.replicate, true_and, and_true, Nat.reduceSub, Nat.reduceAdd, Bool.not_true, Bool.not_false, decide_eq_true_eq, Bool.not_eq_true', decide_eq_false_iff_not, Int.reduceToNat, Int.reduceLT, Int.reduceLE, Int.reducePow, Int.reduceNeg, Bool.or_true, Bool.true_or, small_emod, small_lit, pow_10_18, and_self, addD, subD, mulD, modD, fdivD, negD, inD_ints, eqB_int, neB_int, ltB, leB, gtB, geB, isNB_none, notNB, isCB, ixD, lenD, absD, ML.intD, listD, tupD, slD, sl3, appD, metO, truD]); repeat ((first | rw [then_nx] | rw [then_rt] | rw [then_bk] | rw [then_ct]); simp only [↓we_seq, ↓we_asg, ↓we_ret, ↓we_retN, ↓we_sIf, ↓we_drop, ↓we_nx, ↓we_brk, ↓we_cnt, ↓we_var, ↓we_C, ↓we_frz, ↓we_hold, ↓we_bin, ↓we_cmp, ↓we_un, ↓we_isi, ↓we_aNil, ↓we_aCons, ↓we_cb, ↓we_tup, ↓we_lst, ↓we_b, ↓we_tru, ↓we_and, ↓we_or, ↓we_not, ↓we_andV, ↓we_orV, ↓we_notV, ↓we_mIf, ↓we_chain, ↓we_set, ↓we_mgSub, ↓we_mgTup, ↓we_mgNil, ↓we_mgCons, ↓we_iR1, ↓we_iR2, ↓we_for, ↓we_mNo, ↓we_part, ↓we_sl, ↓we_ms, ↓we_met, ↓we_call_, ↓we_callIo_, ↓we_lc_, ↓we_iA, ↓we_yes, ↓we_par2, ↓we_par3, wo_some, wo_map, iaK_list, iaK_tuple, iaK_str, parK2_e, parK3_e, rd2, rd1, rd2B, rdN, rdAll, rd, hold, boolO, truO, intO, strO, frzO, retO, isIo_zero, isIo_succ, ioB_no, ioB_frz, ioB_own, ioB_io, le_line, lt_line, contAt, ML.putAt, Sl.cont, Sl.put, outsV, tupO, lstO, bo, noB, rtK_rt, rtK_nx, rtK1_rt, rtK1_nx, List.getElem?_cons_zero, List.getElem?_cons_succ, List.set_cons_zero, List.set_cons_succ, Option.map_some, Option.isSome_some, reduceIte, Bool.false_eq_true, Bool.true_eq_false, if_true, if_false, wipeR, ixN_lit, atI_lit, Option.bind_some, Nat.reduceLT, Nat.reduceLeDiff, ML.pos1, List.length_map, isT, List.map_cons, List.map_nil, List.length_cons, List.length_nil, List.cons_append, List.nil_append, List.append_nil, List.replicate, true_and, and_true, Nat.reduceSub, Nat.reduceAdd, Bool.not_true, Bool.not_false, decide_eq_true_eq, Bool.not_eq_true', decide_eq_false_iff_not, Int.reduceToNat, Int.reduceLT, Int.reduceLE, Int.reducePow, Int.reduceNeg, Bool.or_true, Bool.true_or, small_emod, small_lit, pow_10_18, and_self, addD, subD, mulD, modD, fdivD, negD, inD_ints, eqB_int, neB_int, ltB, leB, gtB, geB, isNB_none, notNB, isCB, ixD, lenD, absD, ML.intD, listD, tupD, slD, sl3, appD, metO, truD])
      exact ⟨⟨_, rfl⟩, _, hc', rfl⟩
    · rintro ys ρ ⟨c, hc, rfl⟩ a
      have hl := a.len
      rw [rgD_len] at hl
      (try simp only [↓we_seq, ↓we_asg, ↓we_ret, ↓we_retN, ↓we_sIf, ↓we_drop, ↓we_nx, ↓we_brk, ↓we_cnt, ↓we_var, ↓we_C, ↓we_frz, ↓we_hold, ↓we_bin, ↓we_cmp, ↓we_un, ↓we_isi, ↓we_aNil, ↓we_aCons, ↓we_cb, ↓we_tup, ↓we_lst, ↓we_b, ↓we_tru, ↓we_and, ↓we_or, ↓we_not, ↓we_andV, ↓we_orV, ↓we_notV, ↓we_mIf, ↓we_chain, ↓we_set, ↓we_mgSub, ↓we_mgTup, ↓we_mgNil, ↓we_mgCons, ↓we_iR1, ↓we_iR2, ↓we_for, ↓we_mNo, ↓we_part, ↓we_sl, ↓we_ms, ↓we_met, ↓we_call_, ↓we_callIo_, ↓we_lc_, ↓we_iA, ↓we_yes, ↓we_par2, ↓we_par3, wo_some, wo_map, iaK_list, iaK_tuple, iaK_str, parK2_e, parK3_e, rd2, rd1, rd2B, rdN, rdAll, rd, hold, boolO, truO, intO, strO, frzO, retO, isIo_zero, isIo_succ, ioB_no, ioB_frz, ioB_own, ioB_io, le_line, lt_line, contAt, ML.putAt, Sl.cont, Sl.put, outsV, tupO, lstO, bo, noB, rtK_rt, rtK_nx, rtK1_rt, rtK1_nx, List.getElem?_cons_zero, List.getElem?_cons_succ, List.set_cons_zero, List.set_cons_succ, Option.map_some, Option.isSome_some, reduceIte, Bool.false_eq_true, Bool.true_eq_false, if_true, if_false, wipeR, ixN_lit, atI_lit, Option.bind_some, Nat.reduceLT, Nat.reduceLeDiff, ML.pos1, List.length_map, isT, List.map_cons, List.map_nil, List.length_cons, List.length_nil, List.cons_append, List.nil_append, List.append_nil, List.replicate, true_and, and_true, Nat.reduceSub, Nat.reduceAdd, Bool.not_true, Bool.not_false, decide_eq_true_eq, Bool.not_eq_true', decide_eq_false_iff_not, Int.reduceToNat, Int.reduceLT, Int.reduceLE, Int.reducePow, Int.reduceNeg, Bool.or_true, Bool.true_or, small_emod, small_lit, pow_10_18, and_self, addD, subD, mulD, modD, fdivD, negD, inD_ints, eqB_int, neB_int, ltB, leB, gtB, geB, isNB_none, notNB, isCB, ixD, lenD, absD, ML.intD, listD, tupD, slD, sl3, appD, metO, truD]); repeat ((first | rw [then_nx] | rw [then_rt] | rw [then_bk] | rw [then_ct]); simp only [↓we_seq, ↓we_asg, ↓we_ret, ↓we_retN, ↓we_sIf, ↓we_drop, ↓we_nx, ↓we_brk, ↓we_cnt, ↓we_var, ↓we_C, ↓we_frz, ↓we_hold, ↓we_bin, ↓we_cmp, ↓we_un, ↓we_isi, ↓we_aNil, ↓we_aCons, ↓we_cb, ↓we_tup, ↓we_lst, ↓we_b, ↓we_tru, ↓we_and, ↓we_or, ↓we_not, ↓we_andV, ↓we_orV, ↓we_notV, ↓we_mIf, ↓we_chain, ↓we_set, ↓we_mgSub, ↓we_mgTup, ↓we_mgNil, ↓we_mgCons, ↓we_iR1, ↓we_iR2, ↓we_for, ↓we_mNo, ↓we_part, ↓we_sl, ↓we_ms, ↓we_met, ↓we_call_, ↓we_callIo_, ↓we_lc_, ↓we_iA, ↓we_yes, ↓we_par2, ↓we_par3, wo_some, wo_map, iaK_list, iaK_tuple, iaK_str, parK2_e, parK3_e, rd2, rd1, rd2B, rdN, rdAll, rd, hold, boolO, truO, intO, strO, frzO, retO, isIo_zero, isIo_succ, ioB_no, ioB_frz, ioB_own, ioB_io, le_line, lt_line, contAt, ML.putAt, Sl.cont, Sl.put, outsV, tupO, lstO, bo, noB, rtK_rt, rtK_nx, rtK1_rt, rtK1_nx, List.getElem?_cons_zero, List.getElem?_cons_succ, List.set_cons_zero, List.set_cons_succ, Option.map_some, Option.isSome_some, reduceIte, Bool.false_eq_true, Bool.true_eq_false, if_true, if_false, wipeR, ixN_lit, atI_lit, Option.bind_some, Nat.reduceLT, Nat.reduceLeDiff, ML.pos1, List.length_map, isT, List.map_cons, List.map_nil, List.length_cons, List.length_nil, List.cons_append, List.nil_append, List.append_nil, List.replicate, true_and, and_true, Nat.reduceSub, Nat.reduceAdd, Bool.not_true, Bool.not_false, decide_eq_true_eq, Bool.not_eq_true', decide_eq_false_iff_not, Int.reduceToNat, Int.reduceLT, Int.reduceLE, Int.reducePow, Int.reduceNeg, Bool.or_true, Bool.true_or, small_emod, small_lit, pow_10_18, and_self, addD, subD, mulD, modD, fdivD, negD, inD_ints, eqB_int, neB_int, ltB, leB, gtB, geB, isNB_none, notNB, isCB, ixD, lenD, absD, ML.intD, listD, tupD, slD, sl3, appD, metO, truD])
      exact ⟨⟨_, rfl, hl⟩, _, hc, rfl⟩
  rintro ys ρ ⟨c, hc, rfl⟩ a
  have hl := a.len
  rw [rgD_len] at hl
  have ht : ∀ y ∈ ys, tupLen v.toNat y := fun y m => (a.mem y m).choose_spec.2
  (try simp only [↓we_seq, ↓we_asg, ↓we_ret, ↓we_retN, ↓we_sIf, ↓we_drop, ↓we_nx, ↓we_brk, ↓we_cnt, ↓we_var, ↓we_C, ↓we_frz, ↓we_hold, ↓we_bin, ↓we_cmp, ↓we_un, ↓we_isi, ↓we_aNil, ↓we_aCons, ↓we_cb, ↓we_tup, ↓we_lst, ↓we_b, ↓we_tru, ↓we_and, ↓we_or, ↓we_not, ↓we_andV, ↓we_orV, ↓we_notV, ↓we_mIf, ↓we_chain, ↓we_set, ↓we_mgSub, ↓we_mgTup, ↓we_mgNil, ↓we_mgCons, ↓we_iR1, ↓we_iR2, ↓we_for, ↓we_mNo, ↓we_part, ↓we_sl, ↓we_ms, ↓we_met, ↓we_call_, ↓we_callIo_, ↓we_lc_, ↓we_iA, ↓we_yes, ↓we_par2, ↓we_par3, wo_some, wo_map, iaK_list, iaK_tuple, iaK_str, parK2_e, parK3_e, rd2, rd1, rd2B, rdN, rdAll, rd, hold, boolO, truO, intO, strO, frzO, retO, isIo_zero, isIo_succ, ioB_no, ioB_frz, ioB_own, ioB_io, le_line, lt_line, contAt, ML.putAt, Sl.cont, Sl.put, outsV, tupO, lstO, bo, noB, rtK_rt, rtK_nx, rtK1_rt, rtK1_nx, List.getElem?_cons_zero, List.getElem?_cons_succ, List.set_cons_zero, List.set_cons_succ, Option.map_some, Option.isSome_some, reduceIte, Bool.false_eq_true, Bool.true_eq_false, if_true, if_false, wipeR, ixN_lit, atI_lit, Option.bind_some, Nat.reduceLT, Nat.reduceLeDiff, ML.pos1, List.length_map, isT, List.map_cons, List.map_nil, List.length_cons, List.length_nil, List.cons_append, List.nil_append, List.append_nil, List.replicate, true_and, and_true, Nat.reduceSub, Nat.reduceAdd, Bool.not_true, Bool.not_false, decide_eq_true_eq, Bool.not_eq_true', decide_eq_false_iff_not, Int.reduceToNat, Int.reduceLT, Int.reduceLE, Int.reducePow, Int.reduceNeg, Bool.or_true, Bool.true_or, small_emod, small_lit, pow_10_18, and_self, addD, subD, mulD, modD, fdivD, negD, inD_ints, eqB_int, neB_int, ltB, leB, gtB, geB, isNB_none, notNB, isCB, ixD, lenD, absD, ML.intD, listD, tupD, slD, sl3, appD, metO, truD]); repeat ((first | rw [then_nx] | rw [then_rt] | rw [then_bk] | rw [then_ct]); simp only [↓we_seq, ↓we_asg, ↓we_ret, ↓we_retN, ↓we_sIf, ↓we_drop, ↓we_nx, ↓we_brk, ↓we_cnt, ↓we_var, ↓we_C, ↓we_frz, ↓we_hold, ↓we_bin, ↓we_cmp, ↓we_un, ↓we_isi, ↓we_aNil, ↓we_aCons, ↓we_cb, ↓we_tup, ↓we_lst, ↓we_b, ↓we_tru, ↓we_and, ↓we_or, ↓we_not, ↓we_andV, ↓we_orV, ↓we_notV, ↓we_mIf, ↓we_chain, ↓we_set, ↓we_mgSub, ↓we_mgTup, ↓we_mgNil, ↓we_mgCons, ↓we_iR1, ↓we_iR2, ↓we_for, ↓we_mNo, ↓we_part, ↓we_sl, ↓we_ms, ↓we_met, ↓we_call_, ↓we_callIo_, ↓we_lc_, ↓we_iA, ↓we_yes, ↓we_par2, ↓we_par3, wo_some, wo_map, iaK_list, iaK_tuple, iaK_str, parK2_e, parK3_e, rd2, rd1, rd2B, rdN, rdAll, rd, hold, boolO, truO, intO, strO, frzO, retO, isIo_zero, isIo_succ, ioB_no, ioB_frz, ioB_own, ioB_io, le_line, lt_line, contAt, ML.putAt, Sl.cont, Sl.put, outsV, tupO, lstO, bo, noB, rtK_rt, rtK_nx, rtK1_rt, rtK1_nx, List.getElem?_cons_zero, List.getElem?_cons_succ, List.set_cons_zero, List.set_cons_succ, Option.map_some, Option.isSome_some, reduceIte, Bool.false_eq_true, Bool.true_eq_false, if_true, if_false, wipeR, ixN_lit, atI_lit, Option.bind_some, Nat.reduceLT, Nat.reduceLeDiff, ML.pos1, List.length_map, isT, List.map_cons, List.map_nil, List.length_cons, List.length_nil, List.cons_append, List.nil_append, List.append_nil, List.replicate, true_and, and_true, Nat.reduceSub, Nat.reduceAdd, Bool.not_true, Bool.not_false, decide_eq_true_eq, Bool.not_eq_true', decide_eq_false_iff_not, Int.reduceToNat, Int.reduceLT, Int.reduceLE, Int.reducePow, Int.reduceNeg, Bool.or_true, Bool.true_or, small_emod, small_lit, pow_10_18, and_self, addD, subD, mulD, modD, fdivD, negD, inD_ints, eqB_int, neB_int, ltB, leB, gtB, geB, isNB_none, notNB, isCB, ixD, lenD, absD, ML.intD, listD, tupD, slD, sl3, appD, metO, truD])
  refine we_callIo (draw_ok hc (n := 7) (by decide) (by decide)) rfl rfl rfl ?_
  rintro r c' - ⟨k, rfl, k0, k1, hc'⟩
  (try simp only [↓we_seq, ↓we_asg, ↓we_ret, ↓we_retN, ↓we_sIf, ↓we_drop, ↓we_nx, ↓we_brk, ↓we_cnt, ↓we_var, ↓we_C, ↓we_frz, ↓we_hold, ↓we_bin, ↓we_cmp, ↓we_un, ↓we_isi, ↓we_aNil, ↓we_aCons, ↓we_cb, ↓we_tup, ↓we_lst, ↓we_b, ↓we_tru, ↓we_and, ↓we_or, ↓we_not, ↓we_andV, ↓we_orV, ↓we_notV, ↓we_mIf, ↓we_chain, ↓we_set, ↓we_mgSub, ↓we_mgTup, ↓we_mgNil, ↓we_mgCons, ↓we_iR1, ↓we_iR2, ↓we_for, ↓we_mNo, ↓we_part, ↓we_sl, ↓we_ms, ↓we_met, ↓we_call_, ↓we_callIo_, ↓we_lc_, ↓we_iA, ↓we_yes, ↓we_par2, ↓we_par3, wo_some, wo_map, iaK_list, iaK_tuple, iaK_str, parK2_e, parK3_e, rd2, rd1, rd2B, rdN, rdAll, rd, hold, boolO, truO, intO, strO, frzO, retO, isIo_zero, isIo_succ, ioB_no, ioB_frz, ioB_own, ioB_io, le_line, lt_line, contAt, ML.putAt, Sl.cont, Sl.put, outsV, tupO, lstO, bo, noB, rtK_rt, rtK_nx, rtK1_rt, rtK1_nx, List.getElem?_cons_zero, List.getElem?_cons_succ, List.set_cons_zero, List.set_cons_succ, Option.map_some, Option.isSome_some, reduceIte, Bool.false_eq_true, Bool.true_eq_false, if_true, if_false, wipeR, ixN_lit, atI_lit, Option.bind_some, Nat.reduceLT, Nat.reduceLeDiff, ML.pos1, List.length_map, isT, List.map_cons, List.map_nil, List.length_cons, List.length_nil, List.cons_append, List.nil_append, List.append_nil, List.replicate, true_and, and_true, Nat.reduceSub, Nat.reduceAdd, Bool.not_true, Bool.not_false, decide_eq_true_eq, Bool.not_eq_true', decide_eq_false_iff_not, Int.reduceToNat, Int.reduceLT, Int.reduceLE, Int.reducePow, Int.reduceNeg, Bool.or_true, Bool.true_or, small_emod, small_lit, pow_10_18, and_self, addD, subD, mulD, modD, fdivD, negD, inD_ints, eqB_int, neB_int, ltB, leB, gtB, geB, isNB_none, notNB, isCB, ixD, lenD, absD, ML.intD, listD, tupD, slD, sl3, appD, metO, truD])
  (first | rw [then_nx] | rw [then_rt] | rw [then_bk] | rw [then_ct])
  refine we_cut (fun ρ => ∃ c ys, Dk c ∧ ys.length = v.toNat ∧ (∀ y ∈ ys, ∃ xs, y = .tuple xs) ∧ ρ = [.io c, .frz (.int v), .own ys, .frz (.int k), .no, .no, .no]) ?_ ?_
  · (try simp only [↓we_seq, ↓we_asg, ↓we_ret, ↓we_retN, ↓we_sIf, ↓we_drop, ↓we_nx, ↓we_brk, ↓we_cnt, ↓we_var, ↓we_C, ↓we_frz, ↓we_hold, ↓we_bin, ↓we_cmp, ↓we_un, ↓we_isi, ↓we_aNil, ↓we_aCons, ↓we_cb, ↓we_tup, ↓we_lst, ↓we_b, ↓we_tru, ↓we_and, ↓we_or, ↓we_not, ↓we_andV, ↓we_orV, ↓we_notV, ↓we_mIf, ↓we_chain, ↓we_set, ↓we_mgSub, ↓we_mgTup, ↓we_mgNil, ↓we_mgCons, ↓we_iR1, ↓we_iR2, ↓we_for, ↓we_mNo, ↓we_part, ↓we_sl, ↓we_ms, ↓we_met, ↓we_call_, ↓we_callIo_, ↓we_lc_, ↓we_iA, ↓we_yes, ↓we_par2, ↓we_par3, wo_some, wo_map, iaK_list, iaK_tuple, iaK_str, parK2_e, parK3_e, rd2, rd1, rd2B, rdN, rdAll, rd, hold, boolO, truO, intO, strO, frzO, retO, isIo_zero, isIo_succ, ioB_no, ioB_frz, ioB_own, ioB_io, le_line, lt_line, contAt, ML.putAt, Sl.cont, Sl.put, outsV, tupO, lstO, bo, noB, rtK_rt, rtK_nx, rtK1_rt, rtK1_nx, List.getElem?_cons_zero, List.getElem?_cons_succ, List.set_cons_zero, List.set_cons_succ, Option.map_some, Option.isSome_some, reduceIte, Bool.false_eq_true, Bool.true_eq_false, if_true, if_false, wipeR, ixN_lit, atI_lit, Option.bind_some, Nat.reduceLT, Nat.reduceLeDiff, ML.pos1, List.length_map, isT, List.map_cons, List.map_nil, List.length_cons, List.length_nil, List.cons_append, List.nil_append, List.append_nil, List.replicate, true_and, and_true, Nat.reduceSub, Nat.reduceAdd, Bool.not_true, Bool.not_false, decide_eq_true_eq, Bool.not_eq_true', decide_eq_false_iff_not, Int.reduceToNat, Int.reduceLT, Int.reduceLE, Int.reducePow, Int.reduceNeg, Bool.or_true, Bool.true_or, small_emod, small_lit, pow_10_18, and_self, addD, subD, mulD, modD, fdivD, negD, inD_ints, eqB_int, neB_int, ltB, leB, gtB, geB, isNB_none, notNB, isCB, ixD, lenD, absD, ML.intD, listD, tupD, slD, sl3, appD, metO, truD])
    split
    · cases ys with
      | nil => simp at hl; omega
      | cons y ys =>
        obtain ⟨xs, rfl, hx⟩ := ht y List.mem_cons_self
        have hx2 := @cut_len xs (some 1) none
        (try simp only [↓we_seq, ↓we_asg, ↓we_ret, ↓we_retN, ↓we_sIf, ↓we_drop, ↓we_nx, ↓we_brk, ↓we_cnt, ↓we_var, ↓we_C, ↓we_frz, ↓we_hold, ↓we_bin, ↓we_cmp, ↓we_un, ↓we_isi, ↓we_aNil, ↓we_aCons, ↓we_cb, ↓we_tup, ↓we_lst, ↓we_b, ↓we_tru, ↓we_and, ↓we_or, ↓we_not, ↓we_andV, ↓we_orV, ↓we_notV, ↓we_mIf, ↓we_chain, ↓we_set, ↓we_mgSub, ↓we_mgTup, ↓we_mgNil, ↓we_mgCons, ↓we_iR1, ↓we_iR2, ↓we_for, ↓we_mNo, ↓we_part, ↓we_sl, ↓we_ms, ↓we_met, ↓we_call_, ↓we_callIo_, ↓we_lc_, ↓we_iA, ↓we_yes, ↓we_par2, ↓we_par3, wo_some, wo_map, iaK_list, iaK_tuple, iaK_str, parK2_e, parK3_e, rd2, rd1, rd2B, rdN, rdAll, rd, hold, boolO, truO, intO, strO, frzO, retO, isIo_zero, isIo_succ, ioB_no, ioB_frz, ioB_own, ioB_io, le_line, lt_line, contAt, ML.putAt, Sl.cont, Sl.put, outsV, tupO, lstO, bo, noB, rtK_rt, rtK_nx, rtK1_rt, rtK1_nx, List.getElem?_cons_zero, List.getElem?_cons_succ, List.set_cons_zero, List.set_cons_succ, Option.map_some, Option.isSome_some, reduceIte, Bool.false_eq_true, Bool.true_eq_false, if_true, if_false, wipeR, ixN_lit, atI_lit, Option.bind_some, Nat.reduceLT, Nat.reduceLeDiff, ML.pos1, List.length_map, isT, List.map_cons, List.map_nil, List.length_cons, List.length_nil, List.cons_append, List.nil_append, List.append_nil, List.replicate, true_and, and_true, Nat.reduceSub, Nat.reduceAdd, Bool.not_true, Bool.not_false, decide_eq_true_eq, Bool.not_eq_true', decide_eq_false_iff_not, Int.reduceToNat, Int.reduceLT, Int.reduceLE, Int.reducePow, Int.reduceNeg, Bool.or_true, Bool.true_or, small_emod, small_lit, pow_10_18, and_self, addD, subD, mulD, modD, fdivD, negD, inD_ints, eqB_int, neB_int, ltB, leB, gtB, geB, isNB_none, notNB, isCB, ixD, lenD, absD, ML.intD, listD, tupD, slD, sl3, appD, metO, truD])
        rw [if_pos (by omega)]
        (try simp only [↓we_seq, ↓we_asg, ↓we_ret, ↓we_retN, ↓we_sIf, ↓we_drop, ↓we_nx, ↓we_brk, ↓we_cnt, ↓we_var, ↓we_C, ↓we_frz, ↓we_hold, ↓we_bin, ↓we_cmp, ↓we_un, ↓we_isi, ↓we_aNil, ↓we_aCons, ↓we_cb, ↓we_tup, ↓we_lst, ↓we_b, ↓we_tru, ↓we_and, ↓we_or, ↓we_not, ↓we_andV, ↓we_orV, ↓we_notV, ↓we_mIf, ↓we_chain, ↓we_set, ↓we_mgSub, ↓we_mgTup, ↓we_mgNil, ↓we_mgCons, ↓we_iR1, ↓we_iR2, ↓we_for, ↓we_mNo, ↓we_part, ↓we_sl, ↓we_ms, ↓we_met, ↓we_call_, ↓we_callIo_, ↓we_lc_, ↓we_iA, ↓we_yes, ↓we_par2, ↓we_par3, wo_some, wo_map, iaK_list, iaK_tuple, iaK_str, parK2_e, parK3_e, rd2, rd1, rd2B, rdN, rdAll, rd, hold, boolO, truO, intO, strO, frzO, retO, isIo_zero, isIo_succ, ioB_no, ioB_frz, ioB_own, ioB_io, le_line, lt_line, contAt, ML.putAt, Sl.cont, Sl.put, outsV, tupO, lstO, bo, noB, rtK_rt, rtK_nx, rtK1_rt, rtK1_nx, List.getElem?_cons_zero, List.getElem?_cons_succ, List.set_cons_zero, List.set_cons_succ, Option.map_some, Option.isSome_some, reduceIte, Bool.false_eq_true, Bool.true_eq_false, if_true, if_false, wipeR, ixN_lit, atI_lit, Option.bind_some, Nat.reduceLT, Nat.reduceLeDiff, ML.pos1, List.length_map, isT, List.map_cons, List.map_nil, List.length_cons, List.length_nil, List.cons_append, List.nil_append, List.append_nil, List.replicate, true_and, and_true, Nat.reduceSub, Nat.reduceAdd, Bool.not_true, Bool.not_false, decide_eq_true_eq, Bool.not_eq_true', decide_eq_false_iff_not, Int.reduceToNat, Int.reduceLT, Int.reduceLE, Int.reducePow, Int.reduceNeg, Bool.or_true, Bool.true_or, small_emod, small_lit, pow_10_18, and_self, addD, subD, mulD, modD, fdivD, negD, inD_ints, eqB_int, neB_int, ltB, leB, gtB, geB, isNB_none, notNB, isCB, ixD, lenD, absD, ML.intD, listD, tupD, slD, sl3, appD, metO, truD])
        refine ⟨c', _, hc', by rw [← hl]; rfl, all_cons ⟨_, rfl⟩ fun y m => ⟨_, (ht y (List.mem_cons_of_mem _ m)).choose_spec.1⟩, rfl⟩
    · exact ⟨c', ys, hc', hl, fun y m => ⟨_, (ht y m).choose_spec.1⟩, rfl⟩
  rintro ρ ⟨c, ys, hc, hl, ht, rfl⟩
  refine we_cut (fun ρ => ∃ c ys, Dk c ∧ ys.length = v.toNat ∧ (k = 3 → ∀ y ∈ ys, ∃ xs, y = .tuple xs) ∧ ρ = [.io c, .frz (.int v), .own ys, .frz (.int k), .no, .no, .no]) ?_ ?_
  · (try simp only [↓we_seq, ↓we_asg, ↓we_ret, ↓we_retN, ↓we_sIf, ↓we_drop, ↓we_nx, ↓we_brk, ↓we_cnt, ↓we_var, ↓we_C, ↓we_frz, ↓we_hold, ↓we_bin, ↓we_cmp, ↓we_un, ↓we_isi, ↓we_aNil, ↓we_aCons, ↓we_cb, ↓we_tup, ↓we_lst, ↓we_b, ↓we_tru, ↓we_and, ↓we_or, ↓we_not, ↓we_andV, ↓we_orV, ↓we_notV, ↓we_mIf, ↓we_chain, ↓we_set, ↓we_mgSub, ↓we_mgTup, ↓we_mgNil, ↓we_mgCons, ↓we_iR1, ↓we_iR2, ↓we_for, ↓we_mNo, ↓we_part, ↓we_sl, ↓we_ms, ↓we_met, ↓we_call_, ↓we_callIo_, ↓we_lc_, ↓we_iA, ↓we_yes, ↓we_par2, ↓we_par3, wo_some, wo_map, iaK_list, iaK_tuple, iaK_str, parK2_e, parK3_e, rd2, rd1, rd2B, rdN, rdAll, rd, hold, boolO, truO, intO, strO, frzO, retO, isIo_zero, isIo_succ, ioB_no, ioB_frz, ioB_own, ioB_io, le_line, lt_line, contAt, ML.putAt, Sl.cont, Sl.put, outsV, tupO, lstO, bo, noB, rtK_rt, rtK_nx, rtK1_rt, rtK1_nx, List.getElem?_cons_zero, List.getElem?_cons_succ, List.set_cons_zero, List.set_cons_succ, Option.map_some, Option.isSome_some, reduceIte, Bool.false_eq_true, Bool.true_eq_false, if_true, if_false, wipeR, ixN_lit, atI_lit, Option.bind_some, Nat.reduceLT, Nat.reduceLeDiff, ML.pos1, List.length_map, isT, List.map_cons, List.map_nil, List.length_cons, List.length_nil, List.cons_append, List.nil_append, List.append_nil, List.replicate, true_and, and_true, Nat.reduceSub, Nat.reduceAdd, Bool.not_true, Bool.not_false, decide_eq_true_eq, Bool.not_eq_true', decide_eq_false_iff_not, Int.reduceToNat, Int.reduceLT, Int.reduceLE, Int.reducePow, Int.reduceNeg, Bool.or_true, Bool.true_or, small_emod, small_lit, pow_10_18, and_self, addD, subD, mulD, modD, fdivD, negD, inD_ints, eqB_int, neB_int, ltB, leB, gtB, geB, isNB_none, notNB, isCB, ixD, lenD, absD, ML.intD, listD, tupD, slD, sl3, appD, metO, truD])
    split
    · rename_i hk
      refine we_callIo (row_ok hc h0 h1) rfl rfl rfl ?_
      rintro r c' - ⟨d, rfl, -, hc'⟩
      (try simp only [↓we_seq, ↓we_asg, ↓we_ret, ↓we_retN, ↓we_sIf, ↓we_drop, ↓we_nx, ↓we_brk, ↓we_cnt, ↓we_var, ↓we_C, ↓we_frz, ↓we_hold, ↓we_bin, ↓we_cmp, ↓we_un, ↓we_isi, ↓we_aNil, ↓we_aCons, ↓we_cb, ↓we_tup, ↓we_lst, ↓we_b, ↓we_tru, ↓we_and, ↓we_or, ↓we_not, ↓we_andV, ↓we_orV, ↓we_notV, ↓we_mIf, ↓we_chain, ↓we_set, ↓we_mgSub, ↓we_mgTup, ↓we_mgNil, ↓we_mgCons, ↓we_iR1, ↓we_iR2, ↓we_for, ↓we_mNo, ↓we_part, ↓we_sl, ↓we_ms, ↓we_met, ↓we_call_, ↓we_callIo_, ↓we_lc_, ↓we_iA, ↓we_yes, ↓we_par2, ↓we_par3, wo_some, wo_map, iaK_list, iaK_tuple, iaK_str, parK2_e, parK3_e, rd2, rd1, rd2B, rdN, rdAll, rd, hold, boolO, truO, intO, strO, frzO, retO, isIo_zero, isIo_succ, ioB_no, ioB_frz, ioB_own, ioB_io, le_line, lt_line, contAt, ML.putAt, Sl.cont, Sl.put, outsV, tupO, lstO, bo, noB, rtK_rt, rtK_nx, rtK1_rt, rtK1_nx, List.getElem?_cons_zero, List.getElem?_cons_succ, List.set_cons_zero, List.set_cons_succ, Option.map_some, Option.isSome_some, reduceIte, Bool.false_eq_true, Bool.true_eq_false, if_true, if_false, wipeR, ixN_lit, atI_lit, Option.bind_some, Nat.reduceLT, Nat.reduceLeDiff, ML.pos1, List.length_map, isT, List.map_cons, List.map_nil, List.length_cons, List.length_nil, List.cons_append, List.nil_append, List.append_nil, List.replicate, true_and, and_true, Nat.reduceSub, Nat.reduceAdd, Bool.not_true, Bool.not_false, decide_eq_true_eq, Bool.not_eq_true', decide_eq_false_iff_not, Int.reduceToNat, Int.reduceLT, Int.reduceLE, Int.reducePow, Int.reduceNeg, Bool.or_true, Bool.true_or, small_emod, small_lit, pow_10_18, and_self, addD, subD, mulD, modD, fdivD, negD, inD_ints, eqB_int, neB_int, ltB, leB, gtB, geB, isNB_none, notNB, isCB, ixD, lenD, absD, ML.intD, listD, tupD, slD, sl3, appD, metO, truD])
      refine we_callIo (draw_ok hc' (n := v) h0 (by omega)) rfl rfl rfl ?_
      rintro r c' - ⟨j, rfl, j0, j1, hc'⟩
      obtain ⟨n, hn, hn2⟩ := ixN_in (m := ys.length) j0 (by omega)
      (try simp only [↓we_seq, ↓we_asg, ↓we_ret, ↓we_retN, ↓we_sIf, ↓we_drop, ↓we_nx, ↓we_brk, ↓we_cnt, ↓we_var, ↓we_C, ↓we_frz, ↓we_hold, ↓we_bin, ↓we_cmp, ↓we_un, ↓we_isi, ↓we_aNil, ↓we_aCons, ↓we_cb, ↓we_tup, ↓we_lst, ↓we_b, ↓we_tru, ↓we_and, ↓we_or, ↓we_not, ↓we_andV, ↓we_orV, ↓we_notV, ↓we_mIf, ↓we_chain, ↓we_set, ↓we_mgSub, ↓we_mgTup, ↓we_mgNil, ↓we_mgCons, ↓we_iR1, ↓we_iR2, ↓we_for, ↓we_mNo, ↓we_part, ↓we_sl, ↓we_ms, ↓we_met, ↓we_call_, ↓we_callIo_, ↓we_lc_, ↓we_iA, ↓we_yes, ↓we_par2, ↓we_par3, wo_some, wo_map, iaK_list, iaK_tuple, iaK_str, parK2_e, parK3_e, rd2, rd1, rd2B, rdN, rdAll, rd, hold, boolO, truO, intO, strO, frzO, retO, isIo_zero, isIo_succ, ioB_no, ioB_frz, ioB_own, ioB_io, le_line, lt_line, contAt, ML.putAt, Sl.cont, Sl.put, outsV, tupO, lstO, bo, noB, rtK_rt, rtK_nx, rtK1_rt, rtK1_nx, List.getElem?_cons_zero, List.getElem?_cons_succ, List.set_cons_zero, List.set_cons_succ, Option.map_some, Option.isSome_some, reduceIte, Bool.false_eq_true, Bool.true_eq_false, if_true, if_false, wipeR, ixN_lit, atI_lit, Option.bind_some, Nat.reduceLT, Nat.reduceLeDiff, ML.pos1, List.length_map, isT, List.map_cons, List.map_nil, List.length_cons, List.length_nil, List.cons_append, List.nil_append, List.append_nil, List.replicate, true_and, and_true, Nat.reduceSub, Nat.reduceAdd, Bool.not_true, Bool.not_false, decide_eq_true_eq, Bool.not_eq_true', decide_eq_false_iff_not, Int.reduceToNat, Int.reduceLT, Int.reduceLE, Int.reducePow, Int.reduceNeg, Bool.or_true, Bool.true_or, small_emod, small_lit, pow_10_18, and_self, addD, subD, mulD, modD, fdivD, negD, inD_ints, eqB_int, neB_int, ltB, leB, gtB, geB, isNB_none, notNB, isCB, ixD, lenD, absD, ML.intD, listD, tupD, slD, sl3, appD, metO, truD, hn]);
      refine ⟨c', _, hc', by rw [List.length_set]; exact hl, fun h3 => ?_, rfl⟩
      subst h3
      simp at hk
    · exact ⟨c, ys, hc, hl, fun _ => ht, rfl⟩
  rintro ρ ⟨c, ys, hc, hl, ht, rfl⟩
  (try simp only [↓we_seq, ↓we_asg, ↓we_ret, ↓we_retN, ↓we_sIf, ↓we_drop, ↓we_nx, ↓we_brk, ↓we_cnt, ↓we_var, ↓we_C, ↓we_frz, ↓we_hold, ↓we_bin, ↓we_cmp, ↓we_un, ↓we_isi, ↓we_aNil, ↓we_aCons, ↓we_cb, ↓we_tup, ↓we_lst, ↓we_b, ↓we_tru, ↓we_and, ↓we_or, ↓we_not, ↓we_andV, ↓we_orV, ↓we_notV, ↓we_mIf, ↓we_chain, ↓we_set, ↓we_mgSub, ↓we_mgTup, ↓we_mgNil, ↓we_mgCons, ↓we_iR1, ↓we_iR2, ↓we_for, ↓we_mNo, ↓we_part, ↓we_sl, ↓we_ms, ↓we_met, ↓we_call_, ↓we_callIo_, ↓we_lc_, ↓we_iA, ↓we_yes, ↓we_par2, ↓we_par3, wo_some, wo_map, iaK_list, iaK_tuple, iaK_str, parK2_e, parK3_e, rd2, rd1, rd2B, rdN, rdAll, rd, hold, boolO, truO, intO, strO, frzO, retO, isIo_zero, isIo_succ, ioB_no, ioB_frz, ioB_own, ioB_io, le_line, lt_line, contAt, ML.putAt, Sl.cont, Sl.put, outsV, tupO, lstO, bo, noB, rtK_rt, rtK_nx, rtK1_rt, rtK1_nx, List.getElem?_cons_zero, List.getElem?_cons_succ, List.set_cons_zero, List.set_cons_succ, Option.map_some, Option.isSome_some, reduceIte, Bool.false_eq_true, Bool.true_eq_false, if_true, if_false, wipeR, ixN_lit, atI_lit, Option.bind_some, Nat.reduceLT, Nat.reduceLeDiff, ML.pos1, List.length_map, isT, List.map_cons, List.map_nil, List.length_cons, List.length_nil, List.cons_append, List.nil_append, List.append_nil, List.replicate, true_and, and_true, Nat.reduceSub, Nat.reduceAdd, Bool.not_true, Bool.not_false, decide_eq_true_eq, Bool.not_eq_true', decide_eq_false_iff_not, Int.reduceToNat, Int.reduceLT, Int.reduceLE, Int.reducePow, Int.reduceNeg, Bool.or_true, Bool.true_or, small_emod, small_lit, pow_10_18, and_self, addD, subD, mulD, modD, fdivD, negD, inD_ints, eqB_int, neB_int, ltB, leB, gtB, geB, isNB_none, notNB, isCB, ixD, lenD, absD, ML.intD, listD, tupD, slD, sl3, appD, metO, truD])
  split
  · rename_i hk
    have ht := ht hk
    have hx2 := @cut_len ys none (some 1)
    (try simp only [↓we_seq, ↓we_asg, ↓we_ret, ↓we_retN, ↓we_sIf, ↓we_drop, ↓we_nx, ↓we_brk, ↓we_cnt, ↓we_var, ↓we_C, ↓we_frz, ↓we_hold, ↓we_bin, ↓we_cmp, ↓we_un, ↓we_isi, ↓we_aNil, ↓we_aCons, ↓we_cb, ↓we_tup, ↓we_lst, ↓we_b, ↓we_tru, ↓we_and, ↓we_or, ↓we_not, ↓we_andV, ↓we_orV, ↓we_notV, ↓we_mIf, ↓we_chain, ↓we_set, ↓we_mgSub, ↓we_mgTup, ↓we_mgNil, ↓we_mgCons, ↓we_iR1, ↓we_iR2, ↓we_for, ↓we_mNo, ↓we_part, ↓we_sl, ↓we_ms, ↓we_met, ↓we_call_, ↓we_callIo_, ↓we_lc_, ↓we_iA, ↓we_yes, ↓we_par2, ↓we_par3, wo_some, wo_map, iaK_list, iaK_tuple, iaK_str, parK2_e, parK3_e, rd2, rd1, rd2B, rdN, rdAll, rd, hold, boolO, truO, intO, strO, frzO, retO, isIo_zero, isIo_succ, ioB_no, ioB_frz, ioB_own, ioB_io, le_line, lt_line, contAt, ML.putAt, Sl.cont, Sl.put, outsV, tupO, lstO, bo, noB, rtK_rt, rtK_nx, rtK1_rt, rtK1_nx, List.getElem?_cons_zero, List.getElem?_cons_succ, List.set_cons_zero, List.set_cons_succ, Option.map_some, Option.isSome_some, reduceIte, Bool.false_eq_true, Bool.true_eq_false, if_true, if_false, wipeR, ixN_lit, atI_lit, Option.bind_some, Nat.reduceLT, Nat.reduceLeDiff, ML.pos1, List.length_map, isT, List.map_cons, List.map_nil, List.length_cons, List.length_nil, List.cons_append, List.nil_append, List.append_nil, List.replicate, true_and, and_true, Nat.reduceSub, Nat.reduceAdd, Bool.not_true, Bool.not_false, decide_eq_true_eq, Bool.not_eq_true', decide_eq_false_iff_not, Int.reduceToNat, Int.reduceLT, Int.reduceLE, Int.reducePow, Int.reduceNeg, Bool.or_true, Bool.true_or, small_emod, small_lit, pow_10_18, and_self, addD, subD, mulD, modD, fdivD, negD, inD_ints, eqB_int, neB_int, ltB, leB, gtB, geB, isNB_none, notNB, isCB, ixD, lenD, absD, ML.intD, listD, tupD, slD, sl3, appD, metO, truD])
    rw [if_pos (by omega)]
    (try simp only [↓we_seq, ↓we_asg, ↓we_ret, ↓we_retN, ↓we_sIf, ↓we_drop, ↓we_nx, ↓we_brk, ↓we_cnt, ↓we_var, ↓we_C, ↓we_frz, ↓we_hold, ↓we_bin, ↓we_cmp, ↓we_un, ↓we_isi, ↓we_aNil, ↓we_aCons, ↓we_cb, ↓we_tup, ↓we_lst, ↓we_b, ↓we_tru, ↓we_and, ↓we_or, ↓we_not, ↓we_andV, ↓we_orV, ↓we_notV, ↓we_mIf, ↓we_chain, ↓we_set, ↓we_mgSub, ↓we_mgTup, ↓we_mgNil, ↓we_mgCons, ↓we_iR1, ↓we_iR2, ↓we_for, ↓we_mNo, ↓we_part, ↓we_sl, ↓we_ms, ↓we_met, ↓we_call_, ↓we_callIo_, ↓we_lc_, ↓we_iA, ↓we_yes, ↓we_par2, ↓we_par3, wo_some, wo_map, iaK_list, iaK_tuple, iaK_str, parK2_e, parK3_e, rd2, rd1, rd2B, rdN, rdAll, rd, hold, boolO, truO, intO, strO, frzO, retO, isIo_zero, isIo_succ, ioB_no, ioB_frz, ioB_own, ioB_io, le_line, lt_line, contAt, ML.putAt, Sl.cont, Sl.put, outsV, tupO, lstO, bo, noB, rtK_rt, rtK_nx, rtK1_rt, rtK1_nx, List.getElem?_cons_zero, List.getElem?_cons_succ, List.set_cons_zero, List.set_cons_succ, Option.map_some, Option.isSome_some, reduceIte, Bool.false_eq_true, Bool.true_eq_false, if_true, if_false, wipeR, ixN_lit, atI_lit, Option.bind_some, Nat.reduceLT, Nat.reduceLeDiff, ML.pos1, List.length_map, isT, List.map_cons, List.map_nil, List.length_cons, List.length_nil, List.cons_append, List.nil_append, List.append_nil, List.replicate, true_and, and_true, Nat.reduceSub, Nat.reduceAdd, Bool.not_true, Bool.not_false, decide_eq_true_eq, Bool.not_eq_true', decide_eq_false_iff_not, Int.reduceToNat, Int.reduceLT, Int.reduceLE, Int.reducePow, Int.reduceNeg, Bool.or_true, Bool.true_or, small_emod, small_lit, pow_10_18, and_self, addD, subD, mulD, modD, fdivD, negD, inD_ints, eqB_int, neB_int, ltB, leB, gtB, geB, isNB_none, notNB, isCB, ixD, lenD, absD, ML.intD, listD, tupD, slD, sl3, appD, metO, truD])
    refine we_lc (fun ρ => ρ = [.io c, .frz (.int v), .frz (.list ys), .frz (.int k), .no, .no, .no]) (fun _ _ => True) ?_ rfl (by rw [le_line]; omega) ?_
    · rintro d m ρ rfl
      obtain ⟨xs, rfl⟩ := ht d m
      (try simp only [↓we_seq, ↓we_asg, ↓we_ret, ↓we_retN, ↓we_sIf, ↓we_drop, ↓we_nx, ↓we_brk, ↓we_cnt, ↓we_var, ↓we_C, ↓we_frz, ↓we_hold, ↓we_bin, ↓we_cmp, ↓we_un, ↓we_isi, ↓we_aNil, ↓we_aCons, ↓we_cb, ↓we_tup, ↓we_lst, ↓we_b, ↓we_tru, ↓we_and, ↓we_or, ↓we_not, ↓we_andV, ↓we_orV, ↓we_notV, ↓we_mIf, ↓we_chain, ↓we_set, ↓we_mgSub, ↓we_mgTup, ↓we_mgNil, ↓we_mgCons, ↓we_iR1, ↓we_iR2, ↓we_for, ↓we_mNo, ↓we_part, ↓we_sl, ↓we_ms, ↓we_met, ↓we_call_, ↓we_callIo_, ↓we_lc_, ↓we_iA, ↓we_yes, ↓we_par2, ↓we_par3, wo_some, wo_map, iaK_list, iaK_tuple, iaK_str, parK2_e, parK3_e, rd2, rd1, rd2B, rdN, rdAll, rd, hold, boolO, truO, intO, strO, frzO, retO, isIo_zero, isIo_succ, ioB_no, ioB_frz, ioB_own, ioB_io, le_line, lt_line, contAt, ML.putAt, Sl.cont, Sl.put, outsV, tupO, lstO, bo, noB, rtK_rt, rtK_nx, rtK1_rt, rtK1_nx, List.getElem?_cons_zero, List.getElem?_cons_succ, List.set_cons_zero, List.set_cons_succ, Option.map_some, Option.isSome_some, reduceIte, Bool.false_eq_true, Bool.true_eq_false, if_true, if_false, wipeR, ixN_lit, atI_lit, Option.bind_some, Nat.reduceLT, Nat.reduceLeDiff, ML.pos1, List.length_map, isT, List.map_cons, List.map_nil, List.length_cons, List.length_nil, List.cons_append, List.nil_append, List.append_nil, List.replicate, true_and, and_true, Nat.reduceSub, Nat.reduceAdd, Bool.not_true, Bool.not_false, decide_eq_true_eq, Bool.not_eq_true', decide_eq_false_iff_not, Int.reduceToNat, Int.reduceLT, Int.reduceLE, Int.reducePow, Int.reduceNeg, Bool.or_true, Bool.true_or, small_emod, small_lit, pow_10_18, and_self, addD, subD, mulD, modD, fdivD, negD, inD_ints, eqB_int, neB_int, ltB, leB, gtB, geB, isNB_none, notNB, isCB, ixD, lenD, absD, ML.intD, listD, tupD, slD, sl3, appD, metO, truD, compK]);
    rintro zs ρ rfl -
    (try simp only [↓we_seq, ↓we_asg, ↓we_ret, ↓we_retN, ↓we_sIf, ↓we_drop, ↓we_nx, ↓we_brk, ↓we_cnt, ↓we_var, ↓we_C, ↓we_frz, ↓we_hold, ↓we_bin, ↓we_cmp, ↓we_un, ↓we_isi, ↓we_aNil, ↓we_aCons, ↓we_cb, ↓we_tup, ↓we_lst, ↓we_b, ↓we_tru, ↓we_and, ↓we_or, ↓we_not, ↓we_andV, ↓we_orV, ↓we_notV, ↓we_mIf, ↓we_chain, ↓we_set, ↓we_mgSub, ↓we_mgTup, ↓we_mgNil, ↓we_mgCons, ↓we_iR1, ↓we_iR2, ↓we_for, ↓we_mNo, ↓we_part, ↓we_sl, ↓we_ms, ↓we_met, ↓we_call_, ↓we_callIo_, ↓we_lc_, ↓we_iA, ↓we_yes, ↓we_par2, ↓we_par3, wo_some, wo_map, iaK_list, iaK_tuple, iaK_str, parK2_e, parK3_e, rd2, rd1, rd2B, rdN, rdAll, rd, hold, boolO, truO, intO, strO, frzO, retO, isIo_zero, isIo_succ, ioB_no, ioB_frz, ioB_own, ioB_io, le_line, lt_line, contAt, ML.putAt, Sl.cont, Sl.put, outsV, tupO, lstO, bo, noB, rtK_rt, rtK_nx, rtK1_rt, rtK1_nx, List.getElem?_cons_zero, List.getElem?_cons_succ, List.set_cons_zero, List.set_cons_succ, Option.map_some, Option.isSome_some, reduceIte, Bool.false_eq_true, Bool.true_eq_false, if_true, if_false, wipeR, ixN_lit, atI_lit, Option.bind_some, Nat.reduceLT, Nat.reduceLeDiff, ML.pos1, List.length_map, isT, List.map_cons, List.map_nil, List.length_cons, List.length_nil, List.cons_append, List.nil_append, List.append_nil, List.replicate, true_and, and_true, Nat.reduceSub, Nat.reduceAdd, Bool.not_true, Bool.not_false, decide_eq_true_eq, Bool.not_eq_true', decide_eq_false_iff_not, Int.reduceToNat, Int.reduceLT, Int.reduceLE, Int.reducePow, Int.reduceNeg, Bool.or_true, Bool.true_or, small_emod, small_lit, pow_10_18, and_self, addD, subD, mulD, modD, fdivD, negD, inD_ints, eqB_int, neB_int, ltB, leB, gtB, geB, isNB_none, notNB, isCB, ixD, lenD, absD, ML.intD, listD, tupD, slD, sl3, appD, metO, truD])
    refine we_callIo (draw_ok hc (n := 5) (by decide) (by decide)) rfl rfl rfl ?_
    rintro r c' - ⟨j, rfl, j0, j1, hc'⟩
    (try simp only [↓we_seq, ↓we_asg, ↓we_ret, ↓we_retN, ↓we_sIf, ↓we_drop, ↓we_nx, ↓we_brk, ↓we_cnt, ↓we_var, ↓we_C, ↓we_frz, ↓we_hold, ↓we_bin, ↓we_cmp, ↓we_un, ↓we_isi, ↓we_aNil, ↓we_aCons, ↓we_cb, ↓we_tup, ↓we_lst, ↓we_b, ↓we_tru, ↓we_and, ↓we_or, ↓we_not, ↓we_andV, ↓we_orV, ↓we_notV, ↓we_mIf, ↓we_chain, ↓we_set, ↓we_mgSub, ↓we_mgTup, ↓we_mgNil, ↓we_mgCons, ↓we_iR1, ↓we_iR2, ↓we_for, ↓we_mNo, ↓we_part, ↓we_sl, ↓we_ms, ↓we_met, ↓we_call_, ↓we_callIo_, ↓we_lc_, ↓we_iA, ↓we_yes, ↓we_par2, ↓we_par3, wo_some, wo_map, iaK_list, iaK_tuple, iaK_str, parK2_e, parK3_e, rd2, rd1, rd2B, rdN, rdAll, rd, hold, boolO, truO, intO, strO, frzO, retO, isIo_zero, isIo_succ, ioB_no, ioB_frz, ioB_own, ioB_io, le_line, lt_line, contAt, ML.putAt, Sl.cont, Sl.put, outsV, tupO, lstO, bo, noB, rtK_rt, rtK_nx, rtK1_rt, rtK1_nx, List.getElem?_cons_zero, List.getElem?_cons_succ, List.set_cons_zero, List.set_cons_succ, Option.map_some, Option.isSome_some, reduceIte, Bool.false_eq_true, Bool.true_eq_false, if_true, if_false, wipeR, ixN_lit, atI_lit, Option.bind_some, Nat.reduceLT, Nat.reduceLeDiff, ML.pos1, List.length_map, isT, List.map_cons, List.map_nil, List.length_cons, List.length_nil, List.cons_append, List.nil_append, List.append_nil, List.replicate, true_and, and_true, Nat.reduceSub, Nat.reduceAdd, Bool.not_true, Bool.not_false, decide_eq_true_eq, Bool.not_eq_true', decide_eq_false_iff_not, Int.reduceToNat, Int.reduceLT, Int.reduceLE, Int.reducePow, Int.reduceNeg, Bool.or_true, Bool.true_or, small_emod, small_lit, pow_10_18, and_self, addD, subD, mulD, modD, fdivD, negD, inD_ints, eqB_int, neB_int, ltB, leB, gtB, geB, isNB_none, notNB, isCB, ixD, lenD, absD, ML.intD, listD, tupD, slD, sl3, appD, metO, truD])
    refine wo_at j0 j1 fun x hx => ?_
    (try simp only [↓we_seq, ↓we_asg, ↓we_ret, ↓we_retN, ↓we_sIf, ↓we_drop, ↓we_nx, ↓we_brk, ↓we_cnt, ↓we_var, ↓we_C, ↓we_frz, ↓we_hold, ↓we_bin, ↓we_cmp, ↓we_un, ↓we_isi, ↓we_aNil, ↓we_aCons, ↓we_cb, ↓we_tup, ↓we_lst, ↓we_b, ↓we_tru, ↓we_and, ↓we_or, ↓we_not, ↓we_andV, ↓we_orV, ↓we_notV, ↓we_mIf, ↓we_chain, ↓we_set, ↓we_mgSub, ↓we_mgTup, ↓we_mgNil, ↓we_mgCons, ↓we_iR1, ↓we_iR2, ↓we_for, ↓we_mNo, ↓we_part, ↓we_sl, ↓we_ms, ↓we_met, ↓we_call_, ↓we_callIo_, ↓we_lc_, ↓we_iA, ↓we_yes, ↓we_par2, ↓we_par3, wo_some, wo_map, iaK_list, iaK_tuple, iaK_str, parK2_e, parK3_e, rd2, rd1, rd2B, rdN, rdAll, rd, hold, boolO, truO, intO, strO, frzO, retO, isIo_zero, isIo_succ, ioB_no, ioB_frz, ioB_own, ioB_io, le_line, lt_line, contAt, ML.putAt, Sl.cont, Sl.put, outsV, tupO, lstO, bo, noB, rtK_rt, rtK_nx, rtK1_rt, rtK1_nx, List.getElem?_cons_zero, List.getElem?_cons_succ, List.set_cons_zero, List.set_cons_succ, Option.map_some, Option.isSome_some, reduceIte, Bool.false_eq_true, Bool.true_eq_false, if_true, if_false, wipeR, ixN_lit, atI_lit, Option.bind_some, Nat.reduceLT, Nat.reduceLeDiff, ML.pos1, List.length_map, isT, List.map_cons, List.map_nil, List.length_cons, List.length_nil, List.cons_append, List.nil_append, List.append_nil, List.replicate, true_and, and_true, Nat.reduceSub, Nat.reduceAdd, Bool.not_true, Bool.not_false, decide_eq_true_eq, Bool.not_eq_true', decide_eq_false_iff_not, Int.reduceToNat, Int.reduceLT, Int.reduceLE, Int.reducePow, Int.reduceNeg, Bool.or_true, Bool.true_or, small_emod, small_lit, pow_10_18, and_self, addD, subD, mulD, modD, fdivD, negD, inD_ints, eqB_int, neB_int, ltB, leB, gtB, geB, isNB_none, notNB, isCB, ixD, lenD, absD, ML.intD, listD, tupD, slD, sl3, appD, metO, truD]); repeat ((first | rw [then_nx] | rw [then_rt] | rw [then_bk] | rw [then_ct]); simp only [↓we_seq, ↓we_asg, ↓we_ret, ↓we_retN, ↓we_sIf, ↓we_drop, ↓we_nx, ↓we_brk, ↓we_cnt, ↓we_var, ↓we_C, ↓we_frz, ↓we_hold, ↓we_bin, ↓we_cmp, ↓we_un, ↓we_isi, ↓we_aNil, ↓we_aCons, ↓we_cb, ↓we_tup, ↓we_lst, ↓we_b, ↓we_tru, ↓we_and, ↓we_or, ↓we_not, ↓we_andV, ↓we_orV, ↓we_notV, ↓we_mIf, ↓we_chain, ↓we_set, ↓we_mgSub, ↓we_mgTup, ↓we_mgNil, ↓we_mgCons, ↓we_iR1, ↓we_iR2, ↓we_for, ↓we_mNo, ↓we_part, ↓we_sl, ↓we_ms, ↓we_met, ↓we_call_, ↓we_callIo_, ↓we_lc_, ↓we_iA, ↓we_yes, ↓we_par2, ↓we_par3, wo_some, wo_map, iaK_list, iaK_tuple, iaK_str, parK2_e, parK3_e, rd2, rd1, rd2B, rdN, rdAll, rd, hold, boolO, truO, intO, strO, frzO, retO, isIo_zero, isIo_succ, ioB_no, ioB_frz, ioB_own, ioB_io, le_line, lt_line, contAt, ML.putAt, Sl.cont, Sl.put, outsV, tupO, lstO, bo, noB, rtK_rt, rtK_nx, rtK1_rt, rtK1_nx, List.getElem?_cons_zero, List.getElem?_cons_succ, List.set_cons_zero, List.set_cons_succ, Option.map_some, Option.isSome_some, reduceIte, Bool.false_eq_true, Bool.true_eq_false, if_true, if_false, wipeR, ixN_lit, atI_lit, Option.bind_some, Nat.reduceLT, Nat.reduceLeDiff, ML.pos1, List.length_map, isT, List.map_cons, List.map_nil, List.length_cons, List.length_nil, List.cons_append, List.nil_append, List.append_nil, List.replicate, true_and, and_true, Nat.reduceSub, Nat.reduceAdd, Bool.not_true, Bool.not_false, decide_eq_true_eq, Bool.not_eq_true', decide_eq_false_iff_not, Int.reduceToNat, Int.reduceLT, Int.reduceLE, Int.reducePow, Int.reduceNeg, Bool.or_true, Bool.true_or, small_emod, small_lit, pow_10_18, and_self, addD, subD, mulD, modD, fdivD, negD, inD_ints, eqB_int, neB_int, ltB, leB, gtB, geB, isNB_none, notNB, isCB, ixD, lenD, absD, ML.intD, listD, tupD, slD, sl3, appD, metO, truD])
    exact ⟨_, rfl, _, rfl, hc'⟩
  · (try simp only [↓we_seq, ↓we_asg, ↓we_ret, ↓we_retN, ↓we_sIf, ↓we_drop, ↓we_nx, ↓we_brk, ↓we_cnt, ↓we_var, ↓we_C, ↓we_frz, ↓we_hold, ↓we_bin, ↓we_cmp, ↓we_un, ↓we_isi, ↓we_aNil, ↓we_aCons, ↓we_cb, ↓we_tup, ↓we_lst, ↓we_b, ↓we_tru, ↓we_and, ↓we_or, ↓we_not, ↓we_andV, ↓we_orV, ↓we_notV, ↓we_mIf, ↓we_chain, ↓we_set, ↓we_mgSub, ↓we_mgTup, ↓we_mgNil, ↓we_mgCons, ↓we_iR1, ↓we_iR2, ↓we_for, ↓we_mNo, ↓we_part, ↓we_sl, ↓we_ms, ↓we_met, ↓we_call_, ↓we_callIo_, ↓we_lc_, ↓we_iA, ↓we_yes, ↓we_par2, ↓we_par3, wo_some, wo_map, iaK_list, iaK_tuple, iaK_str, parK2_e, parK3_e, rd2, rd1, rd2B, rdN, rdAll, rd, hold, boolO, truO, intO, strO, frzO, retO, isIo_zero, isIo_succ, ioB_no, ioB_frz, ioB_own, ioB_io, le_line, lt_line, contAt, ML.putAt, Sl.cont, Sl.put, outsV, tupO, lstO, bo, noB, rtK_rt, rtK_nx, rtK1_rt, rtK1_nx, List.getElem?_cons_zero, List.getElem?_cons_succ, List.set_cons_zero, List.set_cons_succ, Option.map_some, Option.isSome_some, reduceIte, Bool.false_eq_true, Bool.true_eq_false, if_true, if_false, wipeR, ixN_lit, atI_lit, Option.bind_some, Nat.reduceLT, Nat.reduceLeDiff, ML.pos1, List.length_map, isT, List.map_cons, List.map_nil, List.length_cons, List.length_nil, List.cons_append, List.nil_append, List.append_nil, List.replicate, true_and, and_true, Nat.reduceSub, Nat.reduceAdd, Bool.not_true, Bool.not_false, decide_eq_true_eq, Bool.not_eq_true', decide_eq_false_iff_not, Int.reduceToNat, Int.reduceLT, Int.reduceLE, Int.reducePow, Int.reduceNeg, Bool.or_true, Bool.true_or, small_emod, small_lit, pow_10_18, and_self, addD, subD, mulD, modD, fdivD, negD, inD_ints, eqB_int, neB_int, ltB, leB, gtB, geB, isNB_none, notNB, isCB, ixD, lenD, absD, ML.intD, listD, tupD, slD, sl3, appD, metO, truD]); repeat ((first | rw [then_nx] | rw [then_rt] | rw [then_bk] | rw [then_ct]); simp only [↓we_seq, ↓we_asg, ↓we_ret, ↓we_retN, ↓we_sIf, ↓we_drop, ↓we_nx, ↓we_brk, ↓we_cnt, ↓we_var, ↓we_C, ↓we_frz, ↓we_hold, ↓we_bin, ↓we_cmp, ↓we_un, ↓we_isi, ↓we_aNil, ↓we_aCons, ↓we_cb, ↓we_tup, ↓we_lst, ↓we_b, ↓we_tru, ↓we_and, ↓we_or, ↓we_not, ↓we_andV, ↓we_orV, ↓we_notV, ↓we_mIf, ↓we_chain, ↓we_set, ↓we_mgSub, ↓we_mgTup, ↓we_mgNil, ↓we_mgCons, ↓we_iR1, ↓we_iR2, ↓we_for, ↓we_mNo, ↓we_part, ↓we_sl, ↓we_ms, ↓we_met, ↓we_call_, ↓we_callIo_, ↓we_lc_, ↓we_iA, ↓we_yes, ↓we_par2, ↓we_par3, wo_some, wo_map, iaK_list, iaK_tuple, iaK_str, parK2_e, parK3_e, rd2, rd1, rd2B, rdN, rdAll, rd, hold, boolO, truO, intO, strO, frzO, retO, isIo_zero, isIo_succ, ioB_no, ioB_frz, ioB_own, ioB_io, le_line, lt_line, contAt, ML.putAt, Sl.cont, Sl.put, outsV, tupO, lstO, bo, noB, rtK_rt, rtK_nx, rtK1_rt, rtK1_nx, List.getElem?_cons_zero, List.getElem?_cons_succ, List.set_cons_zero, List.set_cons_succ, Option.map_some, Option.isSome_some, reduceIte, Bool.false_eq_true, Bool.true_eq_false, if_true, if_false, wipeR, ixN_lit, atI_lit, Option.bind_some, Nat.reduceLT, Nat.reduceLeDiff, ML.pos1, List.length_map, isT, List.map_cons, List.map_nil, List.length_cons, List.length_nil, List.cons_append, List.nil_append, List.append_nil, List.replicate, true_and, and_true, Nat.reduceSub, Nat.reduceAdd, Bool.not_true, Bool.not_false, decide_eq_true_eq, Bool.not_eq_true', decide_eq_false_iff_not, Int.reduceToNat, Int.reduceLT, Int.reduceLE, Int.reducePow, Int.reduceNeg, Bool.or_true, Bool.true_or, small_emod, small_lit, pow_10_18, and_self, addD, subD, mulD, modD, fdivD, negD, inD_ints, eqB_int, neB_int, ltB, leB, gtB, geB, isNB_none, notNB, isCB, ixD, lenD, absD, ML.intD, listD, tupD, slD, sl3, appD, metO, truD])
    exact ⟨_, rfl, _, rfl, hc⟩
def okN (d : D) : Prop := ((∃ x, d = .tuple [.str x]) ∨ ∀ xs, d ≠ .tuple xs) ∧ ∀ x, d = .str x → x.length ≤ 16777216
theorem near_ok {c : List D} (hc : Dk c) : F1 m__law_near_word c [] (fun r c' => ∃ d, r = .v d ∧ okN d ∧ Dk c') := by
  refine F1.def_ ?_
  (try simp only [↓we_seq, ↓we_asg, ↓we_ret, ↓we_retN, ↓we_sIf, ↓we_drop, ↓we_nx, ↓we_brk, ↓we_cnt, ↓we_var, ↓we_C, ↓we_frz, ↓we_hold, ↓we_bin, ↓we_cmp, ↓we_un, ↓we_isi, ↓we_aNil, ↓we_aCons, ↓we_cb, ↓we_tup, ↓we_lst, ↓we_b, ↓we_tru, ↓we_and, ↓we_or, ↓we_not, ↓we_andV, ↓we_orV, ↓we_notV, ↓we_mIf, ↓we_chain, ↓we_set, ↓we_mgSub, ↓we_mgTup, ↓we_mgNil, ↓we_mgCons, ↓we_iR1, ↓we_iR2, ↓we_for, ↓we_mNo, ↓we_part, ↓we_sl, ↓we_ms, ↓we_met, ↓we_call_, ↓we_callIo_, ↓we_lc_, ↓we_iA, ↓we_yes, ↓we_par2, ↓we_par3, wo_some, wo_map, iaK_list, iaK_tuple, iaK_str, parK2_e, parK3_e, rd2, rd1, rd2B, rdN, rdAll, rd, hold, boolO, truO, intO, strO, frzO, retO, isIo_zero, isIo_succ, ioB_no, ioB_frz, ioB_own, ioB_io, le_line, lt_line, contAt, ML.putAt, Sl.cont, Sl.put, outsV, tupO, lstO, bo, noB, rtK_rt, rtK_nx, rtK1_rt, rtK1_nx, List.getElem?_cons_zero, List.getElem?_cons_succ, List.set_cons_zero, List.set_cons_succ, Option.map_some, Option.isSome_some, reduceIte, Bool.false_eq_true, Bool.true_eq_false, if_true, if_false, wipeR, ixN_lit, atI_lit, Option.bind_some, Nat.reduceLT, Nat.reduceLeDiff, ML.pos1, List.length_map, isT, List.map_cons, List.map_nil, List.length_cons, List.length_nil, List.cons_append, List.nil_append, List.append_nil, List.replicate, true_and, and_true, Nat.reduceSub, Nat.reduceAdd, Bool.not_true, Bool.not_false, decide_eq_true_eq, Bool.not_eq_true', decide_eq_false_iff_not, Int.reduceToNat, Int.reduceLT, Int.reduceLE, Int.reducePow, Int.reduceNeg, Bool.or_true, Bool.true_or, small_emod, small_lit, pow_10_18, and_self, addD, subD, mulD, modD, fdivD, negD, inD_ints, eqB_int, neB_int, ltB, leB, gtB, geB, isNB_none, notNB, isCB, ixD, lenD, absD, ML.intD, listD, tupD, slD, sl3, appD, metO, truD]); repeat ((first | rw [then_nx] | rw [then_rt] | rw [then_bk] | rw [then_ct]); simp only [↓we_seq, ↓we_asg, ↓we_ret, ↓we_retN, ↓we_sIf, ↓we_drop, ↓we_nx, ↓we_brk, ↓we_cnt, ↓we_var, ↓we_C, ↓we_frz, ↓we_hold, ↓we_bin, ↓we_cmp, ↓we_un, ↓we_isi, ↓we_aNil, ↓we_aCons, ↓we_cb, ↓we_tup, ↓we_lst, ↓we_b, ↓we_tru, ↓we_and, ↓we_or, ↓we_not, ↓we_andV, ↓we_orV, ↓we_notV, ↓we_mIf, ↓we_chain, ↓we_set, ↓we_mgSub, ↓we_mgTup, ↓we_mgNil, ↓we_mgCons, ↓we_iR1, ↓we_iR2, ↓we_for, ↓we_mNo, ↓we_part, ↓we_sl, ↓we_ms, ↓we_met, ↓we_call_, ↓we_callIo_, ↓we_lc_, ↓we_iA, ↓we_yes, ↓we_par2, ↓we_par3, wo_some, wo_map, iaK_list, iaK_tuple, iaK_str, parK2_e, parK3_e, rd2, rd1, rd2B, rdN, rdAll, rd, hold, boolO, truO, intO, strO, frzO, retO, isIo_zero, isIo_succ, ioB_no, ioB_frz, ioB_own, ioB_io, le_line, lt_line, contAt, ML.putAt, Sl.cont, Sl.put, outsV, tupO, lstO, bo, noB, rtK_rt, rtK_nx, rtK1_rt, rtK1_nx, List.getElem?_cons_zero, List.getElem?_cons_succ, List.set_cons_zero, List.set_cons_succ, Option.map_some, Option.isSome_some, reduceIte, Bool.false_eq_true, Bool.true_eq_false, if_true, if_false, wipeR, ixN_lit, atI_lit, Option.bind_some, Nat.reduceLT, Nat.reduceLeDiff, ML.pos1, List.length_map, isT, List.map_cons, List.map_nil, List.length_cons, List.length_nil, List.cons_append, List.nil_append, List.append_nil, List.replicate, true_and, and_true, Nat.reduceSub, Nat.reduceAdd, Bool.not_true, Bool.not_false, decide_eq_true_eq, Bool.not_eq_true', decide_eq_false_iff_not, Int.reduceToNat, Int.reduceLT, Int.reduceLE, Int.reducePow, Int.reduceNeg, Bool.or_true, Bool.true_or, small_emod, small_lit, pow_10_18, and_self, addD, subD, mulD, modD, fdivD, negD, inD_ints, eqB_int, neB_int, ltB, leB, gtB, geB, isNB_none, notNB, isCB, ixD, lenD, absD, ML.intD, listD, tupD, slD, sl3, appD, metO, truD])
  refine we_callIo (word_ok hc) rfl rfl rfl ?_
  rintro r c' - ⟨x, rfl, x1, x2, hc'⟩
  (try simp only [↓we_seq, ↓we_asg, ↓we_ret, ↓we_retN, ↓we_sIf, ↓we_drop, ↓we_nx, ↓we_brk, ↓we_cnt, ↓we_var, ↓we_C, ↓we_frz, ↓we_hold, ↓we_bin, ↓we_cmp, ↓we_un, ↓we_isi, ↓we_aNil, ↓we_aCons, ↓we_cb, ↓we_tup, ↓we_lst, ↓we_b, ↓we_tru, ↓we_and, ↓we_or, ↓we_not, ↓we_andV, ↓we_orV, ↓we_notV, ↓we_mIf, ↓we_chain, ↓we_set, ↓we_mgSub, ↓we_mgTup, ↓we_mgNil, ↓we_mgCons, ↓we_iR1, ↓we_iR2, ↓we_for, ↓we_mNo, ↓we_part, ↓we_sl, ↓we_ms, ↓we_met, ↓we_call_, ↓we_callIo_, ↓we_lc_, ↓we_iA, ↓we_yes, ↓we_par2, ↓we_par3, wo_some, wo_map, iaK_list, iaK_tuple, iaK_str, parK2_e, parK3_e, rd2, rd1, rd2B, rdN, rdAll, rd, hold, boolO, truO, intO, strO, frzO, retO, isIo_zero, isIo_succ, ioB_no, ioB_frz, ioB_own, ioB_io, le_line, lt_line, contAt, ML.putAt, Sl.cont, Sl.put, outsV, tupO, lstO, bo, noB, rtK_rt, rtK_nx, rtK1_rt, rtK1_nx, List.getElem?_cons_zero, List.getElem?_cons_succ, List.set_cons_zero, List.set_cons_succ, Option.map_some, Option.isSome_some, reduceIte, Bool.false_eq_true, Bool.true_eq_false, if_true, if_false, wipeR, ixN_lit, atI_lit, Option.bind_some, Nat.reduceLT, Nat.reduceLeDiff, ML.pos1, List.length_map, isT, List.map_cons, List.map_nil, List.length_cons, List.length_nil, List.cons_append, List.nil_append, List.append_nil, List.replicate, true_and, and_true, Nat.reduceSub, Nat.reduceAdd, Bool.not_true, Bool.not_false, decide_eq_true_eq, Bool.not_eq_true', decide_eq_false_iff_not, Int.reduceToNat, Int.reduceLT, Int.reduceLE, Int.reducePow, Int.reduceNeg, Bool.or_true, Bool.true_or, small_emod, small_lit, pow_10_18, and_self, addD, subD, mulD, modD, fdivD, negD, inD_ints, eqB_int, neB_int, ltB, leB, gtB, geB, isNB_none, notNB, isCB, ixD, lenD, absD, ML.intD, listD, tupD, slD, sl3, appD, metO, truD])
  (first | rw [then_nx] | rw [then_rt] | rw [then_bk] | rw [then_ct])
  (try simp only [↓we_seq, ↓we_asg, ↓we_ret, ↓we_retN, ↓we_sIf, ↓we_drop, ↓we_nx, ↓we_brk, ↓we_cnt, ↓we_var, ↓we_C, ↓we_frz, ↓we_hold, ↓we_bin, ↓we_cmp, ↓we_un, ↓we_isi, ↓we_aNil, ↓we_aCons, ↓we_cb, ↓we_tup, ↓we_lst, ↓we_b, ↓we_tru, ↓we_and, ↓we_or, ↓we_not, ↓we_andV, ↓we_orV, ↓we_notV, ↓we_mIf, ↓we_chain, ↓we_set, ↓we_mgSub, ↓we_mgTup, ↓we_mgNil, ↓we_mgCons, ↓we_iR1, ↓we_iR2, ↓we_for, ↓we_mNo, ↓we_part, ↓we_sl, ↓we_ms, ↓we_met, ↓we_call_, ↓we_callIo_, ↓we_lc_, ↓we_iA, ↓we_yes, ↓we_par2, ↓we_par3, wo_some, wo_map, iaK_list, iaK_tuple, iaK_str, parK2_e, parK3_e, rd2, rd1, rd2B, rdN, rdAll, rd, hold, boolO, truO, intO, strO, frzO, retO, isIo_zero, isIo_succ, ioB_no, ioB_frz, ioB_own, ioB_io, le_line, lt_line, contAt, ML.putAt, Sl.cont, Sl.put, outsV, tupO, lstO, bo, noB, rtK_rt, rtK_nx, rtK1_rt, rtK1_nx, List.getElem?_cons_zero, List.getElem?_cons_succ, List.set_cons_zero, List.set_cons_succ, Option.map_some, Option.isSome_some, reduceIte, Bool.false_eq_true, Bool.true_eq_false, if_true, if_false, wipeR, ixN_lit, atI_lit, Option.bind_some, Nat.reduceLT, Nat.reduceLeDiff, ML.pos1, List.length_map, isT, List.map_cons, List.map_nil, List.length_cons, List.length_nil, List.cons_append, List.nil_append, List.append_nil, List.replicate, true_and, and_true, Nat.reduceSub, Nat.reduceAdd, Bool.not_true, Bool.not_false, decide_eq_true_eq, Bool.not_eq_true', decide_eq_false_iff_not, Int.reduceToNat, Int.reduceLT, Int.reduceLE, Int.reducePow, Int.reduceNeg, Bool.or_true, Bool.true_or, small_emod, small_lit, pow_10_18, and_self, addD, subD, mulD, modD, fdivD, negD, inD_ints, eqB_int, neB_int, ltB, leB, gtB, geB, isNB_none, notNB, isCB, ixD, lenD, absD, ML.intD, listD, tupD, slD, sl3, appD, metO, truD, if_pos (show x.length ≤ 16777216 by omega)]);
  refine we_callIo (draw_ok hc' (n := x.length) (by omega) (by omega)) rfl rfl rfl ?_
  rintro r c' - ⟨k, rfl, k0, k1, hc'⟩
  (try simp only [↓we_seq, ↓we_asg, ↓we_ret, ↓we_retN, ↓we_sIf, ↓we_drop, ↓we_nx, ↓we_brk, ↓we_cnt, ↓we_var, ↓we_C, ↓we_frz, ↓we_hold, ↓we_bin, ↓we_cmp, ↓we_un, ↓we_isi, ↓we_aNil, ↓we_aCons, ↓we_cb, ↓we_tup, ↓we_lst, ↓we_b, ↓we_tru, ↓we_and, ↓we_or, ↓we_not, ↓we_andV, ↓we_orV, ↓we_notV, ↓we_mIf, ↓we_chain, ↓we_set, ↓we_mgSub, ↓we_mgTup, ↓we_mgNil, ↓we_mgCons, ↓we_iR1, ↓we_iR2, ↓we_for, ↓we_mNo, ↓we_part, ↓we_sl, ↓we_ms, ↓we_met, ↓we_call_, ↓we_callIo_, ↓we_lc_, ↓we_iA, ↓we_yes, ↓we_par2, ↓we_par3, wo_some, wo_map, iaK_list, iaK_tuple, iaK_str, parK2_e, parK3_e, rd2, rd1, rd2B, rdN, rdAll, rd, hold, boolO, truO, intO, strO, frzO, retO, isIo_zero, isIo_succ, ioB_no, ioB_frz, ioB_own, ioB_io, le_line, lt_line, contAt, ML.putAt, Sl.cont, Sl.put, outsV, tupO, lstO, bo, noB, rtK_rt, rtK_nx, rtK1_rt, rtK1_nx, List.getElem?_cons_zero, List.getElem?_cons_succ, List.set_cons_zero, List.set_cons_succ, Option.map_some, Option.isSome_some, reduceIte, Bool.false_eq_true, Bool.true_eq_false, if_true, if_false, wipeR, ixN_lit, atI_lit, Option.bind_some, Nat.reduceLT, Nat.reduceLeDiff, ML.pos1, List.length_map, isT, List.map_cons, List.map_nil, List.length_cons, List.length_nil, List.cons_append, List.nil_append, List.append_nil, List.replicate, true_and, and_true, Nat.reduceSub, Nat.reduceAdd, Bool.not_true, Bool.not_false, decide_eq_true_eq, Bool.not_eq_true', decide_eq_false_iff_not, Int.reduceToNat, Int.reduceLT, Int.reduceLE, Int.reducePow, Int.reduceNeg, Bool.or_true, Bool.true_or, small_emod, small_lit, pow_10_18, and_self, addD, subD, mulD, modD, fdivD, negD, inD_ints, eqB_int, neB_int, ltB, leB, gtB, geB, isNB_none, notNB, isCB, ixD, lenD, absD, ML.intD, listD, tupD, slD, sl3, appD, metO, truD])
  (first | rw [then_nx] | rw [then_rt] | rw [then_bk] | rw [then_ct])
  (try simp only [↓we_seq, ↓we_asg, ↓we_ret, ↓we_retN, ↓we_sIf, ↓we_drop, ↓we_nx, ↓we_brk, ↓we_cnt, ↓we_var, ↓we_C, ↓we_frz, ↓we_hold, ↓we_bin, ↓we_cmp, ↓we_un, ↓we_isi, ↓we_aNil, ↓we_aCons, ↓we_cb, ↓we_tup, ↓we_lst, ↓we_b, ↓we_tru, ↓we_and, ↓we_or, ↓we_not, ↓we_andV, ↓we_orV, ↓we_notV, ↓we_mIf, ↓we_chain, ↓we_set, ↓we_mgSub, ↓we_mgTup, ↓we_mgNil, ↓we_mgCons, ↓we_iR1, ↓we_iR2, ↓we_for, ↓we_mNo, ↓we_part, ↓we_sl, ↓we_ms, ↓we_met, ↓we_call_, ↓we_callIo_, ↓we_lc_, ↓we_iA, ↓we_yes, ↓we_par2, ↓we_par3, wo_some, wo_map, iaK_list, iaK_tuple, iaK_str, parK2_e, parK3_e, rd2, rd1, rd2B, rdN, rdAll, rd, hold, boolO, truO, intO, strO, frzO, retO, isIo_zero, isIo_succ, ioB_no, ioB_frz, ioB_own, ioB_io, le_line, lt_line, contAt, ML.putAt, Sl.cont, Sl.put, outsV, tupO, lstO, bo, noB, rtK_rt, rtK_nx, rtK1_rt, rtK1_nx, List.getElem?_cons_zero, List.getElem?_cons_succ, List.set_cons_zero, List.set_cons_succ, Option.map_some, Option.isSome_some, reduceIte, Bool.false_eq_true, Bool.true_eq_false, if_true, if_false, wipeR, ixN_lit, atI_lit, Option.bind_some, Nat.reduceLT, Nat.reduceLeDiff, ML.pos1, List.length_map, isT, List.map_cons, List.map_nil, List.length_cons, List.length_nil, List.cons_append, List.nil_append, List.append_nil, List.replicate, true_and, and_true, Nat.reduceSub, Nat.reduceAdd, Bool.not_true, Bool.not_false, decide_eq_true_eq, Bool.not_eq_true', decide_eq_false_iff_not, Int.reduceToNat, Int.reduceLT, Int.reduceLE, Int.reducePow, Int.reduceNeg, Bool.or_true, Bool.true_or, small_emod, small_lit, pow_10_18, and_self, addD, subD, mulD, modD, fdivD, negD, inD_ints, eqB_int, neB_int, ltB, leB, gtB, geB, isNB_none, notNB, isCB, ixD, lenD, absD, ML.intD, listD, tupD, slD, sl3, appD, metO, truD])
  refine we_callIo (draw_ok hc' (n := 9) (by decide) (by decide)) rfl rfl rfl ?_
  rintro r c' - ⟨j, rfl, j0, j1, hc'⟩
  (try simp only [↓we_seq, ↓we_asg, ↓we_ret, ↓we_retN, ↓we_sIf, ↓we_drop, ↓we_nx, ↓we_brk, ↓we_cnt, ↓we_var, ↓we_C, ↓we_frz, ↓we_hold, ↓we_bin, ↓we_cmp, ↓we_un, ↓we_isi, ↓we_aNil, ↓we_aCons, ↓we_cb, ↓we_tup, ↓we_lst, ↓we_b, ↓we_tru, ↓we_and, ↓we_or, ↓we_not, ↓we_andV, ↓we_orV, ↓we_notV, ↓we_mIf, ↓we_chain, ↓we_set, ↓we_mgSub, ↓we_mgTup, ↓we_mgNil, ↓we_mgCons, ↓we_iR1, ↓we_iR2, ↓we_for, ↓we_mNo, ↓we_part, ↓we_sl, ↓we_ms, ↓we_met, ↓we_call_, ↓we_callIo_, ↓we_lc_, ↓we_iA, ↓we_yes, ↓we_par2, ↓we_par3, wo_some, wo_map, iaK_list, iaK_tuple, iaK_str, parK2_e, parK3_e, rd2, rd1, rd2B, rdN, rdAll, rd, hold, boolO, truO, intO, strO, frzO, retO, isIo_zero, isIo_succ, ioB_no, ioB_frz, ioB_own, ioB_io, le_line, lt_line, contAt, ML.putAt, Sl.cont, Sl.put, outsV, tupO, lstO, bo, noB, rtK_rt, rtK_nx, rtK1_rt, rtK1_nx, List.getElem?_cons_zero, List.getElem?_cons_succ, List.set_cons_zero, List.set_cons_succ, Option.map_some, Option.isSome_some, reduceIte, Bool.false_eq_true, Bool.true_eq_false, if_true, if_false, wipeR, ixN_lit, atI_lit, Option.bind_some, Nat.reduceLT, Nat.reduceLeDiff, ML.pos1, List.length_map, isT, List.map_cons, List.map_nil, List.length_cons, List.length_nil, List.cons_append, List.nil_append, List.append_nil, List.replicate, true_and, and_true, Nat.reduceSub, Nat.reduceAdd, Bool.not_true, Bool.not_false, decide_eq_true_eq, Bool.not_eq_true', decide_eq_false_iff_not, Int.reduceToNat, Int.reduceLT, Int.reduceLE, Int.reducePow, Int.reduceNeg, Bool.or_true, Bool.true_or, small_emod, small_lit, pow_10_18, and_self, addD, subD, mulD, modD, fdivD, negD, inD_ints, eqB_int, neB_int, ltB, leB, gtB, geB, isNB_none, notNB, isCB, ixD, lenD, absD, ML.intD, listD, tupD, slD, sl3, appD, metO, truD])
  refine wo_at j0 j1 fun y hy => ?_
  have all9 : ∃ z : Str, y = .str z ∧ z.length = 1 := by
    revert y hy
    refine all_cons ⟨_, rfl, ?_⟩ (all_cons ⟨_, rfl, ?_⟩ (all_cons ⟨_, rfl, ?_⟩ (all_cons ⟨_, rfl, ?_⟩ (all_cons ⟨_, rfl, ?_⟩ (all_cons ⟨_, rfl, ?_⟩ (all_cons ⟨_, rfl, ?_⟩ (all_cons ⟨_, rfl, ?_⟩ (all_cons ⟨_, rfl, ?_⟩ all_nil)))))))) <;> decide +kernel
  obtain ⟨z, rfl, hz⟩ := all9
  (try simp only [↓we_seq, ↓we_asg, ↓we_ret, ↓we_retN, ↓we_sIf, ↓we_drop, ↓we_nx, ↓we_brk, ↓we_cnt, ↓we_var, ↓we_C, ↓we_frz, ↓we_hold, ↓we_bin, ↓we_cmp, ↓we_un, ↓we_isi, ↓we_aNil, ↓we_aCons, ↓we_cb, ↓we_tup, ↓we_lst, ↓we_b, ↓we_tru, ↓we_and, ↓we_or, ↓we_not, ↓we_andV, ↓we_orV, ↓we_notV, ↓we_mIf, ↓we_chain, ↓we_set, ↓we_mgSub, ↓we_mgTup, ↓we_mgNil, ↓we_mgCons, ↓we_iR1, ↓we_iR2, ↓we_for, ↓we_mNo, ↓we_part, ↓we_sl, ↓we_ms, ↓we_met, ↓we_call_, ↓we_callIo_, ↓we_lc_, ↓we_iA, ↓we_yes, ↓we_par2, ↓we_par3, wo_some, wo_map, iaK_list, iaK_tuple, iaK_str, parK2_e, parK3_e, rd2, rd1, rd2B, rdN, rdAll, rd, hold, boolO, truO, intO, strO, frzO, retO, isIo_zero, isIo_succ, ioB_no, ioB_frz, ioB_own, ioB_io, le_line, lt_line, contAt, ML.putAt, Sl.cont, Sl.put, outsV, tupO, lstO, bo, noB, rtK_rt, rtK_nx, rtK1_rt, rtK1_nx, List.getElem?_cons_zero, List.getElem?_cons_succ, List.set_cons_zero, List.set_cons_succ, Option.map_some, Option.isSome_some, reduceIte, Bool.false_eq_true, Bool.true_eq_false, if_true, if_false, wipeR, ixN_lit, atI_lit, Option.bind_some, Nat.reduceLT, Nat.reduceLeDiff, ML.pos1, List.length_map, isT, List.map_cons, List.map_nil, List.length_cons, List.length_nil, List.cons_append, List.nil_append, List.append_nil, List.replicate, true_and, and_true, Nat.reduceSub, Nat.reduceAdd, Bool.not_true, Bool.not_false, decide_eq_true_eq, Bool.not_eq_true', decide_eq_false_iff_not, Int.reduceToNat, Int.reduceLT, Int.reduceLE, Int.reducePow, Int.reduceNeg, Bool.or_true, Bool.true_or, small_emod, small_lit, pow_10_18, and_self, addD, subD, mulD, modD, fdivD, negD, inD_ints, eqB_int, neB_int, ltB, leB, gtB, geB, isNB_none, notNB, isCB, ixD, lenD, absD, ML.intD, listD, tupD, slD, sl3, appD, metO, truD])
  (first | rw [then_nx] | rw [then_rt] | rw [then_bk] | rw [then_ct])
  have l12 : ("abcdefghijkl" : Str).length = 12 := by decide +kernel
  have l13 : ("abcdefghijklm" : Str).length = 13 := by decide +kernel
  have ln : ("\n" : Str).length = 1 := by decide +kernel
  have lz : ("z" : Str).length = 1 := by decide +kernel
  have la : ("a" : Str).length = 1 := by decide +kernel
  have lsp : (" " : Str).length = 1 := by decide +kernel
  have c1 := cutS_length x none (some k)
  have c2 := cutS_length x (some (k + 1)) none
  have e1 : x.length + ("abcdefghijkl" : Str).length ≤ 16777216 := by omega
  have e2 : x.length + ("abcdefghijklm" : Str).length ≤ 16777216 := by omega
  have e3 : (x ++ ("abcdefghijkl" : Str)).length ≤ 16777216 := by rw [PySem.Str.length_append]; omega
  have e4 : (x ++ ("abcdefghijklm" : Str)).length ≤ 16777216 := by rw [PySem.Str.length_append]; omega
  have e5 : x.length ≤ 16777216 := by omega
  have e6 : (cutS x none (some k)).length + z.length ≤ 16777216 := by omega
  have e7 : (cutS x none (some k) ++ z).length + (cutS x (some (k + 1)) none).length ≤ 16777216 := by rw [PySem.Str.length_append]; omega
  have e8 : x.length + ("\n" : Str).length ≤ 16777216 := by omega
  have e9 : x.length + (" " : Str).length ≤ 16777216 := by omega
  (try simp only [↓we_seq, ↓we_asg, ↓we_ret, ↓we_retN, ↓we_sIf, ↓we_drop, ↓we_nx, ↓we_brk, ↓we_cnt, ↓we_var, ↓we_C, ↓we_frz, ↓we_hold, ↓we_bin, ↓we_cmp, ↓we_un, ↓we_isi, ↓we_aNil, ↓we_aCons, ↓we_cb, ↓we_tup, ↓we_lst, ↓we_b, ↓we_tru, ↓we_and, ↓we_or, ↓we_not, ↓we_andV, ↓we_orV, ↓we_notV, ↓we_mIf, ↓we_chain, ↓we_set, ↓we_mgSub, ↓we_mgTup, ↓we_mgNil, ↓we_mgCons, ↓we_iR1, ↓we_iR2, ↓we_for, ↓we_mNo, ↓we_part, ↓we_sl, ↓we_ms, ↓we_met, ↓we_call_, ↓we_callIo_, ↓we_lc_, ↓we_iA, ↓we_yes, ↓we_par2, ↓we_par3, wo_some, wo_map, iaK_list, iaK_tuple, iaK_str, parK2_e, parK3_e, rd2, rd1, rd2B, rdN, rdAll, rd, hold, boolO, truO, intO, strO, frzO, retO, isIo_zero, isIo_succ, ioB_no, ioB_frz, ioB_own, ioB_io, le_line, lt_line, contAt, ML.putAt, Sl.cont, Sl.put, outsV, tupO, lstO, bo, noB, rtK_rt, rtK_nx, rtK1_rt, rtK1_nx, List.getElem?_cons_zero, List.getElem?_cons_succ, List.set_cons_zero, List.set_cons_succ, Option.map_some, Option.isSome_some, reduceIte, Bool.false_eq_true, Bool.true_eq_false, if_true, if_false, wipeR, ixN_lit, atI_lit, Option.bind_some, Nat.reduceLT, Nat.reduceLeDiff, ML.pos1, List.length_map, isT, List.map_cons, List.map_nil, List.length_cons, List.length_nil, List.cons_append, List.nil_append, List.append_nil, List.replicate, true_and, and_true, Nat.reduceSub, Nat.reduceAdd, Bool.not_true, Bool.not_false, decide_eq_true_eq, Bool.not_eq_true', decide_eq_false_iff_not, Int.reduceToNat, Int.reduceLT, Int.reduceLE, Int.reducePow, Int.reduceNeg, Bool.or_true, Bool.true_or, small_emod, small_lit, pow_10_18, and_self, addD, subD, mulD, modD, fdivD, negD, inD_ints, eqB_int, neB_int, ltB, leB, gtB, geB, isNB_none, notNB, isCB, ixD, lenD, absD, ML.intD, listD, tupD, slD, sl3, appD, metO, truD, e1, e2, e3, e4, e5, e6, e7, e8, e9]);
  (first | rw [then_nx] | rw [then_rt] | rw [then_bk] | rw [then_ct])
  (try simp only [↓we_seq, ↓we_asg, ↓we_ret, ↓we_retN, ↓we_sIf, ↓we_drop, ↓we_nx, ↓we_brk, ↓we_cnt, ↓we_var, ↓we_C, ↓we_frz, ↓we_hold, ↓we_bin, ↓we_cmp, ↓we_un, ↓we_isi, ↓we_aNil, ↓we_aCons, ↓we_cb, ↓we_tup, ↓we_lst, ↓we_b, ↓we_tru, ↓we_and, ↓we_or, ↓we_not, ↓we_andV, ↓we_orV, ↓we_notV, ↓we_mIf, ↓we_chain, ↓we_set, ↓we_mgSub, ↓we_mgTup, ↓we_mgNil, ↓we_mgCons, ↓we_iR1, ↓we_iR2, ↓we_for, ↓we_mNo, ↓we_part, ↓we_sl, ↓we_ms, ↓we_met, ↓we_call_, ↓we_callIo_, ↓we_lc_, ↓we_iA, ↓we_yes, ↓we_par2, ↓we_par3, wo_some, wo_map, iaK_list, iaK_tuple, iaK_str, parK2_e, parK3_e, rd2, rd1, rd2B, rdN, rdAll, rd, hold, boolO, truO, intO, strO, frzO, retO, isIo_zero, isIo_succ, ioB_no, ioB_frz, ioB_own, ioB_io, le_line, lt_line, contAt, ML.putAt, Sl.cont, Sl.put, outsV, tupO, lstO, bo, noB, rtK_rt, rtK_nx, rtK1_rt, rtK1_nx, List.getElem?_cons_zero, List.getElem?_cons_succ, List.set_cons_zero, List.set_cons_succ, Option.map_some, Option.isSome_some, reduceIte, Bool.false_eq_true, Bool.true_eq_false, if_true, if_false, wipeR, ixN_lit, atI_lit, Option.bind_some, Nat.reduceLT, Nat.reduceLeDiff, ML.pos1, List.length_map, isT, List.map_cons, List.map_nil, List.length_cons, List.length_nil, List.cons_append, List.nil_append, List.append_nil, List.replicate, true_and, and_true, Nat.reduceSub, Nat.reduceAdd, Bool.not_true, Bool.not_false, decide_eq_true_eq, Bool.not_eq_true', decide_eq_false_iff_not, Int.reduceToNat, Int.reduceLT, Int.reduceLE, Int.reducePow, Int.reduceNeg, Bool.or_true, Bool.true_or, small_emod, small_lit, pow_10_18, and_self, addD, subD, mulD, modD, fdivD, negD, inD_ints, eqB_int, neB_int, ltB, leB, gtB, geB, isNB_none, notNB, isCB, ixD, lenD, absD, ML.intD, listD, tupD, slD, sl3, appD, metO, truD, e9, lz, la, ne_eq, Nat.one_ne_zero, not_false_eq_true]);
  refine we_callIo (draw_ok hc' (n := 16) (by decide) (by decide)) rfl rfl rfl ?_
  rintro r c' - ⟨i, rfl, i0, i1, hc'⟩
  (try simp only [↓we_seq, ↓we_asg, ↓we_ret, ↓we_retN, ↓we_sIf, ↓we_drop, ↓we_nx, ↓we_brk, ↓we_cnt, ↓we_var, ↓we_C, ↓we_frz, ↓we_hold, ↓we_bin, ↓we_cmp, ↓we_un, ↓we_isi, ↓we_aNil, ↓we_aCons, ↓we_cb, ↓we_tup, ↓we_lst, ↓we_b, ↓we_tru, ↓we_and, ↓we_or, ↓we_not, ↓we_andV, ↓we_orV, ↓we_notV, ↓we_mIf, ↓we_chain, ↓we_set, ↓we_mgSub, ↓we_mgTup, ↓we_mgNil, ↓we_mgCons, ↓we_iR1, ↓we_iR2, ↓we_for, ↓we_mNo, ↓we_part, ↓we_sl, ↓we_ms, ↓we_met, ↓we_call_, ↓we_callIo_, ↓we_lc_, ↓we_iA, ↓we_yes, ↓we_par2, ↓we_par3, wo_some, wo_map, iaK_list, iaK_tuple, iaK_str, parK2_e, parK3_e, rd2, rd1, rd2B, rdN, rdAll, rd, hold, boolO, truO, intO, strO, frzO, retO, isIo_zero, isIo_succ, ioB_no, ioB_frz, ioB_own, ioB_io, le_line, lt_line, contAt, ML.putAt, Sl.cont, Sl.put, outsV, tupO, lstO, bo, noB, rtK_rt, rtK_nx, rtK1_rt, rtK1_nx, List.getElem?_cons_zero, List.getElem?_cons_succ, List.set_cons_zero, List.set_cons_succ, Option.map_some, Option.isSome_some, reduceIte, Bool.false_eq_true, Bool.true_eq_false, if_true, if_false, wipeR, ixN_lit, atI_lit, Option.bind_some, Nat.reduceLT, Nat.reduceLeDiff, ML.pos1, List.length_map, isT, List.map_cons, List.map_nil, List.length_cons, List.length_nil, List.cons_append, List.nil_append, List.append_nil, List.replicate, true_and, and_true, Nat.reduceSub, Nat.reduceAdd, Bool.not_true, Bool.not_false, decide_eq_true_eq, Bool.not_eq_true', decide_eq_false_iff_not, Int.reduceToNat, Int.reduceLT, Int.reduceLE, Int.reducePow, Int.reduceNeg, Bool.or_true, Bool.true_or, small_emod, small_lit, pow_10_18, and_self, addD, subD, mulD, modD, fdivD, negD, inD_ints, eqB_int, neB_int, ltB, leB, gtB, geB, isNB_none, notNB, isCB, ixD, lenD, absD, ML.intD, listD, tupD, slD, sl3, appD, metO, truD])
  refine wo_at i0 i1 fun y hy => ?_
  have okd : okN y := by
    revert y hy
    repeat' (first | exact all_nil | refine all_cons ?_ ?_)
    all_goals (refine ⟨?_, ?_⟩; focus (first | exact .inl ⟨_, rfl⟩ | (refine .inr fun xs e => ?_; cases e)))
    all_goals (intro y e; cases e)
    · exact e5
    · exact Nat.le_trans (cutS_length _ _ _) e3
    · exact Nat.le_trans (cutS_length _ _ _) e4
    · decide +kernel
    · rw [PySem.Str.length_append]; exact e7
    · rw [PySem.Str.length_append]; exact e8
    · decide +kernel
    · decide +kernel
    · decide +kernel
    · decide +kernel
    · rw [PySem.Str.length_append]; exact e9
  (try simp only [↓we_seq, ↓we_asg, ↓we_ret, ↓we_retN, ↓we_sIf, ↓we_drop, ↓we_nx, ↓we_brk, ↓we_cnt, ↓we_var, ↓we_C, ↓we_frz, ↓we_hold, ↓we_bin, ↓we_cmp, ↓we_un, ↓we_isi, ↓we_aNil, ↓we_aCons, ↓we_cb, ↓we_tup, ↓we_lst, ↓we_b, ↓we_tru, ↓we_and, ↓we_or, ↓we_not, ↓we_andV, ↓we_orV, ↓we_notV, ↓we_mIf, ↓we_chain, ↓we_set, ↓we_mgSub, ↓we_mgTup, ↓we_mgNil, ↓we_mgCons, ↓we_iR1, ↓we_iR2, ↓we_for, ↓we_mNo, ↓we_part, ↓we_sl, ↓we_ms, ↓we_met, ↓we_call_, ↓we_callIo_, ↓we_lc_, ↓we_iA, ↓we_yes, ↓we_par2, ↓we_par3, wo_some, wo_map, iaK_list, iaK_tuple, iaK_str, parK2_e, parK3_e, rd2, rd1, rd2B, rdN, rdAll, rd, hold, boolO, truO, intO, strO, frzO, retO, isIo_zero, isIo_succ, ioB_no, ioB_frz, ioB_own, ioB_io, le_line, lt_line, contAt, ML.putAt, Sl.cont, Sl.put, outsV, tupO, lstO, bo, noB, rtK_rt, rtK_nx, rtK1_rt, rtK1_nx, List.getElem?_cons_zero, List.getElem?_cons_succ, List.set_cons_zero, List.set_cons_succ, Option.map_some, Option.isSome_some, reduceIte, Bool.false_eq_true, Bool.true_eq_false, if_true, if_false, wipeR, ixN_lit, atI_lit, Option.bind_some, Nat.reduceLT, Nat.reduceLeDiff, ML.pos1, List.length_map, isT, List.map_cons, List.map_nil, List.length_cons, List.length_nil, List.cons_append, List.nil_append, List.append_nil, List.replicate, true_and, and_true, Nat.reduceSub, Nat.reduceAdd, Bool.not_true, Bool.not_false, decide_eq_true_eq, Bool.not_eq_true', decide_eq_false_iff_not, Int.reduceToNat, Int.reduceLT, Int.reduceLE, Int.reducePow, Int.reduceNeg, Bool.or_true, Bool.true_or, small_emod, small_lit, pow_10_18, and_self, addD, subD, mulD, modD, fdivD, negD, inD_ints, eqB_int, neB_int, ltB, leB, gtB, geB, isNB_none, notNB, isCB, ixD, lenD, absD, ML.intD, listD, tupD, slD, sl3, appD, metO, truD]); repeat ((first | rw [then_nx] | rw [then_rt] | rw [then_bk] | rw [then_ct]); simp only [↓we_seq, ↓we_asg, ↓we_ret, ↓we_retN, ↓we_sIf, ↓we_drop, ↓we_nx, ↓we_brk, ↓we_cnt, ↓we_var, ↓we_C, ↓we_frz, ↓we_hold, ↓we_bin, ↓we_cmp, ↓we_un, ↓we_isi, ↓we_aNil, ↓we_aCons, ↓we_cb, ↓we_tup, ↓we_lst, ↓we_b, ↓we_tru, ↓we_and, ↓we_or, ↓we_not, ↓we_andV, ↓we_orV, ↓we_notV, ↓we_mIf, ↓we_chain, ↓we_set, ↓we_mgSub, ↓we_mgTup, ↓we_mgNil, ↓we_mgCons, ↓we_iR1, ↓we_iR2, ↓we_for, ↓we_mNo, ↓we_part, ↓we_sl, ↓we_ms, ↓we_met, ↓we_call_, ↓we_callIo_, ↓we_lc_, ↓we_iA, ↓we_yes, ↓we_par2, ↓we_par3, wo_some, wo_map, iaK_list, iaK_tuple, iaK_str, parK2_e, parK3_e, rd2, rd1, rd2B, rdN, rdAll, rd, hold, boolO, truO, intO, strO, frzO, retO, isIo_zero, isIo_succ, ioB_no, ioB_frz, ioB_own, ioB_io, le_line, lt_line, contAt, ML.putAt, Sl.cont, Sl.put, outsV, tupO, lstO, bo, noB, rtK_rt, rtK_nx, rtK1_rt, rtK1_nx, List.getElem?_cons_zero, List.getElem?_cons_succ, List.set_cons_zero, List.set_cons_succ, Option.map_some, Option.isSome_some, reduceIte, Bool.false_eq_true, Bool.true_eq_false, if_true, if_false, wipeR, ixN_lit, atI_lit, Option.bind_some, Nat.reduceLT, Nat.reduceLeDiff, ML.pos1, List.length_map, isT, List.map_cons, List.map_nil, List.length_cons, List.length_nil, List.cons_append, List.nil_append, List.append_nil, List.replicate, true_and, and_true, Nat.reduceSub, Nat.reduceAdd, Bool.not_true, Bool.not_false, decide_eq_true_eq, Bool.not_eq_true', decide_eq_false_iff_not, Int.reduceToNat, Int.reduceLT, Int.reduceLE, Int.reducePow, Int.reduceNeg, Bool.or_true, Bool.true_or, small_emod, small_lit, pow_10_18, and_self, addD, subD, mulD, modD, fdivD, negD, inD_ints, eqB_int, neB_int, ltB, leB, gtB, geB, isNB_none, notNB, isCB, ixD, lenD, absD, ML.intD, listD, tupD, slD, sl3, appD, metO, truD])
  exact ⟨_, rfl, _, rfl, okd, hc'⟩
end K01

set_option Elab.async false
set_option linter.all false
set_option maxRecDepth 100000
set_option maxHeartbeats 4000000
namespace K01
open PySem PySem.Spec PyProof.Rows L2 ML
def sgnOk (c : Nat) : Bool := decide (97 ≤ c) && decide (c ≤ 122)
def isWord : D → Bool
  | .str x => decide (1 ≤ x.length) && (decide (x.length ≤ 12) && x.cps.toList.all sgnOk)
  | _ => false
theorem abc_list : ("abcdefghijklmnopqrstuvwxyz" : Str).cps.toList = [97, 98, 99, 100, 101, 102, 103, 104, 105, 106, 107, 108, 109, 110, 111, 112, 113, 114, 115, 116, 117, 118, 119, 120, 121, 122] := by decide +kernel
theorem abc_in (c : Nat) : inD (.str ⟨#[c]⟩) (.str "abcdefghijklmnopqrstuvwxyz") = some (sgnOk c) := by
  show some (decide (c ∈ ("abcdefghijklmnopqrstuvwxyz" : Str).cps.toList)) = _
  rw [abc_list]
  congr 1
  unfold sgnOk
  rw [← Bool.decide_and]
  apply decide_eq_decide.mpr
  simp only [List.mem_cons, List.not_mem_nil, or_false]
  omega
theorem a_list : ("a" : Str).cps.toList = [97] := by decide +kernel
theorem z_list : ("z" : Str).cps.toList = [122] := by decide +kernel
theorem one_lt {a b : Nat} : (([a] : List Nat) < [b]) ↔ a < b := by
  rw [List.cons_lt_cons_iff]
  constructor
  · rintro (h | ⟨_, h⟩)
    · exact h
    · cases h
  · exact .inl
theorem sLt_a (c : Nat) : sLt ⟨#[c]⟩ "a" = decide (c < 97) := by
  show decide ([c] < ("a" : Str).cps.toList) = _
  rw [a_list]
  exact decide_eq_decide.mpr one_lt
theorem sLt_z (c : Nat) : sLt "z" ⟨#[c]⟩ = decide (122 < c) := by
  show decide (("z" : Str).cps.toList < [c]) = _
  rw [z_list]
  exact decide_eq_decide.mpr one_lt
def sgD : D → Bool
  | .str x => match x.cps.toList with
    | [c] => sgnOk c
    | _ => false
  | _ => false
theorem chD_all (x : Str) : (chD x).all sgD = x.cps.toList.all sgnOk := by
  unfold chD
  rw [List.all_map]
  rfl
theorem chD_mem {x : Str} {d : D} (h : d ∈ chD x) : ∃ c : Nat, d = .str ⟨#[c]⟩ := by
  unfold chD at h
  obtain ⟨c, _, rfl⟩ := List.mem_map.mp h
  exact ⟨c, rfl⟩
theorem chD_len (x : Str) : (chD x).length = x.length := by
  unfold chD
  rw [List.length_map]
  rfl
theorem isw_ok (d : D) (hl : ∀ x, d = .str x → x.length ≤ 16777216) : F0 m_is_word [d] (fun r => r = .v (.bool (isWord d))) := by
  refine F0.def_ ?_
  cases d with
  | str x =>
    have hl := hl x rfl
    (try simp only [↓we_seq, ↓we_asg, ↓we_ret, ↓we_retN, ↓we_sIf, ↓we_drop, ↓we_nx, ↓we_brk, ↓we_cnt, ↓we_var, ↓we_C, ↓we_frz, ↓we_hold, ↓we_bin, ↓we_cmp, ↓we_un, ↓we_isi, ↓we_aNil, ↓we_aCons, ↓we_cb, ↓we_tup, ↓we_lst, ↓we_b, ↓we_tru, ↓we_and, ↓we_or, ↓we_not, ↓we_andV, ↓we_orV, ↓we_notV, ↓we_mIf, ↓we_chain, ↓we_set, ↓we_mgSub, ↓we_mgTup, ↓we_mgNil, ↓we_mgCons, ↓we_iR1, ↓we_iR2, ↓we_for, ↓we_mNo, ↓we_part, ↓we_sl, ↓we_ms, ↓we_met, ↓we_call_, ↓we_callIo_, ↓we_lc_, ↓we_iA, ↓we_yes, ↓we_par2, ↓we_par3, wo_some, wo_map, iaK_list, iaK_tuple, iaK_str, parK2_e, parK3_e, rd2, rd1, rd2B, rdN, rdAll, rd, hold, boolO, truO, intO, strO, frzO, retO, isIo_zero, isIo_succ, ioB_no, ioB_frz, ioB_own, ioB_io, le_line, lt_line, contAt, ML.putAt, Sl.cont, Sl.put, outsV, tupO, lstO, bo, noB, rtK_rt, rtK_nx, rtK1_rt, rtK1_nx, List.getElem?_cons_zero, List.getElem?_cons_succ, List.set_cons_zero, List.set_cons_succ, Option.map_some, Option.isSome_some, reduceIte, Bool.false_eq_true, Bool.true_eq_false, if_true, if_false, wipeR, ixN_lit, atI_lit, Option.bind_some, Nat.reduceLT, Nat.reduceLeDiff, ML.pos1, List.length_map, isT, List.map_cons, List.map_nil, List.length_cons, List.length_nil, List.cons_append, List.nil_append, List.append_nil, List.replicate, true_and, and_true, Nat.reduceSub, Nat.reduceAdd, Bool.not_true, Bool.not_false, decide_eq_true_eq, Bool.not_eq_true', decide_eq_false_iff_not, Int.reduceToNat, Int.reduceLT, Int.reduceLE, Int.reducePow, Int.reduceNeg, Bool.or_true, Bool.true_or, small_emod, small_lit, pow_10_18, and_self, addD, subD, mulD, modD, fdivD, negD, inD_ints, eqB_int, neB_int, ltB, leB, gtB, geB, isNB_none, notNB, isCB, ixD, lenD, absD, ML.intD, listD, tupD, slD, sl3, appD, metO, truD, if_pos (show x.length ≤ 16777216 by omega)]);
    split
    · split
      · refine wo_lcF (fun d => .bool (sgD d)) (fun d m => ?_) (by rw [chD_len, le_line]; omega) ?_
        · obtain ⟨ch, rfl⟩ := chD_mem m
          (try simp only [↓we_seq, ↓we_asg, ↓we_ret, ↓we_retN, ↓we_sIf, ↓we_drop, ↓we_nx, ↓we_brk, ↓we_cnt, ↓we_var, ↓we_C, ↓we_frz, ↓we_hold, ↓we_bin, ↓we_cmp, ↓we_un, ↓we_isi, ↓we_aNil, ↓we_aCons, ↓we_cb, ↓we_tup, ↓we_lst, ↓we_b, ↓we_tru, ↓we_and, ↓we_or, ↓we_not, ↓we_andV, ↓we_orV, ↓we_notV, ↓we_mIf, ↓we_chain, ↓we_set, ↓we_mgSub, ↓we_mgTup, ↓we_mgNil, ↓we_mgCons, ↓we_iR1, ↓we_iR2, ↓we_for, ↓we_mNo, ↓we_part, ↓we_sl, ↓we_ms, ↓we_met, ↓we_call_, ↓we_callIo_, ↓we_lc_, ↓we_iA, ↓we_yes, ↓we_par2, ↓we_par3, wo_some, wo_map, iaK_list, iaK_tuple, iaK_str, parK2_e, parK3_e, rd2, rd1, rd2B, rdN, rdAll, rd, hold, boolO, truO, intO, strO, frzO, retO, isIo_zero, isIo_succ, ioB_no, ioB_frz, ioB_own, ioB_io, le_line, lt_line, contAt, ML.putAt, Sl.cont, Sl.put, outsV, tupO, lstO, bo, noB, rtK_rt, rtK_nx, rtK1_rt, rtK1_nx, List.getElem?_cons_zero, List.getElem?_cons_succ, List.set_cons_zero, List.set_cons_succ, Option.map_some, Option.isSome_some, reduceIte, Bool.false_eq_true, Bool.true_eq_false, if_true, if_false, wipeR, ixN_lit, atI_lit, Option.bind_some, Nat.reduceLT, Nat.reduceLeDiff, ML.pos1, List.length_map, isT, List.map_cons, List.map_nil, List.length_cons, List.length_nil, List.cons_append, List.nil_append, List.append_nil, List.replicate, true_and, and_true, Nat.reduceSub, Nat.reduceAdd, Bool.not_true, Bool.not_false, decide_eq_true_eq, Bool.not_eq_true', decide_eq_false_iff_not, Int.reduceToNat, Int.reduceLT, Int.reduceLE, Int.reducePow, Int.reduceNeg, Bool.or_true, Bool.true_or, small_emod, small_lit, pow_10_18, and_self, addD, subD, mulD, modD, fdivD, negD, inD_ints, eqB_int, neB_int, ltB, leB, gtB, geB, isNB_none, notNB, isCB, ixD, lenD, absD, ML.intD, listD, tupD, slD, sl3, appD, metO, truD, compK, abc_in]);
          rfl
        · (try simp only [↓we_seq, ↓we_asg, ↓we_ret, ↓we_retN, ↓we_sIf, ↓we_drop, ↓we_nx, ↓we_brk, ↓we_cnt, ↓we_var, ↓we_C, ↓we_frz, ↓we_hold, ↓we_bin, ↓we_cmp, ↓we_un, ↓we_isi, ↓we_aNil, ↓we_aCons, ↓we_cb, ↓we_tup, ↓we_lst, ↓we_b, ↓we_tru, ↓we_and, ↓we_or, ↓we_not, ↓we_andV, ↓we_orV, ↓we_notV, ↓we_mIf, ↓we_chain, ↓we_set, ↓we_mgSub, ↓we_mgTup, ↓we_mgNil, ↓we_mgCons, ↓we_iR1, ↓we_iR2, ↓we_for, ↓we_mNo, ↓we_part, ↓we_sl, ↓we_ms, ↓we_met, ↓we_call_, ↓we_callIo_, ↓we_lc_, ↓we_iA, ↓we_yes, ↓we_par2, ↓we_par3, wo_some, wo_map, iaK_list, iaK_tuple, iaK_str, parK2_e, parK3_e, rd2, rd1, rd2B, rdN, rdAll, rd, hold, boolO, truO, intO, strO, frzO, retO, isIo_zero, isIo_succ, ioB_no, ioB_frz, ioB_own, ioB_io, le_line, lt_line, contAt, ML.putAt, Sl.cont, Sl.put, outsV, tupO, lstO, bo, noB, rtK_rt, rtK_nx, rtK1_rt, rtK1_nx, List.getElem?_cons_zero, List.getElem?_cons_succ, List.set_cons_zero, List.set_cons_succ, Option.map_some, Option.isSome_some, reduceIte, Bool.false_eq_true, Bool.true_eq_false, if_true, if_false, wipeR, ixN_lit, atI_lit, Option.bind_some, Nat.reduceLT, Nat.reduceLeDiff, ML.pos1, List.length_map, isT, List.map_cons, List.map_nil, List.length_cons, List.length_nil, List.cons_append, List.nil_append, List.append_nil, List.replicate, true_and, and_true, Nat.reduceSub, Nat.reduceAdd, Bool.not_true, Bool.not_false, decide_eq_true_eq, Bool.not_eq_true', decide_eq_false_iff_not, Int.reduceToNat, Int.reduceLT, Int.reduceLE, Int.reducePow, Int.reduceNeg, Bool.or_true, Bool.true_or, small_emod, small_lit, pow_10_18, and_self, addD, subD, mulD, modD, fdivD, negD, inD_ints, eqB_int, neB_int, ltB, leB, gtB, geB, isNB_none, notNB, isCB, ixD, lenD, absD, ML.intD, listD, tupD, slD, sl3, appD, metO, truD, all_map, chD_all]);
          have h1 : 1 ≤ x.length := by omega
          have h2 : x.length ≤ 12 := by omega
          simp [isWord, h1, h2]
      · have h2 : ¬ x.length ≤ 12 := by omega
        simp [isWord, h2]
    · have h2 : ¬ 1 ≤ x.length := by omega
      simp [isWord, h2]
  | _ =>
    (try simp only [↓we_seq, ↓we_asg, ↓we_ret, ↓we_retN, ↓we_sIf, ↓we_drop, ↓we_nx, ↓we_brk, ↓we_cnt, ↓we_var, ↓we_C, ↓we_frz, ↓we_hold, ↓we_bin, ↓we_cmp, ↓we_un, ↓we_isi, ↓we_aNil, ↓we_aCons, ↓we_cb, ↓we_tup, ↓we_lst, ↓we_b, ↓we_tru, ↓we_and, ↓we_or, ↓we_not, ↓we_andV, ↓we_orV, ↓we_notV, ↓we_mIf, ↓we_chain, ↓we_set, ↓we_mgSub, ↓we_mgTup, ↓we_mgNil, ↓we_mgCons, ↓we_iR1, ↓we_iR2, ↓we_for, ↓we_mNo, ↓we_part, ↓we_sl, ↓we_ms, ↓we_met, ↓we_call_, ↓we_callIo_, ↓we_lc_, ↓we_iA, ↓we_yes, ↓we_par2, ↓we_par3, wo_some, wo_map, iaK_list, iaK_tuple, iaK_str, parK2_e, parK3_e, rd2, rd1, rd2B, rdN, rdAll, rd, hold, boolO, truO, intO, strO, frzO, retO, isIo_zero, isIo_succ, ioB_no, ioB_frz, ioB_own, ioB_io, le_line, lt_line, contAt, ML.putAt, Sl.cont, Sl.put, outsV, tupO, lstO, bo, noB, rtK_rt, rtK_nx, rtK1_rt, rtK1_nx, List.getElem?_cons_zero, List.getElem?_cons_succ, List.set_cons_zero, List.set_cons_succ, Option.map_some, Option.isSome_some, reduceIte, Bool.false_eq_true, Bool.true_eq_false, if_true, if_false, wipeR, ixN_lit, atI_lit, Option.bind_some, Nat.reduceLT, Nat.reduceLeDiff, ML.pos1, List.length_map, isT, List.map_cons, List.map_nil, List.length_cons, List.length_nil, List.cons_append, List.nil_append, List.append_nil, List.replicate, true_and, and_true, Nat.reduceSub, Nat.reduceAdd, Bool.not_true, Bool.not_false, decide_eq_true_eq, Bool.not_eq_true', decide_eq_false_iff_not, Int.reduceToNat, Int.reduceLT, Int.reduceLE, Int.reducePow, Int.reduceNeg, Bool.or_true, Bool.true_or, small_emod, small_lit, pow_10_18, and_self, addD, subD, mulD, modD, fdivD, negD, inD_ints, eqB_int, neB_int, ltB, leB, gtB, geB, isNB_none, notNB, isCB, ixD, lenD, absD, ML.intD, listD, tupD, slD, sl3, appD, metO, truD]); repeat ((first | rw [then_nx] | rw [then_rt] | rw [then_bk] | rw [then_ct]); simp only [↓we_seq, ↓we_asg, ↓we_ret, ↓we_retN, ↓we_sIf, ↓we_drop, ↓we_nx, ↓we_brk, ↓we_cnt, ↓we_var, ↓we_C, ↓we_frz, ↓we_hold, ↓we_bin, ↓we_cmp, ↓we_un, ↓we_isi, ↓we_aNil, ↓we_aCons, ↓we_cb, ↓we_tup, ↓we_lst, ↓we_b, ↓we_tru, ↓we_and, ↓we_or, ↓we_not, ↓we_andV, ↓we_orV, ↓we_notV, ↓we_mIf, ↓we_chain, ↓we_set, ↓we_mgSub, ↓we_mgTup, ↓we_mgNil, ↓we_mgCons, ↓we_iR1, ↓we_iR2, ↓we_for, ↓we_mNo, ↓we_part, ↓we_sl, ↓we_ms, ↓we_met, ↓we_call_, ↓we_callIo_, ↓we_lc_, ↓we_iA, ↓we_yes, ↓we_par2, ↓we_par3, wo_some, wo_map, iaK_list, iaK_tuple, iaK_str, parK2_e, parK3_e, rd2, rd1, rd2B, rdN, rdAll, rd, hold, boolO, truO, intO, strO, frzO, retO, isIo_zero, isIo_succ, ioB_no, ioB_frz, ioB_own, ioB_io, le_line, lt_line, contAt, ML.putAt, Sl.cont, Sl.put, outsV, tupO, lstO, bo, noB, rtK_rt, rtK_nx, rtK1_rt, rtK1_nx, List.getElem?_cons_zero, List.getElem?_cons_succ, List.set_cons_zero, List.set_cons_succ, Option.map_some, Option.isSome_some, reduceIte, Bool.false_eq_true, Bool.true_eq_false, if_true, if_false, wipeR, ixN_lit, atI_lit, Option.bind_some, Nat.reduceLT, Nat.reduceLeDiff, ML.pos1, List.length_map, isT, List.map_cons, List.map_nil, List.length_cons, List.length_nil, List.cons_append, List.nil_append, List.append_nil, List.replicate, true_and, and_true, Nat.reduceSub, Nat.reduceAdd, Bool.not_true, Bool.not_false, decide_eq_true_eq, Bool.not_eq_true', decide_eq_false_iff_not, Int.reduceToNat, Int.reduceLT, Int.reduceLE, Int.reducePow, Int.reduceNeg, Bool.or_true, Bool.true_or, small_emod, small_lit, pow_10_18, and_self, addD, subD, mulD, modD, fdivD, negD, inD_ints, eqB_int, neB_int, ltB, leB, gtB, geB, isNB_none, notNB, isCB, ixD, lenD, absD, ML.intD, listD, tupD, slD, sl3, appD, metO, truD])
    rfl
theorem lisw_ok (d : D) (hl : ∀ x, d = .str x → x.length ≤ 16777216) : F0 m__law_is_word [d] (fun r => r = .v (.bool (isWord d))) := by
  refine F0.def_ ?_
  cases d with
  | str x =>
    have hl := hl x rfl
    (try simp only [↓we_seq, ↓we_asg, ↓we_ret, ↓we_retN, ↓we_sIf, ↓we_drop, ↓we_nx, ↓we_brk, ↓we_cnt, ↓we_var, ↓we_C, ↓we_frz, ↓we_hold, ↓we_bin, ↓we_cmp, ↓we_un, ↓we_isi, ↓we_aNil, ↓we_aCons, ↓we_cb, ↓we_tup, ↓we_lst, ↓we_b, ↓we_tru, ↓we_and, ↓we_or, ↓we_not, ↓we_andV, ↓we_orV, ↓we_notV, ↓we_mIf, ↓we_chain, ↓we_set, ↓we_mgSub, ↓we_mgTup, ↓we_mgNil, ↓we_mgCons, ↓we_iR1, ↓we_iR2, ↓we_for, ↓we_mNo, ↓we_part, ↓we_sl, ↓we_ms, ↓we_met, ↓we_call_, ↓we_callIo_, ↓we_lc_, ↓we_iA, ↓we_yes, ↓we_par2, ↓we_par3, wo_some, wo_map, iaK_list, iaK_tuple, iaK_str, parK2_e, parK3_e, rd2, rd1, rd2B, rdN, rdAll, rd, hold, boolO, truO, intO, strO, frzO, retO, isIo_zero, isIo_succ, ioB_no, ioB_frz, ioB_own, ioB_io, le_line, lt_line, contAt, ML.putAt, Sl.cont, Sl.put, outsV, tupO, lstO, bo, noB, rtK_rt, rtK_nx, rtK1_rt, rtK1_nx, List.getElem?_cons_zero, List.getElem?_cons_succ, List.set_cons_zero, List.set_cons_succ, Option.map_some, Option.isSome_some, reduceIte, Bool.false_eq_true, Bool.true_eq_false, if_true, if_false, wipeR, ixN_lit, atI_lit, Option.bind_some, Nat.reduceLT, Nat.reduceLeDiff, ML.pos1, List.length_map, isT, List.map_cons, List.map_nil, List.length_cons, List.length_nil, List.cons_append, List.nil_append, List.append_nil, List.replicate, true_and, and_true, Nat.reduceSub, Nat.reduceAdd, Bool.not_true, Bool.not_false, decide_eq_true_eq, Bool.not_eq_true', decide_eq_false_iff_not, Int.reduceToNat, Int.reduceLT, Int.reduceLE, Int.reducePow, Int.reduceNeg, Bool.or_true, Bool.true_or, small_emod, small_lit, pow_10_18, and_self, addD, subD, mulD, modD, fdivD, negD, inD_ints, eqB_int, neB_int, ltB, leB, gtB, geB, isNB_none, notNB, isCB, ixD, lenD, absD, ML.intD, listD, tupD, slD, sl3, appD, metO, truD, if_pos (show x.length ≤ 16777216 by omega)]);
    split
    · have h2 : ¬ 1 ≤ x.length := by omega
      (first | rw [then_nx] | rw [then_rt] | rw [then_bk] | rw [then_ct])
      (try simp only [↓we_seq, ↓we_asg, ↓we_ret, ↓we_retN, ↓we_sIf, ↓we_drop, ↓we_nx, ↓we_brk, ↓we_cnt, ↓we_var, ↓we_C, ↓we_frz, ↓we_hold, ↓we_bin, ↓we_cmp, ↓we_un, ↓we_isi, ↓we_aNil, ↓we_aCons, ↓we_cb, ↓we_tup, ↓we_lst, ↓we_b, ↓we_tru, ↓we_and, ↓we_or, ↓we_not, ↓we_andV, ↓we_orV, ↓we_notV, ↓we_mIf, ↓we_chain, ↓we_set, ↓we_mgSub, ↓we_mgTup, ↓we_mgNil, ↓we_mgCons, ↓we_iR1, ↓we_iR2, ↓we_for, ↓we_mNo, ↓we_part, ↓we_sl, ↓we_ms, ↓we_met, ↓we_call_, ↓we_callIo_, ↓we_lc_, ↓we_iA, ↓we_yes, ↓we_par2, ↓we_par3, wo_some, wo_map, iaK_list, iaK_tuple, iaK_str, parK2_e, parK3_e, rd2, rd1, rd2B, rdN, rdAll, rd, hold, boolO, truO, intO, strO, frzO, retO, isIo_zero, isIo_succ, ioB_no, ioB_frz, ioB_own, ioB_io, le_line, lt_line, contAt, ML.putAt, Sl.cont, Sl.put, outsV, tupO, lstO, bo, noB, rtK_rt, rtK_nx, rtK1_rt, rtK1_nx, List.getElem?_cons_zero, List.getElem?_cons_succ, List.set_cons_zero, List.set_cons_succ, Option.map_some, Option.isSome_some, reduceIte, Bool.false_eq_true, Bool.true_eq_false, if_true, if_false, wipeR, ixN_lit, atI_lit, Option.bind_some, Nat.reduceLT, Nat.reduceLeDiff, ML.pos1, List.length_map, isT, List.map_cons, List.map_nil, List.length_cons, List.length_nil, List.cons_append, List.nil_append, List.append_nil, List.replicate, true_and, and_true, Nat.reduceSub, Nat.reduceAdd, Bool.not_true, Bool.not_false, decide_eq_true_eq, Bool.not_eq_true', decide_eq_false_iff_not, Int.reduceToNat, Int.reduceLT, Int.reduceLE, Int.reducePow, Int.reduceNeg, Bool.or_true, Bool.true_or, small_emod, small_lit, pow_10_18, and_self, addD, subD, mulD, modD, fdivD, negD, inD_ints, eqB_int, neB_int, ltB, leB, gtB, geB, isNB_none, notNB, isCB, ixD, lenD, absD, ML.intD, listD, tupD, slD, sl3, appD, metO, truD])
      simp [isWord, h2]
    · split
      · have h2 : ¬ x.length ≤ 12 := by omega
        (first | rw [then_nx] | rw [then_rt] | rw [then_bk] | rw [then_ct])
        (try simp only [↓we_seq, ↓we_asg, ↓we_ret, ↓we_retN, ↓we_sIf, ↓we_drop, ↓we_nx, ↓we_brk, ↓we_cnt, ↓we_var, ↓we_C, ↓we_frz, ↓we_hold, ↓we_bin, ↓we_cmp, ↓we_un, ↓we_isi, ↓we_aNil, ↓we_aCons, ↓we_cb, ↓we_tup, ↓we_lst, ↓we_b, ↓we_tru, ↓we_and, ↓we_or, ↓we_not, ↓we_andV, ↓we_orV, ↓we_notV, ↓we_mIf, ↓we_chain, ↓we_set, ↓we_mgSub, ↓we_mgTup, ↓we_mgNil, ↓we_mgCons, ↓we_iR1, ↓we_iR2, ↓we_for, ↓we_mNo, ↓we_part, ↓we_sl, ↓we_ms, ↓we_met, ↓we_call_, ↓we_callIo_, ↓we_lc_, ↓we_iA, ↓we_yes, ↓we_par2, ↓we_par3, wo_some, wo_map, iaK_list, iaK_tuple, iaK_str, parK2_e, parK3_e, rd2, rd1, rd2B, rdN, rdAll, rd, hold, boolO, truO, intO, strO, frzO, retO, isIo_zero, isIo_succ, ioB_no, ioB_frz, ioB_own, ioB_io, le_line, lt_line, contAt, ML.putAt, Sl.cont, Sl.put, outsV, tupO, lstO, bo, noB, rtK_rt, rtK_nx, rtK1_rt, rtK1_nx, List.getElem?_cons_zero, List.getElem?_cons_succ, List.set_cons_zero, List.set_cons_succ, Option.map_some, Option.isSome_some, reduceIte, Bool.false_eq_true, Bool.true_eq_false, if_true, if_false, wipeR, ixN_lit, atI_lit, Option.bind_some, Nat.reduceLT, Nat.reduceLeDiff, ML.pos1, List.length_map, isT, List.map_cons, List.map_nil, List.length_cons, List.length_nil, List.cons_append, List.nil_append, List.append_nil, List.replicate, true_and, and_true, Nat.reduceSub, Nat.reduceAdd, Bool.not_true, Bool.not_false, decide_eq_true_eq, Bool.not_eq_true', decide_eq_false_iff_not, Int.reduceToNat, Int.reduceLT, Int.reduceLE, Int.reducePow, Int.reduceNeg, Bool.or_true, Bool.true_or, small_emod, small_lit, pow_10_18, and_self, addD, subD, mulD, modD, fdivD, negD, inD_ints, eqB_int, neB_int, ltB, leB, gtB, geB, isNB_none, notNB, isCB, ixD, lenD, absD, ML.intD, listD, tupD, slD, sl3, appD, metO, truD])
        simp [isWord, h2]
      · (first | rw [then_nx] | rw [then_rt] | rw [then_bk] | rw [then_ct])
        (try simp only [↓we_seq, ↓we_asg, ↓we_ret, ↓we_retN, ↓we_sIf, ↓we_drop, ↓we_nx, ↓we_brk, ↓we_cnt, ↓we_var, ↓we_C, ↓we_frz, ↓we_hold, ↓we_bin, ↓we_cmp, ↓we_un, ↓we_isi, ↓we_aNil, ↓we_aCons, ↓we_cb, ↓we_tup, ↓we_lst, ↓we_b, ↓we_tru, ↓we_and, ↓we_or, ↓we_not, ↓we_andV, ↓we_orV, ↓we_notV, ↓we_mIf, ↓we_chain, ↓we_set, ↓we_mgSub, ↓we_mgTup, ↓we_mgNil, ↓we_mgCons, ↓we_iR1, ↓we_iR2, ↓we_for, ↓we_mNo, ↓we_part, ↓we_sl, ↓we_ms, ↓we_met, ↓we_call_, ↓we_callIo_, ↓we_lc_, ↓we_iA, ↓we_yes, ↓we_par2, ↓we_par3, wo_some, wo_map, iaK_list, iaK_tuple, iaK_str, parK2_e, parK3_e, rd2, rd1, rd2B, rdN, rdAll, rd, hold, boolO, truO, intO, strO, frzO, retO, isIo_zero, isIo_succ, ioB_no, ioB_frz, ioB_own, ioB_io, le_line, lt_line, contAt, ML.putAt, Sl.cont, Sl.put, outsV, tupO, lstO, bo, noB, rtK_rt, rtK_nx, rtK1_rt, rtK1_nx, List.getElem?_cons_zero, List.getElem?_cons_succ, List.set_cons_zero, List.set_cons_succ, Option.map_some, Option.isSome_some, reduceIte, Bool.false_eq_true, Bool.true_eq_false, if_true, if_false, wipeR, ixN_lit, atI_lit, Option.bind_some, Nat.reduceLT, Nat.reduceLeDiff, ML.pos1, List.length_map, isT, List.map_cons, List.map_nil, List.length_cons, List.length_nil, List.cons_append, List.nil_append, List.append_nil, List.replicate, true_and, and_true, Nat.reduceSub, Nat.reduceAdd, Bool.not_true, Bool.not_false, decide_eq_true_eq, Bool.not_eq_true', decide_eq_false_iff_not, Int.reduceToNat, Int.reduceLT, Int.reduceLE, Int.reducePow, Int.reduceNeg, Bool.or_true, Bool.true_or, small_emod, small_lit, pow_10_18, and_self, addD, subD, mulD, modD, fdivD, negD, inD_ints, eqB_int, neB_int, ltB, leB, gtB, geB, isNB_none, notNB, isCB, ixD, lenD, absD, ML.intD, listD, tupD, slD, sl3, appD, metO, truD])
        refine wo_lcF (fun d => .bool (sgD d)) (fun d m => ?_) (by rw [chD_len, le_line]; omega) ?_
        · obtain ⟨ch, rfl⟩ := chD_mem m
          have e : sgD (.str ⟨#[ch]⟩) = (decide (97 ≤ ch) && decide (ch ≤ 122)) := rfl
          by_cases h1 : ch < 97
          · have e2 : ¬ 97 ≤ ch := by omega
            (try simp only [↓we_seq, ↓we_asg, ↓we_ret, ↓we_retN, ↓we_sIf, ↓we_drop, ↓we_nx, ↓we_brk, ↓we_cnt, ↓we_var, ↓we_C, ↓we_frz, ↓we_hold, ↓we_bin, ↓we_cmp, ↓we_un, ↓we_isi, ↓we_aNil, ↓we_aCons, ↓we_cb, ↓we_tup, ↓we_lst, ↓we_b, ↓we_tru, ↓we_and, ↓we_or, ↓we_not, ↓we_andV, ↓we_orV, ↓we_notV, ↓we_mIf, ↓we_chain, ↓we_set, ↓we_mgSub, ↓we_mgTup, ↓we_mgNil, ↓we_mgCons, ↓we_iR1, ↓we_iR2, ↓we_for, ↓we_mNo, ↓we_part, ↓we_sl, ↓we_ms, ↓we_met, ↓we_call_, ↓we_callIo_, ↓we_lc_, ↓we_iA, ↓we_yes, ↓we_par2, ↓we_par3, wo_some, wo_map, iaK_list, iaK_tuple, iaK_str, parK2_e, parK3_e, rd2, rd1, rd2B, rdN, rdAll, rd, hold, boolO, truO, intO, strO, frzO, retO, isIo_zero, isIo_succ, ioB_no, ioB_frz, ioB_own, ioB_io, le_line, lt_line, contAt, ML.putAt, Sl.cont, Sl.put, outsV, tupO, lstO, bo, noB, rtK_rt, rtK_nx, rtK1_rt, rtK1_nx, List.getElem?_cons_zero, List.getElem?_cons_succ, List.set_cons_zero, List.set_cons_succ, Option.map_some, Option.isSome_some, reduceIte, Bool.false_eq_true, Bool.true_eq_false, if_true, if_false, wipeR, ixN_lit, atI_lit, Option.bind_some, Nat.reduceLT, Nat.reduceLeDiff, ML.pos1, List.length_map, isT, List.map_cons, List.map_nil, List.length_cons, List.length_nil, List.cons_append, List.nil_append, List.append_nil, List.replicate, true_and, and_true, Nat.reduceSub, Nat.reduceAdd, Bool.not_true, Bool.not_false, decide_eq_true_eq, Bool.not_eq_true', decide_eq_false_iff_not, Int.reduceToNat, Int.reduceLT, Int.reduceLE, Int.reducePow, Int.reduceNeg, Bool.or_true, Bool.true_or, small_emod, small_lit, pow_10_18, and_self, addD, subD, mulD, modD, fdivD, negD, inD_ints, eqB_int, neB_int, ltB, leB, gtB, geB, isNB_none, notNB, isCB, ixD, lenD, absD, ML.intD, listD, tupD, slD, sl3, appD, metO, truD, compK, sLt_a, sLt_z, e, h1, e2, decide_true, decide_false, Bool.false_and]);
          · have e2 : 97 ≤ ch := by omega
            by_cases h2 : 122 < ch
            · have e3 : ¬ ch ≤ 122 := by omega
              (try simp only [↓we_seq, ↓we_asg, ↓we_ret, ↓we_retN, ↓we_sIf, ↓we_drop, ↓we_nx, ↓we_brk, ↓we_cnt, ↓we_var, ↓we_C, ↓we_frz, ↓we_hold, ↓we_bin, ↓we_cmp, ↓we_un, ↓we_isi, ↓we_aNil, ↓we_aCons, ↓we_cb, ↓we_tup, ↓we_lst, ↓we_b, ↓we_tru, ↓we_and, ↓we_or, ↓we_not, ↓we_andV, ↓we_orV, ↓we_notV, ↓we_mIf, ↓we_chain, ↓we_set, ↓we_mgSub, ↓we_mgTup, ↓we_mgNil, ↓we_mgCons, ↓we_iR1, ↓we_iR2, ↓we_for, ↓we_mNo, ↓we_part, ↓we_sl, ↓we_ms, ↓we_met, ↓we_call_, ↓we_callIo_, ↓we_lc_, ↓we_iA, ↓we_yes, ↓we_par2, ↓we_par3, wo_some, wo_map, iaK_list, iaK_tuple, iaK_str, parK2_e, parK3_e, rd2, rd1, rd2B, rdN, rdAll, rd, hold, boolO, truO, intO, strO, frzO, retO, isIo_zero, isIo_succ, ioB_no, ioB_frz, ioB_own, ioB_io, le_line, lt_line, contAt, ML.putAt, Sl.cont, Sl.put, outsV, tupO, lstO, bo, noB, rtK_rt, rtK_nx, rtK1_rt, rtK1_nx, List.getElem?_cons_zero, List.getElem?_cons_succ, List.set_cons_zero, List.set_cons_succ, Option.map_some, Option.isSome_some, reduceIte, Bool.false_eq_true, Bool.true_eq_false, if_true, if_false, wipeR, ixN_lit, atI_lit, Option.bind_some, Nat.reduceLT, Nat.reduceLeDiff, ML.pos1, List.length_map, isT, List.map_cons, List.map_nil, List.length_cons, List.length_nil, List.cons_append, List.nil_append, List.append_nil, List.replicate, true_and, and_true, Nat.reduceSub, Nat.reduceAdd, Bool.not_true, Bool.not_false, decide_eq_true_eq, Bool.not_eq_true', decide_eq_false_iff_not, Int.reduceToNat, Int.reduceLT, Int.reduceLE, Int.reducePow, Int.reduceNeg, Bool.or_true, Bool.true_or, small_emod, small_lit, pow_10_18, and_self, addD, subD, mulD, modD, fdivD, negD, inD_ints, eqB_int, neB_int, ltB, leB, gtB, geB, isNB_none, notNB, isCB, ixD, lenD, absD, ML.intD, listD, tupD, slD, sl3, appD, metO, truD, compK, sLt_a, sLt_z, e, h1, e2, h2, e3, decide_true, decide_false, Bool.and_false]);
            · have e3 : ch ≤ 122 := by omega
              (try simp only [↓we_seq, ↓we_asg, ↓we_ret, ↓we_retN, ↓we_sIf, ↓we_drop, ↓we_nx, ↓we_brk, ↓we_cnt, ↓we_var, ↓we_C, ↓we_frz, ↓we_hold, ↓we_bin, ↓we_cmp, ↓we_un, ↓we_isi, ↓we_aNil, ↓we_aCons, ↓we_cb, ↓we_tup, ↓we_lst, ↓we_b, ↓we_tru, ↓we_and, ↓we_or, ↓we_not, ↓we_andV, ↓we_orV, ↓we_notV, ↓we_mIf, ↓we_chain, ↓we_set, ↓we_mgSub, ↓we_mgTup, ↓we_mgNil, ↓we_mgCons, ↓we_iR1, ↓we_iR2, ↓we_for, ↓we_mNo, ↓we_part, ↓we_sl, ↓we_ms, ↓we_met, ↓we_call_, ↓we_callIo_, ↓we_lc_, ↓we_iA, ↓we_yes, ↓we_par2, ↓we_par3, wo_some, wo_map, iaK_list, iaK_tuple, iaK_str, parK2_e, parK3_e, rd2, rd1, rd2B, rdN, rdAll, rd, hold, boolO, truO, intO, strO, frzO, retO, isIo_zero, isIo_succ, ioB_no, ioB_frz, ioB_own, ioB_io, le_line, lt_line, contAt, ML.putAt, Sl.cont, Sl.put, outsV, tupO, lstO, bo, noB, rtK_rt, rtK_nx, rtK1_rt, rtK1_nx, List.getElem?_cons_zero, List.getElem?_cons_succ, List.set_cons_zero, List.set_cons_succ, Option.map_some, Option.isSome_some, reduceIte, Bool.false_eq_true, Bool.true_eq_false, if_true, if_false, wipeR, ixN_lit, atI_lit, Option.bind_some, Nat.reduceLT, Nat.reduceLeDiff, ML.pos1, List.length_map, isT, List.map_cons, List.map_nil, List.length_cons, List.length_nil, List.cons_append, List.nil_append, List.append_nil, List.replicate, true_and, and_true, Nat.reduceSub, Nat.reduceAdd, Bool.not_true, Bool.not_false, decide_eq_true_eq, Bool.not_eq_true', decide_eq_false_iff_not, Int.reduceToNat, Int.reduceLT, Int.reduceLE, Int.reducePow, Int.reduceNeg, Bool.or_true, Bool.true_or, small_emod, small_lit, pow_10_18, and_self, addD, subD, mulD, modD, fdivD, negD, inD_ints, eqB_int, neB_int, ltB, leB, gtB, geB, isNB_none, notNB, isCB, ixD, lenD, absD, ML.intD, listD, tupD, slD, sl3, appD, metO, truD, compK, sLt_a, sLt_z, e, h1, e2, h2, e3, decide_true, decide_false, Bool.and_true]);
        · (try simp only [↓we_seq, ↓we_asg, ↓we_ret, ↓we_retN, ↓we_sIf, ↓we_drop, ↓we_nx, ↓we_brk, ↓we_cnt, ↓we_var, ↓we_C, ↓we_frz, ↓we_hold, ↓we_bin, ↓we_cmp, ↓we_un, ↓we_isi, ↓we_aNil, ↓we_aCons, ↓we_cb, ↓we_tup, ↓we_lst, ↓we_b, ↓we_tru, ↓we_and, ↓we_or, ↓we_not, ↓we_andV, ↓we_orV, ↓we_notV, ↓we_mIf, ↓we_chain, ↓we_set, ↓we_mgSub, ↓we_mgTup, ↓we_mgNil, ↓we_mgCons, ↓we_iR1, ↓we_iR2, ↓we_for, ↓we_mNo, ↓we_part, ↓we_sl, ↓we_ms, ↓we_met, ↓we_call_, ↓we_callIo_, ↓we_lc_, ↓we_iA, ↓we_yes, ↓we_par2, ↓we_par3, wo_some, wo_map, iaK_list, iaK_tuple, iaK_str, parK2_e, parK3_e, rd2, rd1, rd2B, rdN, rdAll, rd, hold, boolO, truO, intO, strO, frzO, retO, isIo_zero, isIo_succ, ioB_no, ioB_frz, ioB_own, ioB_io, le_line, lt_line, contAt, ML.putAt, Sl.cont, Sl.put, outsV, tupO, lstO, bo, noB, rtK_rt, rtK_nx, rtK1_rt, rtK1_nx, List.getElem?_cons_zero, List.getElem?_cons_succ, List.set_cons_zero, List.set_cons_succ, Option.map_some, Option.isSome_some, reduceIte, Bool.false_eq_true, Bool.true_eq_false, if_true, if_false, wipeR, ixN_lit, atI_lit, Option.bind_some, Nat.reduceLT, Nat.reduceLeDiff, ML.pos1, List.length_map, isT, List.map_cons, List.map_nil, List.length_cons, List.length_nil, List.cons_append, List.nil_append, List.append_nil, List.replicate, true_and, and_true, Nat.reduceSub, Nat.reduceAdd, Bool.not_true, Bool.not_false, decide_eq_true_eq, Bool.not_eq_true', decide_eq_false_iff_not, Int.reduceToNat, Int.reduceLT, Int.reduceLE, Int.reducePow, Int.reduceNeg, Bool.or_true, Bool.true_or, small_emod, small_lit, pow_10_18, and_self, addD, subD, mulD, modD, fdivD, negD, inD_ints, eqB_int, neB_int, ltB, leB, gtB, geB, isNB_none, notNB, isCB, ixD, lenD, absD, ML.intD, listD, tupD, slD, sl3, appD, metO, truD, all_map, chD_all]);
          have h1 : 1 ≤ x.length := by omega
          have h2 : x.length ≤ 12 := by omega
          simp [isWord, h1, h2]
  | _ =>
    (try simp only [↓we_seq, ↓we_asg, ↓we_ret, ↓we_retN, ↓we_sIf, ↓we_drop, ↓we_nx, ↓we_brk, ↓we_cnt, ↓we_var, ↓we_C, ↓we_frz, ↓we_hold, ↓we_bin, ↓we_cmp, ↓we_un, ↓we_isi, ↓we_aNil, ↓we_aCons, ↓we_cb, ↓we_tup, ↓we_lst, ↓we_b, ↓we_tru, ↓we_and, ↓we_or, ↓we_not, ↓we_andV, ↓we_orV, ↓we_notV, ↓we_mIf, ↓we_chain, ↓we_set, ↓we_mgSub, ↓we_mgTup, ↓we_mgNil, ↓we_mgCons, ↓we_iR1, ↓we_iR2, ↓we_for, ↓we_mNo, ↓we_part, ↓we_sl, ↓we_ms, ↓we_met, ↓we_call_, ↓we_callIo_, ↓we_lc_, ↓we_iA, ↓we_yes, ↓we_par2, ↓we_par3, wo_some, wo_map, iaK_list, iaK_tuple, iaK_str, parK2_e, parK3_e, rd2, rd1, rd2B, rdN, rdAll, rd, hold, boolO, truO, intO, strO, frzO, retO, isIo_zero, isIo_succ, ioB_no, ioB_frz, ioB_own, ioB_io, le_line, lt_line, contAt, ML.putAt, Sl.cont, Sl.put, outsV, tupO, lstO, bo, noB, rtK_rt, rtK_nx, rtK1_rt, rtK1_nx, List.getElem?_cons_zero, List.getElem?_cons_succ, List.set_cons_zero, List.set_cons_succ, Option.map_some, Option.isSome_some, reduceIte, Bool.false_eq_true, Bool.true_eq_false, if_true, if_false, wipeR, ixN_lit, atI_lit, Option.bind_some, Nat.reduceLT, Nat.reduceLeDiff, ML.pos1, List.length_map, isT, List.map_cons, List.map_nil, List.length_cons, List.length_nil, List.cons_append, List.nil_append, List.append_nil, List.replicate, true_and, and_true, Nat.reduceSub, Nat.reduceAdd, Bool.not_true, Bool.not_false, decide_eq_true_eq, Bool.not_eq_true', decide_eq_false_iff_not, Int.reduceToNat, Int.reduceLT, Int.reduceLE, Int.reducePow, Int.reduceNeg, Bool.or_true, Bool.true_or, small_emod, small_lit, pow_10_18, and_self, addD, subD, mulD, modD, fdivD, negD, inD_ints, eqB_int, neB_int, ltB, leB, gtB, geB, isNB_none, notNB, isCB, ixD, lenD, absD, ML.intD, listD, tupD, slD, sl3, appD, metO, truD]); repeat ((first | rw [then_nx] | rw [then_rt] | rw [then_bk] | rw [then_ct]); simp only [↓we_seq, ↓we_asg, ↓we_ret, ↓we_retN, ↓we_sIf, ↓we_drop, ↓we_nx, ↓we_brk, ↓we_cnt, ↓we_var, ↓we_C, ↓we_frz, ↓we_hold, ↓we_bin, ↓we_cmp, ↓we_un, ↓we_isi, ↓we_aNil, ↓we_aCons, ↓we_cb, ↓we_tup, ↓we_lst, ↓we_b, ↓we_tru, ↓we_and, ↓we_or, ↓we_not, ↓we_andV, ↓we_orV, ↓we_notV, ↓we_mIf, ↓we_chain, ↓we_set, ↓we_mgSub, ↓we_mgTup, ↓we_mgNil, ↓we_mgCons, ↓we_iR1, ↓we_iR2, ↓we_for, ↓we_mNo, ↓we_part, ↓we_sl, ↓we_ms, ↓we_met, ↓we_call_, ↓we_callIo_, ↓we_lc_, ↓we_iA, ↓we_yes, ↓we_par2, ↓we_par3, wo_some, wo_map, iaK_list, iaK_tuple, iaK_str, parK2_e, parK3_e, rd2, rd1, rd2B, rdN, rdAll, rd, hold, boolO, truO, intO, strO, frzO, retO, isIo_zero, isIo_succ, ioB_no, ioB_frz, ioB_own, ioB_io, le_line, lt_line, contAt, ML.putAt, Sl.cont, Sl.put, outsV, tupO, lstO, bo, noB, rtK_rt, rtK_nx, rtK1_rt, rtK1_nx, List.getElem?_cons_zero, List.getElem?_cons_succ, List.set_cons_zero, List.set_cons_succ, Option.map_some, Option.isSome_some, reduceIte, Bool.false_eq_true, Bool.true_eq_false, if_true, if_false, wipeR, ixN_lit, atI_lit, Option.bind_some, Nat.reduceLT, Nat.reduceLeDiff, ML.pos1, List.length_map, isT, List.map_cons, List.map_nil, List.length_cons, List.length_nil, List.cons_append, List.nil_append, List.append_nil, List.replicate, true_and, and_true, Nat.reduceSub, Nat.reduceAdd, Bool.not_true, Bool.not_false, decide_eq_true_eq, Bool.not_eq_true', decide_eq_false_iff_not, Int.reduceToNat, Int.reduceLT, Int.reduceLE, Int.reducePow, Int.reduceNeg, Bool.or_true, Bool.true_or, small_emod, small_lit, pow_10_18, and_self, addD, subD, mulD, modD, fdivD, negD, inD_ints, eqB_int, neB_int, ltB, leB, gtB, geB, isNB_none, notNB, isCB, ixD, lenD, absD, ML.intD, listD, tupD, slD, sl3, appD, metO, truD])
    rfl
theorem okW_no {d : D} (h : okW d) : isWord d = false ∧ ∀ x, d = .str x → x.length ≤ 16777216 := by
  rcases h with rfl | rfl | h
  · exact ⟨by decide +kernel, fun x e => by cases e; decide +kernel⟩
  · exact ⟨by decide +kernel, fun x e => by cases e; decide +kernel⟩
  · cases d with
    | str x => exact absurd rfl (h x)
    | _ => exact ⟨rfl, fun x e => by cases e⟩
theorem okN_way {d : D} {v : Int} (h : okN d) : isWay v d = false := by
  rcases h.1 with ⟨x, rfl⟩ | h
  · simp [isWay, isNone, isCnt]
  · cases d with
    | tuple xs => exact absurd rfl (h xs)
    | _ => rfl
theorem flat_one {n : Nat} {d : D} : (List.replicate n [d]).flatten = List.replicate n d := by
  induction n with
  | zero => rfl
  | succ n ih => rw [List.replicate_succ, List.replicate_succ, List.flatten_cons, ih]; rfl
theorem law_true (ns : List Int) (h : ns.length ≤ 63) : ∃ fin, m_law [.frz (.list (ns.map .int))] = some (.ok (.v (.bool true)) fin) := by
  suffices hF : F0 m_law [.list (ns.map .int)] (fun r => r = .v (.bool true)) by
    obtain ⟨r, fin, e, _, rfl⟩ := hF
    exact ⟨fin, e⟩
  refine F0.def_ ?_
  (try simp only [↓we_seq, ↓we_asg, ↓we_ret, ↓we_retN, ↓we_sIf, ↓we_drop, ↓we_nx, ↓we_brk, ↓we_cnt, ↓we_var, ↓we_C, ↓we_frz, ↓we_hold, ↓we_bin, ↓we_cmp, ↓we_un, ↓we_isi, ↓we_aNil, ↓we_aCons, ↓we_cb, ↓we_tup, ↓we_lst, ↓we_b, ↓we_tru, ↓we_and, ↓we_or, ↓we_not, ↓we_andV, ↓we_orV, ↓we_notV, ↓we_mIf, ↓we_chain, ↓we_set, ↓we_mgSub, ↓we_mgTup, ↓we_mgNil, ↓we_mgCons, ↓we_iR1, ↓we_iR2, ↓we_for, ↓we_mNo, ↓we_part, ↓we_sl, ↓we_ms, ↓we_met, ↓we_call_, ↓we_callIo_, ↓we_lc_, ↓we_iA, ↓we_yes, ↓we_par2, ↓we_par3, wo_some, wo_map, iaK_list, iaK_tuple, iaK_str, parK2_e, parK3_e, rd2, rd1, rd2B, rdN, rdAll, rd, hold, boolO, truO, intO, strO, frzO, retO, isIo_zero, isIo_succ, ioB_no, ioB_frz, ioB_own, ioB_io, le_line, lt_line, contAt, ML.putAt, Sl.cont, Sl.put, outsV, tupO, lstO, bo, noB, rtK_rt, rtK_nx, rtK1_rt, rtK1_nx, List.getElem?_cons_zero, List.getElem?_cons_succ, List.set_cons_zero, List.set_cons_succ, Option.map_some, Option.isSome_some, reduceIte, Bool.false_eq_true, Bool.true_eq_false, if_true, if_false, wipeR, ixN_lit, atI_lit, Option.bind_some, Nat.reduceLT, Nat.reduceLeDiff, ML.pos1, List.length_map, isT, List.map_cons, List.map_nil, List.length_cons, List.length_nil, List.cons_append, List.nil_append, List.append_nil, List.replicate, true_and, and_true, Nat.reduceSub, Nat.reduceAdd, Bool.not_true, Bool.not_false, decide_eq_true_eq, Bool.not_eq_true', decide_eq_false_iff_not, Int.reduceToNat, Int.reduceLT, Int.reduceLE, Int.reducePow, Int.reduceNeg, Bool.or_true, Bool.true_or, small_emod, small_lit, pow_10_18, and_self, addD, subD, mulD, modD, fdivD, negD, inD_ints, eqB_int, neB_int, ltB, leB, gtB, geB, isNB_none, notNB, isCB, ixD, lenD, absD, ML.intD, listD, tupD, slD, sl3, appD, metO, truD])
  refine we_call (deck_ok ns) rfl ?_
  rintro r - ⟨c, rfl, hc⟩
  (try simp only [↓we_seq, ↓we_asg, ↓we_ret, ↓we_retN, ↓we_sIf, ↓we_drop, ↓we_nx, ↓we_brk, ↓we_cnt, ↓we_var, ↓we_C, ↓we_frz, ↓we_hold, ↓we_bin, ↓we_cmp, ↓we_un, ↓we_isi, ↓we_aNil, ↓we_aCons, ↓we_cb, ↓we_tup, ↓we_lst, ↓we_b, ↓we_tru, ↓we_and, ↓we_or, ↓we_not, ↓we_andV, ↓we_orV, ↓we_notV, ↓we_mIf, ↓we_chain, ↓we_set, ↓we_mgSub, ↓we_mgTup, ↓we_mgNil, ↓we_mgCons, ↓we_iR1, ↓we_iR2, ↓we_for, ↓we_mNo, ↓we_part, ↓we_sl, ↓we_ms, ↓we_met, ↓we_call_, ↓we_callIo_, ↓we_lc_, ↓we_iA, ↓we_yes, ↓we_par2, ↓we_par3, wo_some, wo_map, iaK_list, iaK_tuple, iaK_str, parK2_e, parK3_e, rd2, rd1, rd2B, rdN, rdAll, rd, hold, boolO, truO, intO, strO, frzO, retO, isIo_zero, isIo_succ, ioB_no, ioB_frz, ioB_own, ioB_io, le_line, lt_line, contAt, ML.putAt, Sl.cont, Sl.put, outsV, tupO, lstO, bo, noB, rtK_rt, rtK_nx, rtK1_rt, rtK1_nx, List.getElem?_cons_zero, List.getElem?_cons_succ, List.set_cons_zero, List.set_cons_succ, Option.map_some, Option.isSome_some, reduceIte, Bool.false_eq_true, Bool.true_eq_false, if_true, if_false, wipeR, ixN_lit, atI_lit, Option.bind_some, Nat.reduceLT, Nat.reduceLeDiff, ML.pos1, List.length_map, isT, List.map_cons, List.map_nil, List.length_cons, List.length_nil, List.cons_append, List.nil_append, List.append_nil, List.replicate, true_and, and_true, Nat.reduceSub, Nat.reduceAdd, Bool.not_true, Bool.not_false, decide_eq_true_eq, Bool.not_eq_true', decide_eq_false_iff_not, Int.reduceToNat, Int.reduceLT, Int.reduceLE, Int.reducePow, Int.reduceNeg, Bool.or_true, Bool.true_or, small_emod, small_lit, pow_10_18, and_self, addD, subD, mulD, modD, fdivD, negD, inD_ints, eqB_int, neB_int, ltB, leB, gtB, geB, isNB_none, notNB, isCB, ixD, lenD, absD, ML.intD, listD, tupD, slD, sl3, appD, metO, truD]); repeat ((first | rw [then_nx] | rw [then_rt] | rw [then_bk] | rw [then_ct]); simp only [↓we_seq, ↓we_asg, ↓we_ret, ↓we_retN, ↓we_sIf, ↓we_drop, ↓we_nx, ↓we_brk, ↓we_cnt, ↓we_var, ↓we_C, ↓we_frz, ↓we_hold, ↓we_bin, ↓we_cmp, ↓we_un, ↓we_isi, ↓we_aNil, ↓we_aCons, ↓we_cb, ↓we_tup, ↓we_lst, ↓we_b, ↓we_tru, ↓we_and, ↓we_or, ↓we_not, ↓we_andV, ↓we_orV, ↓we_notV, ↓we_mIf, ↓we_chain, ↓we_set, ↓we_mgSub, ↓we_mgTup, ↓we_mgNil, ↓we_mgCons, ↓we_iR1, ↓we_iR2, ↓we_for, ↓we_mNo, ↓we_part, ↓we_sl, ↓we_ms, ↓we_met, ↓we_call_, ↓we_callIo_, ↓we_lc_, ↓we_iA, ↓we_yes, ↓we_par2, ↓we_par3, wo_some, wo_map, iaK_list, iaK_tuple, iaK_str, parK2_e, parK3_e, rd2, rd1, rd2B, rdN, rdAll, rd, hold, boolO, truO, intO, strO, frzO, retO, isIo_zero, isIo_succ, ioB_no, ioB_frz, ioB_own, ioB_io, le_line, lt_line, contAt, ML.putAt, Sl.cont, Sl.put, outsV, tupO, lstO, bo, noB, rtK_rt, rtK_nx, rtK1_rt, rtK1_nx, List.getElem?_cons_zero, List.getElem?_cons_succ, List.set_cons_zero, List.set_cons_succ, Option.map_some, Option.isSome_some, reduceIte, Bool.false_eq_true, Bool.true_eq_false, if_true, if_false, wipeR, ixN_lit, atI_lit, Option.bind_some, Nat.reduceLT, Nat.reduceLeDiff, ML.pos1, List.length_map, isT, List.map_cons, List.map_nil, List.length_cons, List.length_nil, List.cons_append, List.nil_append, List.append_nil, List.replicate, true_and, and_true, Nat.reduceSub, Nat.reduceAdd, Bool.not_true, Bool.not_false, decide_eq_true_eq, Bool.not_eq_true', decide_eq_false_iff_not, Int.reduceToNat, Int.reduceLT, Int.reduceLE, Int.reducePow, Int.reduceNeg, Bool.or_true, Bool.true_or, small_emod, small_lit, pow_10_18, and_self, addD, subD, mulD, modD, fdivD, negD, inD_ints, eqB_int, neB_int, ltB, leB, gtB, geB, isNB_none, notNB, isCB, ixD, lenD, absD, ML.intD, listD, tupD, slD, sl3, appD, metO, truD])
  refine wo_rg1 (by omega) (by omega) ?_
  refine we_loop0 (fun ρ => ∃ c s2 s3 s4 s5 s6 s7 s8 s9, Dk c ∧ (ioB s2 = false ∧ ioB s3 = false ∧ ioB s4 = false ∧ ioB s5 = false ∧ ioB s6 = false ∧ ioB s7 = false ∧ ioB s8 = false) ∧ ioB s9 = false ∧ ρ = [.frz (.list (ns.map .int)), .own c, s2, s3, s4, s5, s6, s7, s8, s9]) ?_ ⟨c, _, _, _, _, _, _, _, _, hc, ⟨rfl, rfl, rfl, rfl, rfl, rfl, rfl⟩, rfl, rfl⟩ ?_
  · rintro d - ρ ⟨c, s2, s3, s4, s5, s6, s7, s8, s9, hc, ⟨h2, h3, h4, h5, h6, h7, h8⟩, h9, rfl⟩
    (try simp only [↓we_seq, ↓we_asg, ↓we_ret, ↓we_retN, ↓we_sIf, ↓we_drop, ↓we_nx, ↓we_brk, ↓we_cnt, ↓we_var, ↓we_C, ↓we_frz, ↓we_hold, ↓we_bin, ↓we_cmp, ↓we_un, ↓we_isi, ↓we_aNil, ↓we_aCons, ↓we_cb, ↓we_tup, ↓we_lst, ↓we_b, ↓we_tru, ↓we_and, ↓we_or, ↓we_not, ↓we_andV, ↓we_orV, ↓we_notV, ↓we_mIf, ↓we_chain, ↓we_set, ↓we_mgSub, ↓we_mgTup, ↓we_mgNil, ↓we_mgCons, ↓we_iR1, ↓we_iR2, ↓we_for, ↓we_mNo, ↓we_part, ↓we_sl, ↓we_ms, ↓we_met, ↓we_call_, ↓we_callIo_, ↓we_lc_, ↓we_iA, ↓we_yes, ↓we_par2, ↓we_par3, wo_some, wo_map, iaK_list, iaK_tuple, iaK_str, parK2_e, parK3_e, rd2, rd1, rd2B, rdN, rdAll, rd, hold, boolO, truO, intO, strO, frzO, retO, isIo_zero, isIo_succ, ioB_no, ioB_frz, ioB_own, ioB_io, le_line, lt_line, contAt, ML.putAt, Sl.cont, Sl.put, outsV, tupO, lstO, bo, noB, rtK_rt, rtK_nx, rtK1_rt, rtK1_nx, List.getElem?_cons_zero, List.getElem?_cons_succ, List.set_cons_zero, List.set_cons_succ, Option.map_some, Option.isSome_some, reduceIte, Bool.false_eq_true, Bool.true_eq_false, if_true, if_false, wipeR, ixN_lit, atI_lit, Option.bind_some, Nat.reduceLT, Nat.reduceLeDiff, ML.pos1, List.length_map, isT, List.map_cons, List.map_nil, List.length_cons, List.length_nil, List.cons_append, List.nil_append, List.append_nil, List.replicate, true_and, and_true, Nat.reduceSub, Nat.reduceAdd, Bool.not_true, Bool.not_false, decide_eq_true_eq, Bool.not_eq_true', decide_eq_false_iff_not, Int.reduceToNat, Int.reduceLT, Int.reduceLE, Int.reducePow, Int.reduceNeg, Bool.or_true, Bool.true_or, small_emod, small_lit, pow_10_18, and_self, addD, subD, mulD, modD, fdivD, negD, inD_ints, eqB_int, neB_int, ltB, leB, gtB, geB, isNB_none, notNB, isCB, ixD, lenD, absD, ML.intD, listD, tupD, slD, sl3, appD, metO, truD, h2]);
    refine we_callIo (draw_ok hc (n := 4) (by decide) (by decide)) rfl rfl rfl ?_
    rintro r c - ⟨w, rfl, w0, w1, hc⟩
    (try simp only [↓we_seq, ↓we_asg, ↓we_ret, ↓we_retN, ↓we_sIf, ↓we_drop, ↓we_nx, ↓we_brk, ↓we_cnt, ↓we_var, ↓we_C, ↓we_frz, ↓we_hold, ↓we_bin, ↓we_cmp, ↓we_un, ↓we_isi, ↓we_aNil, ↓we_aCons, ↓we_cb, ↓we_tup, ↓we_lst, ↓we_b, ↓we_tru, ↓we_and, ↓we_or, ↓we_not, ↓we_andV, ↓we_orV, ↓we_notV, ↓we_mIf, ↓we_chain, ↓we_set, ↓we_mgSub, ↓we_mgTup, ↓we_mgNil, ↓we_mgCons, ↓we_iR1, ↓we_iR2, ↓we_for, ↓we_mNo, ↓we_part, ↓we_sl, ↓we_ms, ↓we_met, ↓we_call_, ↓we_callIo_, ↓we_lc_, ↓we_iA, ↓we_yes, ↓we_par2, ↓we_par3, wo_some, wo_map, iaK_list, iaK_tuple, iaK_str, parK2_e, parK3_e, rd2, rd1, rd2B, rdN, rdAll, rd, hold, boolO, truO, intO, strO, frzO, retO, isIo_zero, isIo_succ, ioB_no, ioB_frz, ioB_own, ioB_io, le_line, lt_line, contAt, ML.putAt, Sl.cont, Sl.put, outsV, tupO, lstO, bo, noB, rtK_rt, rtK_nx, rtK1_rt, rtK1_nx, List.getElem?_cons_zero, List.getElem?_cons_succ, List.set_cons_zero, List.set_cons_succ, Option.map_some, Option.isSome_some, reduceIte, Bool.false_eq_true, Bool.true_eq_false, if_true, if_false, wipeR, ixN_lit, atI_lit, Option.bind_some, Nat.reduceLT, Nat.reduceLeDiff, ML.pos1, List.length_map, isT, List.map_cons, List.map_nil, List.length_cons, List.length_nil, List.cons_append, List.nil_append, List.append_nil, List.replicate, true_and, and_true, Nat.reduceSub, Nat.reduceAdd, Bool.not_true, Bool.not_false, decide_eq_true_eq, Bool.not_eq_true', decide_eq_false_iff_not, Int.reduceToNat, Int.reduceLT, Int.reduceLE, Int.reducePow, Int.reduceNeg, Bool.or_true, Bool.true_or, small_emod, small_lit, pow_10_18, and_self, addD, subD, mulD, modD, fdivD, negD, inD_ints, eqB_int, neB_int, ltB, leB, gtB, geB, isNB_none, notNB, isCB, ixD, lenD, absD, ML.intD, listD, tupD, slD, sl3, appD, metO, truD, h3]);
    (first | rw [then_nx] | rw [then_rt] | rw [then_bk] | rw [then_ct])
    generalize hv : 1 + w = v
    have v0 : 0 < v := by omega
    have v4 : v ≤ 4 := by omega
    (try simp only [↓we_seq, ↓we_asg, ↓we_ret, ↓we_retN, ↓we_sIf, ↓we_drop, ↓we_nx, ↓we_brk, ↓we_cnt, ↓we_var, ↓we_C, ↓we_frz, ↓we_hold, ↓we_bin, ↓we_cmp, ↓we_un, ↓we_isi, ↓we_aNil, ↓we_aCons, ↓we_cb, ↓we_tup, ↓we_lst, ↓we_b, ↓we_tru, ↓we_and, ↓we_or, ↓we_not, ↓we_andV, ↓we_orV, ↓we_notV, ↓we_mIf, ↓we_chain, ↓we_set, ↓we_mgSub, ↓we_mgTup, ↓we_mgNil, ↓we_mgCons, ↓we_iR1, ↓we_iR2, ↓we_for, ↓we_mNo, ↓we_part, ↓we_sl, ↓we_ms, ↓we_met, ↓we_call_, ↓we_callIo_, ↓we_lc_, ↓we_iA, ↓we_yes, ↓we_par2, ↓we_par3, wo_some, wo_map, iaK_list, iaK_tuple, iaK_str, parK2_e, parK3_e, rd2, rd1, rd2B, rdN, rdAll, rd, hold, boolO, truO, intO, strO, frzO, retO, isIo_zero, isIo_succ, ioB_no, ioB_frz, ioB_own, ioB_io, le_line, lt_line, contAt, ML.putAt, Sl.cont, Sl.put, outsV, tupO, lstO, bo, noB, rtK_rt, rtK_nx, rtK1_rt, rtK1_nx, List.getElem?_cons_zero, List.getElem?_cons_succ, List.set_cons_zero, List.set_cons_succ, Option.map_some, Option.isSome_some, reduceIte, Bool.false_eq_true, Bool.true_eq_false, if_true, if_false, wipeR, ixN_lit, atI_lit, Option.bind_some, Nat.reduceLT, Nat.reduceLeDiff, ML.pos1, List.length_map, isT, List.map_cons, List.map_nil, List.length_cons, List.length_nil, List.cons_append, List.nil_append, List.append_nil, List.replicate, true_and, and_true, Nat.reduceSub, Nat.reduceAdd, Bool.not_true, Bool.not_false, decide_eq_true_eq, Bool.not_eq_true', decide_eq_false_iff_not, Int.reduceToNat, Int.reduceLT, Int.reduceLE, Int.reducePow, Int.reduceNeg, Bool.or_true, Bool.true_or, small_emod, small_lit, pow_10_18, and_self, addD, subD, mulD, modD, fdivD, negD, inD_ints, eqB_int, neB_int, ltB, leB, gtB, geB, isNB_none, notNB, isCB, ixD, lenD, absD, ML.intD, listD, tupD, slD, sl3, appD, metO, truD])
    refine we_callIo (near_ok hc) rfl rfl rfl ?_
    rintro r c - ⟨word, rfl, okn, hc⟩
    (try simp only [↓we_seq, ↓we_asg, ↓we_ret, ↓we_retN, ↓we_sIf, ↓we_drop, ↓we_nx, ↓we_brk, ↓we_cnt, ↓we_var, ↓we_C, ↓we_frz, ↓we_hold, ↓we_bin, ↓we_cmp, ↓we_un, ↓we_isi, ↓we_aNil, ↓we_aCons, ↓we_cb, ↓we_tup, ↓we_lst, ↓we_b, ↓we_tru, ↓we_and, ↓we_or, ↓we_not, ↓we_andV, ↓we_orV, ↓we_notV, ↓we_mIf, ↓we_chain, ↓we_set, ↓we_mgSub, ↓we_mgTup, ↓we_mgNil, ↓we_mgCons, ↓we_iR1, ↓we_iR2, ↓we_for, ↓we_mNo, ↓we_part, ↓we_sl, ↓we_ms, ↓we_met, ↓we_call_, ↓we_callIo_, ↓we_lc_, ↓we_iA, ↓we_yes, ↓we_par2, ↓we_par3, wo_some, wo_map, iaK_list, iaK_tuple, iaK_str, parK2_e, parK3_e, rd2, rd1, rd2B, rdN, rdAll, rd, hold, boolO, truO, intO, strO, frzO, retO, isIo_zero, isIo_succ, ioB_no, ioB_frz, ioB_own, ioB_io, le_line, lt_line, contAt, ML.putAt, Sl.cont, Sl.put, outsV, tupO, lstO, bo, noB, rtK_rt, rtK_nx, rtK1_rt, rtK1_nx, List.getElem?_cons_zero, List.getElem?_cons_succ, List.set_cons_zero, List.set_cons_succ, Option.map_some, Option.isSome_some, reduceIte, Bool.false_eq_true, Bool.true_eq_false, if_true, if_false, wipeR, ixN_lit, atI_lit, Option.bind_some, Nat.reduceLT, Nat.reduceLeDiff, ML.pos1, List.length_map, isT, List.map_cons, List.map_nil, List.length_cons, List.length_nil, List.cons_append, List.nil_append, List.append_nil, List.replicate, true_and, and_true, Nat.reduceSub, Nat.reduceAdd, Bool.not_true, Bool.not_false, decide_eq_true_eq, Bool.not_eq_true', decide_eq_false_iff_not, Int.reduceToNat, Int.reduceLT, Int.reduceLE, Int.reducePow, Int.reduceNeg, Bool.or_true, Bool.true_or, small_emod, small_lit, pow_10_18, and_self, addD, subD, mulD, modD, fdivD, negD, inD_ints, eqB_int, neB_int, ltB, leB, gtB, geB, isNB_none, notNB, isCB, ixD, lenD, absD, ML.intD, listD, tupD, slD, sl3, appD, metO, truD])
    refine we_callIo (row_ok hc v0 (by omega)) rfl rfl rfl ?_
    rintro r c - ⟨row, rfl, okw, hc⟩
    (try simp only [↓we_seq, ↓we_asg, ↓we_ret, ↓we_retN, ↓we_sIf, ↓we_drop, ↓we_nx, ↓we_brk, ↓we_cnt, ↓we_var, ↓we_C, ↓we_frz, ↓we_hold, ↓we_bin, ↓we_cmp, ↓we_un, ↓we_isi, ↓we_aNil, ↓we_aCons, ↓we_cb, ↓we_tup, ↓we_lst, ↓we_b, ↓we_tru, ↓we_and, ↓we_or, ↓we_not, ↓we_andV, ↓we_orV, ↓we_notV, ↓we_mIf, ↓we_chain, ↓we_set, ↓we_mgSub, ↓we_mgTup, ↓we_mgNil, ↓we_mgCons, ↓we_iR1, ↓we_iR2, ↓we_for, ↓we_mNo, ↓we_part, ↓we_sl, ↓we_ms, ↓we_met, ↓we_call_, ↓we_callIo_, ↓we_lc_, ↓we_iA, ↓we_yes, ↓we_par2, ↓we_par3, wo_some, wo_map, iaK_list, iaK_tuple, iaK_str, parK2_e, parK3_e, rd2, rd1, rd2B, rdN, rdAll, rd, hold, boolO, truO, intO, strO, frzO, retO, isIo_zero, isIo_succ, ioB_no, ioB_frz, ioB_own, ioB_io, le_line, lt_line, contAt, ML.putAt, Sl.cont, Sl.put, outsV, tupO, lstO, bo, noB, rtK_rt, rtK_nx, rtK1_rt, rtK1_nx, List.getElem?_cons_zero, List.getElem?_cons_succ, List.set_cons_zero, List.set_cons_succ, Option.map_some, Option.isSome_some, reduceIte, Bool.false_eq_true, Bool.true_eq_false, if_true, if_false, wipeR, ixN_lit, atI_lit, Option.bind_some, Nat.reduceLT, Nat.reduceLeDiff, ML.pos1, List.length_map, isT, List.map_cons, List.map_nil, List.length_cons, List.length_nil, List.cons_append, List.nil_append, List.append_nil, List.replicate, true_and, and_true, Nat.reduceSub, Nat.reduceAdd, Bool.not_true, Bool.not_false, decide_eq_true_eq, Bool.not_eq_true', decide_eq_false_iff_not, Int.reduceToNat, Int.reduceLT, Int.reduceLE, Int.reducePow, Int.reduceNeg, Bool.or_true, Bool.true_or, small_emod, small_lit, pow_10_18, and_self, addD, subD, mulD, modD, fdivD, negD, inD_ints, eqB_int, neB_int, ltB, leB, gtB, geB, isNB_none, notNB, isCB, ixD, lenD, absD, ML.intD, listD, tupD, slD, sl3, appD, metO, truD])
    refine we_callIo (rows_ok hc v0 (by omega)) rfl rfl rfl ?_
    rintro r c - ⟨rows, rfl, hc⟩
    (try simp only [↓we_seq, ↓we_asg, ↓we_ret, ↓we_retN, ↓we_sIf, ↓we_drop, ↓we_nx, ↓we_brk, ↓we_cnt, ↓we_var, ↓we_C, ↓we_frz, ↓we_hold, ↓we_bin, ↓we_cmp, ↓we_un, ↓we_isi, ↓we_aNil, ↓we_aCons, ↓we_cb, ↓we_tup, ↓we_lst, ↓we_b, ↓we_tru, ↓we_and, ↓we_or, ↓we_not, ↓we_andV, ↓we_orV, ↓we_notV, ↓we_mIf, ↓we_chain, ↓we_set, ↓we_mgSub, ↓we_mgTup, ↓we_mgNil, ↓we_mgCons, ↓we_iR1, ↓we_iR2, ↓we_for, ↓we_mNo, ↓we_part, ↓we_sl, ↓we_ms, ↓we_met, ↓we_call_, ↓we_callIo_, ↓we_lc_, ↓we_iA, ↓we_yes, ↓we_par2, ↓we_par3, wo_some, wo_map, iaK_list, iaK_tuple, iaK_str, parK2_e, parK3_e, rd2, rd1, rd2B, rdN, rdAll, rd, hold, boolO, truO, intO, strO, frzO, retO, isIo_zero, isIo_succ, ioB_no, ioB_frz, ioB_own, ioB_io, le_line, lt_line, contAt, ML.putAt, Sl.cont, Sl.put, outsV, tupO, lstO, bo, noB, rtK_rt, rtK_nx, rtK1_rt, rtK1_nx, List.getElem?_cons_zero, List.getElem?_cons_succ, List.set_cons_zero, List.set_cons_succ, Option.map_some, Option.isSome_some, reduceIte, Bool.false_eq_true, Bool.true_eq_false, if_true, if_false, wipeR, ixN_lit, atI_lit, Option.bind_some, Nat.reduceLT, Nat.reduceLeDiff, ML.pos1, List.length_map, isT, List.map_cons, List.map_nil, List.length_cons, List.length_nil, List.cons_append, List.nil_append, List.append_nil, List.replicate, true_and, and_true, Nat.reduceSub, Nat.reduceAdd, Bool.not_true, Bool.not_false, decide_eq_true_eq, Bool.not_eq_true', decide_eq_false_iff_not, Int.reduceToNat, Int.reduceLT, Int.reduceLE, Int.reducePow, Int.reduceNeg, Bool.or_true, Bool.true_or, small_emod, small_lit, pow_10_18, and_self, addD, subD, mulD, modD, fdivD, negD, inD_ints, eqB_int, neB_int, ltB, leB, gtB, geB, isNB_none, notNB, isCB, ixD, lenD, absD, ML.intD, listD, tupD, slD, sl3, appD, metO, truD, h6, h7, h8]);
    (first | rw [then_nx] | rw [then_rt] | rw [then_bk] | rw [then_ct])
    (try simp only [↓we_seq, ↓we_asg, ↓we_ret, ↓we_retN, ↓we_sIf, ↓we_drop, ↓we_nx, ↓we_brk, ↓we_cnt, ↓we_var, ↓we_C, ↓we_frz, ↓we_hold, ↓we_bin, ↓we_cmp, ↓we_un, ↓we_isi, ↓we_aNil, ↓we_aCons, ↓we_cb, ↓we_tup, ↓we_lst, ↓we_b, ↓we_tru, ↓we_and, ↓we_or, ↓we_not, ↓we_andV, ↓we_orV, ↓we_notV, ↓we_mIf, ↓we_chain, ↓we_set, ↓we_mgSub, ↓we_mgTup, ↓we_mgNil, ↓we_mgCons, ↓we_iR1, ↓we_iR2, ↓we_for, ↓we_mNo, ↓we_part, ↓we_sl, ↓we_ms, ↓we_met, ↓we_call_, ↓we_callIo_, ↓we_lc_, ↓we_iA, ↓we_yes, ↓we_par2, ↓we_par3, wo_some, wo_map, iaK_list, iaK_tuple, iaK_str, parK2_e, parK3_e, rd2, rd1, rd2B, rdN, rdAll, rd, hold, boolO, truO, intO, strO, frzO, retO, isIo_zero, isIo_succ, ioB_no, ioB_frz, ioB_own, ioB_io, le_line, lt_line, contAt, ML.putAt, Sl.cont, Sl.put, outsV, tupO, lstO, bo, noB, rtK_rt, rtK_nx, rtK1_rt, rtK1_nx, List.getElem?_cons_zero, List.getElem?_cons_succ, List.set_cons_zero, List.set_cons_succ, Option.map_some, Option.isSome_some, reduceIte, Bool.false_eq_true, Bool.true_eq_false, if_true, if_false, wipeR, ixN_lit, atI_lit, Option.bind_some, Nat.reduceLT, Nat.reduceLeDiff, ML.pos1, List.length_map, isT, List.map_cons, List.map_nil, List.length_cons, List.length_nil, List.cons_append, List.nil_append, List.append_nil, List.replicate, true_and, and_true, Nat.reduceSub, Nat.reduceAdd, Bool.not_true, Bool.not_false, decide_eq_true_eq, Bool.not_eq_true', decide_eq_false_iff_not, Int.reduceToNat, Int.reduceLT, Int.reduceLE, Int.reducePow, Int.reduceNeg, Bool.or_true, Bool.true_or, small_emod, small_lit, pow_10_18, and_self, addD, subD, mulD, modD, fdivD, negD, inD_ints, eqB_int, neB_int, ltB, leB, gtB, geB, isNB_none, notNB, isCB, ixD, lenD, absD, ML.intD, listD, tupD, slD, sl3, appD, metO, truD])
    refine we_call (isw_ok word okn.2) rfl ?_
    rintro r - rfl
    (try simp only [↓we_seq, ↓we_asg, ↓we_ret, ↓we_retN, ↓we_sIf, ↓we_drop, ↓we_nx, ↓we_brk, ↓we_cnt, ↓we_var, ↓we_C, ↓we_frz, ↓we_hold, ↓we_bin, ↓we_cmp, ↓we_un, ↓we_isi, ↓we_aNil, ↓we_aCons, ↓we_cb, ↓we_tup, ↓we_lst, ↓we_b, ↓we_tru, ↓we_and, ↓we_or, ↓we_not, ↓we_andV, ↓we_orV, ↓we_notV, ↓we_mIf, ↓we_chain, ↓we_set, ↓we_mgSub, ↓we_mgTup, ↓we_mgNil, ↓we_mgCons, ↓we_iR1, ↓we_iR2, ↓we_for, ↓we_mNo, ↓we_part, ↓we_sl, ↓we_ms, ↓we_met, ↓we_call_, ↓we_callIo_, ↓we_lc_, ↓we_iA, ↓we_yes, ↓we_par2, ↓we_par3, wo_some, wo_map, iaK_list, iaK_tuple, iaK_str, parK2_e, parK3_e, rd2, rd1, rd2B, rdN, rdAll, rd, hold, boolO, truO, intO, strO, frzO, retO, isIo_zero, isIo_succ, ioB_no, ioB_frz, ioB_own, ioB_io, le_line, lt_line, contAt, ML.putAt, Sl.cont, Sl.put, outsV, tupO, lstO, bo, noB, rtK_rt, rtK_nx, rtK1_rt, rtK1_nx, List.getElem?_cons_zero, List.getElem?_cons_succ, List.set_cons_zero, List.set_cons_succ, Option.map_some, Option.isSome_some, reduceIte, Bool.false_eq_true, Bool.true_eq_false, if_true, if_false, wipeR, ixN_lit, atI_lit, Option.bind_some, Nat.reduceLT, Nat.reduceLeDiff, ML.pos1, List.length_map, isT, List.map_cons, List.map_nil, List.length_cons, List.length_nil, List.cons_append, List.nil_append, List.append_nil, List.replicate, true_and, and_true, Nat.reduceSub, Nat.reduceAdd, Bool.not_true, Bool.not_false, decide_eq_true_eq, Bool.not_eq_true', decide_eq_false_iff_not, Int.reduceToNat, Int.reduceLT, Int.reduceLE, Int.reducePow, Int.reduceNeg, Bool.or_true, Bool.true_or, small_emod, small_lit, pow_10_18, and_self, addD, subD, mulD, modD, fdivD, negD, inD_ints, eqB_int, neB_int, ltB, leB, gtB, geB, isNB_none, notNB, isCB, ixD, lenD, absD, ML.intD, listD, tupD, slD, sl3, appD, metO, truD])
    refine we_call (lisw_ok word okn.2) rfl ?_
    rintro r - rfl
    (try simp only [↓we_seq, ↓we_asg, ↓we_ret, ↓we_retN, ↓we_sIf, ↓we_drop, ↓we_nx, ↓we_brk, ↓we_cnt, ↓we_var, ↓we_C, ↓we_frz, ↓we_hold, ↓we_bin, ↓we_cmp, ↓we_un, ↓we_isi, ↓we_aNil, ↓we_aCons, ↓we_cb, ↓we_tup, ↓we_lst, ↓we_b, ↓we_tru, ↓we_and, ↓we_or, ↓we_not, ↓we_andV, ↓we_orV, ↓we_notV, ↓we_mIf, ↓we_chain, ↓we_set, ↓we_mgSub, ↓we_mgTup, ↓we_mgNil, ↓we_mgCons, ↓we_iR1, ↓we_iR2, ↓we_for, ↓we_mNo, ↓we_part, ↓we_sl, ↓we_ms, ↓we_met, ↓we_call_, ↓we_callIo_, ↓we_lc_, ↓we_iA, ↓we_yes, ↓we_par2, ↓we_par3, wo_some, wo_map, iaK_list, iaK_tuple, iaK_str, parK2_e, parK3_e, rd2, rd1, rd2B, rdN, rdAll, rd, hold, boolO, truO, intO, strO, frzO, retO, isIo_zero, isIo_succ, ioB_no, ioB_frz, ioB_own, ioB_io, le_line, lt_line, contAt, ML.putAt, Sl.cont, Sl.put, outsV, tupO, lstO, bo, noB, rtK_rt, rtK_nx, rtK1_rt, rtK1_nx, List.getElem?_cons_zero, List.getElem?_cons_succ, List.set_cons_zero, List.set_cons_succ, Option.map_some, Option.isSome_some, reduceIte, Bool.false_eq_true, Bool.true_eq_false, if_true, if_false, wipeR, ixN_lit, atI_lit, Option.bind_some, Nat.reduceLT, Nat.reduceLeDiff, ML.pos1, List.length_map, isT, List.map_cons, List.map_nil, List.length_cons, List.length_nil, List.cons_append, List.nil_append, List.append_nil, List.replicate, true_and, and_true, Nat.reduceSub, Nat.reduceAdd, Bool.not_true, Bool.not_false, decide_eq_true_eq, Bool.not_eq_true', decide_eq_false_iff_not, Int.reduceToNat, Int.reduceLT, Int.reduceLE, Int.reducePow, Int.reduceNeg, Bool.or_true, Bool.true_or, small_emod, small_lit, pow_10_18, and_self, addD, subD, mulD, modD, fdivD, negD, inD_ints, eqB_int, neB_int, ltB, leB, gtB, geB, isNB_none, notNB, isCB, ixD, lenD, absD, ML.intD, listD, tupD, slD, sl3, appD, metO, truD])
    refine we_call (same_ok 8 (.bool (isWord word)) trivial) rfl ?_
    rintro r - rfl
    (try simp only [↓we_seq, ↓we_asg, ↓we_ret, ↓we_retN, ↓we_sIf, ↓we_drop, ↓we_nx, ↓we_brk, ↓we_cnt, ↓we_var, ↓we_C, ↓we_frz, ↓we_hold, ↓we_bin, ↓we_cmp, ↓we_un, ↓we_isi, ↓we_aNil, ↓we_aCons, ↓we_cb, ↓we_tup, ↓we_lst, ↓we_b, ↓we_tru, ↓we_and, ↓we_or, ↓we_not, ↓we_andV, ↓we_orV, ↓we_notV, ↓we_mIf, ↓we_chain, ↓we_set, ↓we_mgSub, ↓we_mgTup, ↓we_mgNil, ↓we_mgCons, ↓we_iR1, ↓we_iR2, ↓we_for, ↓we_mNo, ↓we_part, ↓we_sl, ↓we_ms, ↓we_met, ↓we_call_, ↓we_callIo_, ↓we_lc_, ↓we_iA, ↓we_yes, ↓we_par2, ↓we_par3, wo_some, wo_map, iaK_list, iaK_tuple, iaK_str, parK2_e, parK3_e, rd2, rd1, rd2B, rdN, rdAll, rd, hold, boolO, truO, intO, strO, frzO, retO, isIo_zero, isIo_succ, ioB_no, ioB_frz, ioB_own, ioB_io, le_line, lt_line, contAt, ML.putAt, Sl.cont, Sl.put, outsV, tupO, lstO, bo, noB, rtK_rt, rtK_nx, rtK1_rt, rtK1_nx, List.getElem?_cons_zero, List.getElem?_cons_succ, List.set_cons_zero, List.set_cons_succ, Option.map_some, Option.isSome_some, reduceIte, Bool.false_eq_true, Bool.true_eq_false, if_true, if_false, wipeR, ixN_lit, atI_lit, Option.bind_some, Nat.reduceLT, Nat.reduceLeDiff, ML.pos1, List.length_map, isT, List.map_cons, List.map_nil, List.length_cons, List.length_nil, List.cons_append, List.nil_append, List.append_nil, List.replicate, true_and, and_true, Nat.reduceSub, Nat.reduceAdd, Bool.not_true, Bool.not_false, decide_eq_true_eq, Bool.not_eq_true', decide_eq_false_iff_not, Int.reduceToNat, Int.reduceLT, Int.reduceLE, Int.reducePow, Int.reduceNeg, Bool.or_true, Bool.true_or, small_emod, small_lit, pow_10_18, and_self, addD, subD, mulD, modD, fdivD, negD, inD_ints, eqB_int, neB_int, ltB, leB, gtB, geB, isNB_none, notNB, isCB, ixD, lenD, absD, ML.intD, listD, tupD, slD, sl3, appD, metO, truD])
    refine we_call (isw_ok row (okW_no okw).2) rfl ?_
    rintro r - rfl
    (try simp only [↓we_seq, ↓we_asg, ↓we_ret, ↓we_retN, ↓we_sIf, ↓we_drop, ↓we_nx, ↓we_brk, ↓we_cnt, ↓we_var, ↓we_C, ↓we_frz, ↓we_hold, ↓we_bin, ↓we_cmp, ↓we_un, ↓we_isi, ↓we_aNil, ↓we_aCons, ↓we_cb, ↓we_tup, ↓we_lst, ↓we_b, ↓we_tru, ↓we_and, ↓we_or, ↓we_not, ↓we_andV, ↓we_orV, ↓we_notV, ↓we_mIf, ↓we_chain, ↓we_set, ↓we_mgSub, ↓we_mgTup, ↓we_mgNil, ↓we_mgCons, ↓we_iR1, ↓we_iR2, ↓we_for, ↓we_mNo, ↓we_part, ↓we_sl, ↓we_ms, ↓we_met, ↓we_call_, ↓we_callIo_, ↓we_lc_, ↓we_iA, ↓we_yes, ↓we_par2, ↓we_par3, wo_some, wo_map, iaK_list, iaK_tuple, iaK_str, parK2_e, parK3_e, rd2, rd1, rd2B, rdN, rdAll, rd, hold, boolO, truO, intO, strO, frzO, retO, isIo_zero, isIo_succ, ioB_no, ioB_frz, ioB_own, ioB_io, le_line, lt_line, contAt, ML.putAt, Sl.cont, Sl.put, outsV, tupO, lstO, bo, noB, rtK_rt, rtK_nx, rtK1_rt, rtK1_nx, List.getElem?_cons_zero, List.getElem?_cons_succ, List.set_cons_zero, List.set_cons_succ, Option.map_some, Option.isSome_some, reduceIte, Bool.false_eq_true, Bool.true_eq_false, if_true, if_false, wipeR, ixN_lit, atI_lit, Option.bind_some, Nat.reduceLT, Nat.reduceLeDiff, ML.pos1, List.length_map, isT, List.map_cons, List.map_nil, List.length_cons, List.length_nil, List.cons_append, List.nil_append, List.append_nil, List.replicate, true_and, and_true, Nat.reduceSub, Nat.reduceAdd, Bool.not_true, Bool.not_false, decide_eq_true_eq, Bool.not_eq_true', decide_eq_false_iff_not, Int.reduceToNat, Int.reduceLT, Int.reduceLE, Int.reducePow, Int.reduceNeg, Bool.or_true, Bool.true_or, small_emod, small_lit, pow_10_18, and_self, addD, subD, mulD, modD, fdivD, negD, inD_ints, eqB_int, neB_int, ltB, leB, gtB, geB, isNB_none, notNB, isCB, ixD, lenD, absD, ML.intD, listD, tupD, slD, sl3, appD, metO, truD])
    rw [(okW_no okw).1]
    refine we_call (same_ok 8 (.bool false) trivial) rfl ?_
    rintro r - rfl
    (try simp only [↓we_seq, ↓we_asg, ↓we_ret, ↓we_retN, ↓we_sIf, ↓we_drop, ↓we_nx, ↓we_brk, ↓we_cnt, ↓we_var, ↓we_C, ↓we_frz, ↓we_hold, ↓we_bin, ↓we_cmp, ↓we_un, ↓we_isi, ↓we_aNil, ↓we_aCons, ↓we_cb, ↓we_tup, ↓we_lst, ↓we_b, ↓we_tru, ↓we_and, ↓we_or, ↓we_not, ↓we_andV, ↓we_orV, ↓we_notV, ↓we_mIf, ↓we_chain, ↓we_set, ↓we_mgSub, ↓we_mgTup, ↓we_mgNil, ↓we_mgCons, ↓we_iR1, ↓we_iR2, ↓we_for, ↓we_mNo, ↓we_part, ↓we_sl, ↓we_ms, ↓we_met, ↓we_call_, ↓we_callIo_, ↓we_lc_, ↓we_iA, ↓we_yes, ↓we_par2, ↓we_par3, wo_some, wo_map, iaK_list, iaK_tuple, iaK_str, parK2_e, parK3_e, rd2, rd1, rd2B, rdN, rdAll, rd, hold, boolO, truO, intO, strO, frzO, retO, isIo_zero, isIo_succ, ioB_no, ioB_frz, ioB_own, ioB_io, le_line, lt_line, contAt, ML.putAt, Sl.cont, Sl.put, outsV, tupO, lstO, bo, noB, rtK_rt, rtK_nx, rtK1_rt, rtK1_nx, List.getElem?_cons_zero, List.getElem?_cons_succ, List.set_cons_zero, List.set_cons_succ, Option.map_some, Option.isSome_some, reduceIte, Bool.false_eq_true, Bool.true_eq_false, if_true, if_false, wipeR, ixN_lit, atI_lit, Option.bind_some, Nat.reduceLT, Nat.reduceLeDiff, ML.pos1, List.length_map, isT, List.map_cons, List.map_nil, List.length_cons, List.length_nil, List.cons_append, List.nil_append, List.append_nil, List.replicate, true_and, and_true, Nat.reduceSub, Nat.reduceAdd, Bool.not_true, Bool.not_false, decide_eq_true_eq, Bool.not_eq_true', decide_eq_false_iff_not, Int.reduceToNat, Int.reduceLT, Int.reduceLE, Int.reducePow, Int.reduceNeg, Bool.or_true, Bool.true_or, small_emod, small_lit, pow_10_18, and_self, addD, subD, mulD, modD, fdivD, negD, inD_ints, eqB_int, neB_int, ltB, leB, gtB, geB, isNB_none, notNB, isCB, ixD, lenD, absD, ML.intD, listD, tupD, slD, sl3, appD, metO, truD])
    (first | rw [then_nx] | rw [then_rt] | rw [then_bk] | rw [then_ct])
    (try simp only [↓we_seq, ↓we_asg, ↓we_ret, ↓we_retN, ↓we_sIf, ↓we_drop, ↓we_nx, ↓we_brk, ↓we_cnt, ↓we_var, ↓we_C, ↓we_frz, ↓we_hold, ↓we_bin, ↓we_cmp, ↓we_un, ↓we_isi, ↓we_aNil, ↓we_aCons, ↓we_cb, ↓we_tup, ↓we_lst, ↓we_b, ↓we_tru, ↓we_and, ↓we_or, ↓we_not, ↓we_andV, ↓we_orV, ↓we_notV, ↓we_mIf, ↓we_chain, ↓we_set, ↓we_mgSub, ↓we_mgTup, ↓we_mgNil, ↓we_mgCons, ↓we_iR1, ↓we_iR2, ↓we_for, ↓we_mNo, ↓we_part, ↓we_sl, ↓we_ms, ↓we_met, ↓we_call_, ↓we_callIo_, ↓we_lc_, ↓we_iA, ↓we_yes, ↓we_par2, ↓we_par3, wo_some, wo_map, iaK_list, iaK_tuple, iaK_str, parK2_e, parK3_e, rd2, rd1, rd2B, rdN, rdAll, rd, hold, boolO, truO, intO, strO, frzO, retO, isIo_zero, isIo_succ, ioB_no, ioB_frz, ioB_own, ioB_io, le_line, lt_line, contAt, ML.putAt, Sl.cont, Sl.put, outsV, tupO, lstO, bo, noB, rtK_rt, rtK_nx, rtK1_rt, rtK1_nx, List.getElem?_cons_zero, List.getElem?_cons_succ, List.set_cons_zero, List.set_cons_succ, Option.map_some, Option.isSome_some, reduceIte, Bool.false_eq_true, Bool.true_eq_false, if_true, if_false, wipeR, ixN_lit, atI_lit, Option.bind_some, Nat.reduceLT, Nat.reduceLeDiff, ML.pos1, List.length_map, isT, List.map_cons, List.map_nil, List.length_cons, List.length_nil, List.cons_append, List.nil_append, List.append_nil, List.replicate, true_and, and_true, Nat.reduceSub, Nat.reduceAdd, Bool.not_true, Bool.not_false, decide_eq_true_eq, Bool.not_eq_true', decide_eq_false_iff_not, Int.reduceToNat, Int.reduceLT, Int.reduceLE, Int.reducePow, Int.reduceNeg, Bool.or_true, Bool.true_or, small_emod, small_lit, pow_10_18, and_self, addD, subD, mulD, modD, fdivD, negD, inD_ints, eqB_int, neB_int, ltB, leB, gtB, geB, isNB_none, notNB, isCB, ixD, lenD, absD, ML.intD, listD, tupD, slD, sl3, appD, metO, truD])
    refine we_call (way_ok row v (by omega)) rfl ?_
    rintro r - rfl
    (try simp only [↓we_seq, ↓we_asg, ↓we_ret, ↓we_retN, ↓we_sIf, ↓we_drop, ↓we_nx, ↓we_brk, ↓we_cnt, ↓we_var, ↓we_C, ↓we_frz, ↓we_hold, ↓we_bin, ↓we_cmp, ↓we_un, ↓we_isi, ↓we_aNil, ↓we_aCons, ↓we_cb, ↓we_tup, ↓we_lst, ↓we_b, ↓we_tru, ↓we_and, ↓we_or, ↓we_not, ↓we_andV, ↓we_orV, ↓we_notV, ↓we_mIf, ↓we_chain, ↓we_set, ↓we_mgSub, ↓we_mgTup, ↓we_mgNil, ↓we_mgCons, ↓we_iR1, ↓we_iR2, ↓we_for, ↓we_mNo, ↓we_part, ↓we_sl, ↓we_ms, ↓we_met, ↓we_call_, ↓we_callIo_, ↓we_lc_, ↓we_iA, ↓we_yes, ↓we_par2, ↓we_par3, wo_some, wo_map, iaK_list, iaK_tuple, iaK_str, parK2_e, parK3_e, rd2, rd1, rd2B, rdN, rdAll, rd, hold, boolO, truO, intO, strO, frzO, retO, isIo_zero, isIo_succ, ioB_no, ioB_frz, ioB_own, ioB_io, le_line, lt_line, contAt, ML.putAt, Sl.cont, Sl.put, outsV, tupO, lstO, bo, noB, rtK_rt, rtK_nx, rtK1_rt, rtK1_nx, List.getElem?_cons_zero, List.getElem?_cons_succ, List.set_cons_zero, List.set_cons_succ, Option.map_some, Option.isSome_some, reduceIte, Bool.false_eq_true, Bool.true_eq_false, if_true, if_false, wipeR, ixN_lit, atI_lit, Option.bind_some, Nat.reduceLT, Nat.reduceLeDiff, ML.pos1, List.length_map, isT, List.map_cons, List.map_nil, List.length_cons, List.length_nil, List.cons_append, List.nil_append, List.append_nil, List.replicate, true_and, and_true, Nat.reduceSub, Nat.reduceAdd, Bool.not_true, Bool.not_false, decide_eq_true_eq, Bool.not_eq_true', decide_eq_false_iff_not, Int.reduceToNat, Int.reduceLT, Int.reduceLE, Int.reducePow, Int.reduceNeg, Bool.or_true, Bool.true_or, small_emod, small_lit, pow_10_18, and_self, addD, subD, mulD, modD, fdivD, negD, inD_ints, eqB_int, neB_int, ltB, leB, gtB, geB, isNB_none, notNB, isCB, ixD, lenD, absD, ML.intD, listD, tupD, slD, sl3, appD, metO, truD])
    refine we_call (map_ok row v v0 (by omega)) rfl ?_
    rintro r - rfl
    (try simp only [↓we_seq, ↓we_asg, ↓we_ret, ↓we_retN, ↓we_sIf, ↓we_drop, ↓we_nx, ↓we_brk, ↓we_cnt, ↓we_var, ↓we_C, ↓we_frz, ↓we_hold, ↓we_bin, ↓we_cmp, ↓we_un, ↓we_isi, ↓we_aNil, ↓we_aCons, ↓we_cb, ↓we_tup, ↓we_lst, ↓we_b, ↓we_tru, ↓we_and, ↓we_or, ↓we_not, ↓we_andV, ↓we_orV, ↓we_notV, ↓we_mIf, ↓we_chain, ↓we_set, ↓we_mgSub, ↓we_mgTup, ↓we_mgNil, ↓we_mgCons, ↓we_iR1, ↓we_iR2, ↓we_for, ↓we_mNo, ↓we_part, ↓we_sl, ↓we_ms, ↓we_met, ↓we_call_, ↓we_callIo_, ↓we_lc_, ↓we_iA, ↓we_yes, ↓we_par2, ↓we_par3, wo_some, wo_map, iaK_list, iaK_tuple, iaK_str, parK2_e, parK3_e, rd2, rd1, rd2B, rdN, rdAll, rd, hold, boolO, truO, intO, strO, frzO, retO, isIo_zero, isIo_succ, ioB_no, ioB_frz, ioB_own, ioB_io, le_line, lt_line, contAt, ML.putAt, Sl.cont, Sl.put, outsV, tupO, lstO, bo, noB, rtK_rt, rtK_nx, rtK1_rt, rtK1_nx, List.getElem?_cons_zero, List.getElem?_cons_succ, List.set_cons_zero, List.set_cons_succ, Option.map_some, Option.isSome_some, reduceIte, Bool.false_eq_true, Bool.true_eq_false, if_true, if_false, wipeR, ixN_lit, atI_lit, Option.bind_some, Nat.reduceLT, Nat.reduceLeDiff, ML.pos1, List.length_map, isT, List.map_cons, List.map_nil, List.length_cons, List.length_nil, List.cons_append, List.nil_append, List.append_nil, List.replicate, true_and, and_true, Nat.reduceSub, Nat.reduceAdd, Bool.not_true, Bool.not_false, decide_eq_true_eq, Bool.not_eq_true', decide_eq_false_iff_not, Int.reduceToNat, Int.reduceLT, Int.reduceLE, Int.reducePow, Int.reduceNeg, Bool.or_true, Bool.true_or, small_emod, small_lit, pow_10_18, and_self, addD, subD, mulD, modD, fdivD, negD, inD_ints, eqB_int, neB_int, ltB, leB, gtB, geB, isNB_none, notNB, isCB, ixD, lenD, absD, ML.intD, listD, tupD, slD, sl3, appD, metO, truD])
    refine we_call (lway_ok row v (by omega)) rfl ?_
    rintro r - rfl
    (try simp only [↓we_seq, ↓we_asg, ↓we_ret, ↓we_retN, ↓we_sIf, ↓we_drop, ↓we_nx, ↓we_brk, ↓we_cnt, ↓we_var, ↓we_C, ↓we_frz, ↓we_hold, ↓we_bin, ↓we_cmp, ↓we_un, ↓we_isi, ↓we_aNil, ↓we_aCons, ↓we_cb, ↓we_tup, ↓we_lst, ↓we_b, ↓we_tru, ↓we_and, ↓we_or, ↓we_not, ↓we_andV, ↓we_orV, ↓we_notV, ↓we_mIf, ↓we_chain, ↓we_set, ↓we_mgSub, ↓we_mgTup, ↓we_mgNil, ↓we_mgCons, ↓we_iR1, ↓we_iR2, ↓we_for, ↓we_mNo, ↓we_part, ↓we_sl, ↓we_ms, ↓we_met, ↓we_call_, ↓we_callIo_, ↓we_lc_, ↓we_iA, ↓we_yes, ↓we_par2, ↓we_par3, wo_some, wo_map, iaK_list, iaK_tuple, iaK_str, parK2_e, parK3_e, rd2, rd1, rd2B, rdN, rdAll, rd, hold, boolO, truO, intO, strO, frzO, retO, isIo_zero, isIo_succ, ioB_no, ioB_frz, ioB_own, ioB_io, le_line, lt_line, contAt, ML.putAt, Sl.cont, Sl.put, outsV, tupO, lstO, bo, noB, rtK_rt, rtK_nx, rtK1_rt, rtK1_nx, List.getElem?_cons_zero, List.getElem?_cons_succ, List.set_cons_zero, List.set_cons_succ, Option.map_some, Option.isSome_some, reduceIte, Bool.false_eq_true, Bool.true_eq_false, if_true, if_false, wipeR, ixN_lit, atI_lit, Option.bind_some, Nat.reduceLT, Nat.reduceLeDiff, ML.pos1, List.length_map, isT, List.map_cons, List.map_nil, List.length_cons, List.length_nil, List.cons_append, List.nil_append, List.append_nil, List.replicate, true_and, and_true, Nat.reduceSub, Nat.reduceAdd, Bool.not_true, Bool.not_false, decide_eq_true_eq, Bool.not_eq_true', decide_eq_false_iff_not, Int.reduceToNat, Int.reduceLT, Int.reduceLE, Int.reducePow, Int.reduceNeg, Bool.or_true, Bool.true_or, small_emod, small_lit, pow_10_18, and_self, addD, subD, mulD, modD, fdivD, negD, inD_ints, eqB_int, neB_int, ltB, leB, gtB, geB, isNB_none, notNB, isCB, ixD, lenD, absD, ML.intD, listD, tupD, slD, sl3, appD, metO, truD])
    refine we_call (lmap_ok row v v0 (by omega)) rfl ?_
    rintro r - rfl
    (try simp only [↓we_seq, ↓we_asg, ↓we_ret, ↓we_retN, ↓we_sIf, ↓we_drop, ↓we_nx, ↓we_brk, ↓we_cnt, ↓we_var, ↓we_C, ↓we_frz, ↓we_hold, ↓we_bin, ↓we_cmp, ↓we_un, ↓we_isi, ↓we_aNil, ↓we_aCons, ↓we_cb, ↓we_tup, ↓we_lst, ↓we_b, ↓we_tru, ↓we_and, ↓we_or, ↓we_not, ↓we_andV, ↓we_orV, ↓we_notV, ↓we_mIf, ↓we_chain, ↓we_set, ↓we_mgSub, ↓we_mgTup, ↓we_mgNil, ↓we_mgCons, ↓we_iR1, ↓we_iR2, ↓we_for, ↓we_mNo, ↓we_part, ↓we_sl, ↓we_ms, ↓we_met, ↓we_call_, ↓we_callIo_, ↓we_lc_, ↓we_iA, ↓we_yes, ↓we_par2, ↓we_par3, wo_some, wo_map, iaK_list, iaK_tuple, iaK_str, parK2_e, parK3_e, rd2, rd1, rd2B, rdN, rdAll, rd, hold, boolO, truO, intO, strO, frzO, retO, isIo_zero, isIo_succ, ioB_no, ioB_frz, ioB_own, ioB_io, le_line, lt_line, contAt, ML.putAt, Sl.cont, Sl.put, outsV, tupO, lstO, bo, noB, rtK_rt, rtK_nx, rtK1_rt, rtK1_nx, List.getElem?_cons_zero, List.getElem?_cons_succ, List.set_cons_zero, List.set_cons_succ, Option.map_some, Option.isSome_some, reduceIte, Bool.false_eq_true, Bool.true_eq_false, if_true, if_false, wipeR, ixN_lit, atI_lit, Option.bind_some, Nat.reduceLT, Nat.reduceLeDiff, ML.pos1, List.length_map, isT, List.map_cons, List.map_nil, List.length_cons, List.length_nil, List.cons_append, List.nil_append, List.append_nil, List.replicate, true_and, and_true, Nat.reduceSub, Nat.reduceAdd, Bool.not_true, Bool.not_false, decide_eq_true_eq, Bool.not_eq_true', decide_eq_false_iff_not, Int.reduceToNat, Int.reduceLT, Int.reduceLE, Int.reducePow, Int.reduceNeg, Bool.or_true, Bool.true_or, small_emod, small_lit, pow_10_18, and_self, addD, subD, mulD, modD, fdivD, negD, inD_ints, eqB_int, neB_int, ltB, leB, gtB, geB, isNB_none, notNB, isCB, ixD, lenD, absD, ML.intD, listD, tupD, slD, sl3, appD, metO, truD])
    refine we_call (same_ok 8 (.list [.bool (isWay v row), .bool (isMap v row)]) ⟨by show (2 : Nat) < 16777216; omega, all_cons trivial (all_cons trivial all_nil)⟩) rfl ?_
    rintro r - rfl
    (try simp only [↓we_seq, ↓we_asg, ↓we_ret, ↓we_retN, ↓we_sIf, ↓we_drop, ↓we_nx, ↓we_brk, ↓we_cnt, ↓we_var, ↓we_C, ↓we_frz, ↓we_hold, ↓we_bin, ↓we_cmp, ↓we_un, ↓we_isi, ↓we_aNil, ↓we_aCons, ↓we_cb, ↓we_tup, ↓we_lst, ↓we_b, ↓we_tru, ↓we_and, ↓we_or, ↓we_not, ↓we_andV, ↓we_orV, ↓we_notV, ↓we_mIf, ↓we_chain, ↓we_set, ↓we_mgSub, ↓we_mgTup, ↓we_mgNil, ↓we_mgCons, ↓we_iR1, ↓we_iR2, ↓we_for, ↓we_mNo, ↓we_part, ↓we_sl, ↓we_ms, ↓we_met, ↓we_call_, ↓we_callIo_, ↓we_lc_, ↓we_iA, ↓we_yes, ↓we_par2, ↓we_par3, wo_some, wo_map, iaK_list, iaK_tuple, iaK_str, parK2_e, parK3_e, rd2, rd1, rd2B, rdN, rdAll, rd, hold, boolO, truO, intO, strO, frzO, retO, isIo_zero, isIo_succ, ioB_no, ioB_frz, ioB_own, ioB_io, le_line, lt_line, contAt, ML.putAt, Sl.cont, Sl.put, outsV, tupO, lstO, bo, noB, rtK_rt, rtK_nx, rtK1_rt, rtK1_nx, List.getElem?_cons_zero, List.getElem?_cons_succ, List.set_cons_zero, List.set_cons_succ, Option.map_some, Option.isSome_some, reduceIte, Bool.false_eq_true, Bool.true_eq_false, if_true, if_false, wipeR, ixN_lit, atI_lit, Option.bind_some, Nat.reduceLT, Nat.reduceLeDiff, ML.pos1, List.length_map, isT, List.map_cons, List.map_nil, List.length_cons, List.length_nil, List.cons_append, List.nil_append, List.append_nil, List.replicate, true_and, and_true, Nat.reduceSub, Nat.reduceAdd, Bool.not_true, Bool.not_false, decide_eq_true_eq, Bool.not_eq_true', decide_eq_false_iff_not, Int.reduceToNat, Int.reduceLT, Int.reduceLE, Int.reducePow, Int.reduceNeg, Bool.or_true, Bool.true_or, small_emod, small_lit, pow_10_18, and_self, addD, subD, mulD, modD, fdivD, negD, inD_ints, eqB_int, neB_int, ltB, leB, gtB, geB, isNB_none, notNB, isCB, ixD, lenD, absD, ML.intD, listD, tupD, slD, sl3, appD, metO, truD])
    (first | rw [then_nx] | rw [then_rt] | rw [then_bk] | rw [then_ct])
    (try simp only [↓we_seq, ↓we_asg, ↓we_ret, ↓we_retN, ↓we_sIf, ↓we_drop, ↓we_nx, ↓we_brk, ↓we_cnt, ↓we_var, ↓we_C, ↓we_frz, ↓we_hold, ↓we_bin, ↓we_cmp, ↓we_un, ↓we_isi, ↓we_aNil, ↓we_aCons, ↓we_cb, ↓we_tup, ↓we_lst, ↓we_b, ↓we_tru, ↓we_and, ↓we_or, ↓we_not, ↓we_andV, ↓we_orV, ↓we_notV, ↓we_mIf, ↓we_chain, ↓we_set, ↓we_mgSub, ↓we_mgTup, ↓we_mgNil, ↓we_mgCons, ↓we_iR1, ↓we_iR2, ↓we_for, ↓we_mNo, ↓we_part, ↓we_sl, ↓we_ms, ↓we_met, ↓we_call_, ↓we_callIo_, ↓we_lc_, ↓we_iA, ↓we_yes, ↓we_par2, ↓we_par3, wo_some, wo_map, iaK_list, iaK_tuple, iaK_str, parK2_e, parK3_e, rd2, rd1, rd2B, rdN, rdAll, rd, hold, boolO, truO, intO, strO, frzO, retO, isIo_zero, isIo_succ, ioB_no, ioB_frz, ioB_own, ioB_io, le_line, lt_line, contAt, ML.putAt, Sl.cont, Sl.put, outsV, tupO, lstO, bo, noB, rtK_rt, rtK_nx, rtK1_rt, rtK1_nx, List.getElem?_cons_zero, List.getElem?_cons_succ, List.set_cons_zero, List.set_cons_succ, Option.map_some, Option.isSome_some, reduceIte, Bool.false_eq_true, Bool.true_eq_false, if_true, if_false, wipeR, ixN_lit, atI_lit, Option.bind_some, Nat.reduceLT, Nat.reduceLeDiff, ML.pos1, List.length_map, isT, List.map_cons, List.map_nil, List.length_cons, List.length_nil, List.cons_append, List.nil_append, List.append_nil, List.replicate, true_and, and_true, Nat.reduceSub, Nat.reduceAdd, Bool.not_true, Bool.not_false, decide_eq_true_eq, Bool.not_eq_true', decide_eq_false_iff_not, Int.reduceToNat, Int.reduceLT, Int.reduceLE, Int.reducePow, Int.reduceNeg, Bool.or_true, Bool.true_or, small_emod, small_lit, pow_10_18, and_self, addD, subD, mulD, modD, fdivD, negD, inD_ints, eqB_int, neB_int, ltB, leB, gtB, geB, isNB_none, notNB, isCB, ixD, lenD, absD, ML.intD, listD, tupD, slD, sl3, appD, metO, truD])
    refine we_call (table_ok rows v v0 (by omega)) rfl ?_
    rintro r - rfl
    (try simp only [↓we_seq, ↓we_asg, ↓we_ret, ↓we_retN, ↓we_sIf, ↓we_drop, ↓we_nx, ↓we_brk, ↓we_cnt, ↓we_var, ↓we_C, ↓we_frz, ↓we_hold, ↓we_bin, ↓we_cmp, ↓we_un, ↓we_isi, ↓we_aNil, ↓we_aCons, ↓we_cb, ↓we_tup, ↓we_lst, ↓we_b, ↓we_tru, ↓we_and, ↓we_or, ↓we_not, ↓we_andV, ↓we_orV, ↓we_notV, ↓we_mIf, ↓we_chain, ↓we_set, ↓we_mgSub, ↓we_mgTup, ↓we_mgNil, ↓we_mgCons, ↓we_iR1, ↓we_iR2, ↓we_for, ↓we_mNo, ↓we_part, ↓we_sl, ↓we_ms, ↓we_met, ↓we_call_, ↓we_callIo_, ↓we_lc_, ↓we_iA, ↓we_yes, ↓we_par2, ↓we_par3, wo_some, wo_map, iaK_list, iaK_tuple, iaK_str, parK2_e, parK3_e, rd2, rd1, rd2B, rdN, rdAll, rd, hold, boolO, truO, intO, strO, frzO, retO, isIo_zero, isIo_succ, ioB_no, ioB_frz, ioB_own, ioB_io, le_line, lt_line, contAt, ML.putAt, Sl.cont, Sl.put, outsV, tupO, lstO, bo, noB, rtK_rt, rtK_nx, rtK1_rt, rtK1_nx, List.getElem?_cons_zero, List.getElem?_cons_succ, List.set_cons_zero, List.set_cons_succ, Option.map_some, Option.isSome_some, reduceIte, Bool.false_eq_true, Bool.true_eq_false, if_true, if_false, wipeR, ixN_lit, atI_lit, Option.bind_some, Nat.reduceLT, Nat.reduceLeDiff, ML.pos1, List.length_map, isT, List.map_cons, List.map_nil, List.length_cons, List.length_nil, List.cons_append, List.nil_append, List.append_nil, List.replicate, true_and, and_true, Nat.reduceSub, Nat.reduceAdd, Bool.not_true, Bool.not_false, decide_eq_true_eq, Bool.not_eq_true', decide_eq_false_iff_not, Int.reduceToNat, Int.reduceLT, Int.reduceLE, Int.reducePow, Int.reduceNeg, Bool.or_true, Bool.true_or, small_emod, small_lit, pow_10_18, and_self, addD, subD, mulD, modD, fdivD, negD, inD_ints, eqB_int, neB_int, ltB, leB, gtB, geB, isNB_none, notNB, isCB, ixD, lenD, absD, ML.intD, listD, tupD, slD, sl3, appD, metO, truD])
    refine we_call (ltable_ok rows v v0 (by omega)) rfl ?_
    rintro r - rfl
    (try simp only [↓we_seq, ↓we_asg, ↓we_ret, ↓we_retN, ↓we_sIf, ↓we_drop, ↓we_nx, ↓we_brk, ↓we_cnt, ↓we_var, ↓we_C, ↓we_frz, ↓we_hold, ↓we_bin, ↓we_cmp, ↓we_un, ↓we_isi, ↓we_aNil, ↓we_aCons, ↓we_cb, ↓we_tup, ↓we_lst, ↓we_b, ↓we_tru, ↓we_and, ↓we_or, ↓we_not, ↓we_andV, ↓we_orV, ↓we_notV, ↓we_mIf, ↓we_chain, ↓we_set, ↓we_mgSub, ↓we_mgTup, ↓we_mgNil, ↓we_mgCons, ↓we_iR1, ↓we_iR2, ↓we_for, ↓we_mNo, ↓we_part, ↓we_sl, ↓we_ms, ↓we_met, ↓we_call_, ↓we_callIo_, ↓we_lc_, ↓we_iA, ↓we_yes, ↓we_par2, ↓we_par3, wo_some, wo_map, iaK_list, iaK_tuple, iaK_str, parK2_e, parK3_e, rd2, rd1, rd2B, rdN, rdAll, rd, hold, boolO, truO, intO, strO, frzO, retO, isIo_zero, isIo_succ, ioB_no, ioB_frz, ioB_own, ioB_io, le_line, lt_line, contAt, ML.putAt, Sl.cont, Sl.put, outsV, tupO, lstO, bo, noB, rtK_rt, rtK_nx, rtK1_rt, rtK1_nx, List.getElem?_cons_zero, List.getElem?_cons_succ, List.set_cons_zero, List.set_cons_succ, Option.map_some, Option.isSome_some, reduceIte, Bool.false_eq_true, Bool.true_eq_false, if_true, if_false, wipeR, ixN_lit, atI_lit, Option.bind_some, Nat.reduceLT, Nat.reduceLeDiff, ML.pos1, List.length_map, isT, List.map_cons, List.map_nil, List.length_cons, List.length_nil, List.cons_append, List.nil_append, List.append_nil, List.replicate, true_and, and_true, Nat.reduceSub, Nat.reduceAdd, Bool.not_true, Bool.not_false, decide_eq_true_eq, Bool.not_eq_true', decide_eq_false_iff_not, Int.reduceToNat, Int.reduceLT, Int.reduceLE, Int.reducePow, Int.reduceNeg, Bool.or_true, Bool.true_or, small_emod, small_lit, pow_10_18, and_self, addD, subD, mulD, modD, fdivD, negD, inD_ints, eqB_int, neB_int, ltB, leB, gtB, geB, isNB_none, notNB, isCB, ixD, lenD, absD, ML.intD, listD, tupD, slD, sl3, appD, metO, truD])
    refine we_call (same_ok 8 (.bool (isTab v rows)) trivial) rfl ?_
    rintro r - rfl
    (try simp only [↓we_seq, ↓we_asg, ↓we_ret, ↓we_retN, ↓we_sIf, ↓we_drop, ↓we_nx, ↓we_brk, ↓we_cnt, ↓we_var, ↓we_C, ↓we_frz, ↓we_hold, ↓we_bin, ↓we_cmp, ↓we_un, ↓we_isi, ↓we_aNil, ↓we_aCons, ↓we_cb, ↓we_tup, ↓we_lst, ↓we_b, ↓we_tru, ↓we_and, ↓we_or, ↓we_not, ↓we_andV, ↓we_orV, ↓we_notV, ↓we_mIf, ↓we_chain, ↓we_set, ↓we_mgSub, ↓we_mgTup, ↓we_mgNil, ↓we_mgCons, ↓we_iR1, ↓we_iR2, ↓we_for, ↓we_mNo, ↓we_part, ↓we_sl, ↓we_ms, ↓we_met, ↓we_call_, ↓we_callIo_, ↓we_lc_, ↓we_iA, ↓we_yes, ↓we_par2, ↓we_par3, wo_some, wo_map, iaK_list, iaK_tuple, iaK_str, parK2_e, parK3_e, rd2, rd1, rd2B, rdN, rdAll, rd, hold, boolO, truO, intO, strO, frzO, retO, isIo_zero, isIo_succ, ioB_no, ioB_frz, ioB_own, ioB_io, le_line, lt_line, contAt, ML.putAt, Sl.cont, Sl.put, outsV, tupO, lstO, bo, noB, rtK_rt, rtK_nx, rtK1_rt, rtK1_nx, List.getElem?_cons_zero, List.getElem?_cons_succ, List.set_cons_zero, List.set_cons_succ, Option.map_some, Option.isSome_some, reduceIte, Bool.false_eq_true, Bool.true_eq_false, if_true, if_false, wipeR, ixN_lit, atI_lit, Option.bind_some, Nat.reduceLT, Nat.reduceLeDiff, ML.pos1, List.length_map, isT, List.map_cons, List.map_nil, List.length_cons, List.length_nil, List.cons_append, List.nil_append, List.append_nil, List.replicate, true_and, and_true, Nat.reduceSub, Nat.reduceAdd, Bool.not_true, Bool.not_false, decide_eq_true_eq, Bool.not_eq_true', decide_eq_false_iff_not, Int.reduceToNat, Int.reduceLT, Int.reduceLE, Int.reducePow, Int.reduceNeg, Bool.or_true, Bool.true_or, small_emod, small_lit, pow_10_18, and_self, addD, subD, mulD, modD, fdivD, negD, inD_ints, eqB_int, neB_int, ltB, leB, gtB, geB, isNB_none, notNB, isCB, ixD, lenD, absD, ML.intD, listD, tupD, slD, sl3, appD, metO, truD])
    (first | rw [then_nx] | rw [then_rt] | rw [then_bk] | rw [then_ct])
    (try simp only [↓we_seq, ↓we_asg, ↓we_ret, ↓we_retN, ↓we_sIf, ↓we_drop, ↓we_nx, ↓we_brk, ↓we_cnt, ↓we_var, ↓we_C, ↓we_frz, ↓we_hold, ↓we_bin, ↓we_cmp, ↓we_un, ↓we_isi, ↓we_aNil, ↓we_aCons, ↓we_cb, ↓we_tup, ↓we_lst, ↓we_b, ↓we_tru, ↓we_and, ↓we_or, ↓we_not, ↓we_andV, ↓we_orV, ↓we_notV, ↓we_mIf, ↓we_chain, ↓we_set, ↓we_mgSub, ↓we_mgTup, ↓we_mgNil, ↓we_mgCons, ↓we_iR1, ↓we_iR2, ↓we_for, ↓we_mNo, ↓we_part, ↓we_sl, ↓we_ms, ↓we_met, ↓we_call_, ↓we_callIo_, ↓we_lc_, ↓we_iA, ↓we_yes, ↓we_par2, ↓we_par3, wo_some, wo_map, iaK_list, iaK_tuple, iaK_str, parK2_e, parK3_e, rd2, rd1, rd2B, rdN, rdAll, rd, hold, boolO, truO, intO, strO, frzO, retO, isIo_zero, isIo_succ, ioB_no, ioB_frz, ioB_own, ioB_io, le_line, lt_line, contAt, ML.putAt, Sl.cont, Sl.put, outsV, tupO, lstO, bo, noB, rtK_rt, rtK_nx, rtK1_rt, rtK1_nx, List.getElem?_cons_zero, List.getElem?_cons_succ, List.set_cons_zero, List.set_cons_succ, Option.map_some, Option.isSome_some, reduceIte, Bool.false_eq_true, Bool.true_eq_false, if_true, if_false, wipeR, ixN_lit, atI_lit, Option.bind_some, Nat.reduceLT, Nat.reduceLeDiff, ML.pos1, List.length_map, isT, List.map_cons, List.map_nil, List.length_cons, List.length_nil, List.cons_append, List.nil_append, List.append_nil, List.replicate, true_and, and_true, Nat.reduceSub, Nat.reduceAdd, Bool.not_true, Bool.not_false, decide_eq_true_eq, Bool.not_eq_true', decide_eq_false_iff_not, Int.reduceToNat, Int.reduceLT, Int.reduceLE, Int.reducePow, Int.reduceNeg, Bool.or_true, Bool.true_or, small_emod, small_lit, pow_10_18, and_self, addD, subD, mulD, modD, fdivD, negD, inD_ints, eqB_int, neB_int, ltB, leB, gtB, geB, isNB_none, notNB, isCB, ixD, lenD, absD, ML.intD, listD, tupD, slD, sl3, appD, metO, truD])
    refine we_call (map_ok rows v v0 (by omega)) rfl ?_
    rintro r - rfl
    (try simp only [↓we_seq, ↓we_asg, ↓we_ret, ↓we_retN, ↓we_sIf, ↓we_drop, ↓we_nx, ↓we_brk, ↓we_cnt, ↓we_var, ↓we_C, ↓we_frz, ↓we_hold, ↓we_bin, ↓we_cmp, ↓we_un, ↓we_isi, ↓we_aNil, ↓we_aCons, ↓we_cb, ↓we_tup, ↓we_lst, ↓we_b, ↓we_tru, ↓we_and, ↓we_or, ↓we_not, ↓we_andV, ↓we_orV, ↓we_notV, ↓we_mIf, ↓we_chain, ↓we_set, ↓we_mgSub, ↓we_mgTup, ↓we_mgNil, ↓we_mgCons, ↓we_iR1, ↓we_iR2, ↓we_for, ↓we_mNo, ↓we_part, ↓we_sl, ↓we_ms, ↓we_met, ↓we_call_, ↓we_callIo_, ↓we_lc_, ↓we_iA, ↓we_yes, ↓we_par2, ↓we_par3, wo_some, wo_map, iaK_list, iaK_tuple, iaK_str, parK2_e, parK3_e, rd2, rd1, rd2B, rdN, rdAll, rd, hold, boolO, truO, intO, strO, frzO, retO, isIo_zero, isIo_succ, ioB_no, ioB_frz, ioB_own, ioB_io, le_line, lt_line, contAt, ML.putAt, Sl.cont, Sl.put, outsV, tupO, lstO, bo, noB, rtK_rt, rtK_nx, rtK1_rt, rtK1_nx, List.getElem?_cons_zero, List.getElem?_cons_succ, List.set_cons_zero, List.set_cons_succ, Option.map_some, Option.isSome_some, reduceIte, Bool.false_eq_true, Bool.true_eq_false, if_true, if_false, wipeR, ixN_lit, atI_lit, Option.bind_some, Nat.reduceLT, Nat.reduceLeDiff, ML.pos1, List.length_map, isT, List.map_cons, List.map_nil, List.length_cons, List.length_nil, List.cons_append, List.nil_append, List.append_nil, List.replicate, true_and, and_true, Nat.reduceSub, Nat.reduceAdd, Bool.not_true, Bool.not_false, decide_eq_true_eq, Bool.not_eq_true', decide_eq_false_iff_not, Int.reduceToNat, Int.reduceLT, Int.reduceLE, Int.reducePow, Int.reduceNeg, Bool.or_true, Bool.true_or, small_emod, small_lit, pow_10_18, and_self, addD, subD, mulD, modD, fdivD, negD, inD_ints, eqB_int, neB_int, ltB, leB, gtB, geB, isNB_none, notNB, isCB, ixD, lenD, absD, ML.intD, listD, tupD, slD, sl3, appD, metO, truD])
    refine we_call (way_ok word v (by omega)) rfl ?_
    rintro r - rfl
    (try simp only [↓we_seq, ↓we_asg, ↓we_ret, ↓we_retN, ↓we_sIf, ↓we_drop, ↓we_nx, ↓we_brk, ↓we_cnt, ↓we_var, ↓we_C, ↓we_frz, ↓we_hold, ↓we_bin, ↓we_cmp, ↓we_un, ↓we_isi, ↓we_aNil, ↓we_aCons, ↓we_cb, ↓we_tup, ↓we_lst, ↓we_b, ↓we_tru, ↓we_and, ↓we_or, ↓we_not, ↓we_andV, ↓we_orV, ↓we_notV, ↓we_mIf, ↓we_chain, ↓we_set, ↓we_mgSub, ↓we_mgTup, ↓we_mgNil, ↓we_mgCons, ↓we_iR1, ↓we_iR2, ↓we_for, ↓we_mNo, ↓we_part, ↓we_sl, ↓we_ms, ↓we_met, ↓we_call_, ↓we_callIo_, ↓we_lc_, ↓we_iA, ↓we_yes, ↓we_par2, ↓we_par3, wo_some, wo_map, iaK_list, iaK_tuple, iaK_str, parK2_e, parK3_e, rd2, rd1, rd2B, rdN, rdAll, rd, hold, boolO, truO, intO, strO, frzO, retO, isIo_zero, isIo_succ, ioB_no, ioB_frz, ioB_own, ioB_io, le_line, lt_line, contAt, ML.putAt, Sl.cont, Sl.put, outsV, tupO, lstO, bo, noB, rtK_rt, rtK_nx, rtK1_rt, rtK1_nx, List.getElem?_cons_zero, List.getElem?_cons_succ, List.set_cons_zero, List.set_cons_succ, Option.map_some, Option.isSome_some, reduceIte, Bool.false_eq_true, Bool.true_eq_false, if_true, if_false, wipeR, ixN_lit, atI_lit, Option.bind_some, Nat.reduceLT, Nat.reduceLeDiff, ML.pos1, List.length_map, isT, List.map_cons, List.map_nil, List.length_cons, List.length_nil, List.cons_append, List.nil_append, List.append_nil, List.replicate, true_and, and_true, Nat.reduceSub, Nat.reduceAdd, Bool.not_true, Bool.not_false, decide_eq_true_eq, Bool.not_eq_true', decide_eq_false_iff_not, Int.reduceToNat, Int.reduceLT, Int.reduceLE, Int.reducePow, Int.reduceNeg, Bool.or_true, Bool.true_or, small_emod, small_lit, pow_10_18, and_self, addD, subD, mulD, modD, fdivD, negD, inD_ints, eqB_int, neB_int, ltB, leB, gtB, geB, isNB_none, notNB, isCB, ixD, lenD, absD, ML.intD, listD, tupD, slD, sl3, appD, metO, truD])
    refine we_call (table_ok row v v0 (by omega)) rfl ?_
    rintro r - rfl
    (try simp only [↓we_seq, ↓we_asg, ↓we_ret, ↓we_retN, ↓we_sIf, ↓we_drop, ↓we_nx, ↓we_brk, ↓we_cnt, ↓we_var, ↓we_C, ↓we_frz, ↓we_hold, ↓we_bin, ↓we_cmp, ↓we_un, ↓we_isi, ↓we_aNil, ↓we_aCons, ↓we_cb, ↓we_tup, ↓we_lst, ↓we_b, ↓we_tru, ↓we_and, ↓we_or, ↓we_not, ↓we_andV, ↓we_orV, ↓we_notV, ↓we_mIf, ↓we_chain, ↓we_set, ↓we_mgSub, ↓we_mgTup, ↓we_mgNil, ↓we_mgCons, ↓we_iR1, ↓we_iR2, ↓we_for, ↓we_mNo, ↓we_part, ↓we_sl, ↓we_ms, ↓we_met, ↓we_call_, ↓we_callIo_, ↓we_lc_, ↓we_iA, ↓we_yes, ↓we_par2, ↓we_par3, wo_some, wo_map, iaK_list, iaK_tuple, iaK_str, parK2_e, parK3_e, rd2, rd1, rd2B, rdN, rdAll, rd, hold, boolO, truO, intO, strO, frzO, retO, isIo_zero, isIo_succ, ioB_no, ioB_frz, ioB_own, ioB_io, le_line, lt_line, contAt, ML.putAt, Sl.cont, Sl.put, outsV, tupO, lstO, bo, noB, rtK_rt, rtK_nx, rtK1_rt, rtK1_nx, List.getElem?_cons_zero, List.getElem?_cons_succ, List.set_cons_zero, List.set_cons_succ, Option.map_some, Option.isSome_some, reduceIte, Bool.false_eq_true, Bool.true_eq_false, if_true, if_false, wipeR, ixN_lit, atI_lit, Option.bind_some, Nat.reduceLT, Nat.reduceLeDiff, ML.pos1, List.length_map, isT, List.map_cons, List.map_nil, List.length_cons, List.length_nil, List.cons_append, List.nil_append, List.append_nil, List.replicate, true_and, and_true, Nat.reduceSub, Nat.reduceAdd, Bool.not_true, Bool.not_false, decide_eq_true_eq, Bool.not_eq_true', decide_eq_false_iff_not, Int.reduceToNat, Int.reduceLT, Int.reduceLE, Int.reducePow, Int.reduceNeg, Bool.or_true, Bool.true_or, small_emod, small_lit, pow_10_18, and_self, addD, subD, mulD, modD, fdivD, negD, inD_ints, eqB_int, neB_int, ltB, leB, gtB, geB, isNB_none, notNB, isCB, ixD, lenD, absD, ML.intD, listD, tupD, slD, sl3, appD, metO, truD])
    refine we_call (lmap_ok rows v v0 (by omega)) rfl ?_
    rintro r - rfl
    (try simp only [↓we_seq, ↓we_asg, ↓we_ret, ↓we_retN, ↓we_sIf, ↓we_drop, ↓we_nx, ↓we_brk, ↓we_cnt, ↓we_var, ↓we_C, ↓we_frz, ↓we_hold, ↓we_bin, ↓we_cmp, ↓we_un, ↓we_isi, ↓we_aNil, ↓we_aCons, ↓we_cb, ↓we_tup, ↓we_lst, ↓we_b, ↓we_tru, ↓we_and, ↓we_or, ↓we_not, ↓we_andV, ↓we_orV, ↓we_notV, ↓we_mIf, ↓we_chain, ↓we_set, ↓we_mgSub, ↓we_mgTup, ↓we_mgNil, ↓we_mgCons, ↓we_iR1, ↓we_iR2, ↓we_for, ↓we_mNo, ↓we_part, ↓we_sl, ↓we_ms, ↓we_met, ↓we_call_, ↓we_callIo_, ↓we_lc_, ↓we_iA, ↓we_yes, ↓we_par2, ↓we_par3, wo_some, wo_map, iaK_list, iaK_tuple, iaK_str, parK2_e, parK3_e, rd2, rd1, rd2B, rdN, rdAll, rd, hold, boolO, truO, intO, strO, frzO, retO, isIo_zero, isIo_succ, ioB_no, ioB_frz, ioB_own, ioB_io, le_line, lt_line, contAt, ML.putAt, Sl.cont, Sl.put, outsV, tupO, lstO, bo, noB, rtK_rt, rtK_nx, rtK1_rt, rtK1_nx, List.getElem?_cons_zero, List.getElem?_cons_succ, List.set_cons_zero, List.set_cons_succ, Option.map_some, Option.isSome_some, reduceIte, Bool.false_eq_true, Bool.true_eq_false, if_true, if_false, wipeR, ixN_lit, atI_lit, Option.bind_some, Nat.reduceLT, Nat.reduceLeDiff, ML.pos1, List.length_map, isT, List.map_cons, List.map_nil, List.length_cons, List.length_nil, List.cons_append, List.nil_append, List.append_nil, List.replicate, true_and, and_true, Nat.reduceSub, Nat.reduceAdd, Bool.not_true, Bool.not_false, decide_eq_true_eq, Bool.not_eq_true', decide_eq_false_iff_not, Int.reduceToNat, Int.reduceLT, Int.reduceLE, Int.reducePow, Int.reduceNeg, Bool.or_true, Bool.true_or, small_emod, small_lit, pow_10_18, and_self, addD, subD, mulD, modD, fdivD, negD, inD_ints, eqB_int, neB_int, ltB, leB, gtB, geB, isNB_none, notNB, isCB, ixD, lenD, absD, ML.intD, listD, tupD, slD, sl3, appD, metO, truD])
    refine we_call (ltable_ok row v v0 (by omega)) rfl ?_
    rintro r - rfl
    (try simp only [↓we_seq, ↓we_asg, ↓we_ret, ↓we_retN, ↓we_sIf, ↓we_drop, ↓we_nx, ↓we_brk, ↓we_cnt, ↓we_var, ↓we_C, ↓we_frz, ↓we_hold, ↓we_bin, ↓we_cmp, ↓we_un, ↓we_isi, ↓we_aNil, ↓we_aCons, ↓we_cb, ↓we_tup, ↓we_lst, ↓we_b, ↓we_tru, ↓we_and, ↓we_or, ↓we_not, ↓we_andV, ↓we_orV, ↓we_notV, ↓we_mIf, ↓we_chain, ↓we_set, ↓we_mgSub, ↓we_mgTup, ↓we_mgNil, ↓we_mgCons, ↓we_iR1, ↓we_iR2, ↓we_for, ↓we_mNo, ↓we_part, ↓we_sl, ↓we_ms, ↓we_met, ↓we_call_, ↓we_callIo_, ↓we_lc_, ↓we_iA, ↓we_yes, ↓we_par2, ↓we_par3, wo_some, wo_map, iaK_list, iaK_tuple, iaK_str, parK2_e, parK3_e, rd2, rd1, rd2B, rdN, rdAll, rd, hold, boolO, truO, intO, strO, frzO, retO, isIo_zero, isIo_succ, ioB_no, ioB_frz, ioB_own, ioB_io, le_line, lt_line, contAt, ML.putAt, Sl.cont, Sl.put, outsV, tupO, lstO, bo, noB, rtK_rt, rtK_nx, rtK1_rt, rtK1_nx, List.getElem?_cons_zero, List.getElem?_cons_succ, List.set_cons_zero, List.set_cons_succ, Option.map_some, Option.isSome_some, reduceIte, Bool.false_eq_true, Bool.true_eq_false, if_true, if_false, wipeR, ixN_lit, atI_lit, Option.bind_some, Nat.reduceLT, Nat.reduceLeDiff, ML.pos1, List.length_map, isT, List.map_cons, List.map_nil, List.length_cons, List.length_nil, List.cons_append, List.nil_append, List.append_nil, List.replicate, true_and, and_true, Nat.reduceSub, Nat.reduceAdd, Bool.not_true, Bool.not_false, decide_eq_true_eq, Bool.not_eq_true', decide_eq_false_iff_not, Int.reduceToNat, Int.reduceLT, Int.reduceLE, Int.reducePow, Int.reduceNeg, Bool.or_true, Bool.true_or, small_emod, small_lit, pow_10_18, and_self, addD, subD, mulD, modD, fdivD, negD, inD_ints, eqB_int, neB_int, ltB, leB, gtB, geB, isNB_none, notNB, isCB, ixD, lenD, absD, ML.intD, listD, tupD, slD, sl3, appD, metO, truD])
    rw [okN_way okn]
    refine we_call (same_ok 8 (.list [.bool (isMap v rows), .bool false, .bool (isTab v row)]) ⟨by show (3 : Nat) < 16777216; omega, all_cons trivial (all_cons trivial (all_cons trivial all_nil))⟩) rfl ?_
    rintro r - rfl
    (try simp only [↓we_seq, ↓we_asg, ↓we_ret, ↓we_retN, ↓we_sIf, ↓we_drop, ↓we_nx, ↓we_brk, ↓we_cnt, ↓we_var, ↓we_C, ↓we_frz, ↓we_hold, ↓we_bin, ↓we_cmp, ↓we_un, ↓we_isi, ↓we_aNil, ↓we_aCons, ↓we_cb, ↓we_tup, ↓we_lst, ↓we_b, ↓we_tru, ↓we_and, ↓we_or, ↓we_not, ↓we_andV, ↓we_orV, ↓we_notV, ↓we_mIf, ↓we_chain, ↓we_set, ↓we_mgSub, ↓we_mgTup, ↓we_mgNil, ↓we_mgCons, ↓we_iR1, ↓we_iR2, ↓we_for, ↓we_mNo, ↓we_part, ↓we_sl, ↓we_ms, ↓we_met, ↓we_call_, ↓we_callIo_, ↓we_lc_, ↓we_iA, ↓we_yes, ↓we_par2, ↓we_par3, wo_some, wo_map, iaK_list, iaK_tuple, iaK_str, parK2_e, parK3_e, rd2, rd1, rd2B, rdN, rdAll, rd, hold, boolO, truO, intO, strO, frzO, retO, isIo_zero, isIo_succ, ioB_no, ioB_frz, ioB_own, ioB_io, le_line, lt_line, contAt, ML.putAt, Sl.cont, Sl.put, outsV, tupO, lstO, bo, noB, rtK_rt, rtK_nx, rtK1_rt, rtK1_nx, List.getElem?_cons_zero, List.getElem?_cons_succ, List.set_cons_zero, List.set_cons_succ, Option.map_some, Option.isSome_some, reduceIte, Bool.false_eq_true, Bool.true_eq_false, if_true, if_false, wipeR, ixN_lit, atI_lit, Option.bind_some, Nat.reduceLT, Nat.reduceLeDiff, ML.pos1, List.length_map, isT, List.map_cons, List.map_nil, List.length_cons, List.length_nil, List.cons_append, List.nil_append, List.append_nil, List.replicate, true_and, and_true, Nat.reduceSub, Nat.reduceAdd, Bool.not_true, Bool.not_false, decide_eq_true_eq, Bool.not_eq_true', decide_eq_false_iff_not, Int.reduceToNat, Int.reduceLT, Int.reduceLE, Int.reducePow, Int.reduceNeg, Bool.or_true, Bool.true_or, small_emod, small_lit, pow_10_18, and_self, addD, subD, mulD, modD, fdivD, negD, inD_ints, eqB_int, neB_int, ltB, leB, gtB, geB, isNB_none, notNB, isCB, ixD, lenD, absD, ML.intD, listD, tupD, slD, sl3, appD, metO, truD])
    (first | rw [then_nx] | rw [then_rt] | rw [then_bk] | rw [then_ct])
    (try simp only [↓we_seq, ↓we_asg, ↓we_ret, ↓we_retN, ↓we_sIf, ↓we_drop, ↓we_nx, ↓we_brk, ↓we_cnt, ↓we_var, ↓we_C, ↓we_frz, ↓we_hold, ↓we_bin, ↓we_cmp, ↓we_un, ↓we_isi, ↓we_aNil, ↓we_aCons, ↓we_cb, ↓we_tup, ↓we_lst, ↓we_b, ↓we_tru, ↓we_and, ↓we_or, ↓we_not, ↓we_andV, ↓we_orV, ↓we_notV, ↓we_mIf, ↓we_chain, ↓we_set, ↓we_mgSub, ↓we_mgTup, ↓we_mgNil, ↓we_mgCons, ↓we_iR1, ↓we_iR2, ↓we_for, ↓we_mNo, ↓we_part, ↓we_sl, ↓we_ms, ↓we_met, ↓we_call_, ↓we_callIo_, ↓we_lc_, ↓we_iA, ↓we_yes, ↓we_par2, ↓we_par3, wo_some, wo_map, iaK_list, iaK_tuple, iaK_str, parK2_e, parK3_e, rd2, rd1, rd2B, rdN, rdAll, rd, hold, boolO, truO, intO, strO, frzO, retO, isIo_zero, isIo_succ, ioB_no, ioB_frz, ioB_own, ioB_io, le_line, lt_line, contAt, ML.putAt, Sl.cont, Sl.put, outsV, tupO, lstO, bo, noB, rtK_rt, rtK_nx, rtK1_rt, rtK1_nx, List.getElem?_cons_zero, List.getElem?_cons_succ, List.set_cons_zero, List.set_cons_succ, Option.map_some, Option.isSome_some, reduceIte, Bool.false_eq_true, Bool.true_eq_false, if_true, if_false, wipeR, ixN_lit, atI_lit, Option.bind_some, Nat.reduceLT, Nat.reduceLeDiff, ML.pos1, List.length_map, isT, List.map_cons, List.map_nil, List.length_cons, List.length_nil, List.cons_append, List.nil_append, List.append_nil, List.replicate, true_and, and_true, Nat.reduceSub, Nat.reduceAdd, Bool.not_true, Bool.not_false, decide_eq_true_eq, Bool.not_eq_true', decide_eq_false_iff_not, Int.reduceToNat, Int.reduceLT, Int.reduceLE, Int.reducePow, Int.reduceNeg, Bool.or_true, Bool.true_or, small_emod, small_lit, pow_10_18, and_self, addD, subD, mulD, modD, fdivD, negD, inD_ints, eqB_int, neB_int, ltB, leB, gtB, geB, isNB_none, notNB, isCB, ixD, lenD, absD, ML.intD, listD, tupD, slD, sl3, appD, metO, truD])
    refine we_callIo (draw_ok hc (n := 3) (by decide) (by decide)) rfl rfl rfl ?_
    rintro r c - ⟨u, rfl, u0, u1, hc⟩
    (try simp only [↓we_seq, ↓we_asg, ↓we_ret, ↓we_retN, ↓we_sIf, ↓we_drop, ↓we_nx, ↓we_brk, ↓we_cnt, ↓we_var, ↓we_C, ↓we_frz, ↓we_hold, ↓we_bin, ↓we_cmp, ↓we_un, ↓we_isi, ↓we_aNil, ↓we_aCons, ↓we_cb, ↓we_tup, ↓we_lst, ↓we_b, ↓we_tru, ↓we_and, ↓we_or, ↓we_not, ↓we_andV, ↓we_orV, ↓we_notV, ↓we_mIf, ↓we_chain, ↓we_set, ↓we_mgSub, ↓we_mgTup, ↓we_mgNil, ↓we_mgCons, ↓we_iR1, ↓we_iR2, ↓we_for, ↓we_mNo, ↓we_part, ↓we_sl, ↓we_ms, ↓we_met, ↓we_call_, ↓we_callIo_, ↓we_lc_, ↓we_iA, ↓we_yes, ↓we_par2, ↓we_par3, wo_some, wo_map, iaK_list, iaK_tuple, iaK_str, parK2_e, parK3_e, rd2, rd1, rd2B, rdN, rdAll, rd, hold, boolO, truO, intO, strO, frzO, retO, isIo_zero, isIo_succ, ioB_no, ioB_frz, ioB_own, ioB_io, le_line, lt_line, contAt, ML.putAt, Sl.cont, Sl.put, outsV, tupO, lstO, bo, noB, rtK_rt, rtK_nx, rtK1_rt, rtK1_nx, List.getElem?_cons_zero, List.getElem?_cons_succ, List.set_cons_zero, List.set_cons_succ, Option.map_some, Option.isSome_some, reduceIte, Bool.false_eq_true, Bool.true_eq_false, if_true, if_false, wipeR, ixN_lit, atI_lit, Option.bind_some, Nat.reduceLT, Nat.reduceLeDiff, ML.pos1, List.length_map, isT, List.map_cons, List.map_nil, List.length_cons, List.length_nil, List.cons_append, List.nil_append, List.append_nil, List.replicate, true_and, and_true, Nat.reduceSub, Nat.reduceAdd, Bool.not_true, Bool.not_false, decide_eq_true_eq, Bool.not_eq_true', decide_eq_false_iff_not, Int.reduceToNat, Int.reduceLT, Int.reduceLE, Int.reducePow, Int.reduceNeg, Bool.or_true, Bool.true_or, small_emod, small_lit, pow_10_18, and_self, addD, subD, mulD, modD, fdivD, negD, inD_ints, eqB_int, neB_int, ltB, leB, gtB, geB, isNB_none, notNB, isCB, ixD, lenD, absD, ML.intD, listD, tupD, slD, sl3, appD, metO, truD, h4]);
    (first | rw [then_nx] | rw [then_rt] | rw [then_bk] | rw [then_ct])
    generalize ho : 1 + (v + u) % 4 = oth
    have o4 : oth ≤ 4 := by omega
    have o0 : 0 < oth := by omega
    (try simp only [↓we_seq, ↓we_asg, ↓we_ret, ↓we_retN, ↓we_sIf, ↓we_drop, ↓we_nx, ↓we_brk, ↓we_cnt, ↓we_var, ↓we_C, ↓we_frz, ↓we_hold, ↓we_bin, ↓we_cmp, ↓we_un, ↓we_isi, ↓we_aNil, ↓we_aCons, ↓we_cb, ↓we_tup, ↓we_lst, ↓we_b, ↓we_tru, ↓we_and, ↓we_or, ↓we_not, ↓we_andV, ↓we_orV, ↓we_notV, ↓we_mIf, ↓we_chain, ↓we_set, ↓we_mgSub, ↓we_mgTup, ↓we_mgNil, ↓we_mgCons, ↓we_iR1, ↓we_iR2, ↓we_for, ↓we_mNo, ↓we_part, ↓we_sl, ↓we_ms, ↓we_met, ↓we_call_, ↓we_callIo_, ↓we_lc_, ↓we_iA, ↓we_yes, ↓we_par2, ↓we_par3, wo_some, wo_map, iaK_list, iaK_tuple, iaK_str, parK2_e, parK3_e, rd2, rd1, rd2B, rdN, rdAll, rd, hold, boolO, truO, intO, strO, frzO, retO, isIo_zero, isIo_succ, ioB_no, ioB_frz, ioB_own, ioB_io, le_line, lt_line, contAt, ML.putAt, Sl.cont, Sl.put, outsV, tupO, lstO, bo, noB, rtK_rt, rtK_nx, rtK1_rt, rtK1_nx, List.getElem?_cons_zero, List.getElem?_cons_succ, List.set_cons_zero, List.set_cons_succ, Option.map_some, Option.isSome_some, reduceIte, Bool.false_eq_true, Bool.true_eq_false, if_true, if_false, wipeR, ixN_lit, atI_lit, Option.bind_some, Nat.reduceLT, Nat.reduceLeDiff, ML.pos1, List.length_map, isT, List.map_cons, List.map_nil, List.length_cons, List.length_nil, List.cons_append, List.nil_append, List.append_nil, List.replicate, true_and, and_true, Nat.reduceSub, Nat.reduceAdd, Bool.not_true, Bool.not_false, decide_eq_true_eq, Bool.not_eq_true', decide_eq_false_iff_not, Int.reduceToNat, Int.reduceLT, Int.reduceLE, Int.reducePow, Int.reduceNeg, Bool.or_true, Bool.true_or, small_emod, small_lit, pow_10_18, and_self, addD, subD, mulD, modD, fdivD, negD, inD_ints, eqB_int, neB_int, ltB, leB, gtB, geB, isNB_none, notNB, isCB, ixD, lenD, absD, ML.intD, listD, tupD, slD, sl3, appD, metO, truD])
    refine wo_rg1 (by omega) (by omega) ?_
    (try simp only [↓we_seq, ↓we_asg, ↓we_ret, ↓we_retN, ↓we_sIf, ↓we_drop, ↓we_nx, ↓we_brk, ↓we_cnt, ↓we_var, ↓we_C, ↓we_frz, ↓we_hold, ↓we_bin, ↓we_cmp, ↓we_un, ↓we_isi, ↓we_aNil, ↓we_aCons, ↓we_cb, ↓we_tup, ↓we_lst, ↓we_b, ↓we_tru, ↓we_and, ↓we_or, ↓we_not, ↓we_andV, ↓we_orV, ↓we_notV, ↓we_mIf, ↓we_chain, ↓we_set, ↓we_mgSub, ↓we_mgTup, ↓we_mgNil, ↓we_mgCons, ↓we_iR1, ↓we_iR2, ↓we_for, ↓we_mNo, ↓we_part, ↓we_sl, ↓we_ms, ↓we_met, ↓we_call_, ↓we_callIo_, ↓we_lc_, ↓we_iA, ↓we_yes, ↓we_par2, ↓we_par3, wo_some, wo_map, iaK_list, iaK_tuple, iaK_str, parK2_e, parK3_e, rd2, rd1, rd2B, rdN, rdAll, rd, hold, boolO, truO, intO, strO, frzO, retO, isIo_zero, isIo_succ, ioB_no, ioB_frz, ioB_own, ioB_io, le_line, lt_line, contAt, ML.putAt, Sl.cont, Sl.put, outsV, tupO, lstO, bo, noB, rtK_rt, rtK_nx, rtK1_rt, rtK1_nx, List.getElem?_cons_zero, List.getElem?_cons_succ, List.set_cons_zero, List.set_cons_succ, Option.map_some, Option.isSome_some, reduceIte, Bool.false_eq_true, Bool.true_eq_false, if_true, if_false, wipeR, ixN_lit, atI_lit, Option.bind_some, Nat.reduceLT, Nat.reduceLeDiff, ML.pos1, List.length_map, isT, List.map_cons, List.map_nil, List.length_cons, List.length_nil, List.cons_append, List.nil_append, List.append_nil, List.replicate, true_and, and_true, Nat.reduceSub, Nat.reduceAdd, Bool.not_true, Bool.not_false, decide_eq_true_eq, Bool.not_eq_true', decide_eq_false_iff_not, Int.reduceToNat, Int.reduceLT, Int.reduceLE, Int.reducePow, Int.reduceNeg, Bool.or_true, Bool.true_or, small_emod, small_lit, pow_10_18, and_self, addD, subD, mulD, modD, fdivD, negD, inD_ints, eqB_int, neB_int, ltB, leB, gtB, geB, isNB_none, notNB, isCB, ixD, lenD, absD, ML.intD, listD, tupD, slD, sl3, appD, metO, truD])
    refine we_lc (fun ρ => ∃ c, Dk c ∧ ρ = [.frz (.list (ns.map .int)), .own c, .frz d, .frz (.int v), .frz (.int oth), s5, .frz word, .frz row, .frz rows, .no]) (fun _ y => isCnt 0 (v - 1) y = true) ?_ ⟨c, hc, rfl⟩ (by rw [rgD_len, le_line]; omega) ?_
    · rintro e - ρ ⟨c, hc, rfl⟩
      (try simp only [↓we_seq, ↓we_asg, ↓we_ret, ↓we_retN, ↓we_sIf, ↓we_drop, ↓we_nx, ↓we_brk, ↓we_cnt, ↓we_var, ↓we_C, ↓we_frz, ↓we_hold, ↓we_bin, ↓we_cmp, ↓we_un, ↓we_isi, ↓we_aNil, ↓we_aCons, ↓we_cb, ↓we_tup, ↓we_lst, ↓we_b, ↓we_tru, ↓we_and, ↓we_or, ↓we_not, ↓we_andV, ↓we_orV, ↓we_notV, ↓we_mIf, ↓we_chain, ↓we_set, ↓we_mgSub, ↓we_mgTup, ↓we_mgNil, ↓we_mgCons, ↓we_iR1, ↓we_iR2, ↓we_for, ↓we_mNo, ↓we_part, ↓we_sl, ↓we_ms, ↓we_met, ↓we_call_, ↓we_callIo_, ↓we_lc_, ↓we_iA, ↓we_yes, ↓we_par2, ↓we_par3, wo_some, wo_map, iaK_list, iaK_tuple, iaK_str, parK2_e, parK3_e, rd2, rd1, rd2B, rdN, rdAll, rd, hold, boolO, truO, intO, strO, frzO, retO, isIo_zero, isIo_succ, ioB_no, ioB_frz, ioB_own, ioB_io, le_line, lt_line, contAt, ML.putAt, Sl.cont, Sl.put, outsV, tupO, lstO, bo, noB, rtK_rt, rtK_nx, rtK1_rt, rtK1_nx, List.getElem?_cons_zero, List.getElem?_cons_succ, List.set_cons_zero, List.set_cons_succ, Option.map_some, Option.isSome_some, reduceIte, Bool.false_eq_true, Bool.true_eq_false, if_true, if_false, wipeR, ixN_lit, atI_lit, Option.bind_some, Nat.reduceLT, Nat.reduceLeDiff, ML.pos1, List.length_map, isT, List.map_cons, List.map_nil, List.length_cons, List.length_nil, List.cons_append, List.nil_append, List.append_nil, List.replicate, true_and, and_true, Nat.reduceSub, Nat.reduceAdd, Bool.not_true, Bool.not_false, decide_eq_true_eq, Bool.not_eq_true', decide_eq_false_iff_not, Int.reduceToNat, Int.reduceLT, Int.reduceLE, Int.reducePow, Int.reduceNeg, Bool.or_true, Bool.true_or, small_emod, small_lit, pow_10_18, and_self, addD, subD, mulD, modD, fdivD, negD, inD_ints, eqB_int, neB_int, ltB, leB, gtB, geB, isNB_none, notNB, isCB, ixD, lenD, absD, ML.intD, listD, tupD, slD, sl3, appD, metO, truD, compK]);
      refine we_callIo (draw_ok hc (n := v) v0 (by omega)) rfl rfl rfl ?_
      rintro r c - ⟨j, rfl, j0, j1, hc⟩
      (try simp only [↓we_seq, ↓we_asg, ↓we_ret, ↓we_retN, ↓we_sIf, ↓we_drop, ↓we_nx, ↓we_brk, ↓we_cnt, ↓we_var, ↓we_C, ↓we_frz, ↓we_hold, ↓we_bin, ↓we_cmp, ↓we_un, ↓we_isi, ↓we_aNil, ↓we_aCons, ↓we_cb, ↓we_tup, ↓we_lst, ↓we_b, ↓we_tru, ↓we_and, ↓we_or, ↓we_not, ↓we_andV, ↓we_orV, ↓we_notV, ↓we_mIf, ↓we_chain, ↓we_set, ↓we_mgSub, ↓we_mgTup, ↓we_mgNil, ↓we_mgCons, ↓we_iR1, ↓we_iR2, ↓we_for, ↓we_mNo, ↓we_part, ↓we_sl, ↓we_ms, ↓we_met, ↓we_call_, ↓we_callIo_, ↓we_lc_, ↓we_iA, ↓we_yes, ↓we_par2, ↓we_par3, wo_some, wo_map, iaK_list, iaK_tuple, iaK_str, parK2_e, parK3_e, rd2, rd1, rd2B, rdN, rdAll, rd, hold, boolO, truO, intO, strO, frzO, retO, isIo_zero, isIo_succ, ioB_no, ioB_frz, ioB_own, ioB_io, le_line, lt_line, contAt, ML.putAt, Sl.cont, Sl.put, outsV, tupO, lstO, bo, noB, rtK_rt, rtK_nx, rtK1_rt, rtK1_nx, List.getElem?_cons_zero, List.getElem?_cons_succ, List.set_cons_zero, List.set_cons_succ, Option.map_some, Option.isSome_some, reduceIte, Bool.false_eq_true, Bool.true_eq_false, if_true, if_false, wipeR, ixN_lit, atI_lit, Option.bind_some, Nat.reduceLT, Nat.reduceLeDiff, ML.pos1, List.length_map, isT, List.map_cons, List.map_nil, List.length_cons, List.length_nil, List.cons_append, List.nil_append, List.append_nil, List.replicate, true_and, and_true, Nat.reduceSub, Nat.reduceAdd, Bool.not_true, Bool.not_false, decide_eq_true_eq, Bool.not_eq_true', decide_eq_false_iff_not, Int.reduceToNat, Int.reduceLT, Int.reduceLE, Int.reducePow, Int.reduceNeg, Bool.or_true, Bool.true_or, small_emod, small_lit, pow_10_18, and_self, addD, subD, mulD, modD, fdivD, negD, inD_ints, eqB_int, neB_int, ltB, leB, gtB, geB, isNB_none, notNB, isCB, ixD, lenD, absD, ML.intD, listD, tupD, slD, sl3, appD, metO, truD])
      refine ⟨?_, c, hc, rfl⟩
      simp only [isCnt, Bool.and_eq_true, decide_eq_true_eq]
      omega
    rintro ys ρ ⟨c, hc, rfl⟩ a
    have yl := a.len
    rw [rgD_len] at yl
    have yc : ∀ y ∈ ys, isCnt 0 (v - 1) y = true := fun y m => (a.mem y m).choose_spec.2
    (try simp only [↓we_seq, ↓we_asg, ↓we_ret, ↓we_retN, ↓we_sIf, ↓we_drop, ↓we_nx, ↓we_brk, ↓we_cnt, ↓we_var, ↓we_C, ↓we_frz, ↓we_hold, ↓we_bin, ↓we_cmp, ↓we_un, ↓we_isi, ↓we_aNil, ↓we_aCons, ↓we_cb, ↓we_tup, ↓we_lst, ↓we_b, ↓we_tru, ↓we_and, ↓we_or, ↓we_not, ↓we_andV, ↓we_orV, ↓we_notV, ↓we_mIf, ↓we_chain, ↓we_set, ↓we_mgSub, ↓we_mgTup, ↓we_mgNil, ↓we_mgCons, ↓we_iR1, ↓we_iR2, ↓we_for, ↓we_mNo, ↓we_part, ↓we_sl, ↓we_ms, ↓we_met, ↓we_call_, ↓we_callIo_, ↓we_lc_, ↓we_iA, ↓we_yes, ↓we_par2, ↓we_par3, wo_some, wo_map, iaK_list, iaK_tuple, iaK_str, parK2_e, parK3_e, rd2, rd1, rd2B, rdN, rdAll, rd, hold, boolO, truO, intO, strO, frzO, retO, isIo_zero, isIo_succ, ioB_no, ioB_frz, ioB_own, ioB_io, le_line, lt_line, contAt, ML.putAt, Sl.cont, Sl.put, outsV, tupO, lstO, bo, noB, rtK_rt, rtK_nx, rtK1_rt, rtK1_nx, List.getElem?_cons_zero, List.getElem?_cons_succ, List.set_cons_zero, List.set_cons_succ, Option.map_some, Option.isSome_some, reduceIte, Bool.false_eq_true, Bool.true_eq_false, if_true, if_false, wipeR, ixN_lit, atI_lit, Option.bind_some, Nat.reduceLT, Nat.reduceLeDiff, ML.pos1, List.length_map, isT, List.map_cons, List.map_nil, List.length_cons, List.length_nil, List.cons_append, List.nil_append, List.append_nil, List.replicate, true_and, and_true, Nat.reduceSub, Nat.reduceAdd, Bool.not_true, Bool.not_false, decide_eq_true_eq, Bool.not_eq_true', decide_eq_false_iff_not, Int.reduceToNat, Int.reduceLT, Int.reduceLE, Int.reducePow, Int.reduceNeg, Bool.or_true, Bool.true_or, small_emod, small_lit, pow_10_18, and_self, addD, subD, mulD, modD, fdivD, negD, inD_ints, eqB_int, neB_int, ltB, leB, gtB, geB, isNB_none, notNB, isCB, ixD, lenD, absD, ML.intD, listD, tupD, slD, sl3, appD, metO, truD])
    rw [if_pos (by omega)]
    (try simp only [↓we_seq, ↓we_asg, ↓we_ret, ↓we_retN, ↓we_sIf, ↓we_drop, ↓we_nx, ↓we_brk, ↓we_cnt, ↓we_var, ↓we_C, ↓we_frz, ↓we_hold, ↓we_bin, ↓we_cmp, ↓we_un, ↓we_isi, ↓we_aNil, ↓we_aCons, ↓we_cb, ↓we_tup, ↓we_lst, ↓we_b, ↓we_tru, ↓we_and, ↓we_or, ↓we_not, ↓we_andV, ↓we_orV, ↓we_notV, ↓we_mIf, ↓we_chain, ↓we_set, ↓we_mgSub, ↓we_mgTup, ↓we_mgNil, ↓we_mgCons, ↓we_iR1, ↓we_iR2, ↓we_for, ↓we_mNo, ↓we_part, ↓we_sl, ↓we_ms, ↓we_met, ↓we_call_, ↓we_callIo_, ↓we_lc_, ↓we_iA, ↓we_yes, ↓we_par2, ↓we_par3, wo_some, wo_map, iaK_list, iaK_tuple, iaK_str, parK2_e, parK3_e, rd2, rd1, rd2B, rdN, rdAll, rd, hold, boolO, truO, intO, strO, frzO, retO, isIo_zero, isIo_succ, ioB_no, ioB_frz, ioB_own, ioB_io, le_line, lt_line, contAt, ML.putAt, Sl.cont, Sl.put, outsV, tupO, lstO, bo, noB, rtK_rt, rtK_nx, rtK1_rt, rtK1_nx, List.getElem?_cons_zero, List.getElem?_cons_succ, List.set_cons_zero, List.set_cons_succ, Option.map_some, Option.isSome_some, reduceIte, Bool.false_eq_true, Bool.true_eq_false, if_true, if_false, wipeR, ixN_lit, atI_lit, Option.bind_some, Nat.reduceLT, Nat.reduceLeDiff, ML.pos1, List.length_map, isT, List.map_cons, List.map_nil, List.length_cons, List.length_nil, List.cons_append, List.nil_append, List.append_nil, List.replicate, true_and, and_true, Nat.reduceSub, Nat.reduceAdd, Bool.not_true, Bool.not_false, decide_eq_true_eq, Bool.not_eq_true', decide_eq_false_iff_not, Int.reduceToNat, Int.reduceLT, Int.reduceLE, Int.reducePow, Int.reduceNeg, Bool.or_true, Bool.true_or, small_emod, small_lit, pow_10_18, and_self, addD, subD, mulD, modD, fdivD, negD, inD_ints, eqB_int, neB_int, ltB, leB, gtB, geB, isNB_none, notNB, isCB, ixD, lenD, absD, ML.intD, listD, tupD, slD, sl3, appD, metO, truD, h5]);
    (first | rw [then_nx] | rw [then_rt] | rw [then_bk] | rw [then_ct])
    have rv : isVals v (.tuple (.int 0 :: ys)) = true := by
      show (decide (((PyData.int 0 :: ys).length : Int) = v) && (PyData.int 0 :: ys).all (isCnt 0 (v - 1))) = true
      rw [Bool.and_eq_true, decide_eq_true_eq, List.all_eq_true, List.length_cons]
      refine ⟨by omega, fun y m => ?_⟩
      cases m with
      | head =>
        simp only [isCnt, Bool.and_eq_true, decide_eq_true_eq]
        omega
      | tail _ m => exact yc y m
    have rw1 : isWay v (.tuple (.int 0 :: ys)) = true := by
      rw [way_vals, Bool.and_eq_true] at rv
      exact rv.1
    have rm : isMap v (.tuple (.int 0 :: ys)) = true := by
      unfold isMap
      rw [rv]
      rfl
    (try simp only [↓we_seq, ↓we_asg, ↓we_ret, ↓we_retN, ↓we_sIf, ↓we_drop, ↓we_nx, ↓we_brk, ↓we_cnt, ↓we_var, ↓we_C, ↓we_frz, ↓we_hold, ↓we_bin, ↓we_cmp, ↓we_un, ↓we_isi, ↓we_aNil, ↓we_aCons, ↓we_cb, ↓we_tup, ↓we_lst, ↓we_b, ↓we_tru, ↓we_and, ↓we_or, ↓we_not, ↓we_andV, ↓we_orV, ↓we_notV, ↓we_mIf, ↓we_chain, ↓we_set, ↓we_mgSub, ↓we_mgTup, ↓we_mgNil, ↓we_mgCons, ↓we_iR1, ↓we_iR2, ↓we_for, ↓we_mNo, ↓we_part, ↓we_sl, ↓we_ms, ↓we_met, ↓we_call_, ↓we_callIo_, ↓we_lc_, ↓we_iA, ↓we_yes, ↓we_par2, ↓we_par3, wo_some, wo_map, iaK_list, iaK_tuple, iaK_str, parK2_e, parK3_e, rd2, rd1, rd2B, rdN, rdAll, rd, hold, boolO, truO, intO, strO, frzO, retO, isIo_zero, isIo_succ, ioB_no, ioB_frz, ioB_own, ioB_io, le_line, lt_line, contAt, ML.putAt, Sl.cont, Sl.put, outsV, tupO, lstO, bo, noB, rtK_rt, rtK_nx, rtK1_rt, rtK1_nx, List.getElem?_cons_zero, List.getElem?_cons_succ, List.set_cons_zero, List.set_cons_succ, Option.map_some, Option.isSome_some, reduceIte, Bool.false_eq_true, Bool.true_eq_false, if_true, if_false, wipeR, ixN_lit, atI_lit, Option.bind_some, Nat.reduceLT, Nat.reduceLeDiff, ML.pos1, List.length_map, isT, List.map_cons, List.map_nil, List.length_cons, List.length_nil, List.cons_append, List.nil_append, List.append_nil, List.replicate, true_and, and_true, Nat.reduceSub, Nat.reduceAdd, Bool.not_true, Bool.not_false, decide_eq_true_eq, Bool.not_eq_true', decide_eq_false_iff_not, Int.reduceToNat, Int.reduceLT, Int.reduceLE, Int.reducePow, Int.reduceNeg, Bool.or_true, Bool.true_or, small_emod, small_lit, pow_10_18, and_self, addD, subD, mulD, modD, fdivD, negD, inD_ints, eqB_int, neB_int, ltB, leB, gtB, geB, isNB_none, notNB, isCB, ixD, lenD, absD, ML.intD, listD, tupD, slD, sl3, appD, metO, truD])
    refine we_call (way_ok (.tuple (.int 0 :: ys)) v (by omega)) rfl ?_
    rintro r - rfl
    (try simp only [↓we_seq, ↓we_asg, ↓we_ret, ↓we_retN, ↓we_sIf, ↓we_drop, ↓we_nx, ↓we_brk, ↓we_cnt, ↓we_var, ↓we_C, ↓we_frz, ↓we_hold, ↓we_bin, ↓we_cmp, ↓we_un, ↓we_isi, ↓we_aNil, ↓we_aCons, ↓we_cb, ↓we_tup, ↓we_lst, ↓we_b, ↓we_tru, ↓we_and, ↓we_or, ↓we_not, ↓we_andV, ↓we_orV, ↓we_notV, ↓we_mIf, ↓we_chain, ↓we_set, ↓we_mgSub, ↓we_mgTup, ↓we_mgNil, ↓we_mgCons, ↓we_iR1, ↓we_iR2, ↓we_for, ↓we_mNo, ↓we_part, ↓we_sl, ↓we_ms, ↓we_met, ↓we_call_, ↓we_callIo_, ↓we_lc_, ↓we_iA, ↓we_yes, ↓we_par2, ↓we_par3, wo_some, wo_map, iaK_list, iaK_tuple, iaK_str, parK2_e, parK3_e, rd2, rd1, rd2B, rdN, rdAll, rd, hold, boolO, truO, intO, strO, frzO, retO, isIo_zero, isIo_succ, ioB_no, ioB_frz, ioB_own, ioB_io, le_line, lt_line, contAt, ML.putAt, Sl.cont, Sl.put, outsV, tupO, lstO, bo, noB, rtK_rt, rtK_nx, rtK1_rt, rtK1_nx, List.getElem?_cons_zero, List.getElem?_cons_succ, List.set_cons_zero, List.set_cons_succ, Option.map_some, Option.isSome_some, reduceIte, Bool.false_eq_true, Bool.true_eq_false, if_true, if_false, wipeR, ixN_lit, atI_lit, Option.bind_some, Nat.reduceLT, Nat.reduceLeDiff, ML.pos1, List.length_map, isT, List.map_cons, List.map_nil, List.length_cons, List.length_nil, List.cons_append, List.nil_append, List.append_nil, List.replicate, true_and, and_true, Nat.reduceSub, Nat.reduceAdd, Bool.not_true, Bool.not_false, decide_eq_true_eq, Bool.not_eq_true', decide_eq_false_iff_not, Int.reduceToNat, Int.reduceLT, Int.reduceLE, Int.reducePow, Int.reduceNeg, Bool.or_true, Bool.true_or, small_emod, small_lit, pow_10_18, and_self, addD, subD, mulD, modD, fdivD, negD, inD_ints, eqB_int, neB_int, ltB, leB, gtB, geB, isNB_none, notNB, isCB, ixD, lenD, absD, ML.intD, listD, tupD, slD, sl3, appD, metO, truD])
    refine we_call (map_ok (.tuple (.int 0 :: ys)) v v0 (by omega)) rfl ?_
    rintro r - rfl
    (try simp only [↓we_seq, ↓we_asg, ↓we_ret, ↓we_retN, ↓we_sIf, ↓we_drop, ↓we_nx, ↓we_brk, ↓we_cnt, ↓we_var, ↓we_C, ↓we_frz, ↓we_hold, ↓we_bin, ↓we_cmp, ↓we_un, ↓we_isi, ↓we_aNil, ↓we_aCons, ↓we_cb, ↓we_tup, ↓we_lst, ↓we_b, ↓we_tru, ↓we_and, ↓we_or, ↓we_not, ↓we_andV, ↓we_orV, ↓we_notV, ↓we_mIf, ↓we_chain, ↓we_set, ↓we_mgSub, ↓we_mgTup, ↓we_mgNil, ↓we_mgCons, ↓we_iR1, ↓we_iR2, ↓we_for, ↓we_mNo, ↓we_part, ↓we_sl, ↓we_ms, ↓we_met, ↓we_call_, ↓we_callIo_, ↓we_lc_, ↓we_iA, ↓we_yes, ↓we_par2, ↓we_par3, wo_some, wo_map, iaK_list, iaK_tuple, iaK_str, parK2_e, parK3_e, rd2, rd1, rd2B, rdN, rdAll, rd, hold, boolO, truO, intO, strO, frzO, retO, isIo_zero, isIo_succ, ioB_no, ioB_frz, ioB_own, ioB_io, le_line, lt_line, contAt, ML.putAt, Sl.cont, Sl.put, outsV, tupO, lstO, bo, noB, rtK_rt, rtK_nx, rtK1_rt, rtK1_nx, List.getElem?_cons_zero, List.getElem?_cons_succ, List.set_cons_zero, List.set_cons_succ, Option.map_some, Option.isSome_some, reduceIte, Bool.false_eq_true, Bool.true_eq_false, if_true, if_false, wipeR, ixN_lit, atI_lit, Option.bind_some, Nat.reduceLT, Nat.reduceLeDiff, ML.pos1, List.length_map, isT, List.map_cons, List.map_nil, List.length_cons, List.length_nil, List.cons_append, List.nil_append, List.append_nil, List.replicate, true_and, and_true, Nat.reduceSub, Nat.reduceAdd, Bool.not_true, Bool.not_false, decide_eq_true_eq, Bool.not_eq_true', decide_eq_false_iff_not, Int.reduceToNat, Int.reduceLT, Int.reduceLE, Int.reducePow, Int.reduceNeg, Bool.or_true, Bool.true_or, small_emod, small_lit, pow_10_18, and_self, addD, subD, mulD, modD, fdivD, negD, inD_ints, eqB_int, neB_int, ltB, leB, gtB, geB, isNB_none, notNB, isCB, ixD, lenD, absD, ML.intD, listD, tupD, slD, sl3, appD, metO, truD])
    rw [if_pos (by omega), wo_some, flat_one]
    have zl : (List.replicate (v - 1).toNat (PyData.tuple (.int 0 :: ys))).length = (v - 1).toNat := List.length_replicate
    (try simp only [↓we_seq, ↓we_asg, ↓we_ret, ↓we_retN, ↓we_sIf, ↓we_drop, ↓we_nx, ↓we_brk, ↓we_cnt, ↓we_var, ↓we_C, ↓we_frz, ↓we_hold, ↓we_bin, ↓we_cmp, ↓we_un, ↓we_isi, ↓we_aNil, ↓we_aCons, ↓we_cb, ↓we_tup, ↓we_lst, ↓we_b, ↓we_tru, ↓we_and, ↓we_or, ↓we_not, ↓we_andV, ↓we_orV, ↓we_notV, ↓we_mIf, ↓we_chain, ↓we_set, ↓we_mgSub, ↓we_mgTup, ↓we_mgNil, ↓we_mgCons, ↓we_iR1, ↓we_iR2, ↓we_for, ↓we_mNo, ↓we_part, ↓we_sl, ↓we_ms, ↓we_met, ↓we_call_, ↓we_callIo_, ↓we_lc_, ↓we_iA, ↓we_yes, ↓we_par2, ↓we_par3, wo_some, wo_map, iaK_list, iaK_tuple, iaK_str, parK2_e, parK3_e, rd2, rd1, rd2B, rdN, rdAll, rd, hold, boolO, truO, intO, strO, frzO, retO, isIo_zero, isIo_succ, ioB_no, ioB_frz, ioB_own, ioB_io, le_line, lt_line, contAt, ML.putAt, Sl.cont, Sl.put, outsV, tupO, lstO, bo, noB, rtK_rt, rtK_nx, rtK1_rt, rtK1_nx, List.getElem?_cons_zero, List.getElem?_cons_succ, List.set_cons_zero, List.set_cons_succ, Option.map_some, Option.isSome_some, reduceIte, Bool.false_eq_true, Bool.true_eq_false, if_true, if_false, wipeR, ixN_lit, atI_lit, Option.bind_some, Nat.reduceLT, Nat.reduceLeDiff, ML.pos1, List.length_map, isT, List.map_cons, List.map_nil, List.length_cons, List.length_nil, List.cons_append, List.nil_append, List.append_nil, List.replicate, true_and, and_true, Nat.reduceSub, Nat.reduceAdd, Bool.not_true, Bool.not_false, decide_eq_true_eq, Bool.not_eq_true', decide_eq_false_iff_not, Int.reduceToNat, Int.reduceLT, Int.reduceLE, Int.reducePow, Int.reduceNeg, Bool.or_true, Bool.true_or, small_emod, small_lit, pow_10_18, and_self, addD, subD, mulD, modD, fdivD, negD, inD_ints, eqB_int, neB_int, ltB, leB, gtB, geB, isNB_none, notNB, isCB, ixD, lenD, absD, ML.intD, listD, tupD, slD, sl3, appD, metO, truD])
    rw [if_pos (by rw [zl]; omega)]
    (try simp only [↓we_seq, ↓we_asg, ↓we_ret, ↓we_retN, ↓we_sIf, ↓we_drop, ↓we_nx, ↓we_brk, ↓we_cnt, ↓we_var, ↓we_C, ↓we_frz, ↓we_hold, ↓we_bin, ↓we_cmp, ↓we_un, ↓we_isi, ↓we_aNil, ↓we_aCons, ↓we_cb, ↓we_tup, ↓we_lst, ↓we_b, ↓we_tru, ↓we_and, ↓we_or, ↓we_not, ↓we_andV, ↓we_orV, ↓we_notV, ↓we_mIf, ↓we_chain, ↓we_set, ↓we_mgSub, ↓we_mgTup, ↓we_mgNil, ↓we_mgCons, ↓we_iR1, ↓we_iR2, ↓we_for, ↓we_mNo, ↓we_part, ↓we_sl, ↓we_ms, ↓we_met, ↓we_call_, ↓we_callIo_, ↓we_lc_, ↓we_iA, ↓we_yes, ↓we_par2, ↓we_par3, wo_some, wo_map, iaK_list, iaK_tuple, iaK_str, parK2_e, parK3_e, rd2, rd1, rd2B, rdN, rdAll, rd, hold, boolO, truO, intO, strO, frzO, retO, isIo_zero, isIo_succ, ioB_no, ioB_frz, ioB_own, ioB_io, le_line, lt_line, contAt, ML.putAt, Sl.cont, Sl.put, outsV, tupO, lstO, bo, noB, rtK_rt, rtK_nx, rtK1_rt, rtK1_nx, List.getElem?_cons_zero, List.getElem?_cons_succ, List.set_cons_zero, List.set_cons_succ, Option.map_some, Option.isSome_some, reduceIte, Bool.false_eq_true, Bool.true_eq_false, if_true, if_false, wipeR, ixN_lit, atI_lit, Option.bind_some, Nat.reduceLT, Nat.reduceLeDiff, ML.pos1, List.length_map, isT, List.map_cons, List.map_nil, List.length_cons, List.length_nil, List.cons_append, List.nil_append, List.append_nil, List.replicate, true_and, and_true, Nat.reduceSub, Nat.reduceAdd, Bool.not_true, Bool.not_false, decide_eq_true_eq, Bool.not_eq_true', decide_eq_false_iff_not, Int.reduceToNat, Int.reduceLT, Int.reduceLE, Int.reducePow, Int.reduceNeg, Bool.or_true, Bool.true_or, small_emod, small_lit, pow_10_18, and_self, addD, subD, mulD, modD, fdivD, negD, inD_ints, eqB_int, neB_int, ltB, leB, gtB, geB, isNB_none, notNB, isCB, ixD, lenD, absD, ML.intD, listD, tupD, slD, sl3, appD, metO, truD])
    have rt : isTab v (.tuple (.tuple (.int 0 :: ys) :: List.replicate (v - 1).toNat (PyData.tuple (.int 0 :: ys)))) = true := by
      rw [isTab_tup, Bool.and_eq_true, decide_eq_true_eq, Bool.and_eq_true, List.all_eq_true, List.length_cons, zl]
      refine ⟨by omega, fun y m => ?_, rfl⟩
      cases m with
      | head => exact rv
      | tail _ m => rw [List.eq_of_mem_replicate m]; exact rv
    refine we_call (table_ok _ v v0 (by omega)) rfl ?_
    rintro r - rfl
    (try simp only [↓we_seq, ↓we_asg, ↓we_ret, ↓we_retN, ↓we_sIf, ↓we_drop, ↓we_nx, ↓we_brk, ↓we_cnt, ↓we_var, ↓we_C, ↓we_frz, ↓we_hold, ↓we_bin, ↓we_cmp, ↓we_un, ↓we_isi, ↓we_aNil, ↓we_aCons, ↓we_cb, ↓we_tup, ↓we_lst, ↓we_b, ↓we_tru, ↓we_and, ↓we_or, ↓we_not, ↓we_andV, ↓we_orV, ↓we_notV, ↓we_mIf, ↓we_chain, ↓we_set, ↓we_mgSub, ↓we_mgTup, ↓we_mgNil, ↓we_mgCons, ↓we_iR1, ↓we_iR2, ↓we_for, ↓we_mNo, ↓we_part, ↓we_sl, ↓we_ms, ↓we_met, ↓we_call_, ↓we_callIo_, ↓we_lc_, ↓we_iA, ↓we_yes, ↓we_par2, ↓we_par3, wo_some, wo_map, iaK_list, iaK_tuple, iaK_str, parK2_e, parK3_e, rd2, rd1, rd2B, rdN, rdAll, rd, hold, boolO, truO, intO, strO, frzO, retO, isIo_zero, isIo_succ, ioB_no, ioB_frz, ioB_own, ioB_io, le_line, lt_line, contAt, ML.putAt, Sl.cont, Sl.put, outsV, tupO, lstO, bo, noB, rtK_rt, rtK_nx, rtK1_rt, rtK1_nx, List.getElem?_cons_zero, List.getElem?_cons_succ, List.set_cons_zero, List.set_cons_succ, Option.map_some, Option.isSome_some, reduceIte, Bool.false_eq_true, Bool.true_eq_false, if_true, if_false, wipeR, ixN_lit, atI_lit, Option.bind_some, Nat.reduceLT, Nat.reduceLeDiff, ML.pos1, List.length_map, isT, List.map_cons, List.map_nil, List.length_cons, List.length_nil, List.cons_append, List.nil_append, List.append_nil, List.replicate, true_and, and_true, Nat.reduceSub, Nat.reduceAdd, Bool.not_true, Bool.not_false, decide_eq_true_eq, Bool.not_eq_true', decide_eq_false_iff_not, Int.reduceToNat, Int.reduceLT, Int.reduceLE, Int.reducePow, Int.reduceNeg, Bool.or_true, Bool.true_or, small_emod, small_lit, pow_10_18, and_self, addD, subD, mulD, modD, fdivD, negD, inD_ints, eqB_int, neB_int, ltB, leB, gtB, geB, isNB_none, notNB, isCB, ixD, lenD, absD, ML.intD, listD, tupD, slD, sl3, appD, metO, truD])
    rw [rw1, rm, rt]
    refine we_call (same_ok 8 (.list [.bool true, .bool true, .bool true]) ⟨by show (3 : Nat) < 16777216; omega, all_cons trivial (all_cons trivial (all_cons trivial all_nil))⟩) rfl ?_
    rintro r - rfl
    (try simp only [↓we_seq, ↓we_asg, ↓we_ret, ↓we_retN, ↓we_sIf, ↓we_drop, ↓we_nx, ↓we_brk, ↓we_cnt, ↓we_var, ↓we_C, ↓we_frz, ↓we_hold, ↓we_bin, ↓we_cmp, ↓we_un, ↓we_isi, ↓we_aNil, ↓we_aCons, ↓we_cb, ↓we_tup, ↓we_lst, ↓we_b, ↓we_tru, ↓we_and, ↓we_or, ↓we_not, ↓we_andV, ↓we_orV, ↓we_notV, ↓we_mIf, ↓we_chain, ↓we_set, ↓we_mgSub, ↓we_mgTup, ↓we_mgNil, ↓we_mgCons, ↓we_iR1, ↓we_iR2, ↓we_for, ↓we_mNo, ↓we_part, ↓we_sl, ↓we_ms, ↓we_met, ↓we_call_, ↓we_callIo_, ↓we_lc_, ↓we_iA, ↓we_yes, ↓we_par2, ↓we_par3, wo_some, wo_map, iaK_list, iaK_tuple, iaK_str, parK2_e, parK3_e, rd2, rd1, rd2B, rdN, rdAll, rd, hold, boolO, truO, intO, strO, frzO, retO, isIo_zero, isIo_succ, ioB_no, ioB_frz, ioB_own, ioB_io, le_line, lt_line, contAt, ML.putAt, Sl.cont, Sl.put, outsV, tupO, lstO, bo, noB, rtK_rt, rtK_nx, rtK1_rt, rtK1_nx, List.getElem?_cons_zero, List.getElem?_cons_succ, List.set_cons_zero, List.set_cons_succ, Option.map_some, Option.isSome_some, reduceIte, Bool.false_eq_true, Bool.true_eq_false, if_true, if_false, wipeR, ixN_lit, atI_lit, Option.bind_some, Nat.reduceLT, Nat.reduceLeDiff, ML.pos1, List.length_map, isT, List.map_cons, List.map_nil, List.length_cons, List.length_nil, List.cons_append, List.nil_append, List.append_nil, List.replicate, true_and, and_true, Nat.reduceSub, Nat.reduceAdd, Bool.not_true, Bool.not_false, decide_eq_true_eq, Bool.not_eq_true', decide_eq_false_iff_not, Int.reduceToNat, Int.reduceLT, Int.reduceLE, Int.reducePow, Int.reduceNeg, Bool.or_true, Bool.true_or, small_emod, small_lit, pow_10_18, and_self, addD, subD, mulD, modD, fdivD, negD, inD_ints, eqB_int, neB_int, ltB, leB, gtB, geB, isNB_none, notNB, isCB, ixD, lenD, absD, ML.intD, listD, tupD, slD, sl3, appD, metO, truD])
    (first | rw [then_nx] | rw [then_rt] | rw [then_bk] | rw [then_ct])
    (try simp only [↓we_seq, ↓we_asg, ↓we_ret, ↓we_retN, ↓we_sIf, ↓we_drop, ↓we_nx, ↓we_brk, ↓we_cnt, ↓we_var, ↓we_C, ↓we_frz, ↓we_hold, ↓we_bin, ↓we_cmp, ↓we_un, ↓we_isi, ↓we_aNil, ↓we_aCons, ↓we_cb, ↓we_tup, ↓we_lst, ↓we_b, ↓we_tru, ↓we_and, ↓we_or, ↓we_not, ↓we_andV, ↓we_orV, ↓we_notV, ↓we_mIf, ↓we_chain, ↓we_set, ↓we_mgSub, ↓we_mgTup, ↓we_mgNil, ↓we_mgCons, ↓we_iR1, ↓we_iR2, ↓we_for, ↓we_mNo, ↓we_part, ↓we_sl, ↓we_ms, ↓we_met, ↓we_call_, ↓we_callIo_, ↓we_lc_, ↓we_iA, ↓we_yes, ↓we_par2, ↓we_par3, wo_some, wo_map, iaK_list, iaK_tuple, iaK_str, parK2_e, parK3_e, rd2, rd1, rd2B, rdN, rdAll, rd, hold, boolO, truO, intO, strO, frzO, retO, isIo_zero, isIo_succ, ioB_no, ioB_frz, ioB_own, ioB_io, le_line, lt_line, contAt, ML.putAt, Sl.cont, Sl.put, outsV, tupO, lstO, bo, noB, rtK_rt, rtK_nx, rtK1_rt, rtK1_nx, List.getElem?_cons_zero, List.getElem?_cons_succ, List.set_cons_zero, List.set_cons_succ, Option.map_some, Option.isSome_some, reduceIte, Bool.false_eq_true, Bool.true_eq_false, if_true, if_false, wipeR, ixN_lit, atI_lit, Option.bind_some, Nat.reduceLT, Nat.reduceLeDiff, ML.pos1, List.length_map, isT, List.map_cons, List.map_nil, List.length_cons, List.length_nil, List.cons_append, List.nil_append, List.append_nil, List.replicate, true_and, and_true, Nat.reduceSub, Nat.reduceAdd, Bool.not_true, Bool.not_false, decide_eq_true_eq, Bool.not_eq_true', decide_eq_false_iff_not, Int.reduceToNat, Int.reduceLT, Int.reduceLE, Int.reducePow, Int.reduceNeg, Bool.or_true, Bool.true_or, small_emod, small_lit, pow_10_18, and_self, addD, subD, mulD, modD, fdivD, negD, inD_ints, eqB_int, neB_int, ltB, leB, gtB, geB, isNB_none, notNB, isCB, ixD, lenD, absD, ML.intD, listD, tupD, slD, sl3, appD, metO, truD])
    have ow : isWay oth (.tuple (.int 0 :: ys)) = decide (oth = v) := by
      by_cases e : oth = v
      · rw [e, rw1]; simp
      · show (decide (((PyData.int 0 :: ys).length : Int) = oth) && _) = _
        rw [List.length_cons, decide_eq_false (by omega), Bool.false_and, decide_eq_false e]
    have om : isMap oth (.tuple (.int 0 :: ys)) = decide (oth = v) := by
      by_cases e : oth = v
      · rw [e, rm]; simp
      · unfold isMap
        rw [way_vals, ow, decide_eq_false e]
        rfl
    refine we_call (way_ok (.tuple (.int 0 :: ys)) oth (by omega)) rfl ?_
    rintro r - rfl
    (try simp only [↓we_seq, ↓we_asg, ↓we_ret, ↓we_retN, ↓we_sIf, ↓we_drop, ↓we_nx, ↓we_brk, ↓we_cnt, ↓we_var, ↓we_C, ↓we_frz, ↓we_hold, ↓we_bin, ↓we_cmp, ↓we_un, ↓we_isi, ↓we_aNil, ↓we_aCons, ↓we_cb, ↓we_tup, ↓we_lst, ↓we_b, ↓we_tru, ↓we_and, ↓we_or, ↓we_not, ↓we_andV, ↓we_orV, ↓we_notV, ↓we_mIf, ↓we_chain, ↓we_set, ↓we_mgSub, ↓we_mgTup, ↓we_mgNil, ↓we_mgCons, ↓we_iR1, ↓we_iR2, ↓we_for, ↓we_mNo, ↓we_part, ↓we_sl, ↓we_ms, ↓we_met, ↓we_call_, ↓we_callIo_, ↓we_lc_, ↓we_iA, ↓we_yes, ↓we_par2, ↓we_par3, wo_some, wo_map, iaK_list, iaK_tuple, iaK_str, parK2_e, parK3_e, rd2, rd1, rd2B, rdN, rdAll, rd, hold, boolO, truO, intO, strO, frzO, retO, isIo_zero, isIo_succ, ioB_no, ioB_frz, ioB_own, ioB_io, le_line, lt_line, contAt, ML.putAt, Sl.cont, Sl.put, outsV, tupO, lstO, bo, noB, rtK_rt, rtK_nx, rtK1_rt, rtK1_nx, List.getElem?_cons_zero, List.getElem?_cons_succ, List.set_cons_zero, List.set_cons_succ, Option.map_some, Option.isSome_some, reduceIte, Bool.false_eq_true, Bool.true_eq_false, if_true, if_false, wipeR, ixN_lit, atI_lit, Option.bind_some, Nat.reduceLT, Nat.reduceLeDiff, ML.pos1, List.length_map, isT, List.map_cons, List.map_nil, List.length_cons, List.length_nil, List.cons_append, List.nil_append, List.append_nil, List.replicate, true_and, and_true, Nat.reduceSub, Nat.reduceAdd, Bool.not_true, Bool.not_false, decide_eq_true_eq, Bool.not_eq_true', decide_eq_false_iff_not, Int.reduceToNat, Int.reduceLT, Int.reduceLE, Int.reducePow, Int.reduceNeg, Bool.or_true, Bool.true_or, small_emod, small_lit, pow_10_18, and_self, addD, subD, mulD, modD, fdivD, negD, inD_ints, eqB_int, neB_int, ltB, leB, gtB, geB, isNB_none, notNB, isCB, ixD, lenD, absD, ML.intD, listD, tupD, slD, sl3, appD, metO, truD])
    refine we_call (map_ok (.tuple (.int 0 :: ys)) oth o0 (by omega)) rfl ?_
    rintro r - rfl
    (try simp only [↓we_seq, ↓we_asg, ↓we_ret, ↓we_retN, ↓we_sIf, ↓we_drop, ↓we_nx, ↓we_brk, ↓we_cnt, ↓we_var, ↓we_C, ↓we_frz, ↓we_hold, ↓we_bin, ↓we_cmp, ↓we_un, ↓we_isi, ↓we_aNil, ↓we_aCons, ↓we_cb, ↓we_tup, ↓we_lst, ↓we_b, ↓we_tru, ↓we_and, ↓we_or, ↓we_not, ↓we_andV, ↓we_orV, ↓we_notV, ↓we_mIf, ↓we_chain, ↓we_set, ↓we_mgSub, ↓we_mgTup, ↓we_mgNil, ↓we_mgCons, ↓we_iR1, ↓we_iR2, ↓we_for, ↓we_mNo, ↓we_part, ↓we_sl, ↓we_ms, ↓we_met, ↓we_call_, ↓we_callIo_, ↓we_lc_, ↓we_iA, ↓we_yes, ↓we_par2, ↓we_par3, wo_some, wo_map, iaK_list, iaK_tuple, iaK_str, parK2_e, parK3_e, rd2, rd1, rd2B, rdN, rdAll, rd, hold, boolO, truO, intO, strO, frzO, retO, isIo_zero, isIo_succ, ioB_no, ioB_frz, ioB_own, ioB_io, le_line, lt_line, contAt, ML.putAt, Sl.cont, Sl.put, outsV, tupO, lstO, bo, noB, rtK_rt, rtK_nx, rtK1_rt, rtK1_nx, List.getElem?_cons_zero, List.getElem?_cons_succ, List.set_cons_zero, List.set_cons_succ, Option.map_some, Option.isSome_some, reduceIte, Bool.false_eq_true, Bool.true_eq_false, if_true, if_false, wipeR, ixN_lit, atI_lit, Option.bind_some, Nat.reduceLT, Nat.reduceLeDiff, ML.pos1, List.length_map, isT, List.map_cons, List.map_nil, List.length_cons, List.length_nil, List.cons_append, List.nil_append, List.append_nil, List.replicate, true_and, and_true, Nat.reduceSub, Nat.reduceAdd, Bool.not_true, Bool.not_false, decide_eq_true_eq, Bool.not_eq_true', decide_eq_false_iff_not, Int.reduceToNat, Int.reduceLT, Int.reduceLE, Int.reducePow, Int.reduceNeg, Bool.or_true, Bool.true_or, small_emod, small_lit, pow_10_18, and_self, addD, subD, mulD, modD, fdivD, negD, inD_ints, eqB_int, neB_int, ltB, leB, gtB, geB, isNB_none, notNB, isCB, ixD, lenD, absD, ML.intD, listD, tupD, slD, sl3, appD, metO, truD])
    rw [ow, om]
    refine we_call (same_ok 8 (.list [.bool (decide (oth = v)), .bool (decide (oth = v))]) ⟨by show (2 : Nat) < 16777216; omega, all_cons trivial (all_cons trivial all_nil)⟩) rfl ?_
    rintro r - rfl
    (try simp only [↓we_seq, ↓we_asg, ↓we_ret, ↓we_retN, ↓we_sIf, ↓we_drop, ↓we_nx, ↓we_brk, ↓we_cnt, ↓we_var, ↓we_C, ↓we_frz, ↓we_hold, ↓we_bin, ↓we_cmp, ↓we_un, ↓we_isi, ↓we_aNil, ↓we_aCons, ↓we_cb, ↓we_tup, ↓we_lst, ↓we_b, ↓we_tru, ↓we_and, ↓we_or, ↓we_not, ↓we_andV, ↓we_orV, ↓we_notV, ↓we_mIf, ↓we_chain, ↓we_set, ↓we_mgSub, ↓we_mgTup, ↓we_mgNil, ↓we_mgCons, ↓we_iR1, ↓we_iR2, ↓we_for, ↓we_mNo, ↓we_part, ↓we_sl, ↓we_ms, ↓we_met, ↓we_call_, ↓we_callIo_, ↓we_lc_, ↓we_iA, ↓we_yes, ↓we_par2, ↓we_par3, wo_some, wo_map, iaK_list, iaK_tuple, iaK_str, parK2_e, parK3_e, rd2, rd1, rd2B, rdN, rdAll, rd, hold, boolO, truO, intO, strO, frzO, retO, isIo_zero, isIo_succ, ioB_no, ioB_frz, ioB_own, ioB_io, le_line, lt_line, contAt, ML.putAt, Sl.cont, Sl.put, outsV, tupO, lstO, bo, noB, rtK_rt, rtK_nx, rtK1_rt, rtK1_nx, List.getElem?_cons_zero, List.getElem?_cons_succ, List.set_cons_zero, List.set_cons_succ, Option.map_some, Option.isSome_some, reduceIte, Bool.false_eq_true, Bool.true_eq_false, if_true, if_false, wipeR, ixN_lit, atI_lit, Option.bind_some, Nat.reduceLT, Nat.reduceLeDiff, ML.pos1, List.length_map, isT, List.map_cons, List.map_nil, List.length_cons, List.length_nil, List.cons_append, List.nil_append, List.append_nil, List.replicate, true_and, and_true, Nat.reduceSub, Nat.reduceAdd, Bool.not_true, Bool.not_false, decide_eq_true_eq, Bool.not_eq_true', decide_eq_false_iff_not, Int.reduceToNat, Int.reduceLT, Int.reduceLE, Int.reducePow, Int.reduceNeg, Bool.or_true, Bool.true_or, small_emod, small_lit, pow_10_18, and_self, addD, subD, mulD, modD, fdivD, negD, inD_ints, eqB_int, neB_int, ltB, leB, gtB, geB, isNB_none, notNB, isCB, ixD, lenD, absD, ML.intD, listD, tupD, slD, sl3, appD, metO, truD])
    (first | rw [then_nx] | rw [then_rt] | rw [then_bk] | rw [then_ct])
    (try simp only [↓we_seq, ↓we_asg, ↓we_ret, ↓we_retN, ↓we_sIf, ↓we_drop, ↓we_nx, ↓we_brk, ↓we_cnt, ↓we_var, ↓we_C, ↓we_frz, ↓we_hold, ↓we_bin, ↓we_cmp, ↓we_un, ↓we_isi, ↓we_aNil, ↓we_aCons, ↓we_cb, ↓we_tup, ↓we_lst, ↓we_b, ↓we_tru, ↓we_and, ↓we_or, ↓we_not, ↓we_andV, ↓we_orV, ↓we_notV, ↓we_mIf, ↓we_chain, ↓we_set, ↓we_mgSub, ↓we_mgTup, ↓we_mgNil, ↓we_mgCons, ↓we_iR1, ↓we_iR2, ↓we_for, ↓we_mNo, ↓we_part, ↓we_sl, ↓we_ms, ↓we_met, ↓we_call_, ↓we_callIo_, ↓we_lc_, ↓we_iA, ↓we_yes, ↓we_par2, ↓we_par3, wo_some, wo_map, iaK_list, iaK_tuple, iaK_str, parK2_e, parK3_e, rd2, rd1, rd2B, rdN, rdAll, rd, hold, boolO, truO, intO, strO, frzO, retO, isIo_zero, isIo_succ, ioB_no, ioB_frz, ioB_own, ioB_io, le_line, lt_line, contAt, ML.putAt, Sl.cont, Sl.put, outsV, tupO, lstO, bo, noB, rtK_rt, rtK_nx, rtK1_rt, rtK1_nx, List.getElem?_cons_zero, List.getElem?_cons_succ, List.set_cons_zero, List.set_cons_succ, Option.map_some, Option.isSome_some, reduceIte, Bool.false_eq_true, Bool.true_eq_false, if_true, if_false, wipeR, ixN_lit, atI_lit, Option.bind_some, Nat.reduceLT, Nat.reduceLeDiff, ML.pos1, List.length_map, isT, List.map_cons, List.map_nil, List.length_cons, List.length_nil, List.cons_append, List.nil_append, List.append_nil, List.replicate, true_and, and_true, Nat.reduceSub, Nat.reduceAdd, Bool.not_true, Bool.not_false, decide_eq_true_eq, Bool.not_eq_true', decide_eq_false_iff_not, Int.reduceToNat, Int.reduceLT, Int.reduceLE, Int.reducePow, Int.reduceNeg, Bool.or_true, Bool.true_or, small_emod, small_lit, pow_10_18, and_self, addD, subD, mulD, modD, fdivD, negD, inD_ints, eqB_int, neB_int, ltB, leB, gtB, geB, isNB_none, notNB, isCB, ixD, lenD, absD, ML.intD, listD, tupD, slD, sl3, appD, metO, truD, cut_one]);
    rw [if_pos (by omega)]
    (try simp only [↓we_seq, ↓we_asg, ↓we_ret, ↓we_retN, ↓we_sIf, ↓we_drop, ↓we_nx, ↓we_brk, ↓we_cnt, ↓we_var, ↓we_C, ↓we_frz, ↓we_hold, ↓we_bin, ↓we_cmp, ↓we_un, ↓we_isi, ↓we_aNil, ↓we_aCons, ↓we_cb, ↓we_tup, ↓we_lst, ↓we_b, ↓we_tru, ↓we_and, ↓we_or, ↓we_not, ↓we_andV, ↓we_orV, ↓we_notV, ↓we_mIf, ↓we_chain, ↓we_set, ↓we_mgSub, ↓we_mgTup, ↓we_mgNil, ↓we_mgCons, ↓we_iR1, ↓we_iR2, ↓we_for, ↓we_mNo, ↓we_part, ↓we_sl, ↓we_ms, ↓we_met, ↓we_call_, ↓we_callIo_, ↓we_lc_, ↓we_iA, ↓we_yes, ↓we_par2, ↓we_par3, wo_some, wo_map, iaK_list, iaK_tuple, iaK_str, parK2_e, parK3_e, rd2, rd1, rd2B, rdN, rdAll, rd, hold, boolO, truO, intO, strO, frzO, retO, isIo_zero, isIo_succ, ioB_no, ioB_frz, ioB_own, ioB_io, le_line, lt_line, contAt, ML.putAt, Sl.cont, Sl.put, outsV, tupO, lstO, bo, noB, rtK_rt, rtK_nx, rtK1_rt, rtK1_nx, List.getElem?_cons_zero, List.getElem?_cons_succ, List.set_cons_zero, List.set_cons_succ, Option.map_some, Option.isSome_some, reduceIte, Bool.false_eq_true, Bool.true_eq_false, if_true, if_false, wipeR, ixN_lit, atI_lit, Option.bind_some, Nat.reduceLT, Nat.reduceLeDiff, ML.pos1, List.length_map, isT, List.map_cons, List.map_nil, List.length_cons, List.length_nil, List.cons_append, List.nil_append, List.append_nil, List.replicate, true_and, and_true, Nat.reduceSub, Nat.reduceAdd, Bool.not_true, Bool.not_false, decide_eq_true_eq, Bool.not_eq_true', decide_eq_false_iff_not, Int.reduceToNat, Int.reduceLT, Int.reduceLE, Int.reducePow, Int.reduceNeg, Bool.or_true, Bool.true_or, small_emod, small_lit, pow_10_18, and_self, addD, subD, mulD, modD, fdivD, negD, inD_ints, eqB_int, neB_int, ltB, leB, gtB, geB, isNB_none, notNB, isCB, ixD, lenD, absD, ML.intD, listD, tupD, slD, sl3, appD, metO, truD])
    have nw : isWay v (.tuple (.none :: ys)) = true := by
      show (decide (((PyData.none :: ys).length : Int) = v) && (PyData.none :: ys).all (fun x => isNone x || isCnt 0 (v - 1) x)) = true
      rw [Bool.and_eq_true, decide_eq_true_eq, List.all_eq_true, List.length_cons]
      refine ⟨by omega, fun y m => ?_⟩
      cases m with
      | head => rfl
      | tail _ m => rw [yc y m, Bool.or_true]
    have nm : isMap v (.tuple (.none :: ys)) = false := by
      unfold isMap
      rw [way_vals, nw]
      rfl
    refine we_call (way_ok (.tuple (.none :: ys)) v (by omega)) rfl ?_
    rintro r - rfl
    (try simp only [↓we_seq, ↓we_asg, ↓we_ret, ↓we_retN, ↓we_sIf, ↓we_drop, ↓we_nx, ↓we_brk, ↓we_cnt, ↓we_var, ↓we_C, ↓we_frz, ↓we_hold, ↓we_bin, ↓we_cmp, ↓we_un, ↓we_isi, ↓we_aNil, ↓we_aCons, ↓we_cb, ↓we_tup, ↓we_lst, ↓we_b, ↓we_tru, ↓we_and, ↓we_or, ↓we_not, ↓we_andV, ↓we_orV, ↓we_notV, ↓we_mIf, ↓we_chain, ↓we_set, ↓we_mgSub, ↓we_mgTup, ↓we_mgNil, ↓we_mgCons, ↓we_iR1, ↓we_iR2, ↓we_for, ↓we_mNo, ↓we_part, ↓we_sl, ↓we_ms, ↓we_met, ↓we_call_, ↓we_callIo_, ↓we_lc_, ↓we_iA, ↓we_yes, ↓we_par2, ↓we_par3, wo_some, wo_map, iaK_list, iaK_tuple, iaK_str, parK2_e, parK3_e, rd2, rd1, rd2B, rdN, rdAll, rd, hold, boolO, truO, intO, strO, frzO, retO, isIo_zero, isIo_succ, ioB_no, ioB_frz, ioB_own, ioB_io, le_line, lt_line, contAt, ML.putAt, Sl.cont, Sl.put, outsV, tupO, lstO, bo, noB, rtK_rt, rtK_nx, rtK1_rt, rtK1_nx, List.getElem?_cons_zero, List.getElem?_cons_succ, List.set_cons_zero, List.set_cons_succ, Option.map_some, Option.isSome_some, reduceIte, Bool.false_eq_true, Bool.true_eq_false, if_true, if_false, wipeR, ixN_lit, atI_lit, Option.bind_some, Nat.reduceLT, Nat.reduceLeDiff, ML.pos1, List.length_map, isT, List.map_cons, List.map_nil, List.length_cons, List.length_nil, List.cons_append, List.nil_append, List.append_nil, List.replicate, true_and, and_true, Nat.reduceSub, Nat.reduceAdd, Bool.not_true, Bool.not_false, decide_eq_true_eq, Bool.not_eq_true', decide_eq_false_iff_not, Int.reduceToNat, Int.reduceLT, Int.reduceLE, Int.reducePow, Int.reduceNeg, Bool.or_true, Bool.true_or, small_emod, small_lit, pow_10_18, and_self, addD, subD, mulD, modD, fdivD, negD, inD_ints, eqB_int, neB_int, ltB, leB, gtB, geB, isNB_none, notNB, isCB, ixD, lenD, absD, ML.intD, listD, tupD, slD, sl3, appD, metO, truD])
    rw [cut_one, if_pos (by omega)]
    (try simp only [↓we_seq, ↓we_asg, ↓we_ret, ↓we_retN, ↓we_sIf, ↓we_drop, ↓we_nx, ↓we_brk, ↓we_cnt, ↓we_var, ↓we_C, ↓we_frz, ↓we_hold, ↓we_bin, ↓we_cmp, ↓we_un, ↓we_isi, ↓we_aNil, ↓we_aCons, ↓we_cb, ↓we_tup, ↓we_lst, ↓we_b, ↓we_tru, ↓we_and, ↓we_or, ↓we_not, ↓we_andV, ↓we_orV, ↓we_notV, ↓we_mIf, ↓we_chain, ↓we_set, ↓we_mgSub, ↓we_mgTup, ↓we_mgNil, ↓we_mgCons, ↓we_iR1, ↓we_iR2, ↓we_for, ↓we_mNo, ↓we_part, ↓we_sl, ↓we_ms, ↓we_met, ↓we_call_, ↓we_callIo_, ↓we_lc_, ↓we_iA, ↓we_yes, ↓we_par2, ↓we_par3, wo_some, wo_map, iaK_list, iaK_tuple, iaK_str, parK2_e, parK3_e, rd2, rd1, rd2B, rdN, rdAll, rd, hold, boolO, truO, intO, strO, frzO, retO, isIo_zero, isIo_succ, ioB_no, ioB_frz, ioB_own, ioB_io, le_line, lt_line, contAt, ML.putAt, Sl.cont, Sl.put, outsV, tupO, lstO, bo, noB, rtK_rt, rtK_nx, rtK1_rt, rtK1_nx, List.getElem?_cons_zero, List.getElem?_cons_succ, List.set_cons_zero, List.set_cons_succ, Option.map_some, Option.isSome_some, reduceIte, Bool.false_eq_true, Bool.true_eq_false, if_true, if_false, wipeR, ixN_lit, atI_lit, Option.bind_some, Nat.reduceLT, Nat.reduceLeDiff, ML.pos1, List.length_map, isT, List.map_cons, List.map_nil, List.length_cons, List.length_nil, List.cons_append, List.nil_append, List.append_nil, List.replicate, true_and, and_true, Nat.reduceSub, Nat.reduceAdd, Bool.not_true, Bool.not_false, decide_eq_true_eq, Bool.not_eq_true', decide_eq_false_iff_not, Int.reduceToNat, Int.reduceLT, Int.reduceLE, Int.reducePow, Int.reduceNeg, Bool.or_true, Bool.true_or, small_emod, small_lit, pow_10_18, and_self, addD, subD, mulD, modD, fdivD, negD, inD_ints, eqB_int, neB_int, ltB, leB, gtB, geB, isNB_none, notNB, isCB, ixD, lenD, absD, ML.intD, listD, tupD, slD, sl3, appD, metO, truD])
    refine we_call (map_ok (.tuple (.none :: ys)) v v0 (by omega)) rfl ?_
    rintro r - rfl
    (try simp only [↓we_seq, ↓we_asg, ↓we_ret, ↓we_retN, ↓we_sIf, ↓we_drop, ↓we_nx, ↓we_brk, ↓we_cnt, ↓we_var, ↓we_C, ↓we_frz, ↓we_hold, ↓we_bin, ↓we_cmp, ↓we_un, ↓we_isi, ↓we_aNil, ↓we_aCons, ↓we_cb, ↓we_tup, ↓we_lst, ↓we_b, ↓we_tru, ↓we_and, ↓we_or, ↓we_not, ↓we_andV, ↓we_orV, ↓we_notV, ↓we_mIf, ↓we_chain, ↓we_set, ↓we_mgSub, ↓we_mgTup, ↓we_mgNil, ↓we_mgCons, ↓we_iR1, ↓we_iR2, ↓we_for, ↓we_mNo, ↓we_part, ↓we_sl, ↓we_ms, ↓we_met, ↓we_call_, ↓we_callIo_, ↓we_lc_, ↓we_iA, ↓we_yes, ↓we_par2, ↓we_par3, wo_some, wo_map, iaK_list, iaK_tuple, iaK_str, parK2_e, parK3_e, rd2, rd1, rd2B, rdN, rdAll, rd, hold, boolO, truO, intO, strO, frzO, retO, isIo_zero, isIo_succ, ioB_no, ioB_frz, ioB_own, ioB_io, le_line, lt_line, contAt, ML.putAt, Sl.cont, Sl.put, outsV, tupO, lstO, bo, noB, rtK_rt, rtK_nx, rtK1_rt, rtK1_nx, List.getElem?_cons_zero, List.getElem?_cons_succ, List.set_cons_zero, List.set_cons_succ, Option.map_some, Option.isSome_some, reduceIte, Bool.false_eq_true, Bool.true_eq_false, if_true, if_false, wipeR, ixN_lit, atI_lit, Option.bind_some, Nat.reduceLT, Nat.reduceLeDiff, ML.pos1, List.length_map, isT, List.map_cons, List.map_nil, List.length_cons, List.length_nil, List.cons_append, List.nil_append, List.append_nil, List.replicate, true_and, and_true, Nat.reduceSub, Nat.reduceAdd, Bool.not_true, Bool.not_false, decide_eq_true_eq, Bool.not_eq_true', decide_eq_false_iff_not, Int.reduceToNat, Int.reduceLT, Int.reduceLE, Int.reducePow, Int.reduceNeg, Bool.or_true, Bool.true_or, small_emod, small_lit, pow_10_18, and_self, addD, subD, mulD, modD, fdivD, negD, inD_ints, eqB_int, neB_int, ltB, leB, gtB, geB, isNB_none, notNB, isCB, ixD, lenD, absD, ML.intD, listD, tupD, slD, sl3, appD, metO, truD])
    rw [nw, nm]
    refine we_call (same_ok 8 (.list [.bool true, .bool false]) ⟨by show (2 : Nat) < 16777216; omega, all_cons trivial (all_cons trivial all_nil)⟩) rfl ?_
    rintro r - rfl
    (try simp only [↓we_seq, ↓we_asg, ↓we_ret, ↓we_retN, ↓we_sIf, ↓we_drop, ↓we_nx, ↓we_brk, ↓we_cnt, ↓we_var, ↓we_C, ↓we_frz, ↓we_hold, ↓we_bin, ↓we_cmp, ↓we_un, ↓we_isi, ↓we_aNil, ↓we_aCons, ↓we_cb, ↓we_tup, ↓we_lst, ↓we_b, ↓we_tru, ↓we_and, ↓we_or, ↓we_not, ↓we_andV, ↓we_orV, ↓we_notV, ↓we_mIf, ↓we_chain, ↓we_set, ↓we_mgSub, ↓we_mgTup, ↓we_mgNil, ↓we_mgCons, ↓we_iR1, ↓we_iR2, ↓we_for, ↓we_mNo, ↓we_part, ↓we_sl, ↓we_ms, ↓we_met, ↓we_call_, ↓we_callIo_, ↓we_lc_, ↓we_iA, ↓we_yes, ↓we_par2, ↓we_par3, wo_some, wo_map, iaK_list, iaK_tuple, iaK_str, parK2_e, parK3_e, rd2, rd1, rd2B, rdN, rdAll, rd, hold, boolO, truO, intO, strO, frzO, retO, isIo_zero, isIo_succ, ioB_no, ioB_frz, ioB_own, ioB_io, le_line, lt_line, contAt, ML.putAt, Sl.cont, Sl.put, outsV, tupO, lstO, bo, noB, rtK_rt, rtK_nx, rtK1_rt, rtK1_nx, List.getElem?_cons_zero, List.getElem?_cons_succ, List.set_cons_zero, List.set_cons_succ, Option.map_some, Option.isSome_some, reduceIte, Bool.false_eq_true, Bool.true_eq_false, if_true, if_false, wipeR, ixN_lit, atI_lit, Option.bind_some, Nat.reduceLT, Nat.reduceLeDiff, ML.pos1, List.length_map, isT, List.map_cons, List.map_nil, List.length_cons, List.length_nil, List.cons_append, List.nil_append, List.append_nil, List.replicate, true_and, and_true, Nat.reduceSub, Nat.reduceAdd, Bool.not_true, Bool.not_false, decide_eq_true_eq, Bool.not_eq_true', decide_eq_false_iff_not, Int.reduceToNat, Int.reduceLT, Int.reduceLE, Int.reducePow, Int.reduceNeg, Bool.or_true, Bool.true_or, small_emod, small_lit, pow_10_18, and_self, addD, subD, mulD, modD, fdivD, negD, inD_ints, eqB_int, neB_int, ltB, leB, gtB, geB, isNB_none, notNB, isCB, ixD, lenD, absD, ML.intD, listD, tupD, slD, sl3, appD, metO, truD])
    exact ⟨c, _, _, _, _, _, _, _, _, hc, ⟨rfl, rfl, rfl, rfl, rfl, rfl, rfl⟩, rfl, rfl⟩
  · rintro ρ ⟨c, s2, s3, s4, s5, s6, s7, s8, s9, hc, -, -, rfl⟩
    (try simp only [↓we_seq, ↓we_asg, ↓we_ret, ↓we_retN, ↓we_sIf, ↓we_drop, ↓we_nx, ↓we_brk, ↓we_cnt, ↓we_var, ↓we_C, ↓we_frz, ↓we_hold, ↓we_bin, ↓we_cmp, ↓we_un, ↓we_isi, ↓we_aNil, ↓we_aCons, ↓we_cb, ↓we_tup, ↓we_lst, ↓we_b, ↓we_tru, ↓we_and, ↓we_or, ↓we_not, ↓we_andV, ↓we_orV, ↓we_notV, ↓we_mIf, ↓we_chain, ↓we_set, ↓we_mgSub, ↓we_mgTup, ↓we_mgNil, ↓we_mgCons, ↓we_iR1, ↓we_iR2, ↓we_for, ↓we_mNo, ↓we_part, ↓we_sl, ↓we_ms, ↓we_met, ↓we_call_, ↓we_callIo_, ↓we_lc_, ↓we_iA, ↓we_yes, ↓we_par2, ↓we_par3, wo_some, wo_map, iaK_list, iaK_tuple, iaK_str, parK2_e, parK3_e, rd2, rd1, rd2B, rdN, rdAll, rd, hold, boolO, truO, intO, strO, frzO, retO, isIo_zero, isIo_succ, ioB_no, ioB_frz, ioB_own, ioB_io, le_line, lt_line, contAt, ML.putAt, Sl.cont, Sl.put, outsV, tupO, lstO, bo, noB, rtK_rt, rtK_nx, rtK1_rt, rtK1_nx, List.getElem?_cons_zero, List.getElem?_cons_succ, List.set_cons_zero, List.set_cons_succ, Option.map_some, Option.isSome_some, reduceIte, Bool.false_eq_true, Bool.true_eq_false, if_true, if_false, wipeR, ixN_lit, atI_lit, Option.bind_some, Nat.reduceLT, Nat.reduceLeDiff, ML.pos1, List.length_map, isT, List.map_cons, List.map_nil, List.length_cons, List.length_nil, List.cons_append, List.nil_append, List.append_nil, List.replicate, true_and, and_true, Nat.reduceSub, Nat.reduceAdd, Bool.not_true, Bool.not_false, decide_eq_true_eq, Bool.not_eq_true', decide_eq_false_iff_not, Int.reduceToNat, Int.reduceLT, Int.reduceLE, Int.reducePow, Int.reduceNeg, Bool.or_true, Bool.true_or, small_emod, small_lit, pow_10_18, and_self, addD, subD, mulD, modD, fdivD, negD, inD_ints, eqB_int, neB_int, ltB, leB, gtB, geB, isNB_none, notNB, isCB, ixD, lenD, absD, ML.intD, listD, tupD, slD, sl3, appD, metO, truD]); repeat ((first | rw [then_nx] | rw [then_rt] | rw [then_bk] | rw [then_ct]); simp only [↓we_seq, ↓we_asg, ↓we_ret, ↓we_retN, ↓we_sIf, ↓we_drop, ↓we_nx, ↓we_brk, ↓we_cnt, ↓we_var, ↓we_C, ↓we_frz, ↓we_hold, ↓we_bin, ↓we_cmp, ↓we_un, ↓we_isi, ↓we_aNil, ↓we_aCons, ↓we_cb, ↓we_tup, ↓we_lst, ↓we_b, ↓we_tru, ↓we_and, ↓we_or, ↓we_not, ↓we_andV, ↓we_orV, ↓we_notV, ↓we_mIf, ↓we_chain, ↓we_set, ↓we_mgSub, ↓we_mgTup, ↓we_mgNil, ↓we_mgCons, ↓we_iR1, ↓we_iR2, ↓we_for, ↓we_mNo, ↓we_part, ↓we_sl, ↓we_ms, ↓we_met, ↓we_call_, ↓we_callIo_, ↓we_lc_, ↓we_iA, ↓we_yes, ↓we_par2, ↓we_par3, wo_some, wo_map, iaK_list, iaK_tuple, iaK_str, parK2_e, parK3_e, rd2, rd1, rd2B, rdN, rdAll, rd, hold, boolO, truO, intO, strO, frzO, retO, isIo_zero, isIo_succ, ioB_no, ioB_frz, ioB_own, ioB_io, le_line, lt_line, contAt, ML.putAt, Sl.cont, Sl.put, outsV, tupO, lstO, bo, noB, rtK_rt, rtK_nx, rtK1_rt, rtK1_nx, List.getElem?_cons_zero, List.getElem?_cons_succ, List.set_cons_zero, List.set_cons_succ, Option.map_some, Option.isSome_some, reduceIte, Bool.false_eq_true, Bool.true_eq_false, if_true, if_false, wipeR, ixN_lit, atI_lit, Option.bind_some, Nat.reduceLT, Nat.reduceLeDiff, ML.pos1, List.length_map, isT, List.map_cons, List.map_nil, List.length_cons, List.length_nil, List.cons_append, List.nil_append, List.append_nil, List.replicate, true_and, and_true, Nat.reduceSub, Nat.reduceAdd, Bool.not_true, Bool.not_false, decide_eq_true_eq, Bool.not_eq_true', decide_eq_false_iff_not, Int.reduceToNat, Int.reduceLT, Int.reduceLE, Int.reducePow, Int.reduceNeg, Bool.or_true, Bool.true_or, small_emod, small_lit, pow_10_18, and_self, addD, subD, mulD, modD, fdivD, negD, inD_ints, eqB_int, neB_int, ltB, leB, gtB, geB, isNB_none, notNB, isCB, ixD, lenD, absD, ML.intD, listD, tupD, slD, sl3, appD, metO, truD])
end K01

set_option Elab.async false
set_option linter.all false
set_option maxRecDepth 100000
set_option maxHeartbeats 4000000
namespace K01
open PySem PySem.Spec PyProof.Rows L2 ML
def dd_is_count : He.DefD := ⟨("is_count", none), "is_count", "is_count", defArgs s_is_count, defBody s_is_count, defScope s_is_count, [], []⟩
def dd_is_word : He.DefD := ⟨("is_word", none), "is_word", "is_word", defArgs s_is_word, defBody s_is_word, defScope s_is_word, [], []⟩
def dd_are_values : He.DefD := ⟨("are_values", none), "are_values", "are_values", defArgs s_are_values, defBody s_are_values, defScope s_are_values, [], []⟩
def dd_is_way : He.DefD := ⟨("is_way", none), "is_way", "is_way", defArgs s_is_way, defBody s_is_way, defScope s_is_way, [], []⟩
def dd_is_map : He.DefD := ⟨("is_map", none), "is_map", "is_map", defArgs s_is_map, defBody s_is_map, defScope s_is_map, [], []⟩
def dd_is_table : He.DefD := ⟨("is_table", none), "is_table", "is_table", defArgs s_is_table, defBody s_is_table, defScope s_is_table, [], []⟩
def dd__law_deck : He.DefD := ⟨("_law_deck", none), "_law_deck", "_law_deck", defArgs s__law_deck, defBody s__law_deck, defScope s__law_deck, [], []⟩
def dd__law_draw : He.DefD := ⟨("_law_draw", none), "_law_draw", "_law_draw", defArgs s__law_draw, defBody s__law_draw, defScope s__law_draw, [], []⟩
def dd__law_same : He.DefD := ⟨("_law_same", none), "_law_same", "_law_same", defArgs s__law_same, defBody s__law_same, defScope s__law_same, [], []⟩
def dd__law_word : He.DefD := ⟨("_law_word", none), "_law_word", "_law_word", defArgs s__law_word, defBody s__law_word, defScope s__law_word, [], []⟩
def dd__law_names : He.DefD := ⟨("_law_names", none), "_law_names", "_law_names", defArgs s__law_names, defBody s__law_names, defScope s__law_names, [], []⟩
def dd__law_count : He.DefD := ⟨("_law_count", none), "_law_count", "_law_count", defArgs s__law_count, defBody s__law_count, defScope s__law_count, [], []⟩
def dd__law_is_word : He.DefD := ⟨("_law_is_word", none), "_law_is_word", "_law_is_word", defArgs s__law_is_word, defBody s__law_is_word, defScope s__law_is_word, [], []⟩
def dd__law_is_way : He.DefD := ⟨("_law_is_way", none), "_law_is_way", "_law_is_way", defArgs s__law_is_way, defBody s__law_is_way, defScope s__law_is_way, [], []⟩
def dd__law_is_map : He.DefD := ⟨("_law_is_map", none), "_law_is_map", "_law_is_map", defArgs s__law_is_map, defBody s__law_is_map, defScope s__law_is_map, [], []⟩
def dd__law_is_table : He.DefD := ⟨("_law_is_table", none), "_law_is_table", "_law_is_table", defArgs s__law_is_table, defBody s__law_is_table, defScope s__law_is_table, [], []⟩
def dd__law_item : He.DefD := ⟨("_law_item", none), "_law_item", "_law_item", defArgs s__law_item, defBody s__law_item, defScope s__law_item, [], []⟩
def dd__law_row : He.DefD := ⟨("_law_row", none), "_law_row", "_law_row", defArgs s__law_row, defBody s__law_row, defScope s__law_row, [], []⟩
def dd__law_rows : He.DefD := ⟨("_law_rows", none), "_law_rows", "_law_rows", defArgs s__law_rows, defBody s__law_rows, defScope s__law_rows, [], []⟩
def dd__law_near_word : He.DefD := ⟨("_law_near_word", none), "_law_near_word", "_law_near_word", defArgs s__law_near_word, defBody s__law_near_word, defScope s__law_near_word, [], []⟩
def dd_law : He.DefD := ⟨("law", none), "law", "law", defArgs s_law, defBody s_law, defScope s_law, [], []⟩
def fnL : List He.DefD := [dd_is_count, dd_is_word, dd_are_values, dd_is_way, dd_is_map, dd_is_table, dd__law_deck, dd__law_draw, dd__law_same, dd__law_word, dd__law_names, dd__law_count, dd__law_is_word, dd__law_is_way, dd__law_is_map, dd__law_is_table, dd__law_item, dd__law_row, dd__law_rows, dd__law_near_word, dd_law]
def faL : List He.Fa := [.glo "is_count", .glo "is_word", .glo "are_values", .glo "is_way", .glo "is_map", .glo "is_table", .glo "_law_deck", .glo "_law_draw", .glo "_law_same", .glo "_law_word", .glo "_law_names", .glo "_law_count", .glo "_law_is_word", .glo "_law_is_way", .glo "_law_is_map", .glo "_law_is_table", .glo "_law_item", .glo "_law_row", .glo "_law_rows", .glo "_law_near_word", .glo "law", .free "abs", .free "all", .free "bool", .free "int", .free "isinstance", .free "len", .free "list", .free "range", .free "str", .free "tuple", .str "LETTERS" "abcdefghijklmnopqrstuvwxyz", .int "WORD_MOST" (12)]
def nm0 : List PySem.Str := ["is_count", "is_word", "are_values", "is_way", "is_map", "is_table", "_law_deck", "_law_draw", "_law_same", "_law_word", "_law_names", "_law_count", "_law_is_word", "_law_is_way", "_law_is_map", "_law_is_table", "_law_item", "_law_row", "_law_rows", "_law_near_word", "LETTERS", "WORD_MOST"]
abbrev RR : PySem.W.OpenRow := PySem.W.OpenLaw.row PySem.Challenge.rw_ineditions_k01_words_ways_maps_tables
abbrev hk : PySem.W.Hook := He.hookD 4 faL fnL
def ob (s : PySem.W.SharedT) : He.AlD := He.obsDG 4 faL fnL (HandSHeadRun.getT s)
theorem ob_eq (s : PySem.W.SharedT) : ob s = hk.obs s.abs := He.obsDG_eq (HandSHeadRun.getT_eq s)
theorem run (w : World) : HandSHeadRun.RunEq RR (PySem.W.view RR.prog [24]) hk ob 3000 (nm0) w := by
  intro os
  kernel_rfl
theorem facts {P : Program} {w : World} {K : PySem.W.Frag} {h : Heap} {mg : Str → Option Value} {fA : Addr} (X : K.In h) (G : h.Ns mainGlobals mg) (hfa : mg ("law" : Str) = some (.ref fA)) (c : He.SaysD faL fnL K) :
    ∃ fd : FuncData, (∀ (s : Shared) (v : Value), BindsTo s fd ⟨[v], []⟩ [("script", v)]) ∧ ∀ base : Heap, K.In base → base.Ns mainGlobals mg → FnOk P w K mg base (L2.CX P w) 10 fA fd ["script"] (spM K 1 m_law) := by
  obtain ⟨fd_is_count, F_is_count⟩ := c.def_ 0 (d := dd_is_count) rfl
  obtain ⟨fd_is_word, F_is_word⟩ := c.def_ 1 (d := dd_is_word) rfl
  obtain ⟨fd_are_values, F_are_values⟩ := c.def_ 2 (d := dd_are_values) rfl
  obtain ⟨fd_is_way, F_is_way⟩ := c.def_ 3 (d := dd_is_way) rfl
  obtain ⟨fd_is_map, F_is_map⟩ := c.def_ 4 (d := dd_is_map) rfl
  obtain ⟨fd_is_table, F_is_table⟩ := c.def_ 5 (d := dd_is_table) rfl
  obtain ⟨fd__law_deck, F__law_deck⟩ := c.def_ 6 (d := dd__law_deck) rfl
  obtain ⟨fd__law_draw, F__law_draw⟩ := c.def_ 7 (d := dd__law_draw) rfl
  obtain ⟨fd__law_same, F__law_same⟩ := c.def_ 8 (d := dd__law_same) rfl
  obtain ⟨fd__law_word, F__law_word⟩ := c.def_ 9 (d := dd__law_word) rfl
  obtain ⟨fd__law_names, F__law_names⟩ := c.def_ 10 (d := dd__law_names) rfl
  obtain ⟨fd__law_count, F__law_count⟩ := c.def_ 11 (d := dd__law_count) rfl
  obtain ⟨fd__law_is_word, F__law_is_word⟩ := c.def_ 12 (d := dd__law_is_word) rfl
  obtain ⟨fd__law_is_way, F__law_is_way⟩ := c.def_ 13 (d := dd__law_is_way) rfl
  obtain ⟨fd__law_is_map, F__law_is_map⟩ := c.def_ 14 (d := dd__law_is_map) rfl
  obtain ⟨fd__law_is_table, F__law_is_table⟩ := c.def_ 15 (d := dd__law_is_table) rfl
  obtain ⟨fd__law_item, F__law_item⟩ := c.def_ 16 (d := dd__law_item) rfl
  obtain ⟨fd__law_row, F__law_row⟩ := c.def_ 17 (d := dd__law_row) rfl
  obtain ⟨fd__law_rows, F__law_rows⟩ := c.def_ 18 (d := dd__law_rows) rfl
  obtain ⟨fd__law_near_word, F__law_near_word⟩ := c.def_ 19 (d := dd__law_near_word) rfl
  obtain ⟨fd_law, F_law⟩ := c.def_ 20 (d := dd_law) rfl
  have T : Txt mg := ⟨He.free_ok X G (c.fact 21 (f := .free "abs") rfl), He.free_ok X G (c.fact 22 (f := .free "all") rfl), He.free_ok X G (c.fact 23 (f := .free "bool") rfl), He.free_ok X G (c.fact 24 (f := .free "int") rfl), He.free_ok X G (c.fact 25 (f := .free "isinstance") rfl), He.free_ok X G (c.fact 26 (f := .free "len") rfl), He.free_ok X G (c.fact 27 (f := .free "list") rfl), He.free_ok X G (c.fact 28 (f := .free "range") rfl), He.free_ok X G (c.fact 29 (f := .free "str") rfl), He.free_ok X G (c.fact 30 (f := .free "tuple") rfl), He.str_ok X G (c.fact 31 (f := .str "LETTERS" "abcdefghijklmnopqrstuvwxyz") rfl), He.int_ok X G (c.fact 32 (f := .int "WORD_MOST" (12)) rfl)⟩
  have e := hfa.symm.trans (He.glo_ok X G (c.fact 20 (f := .glo "law") rfl))
  cases e
  have b := FunD.bindsA (ps := ["script"]) F_law fun _ _ _ _ _ _ us hl => match us, hl with | [_], _ => rfl
  refine ⟨fd_law, fun s v => b s [v] rfl, fun base _ _ => ?_⟩
  have D_is_count := ok_is_count (P := P) (w := w) (base := base) T  F_is_count (He.glo_ok X G (c.fact 0 (f := .glo "is_count") rfl))
  have D_is_word := ok_is_word (P := P) (w := w) (base := base) T  F_is_word (He.glo_ok X G (c.fact 1 (f := .glo "is_word") rfl))
  have D_are_values := ok_are_values (P := P) (w := w) (base := base) T D_is_count F_are_values (He.glo_ok X G (c.fact 2 (f := .glo "are_values") rfl))
  have D_is_way := ok_is_way (P := P) (w := w) (base := base) T D_is_count F_is_way (He.glo_ok X G (c.fact 3 (f := .glo "is_way") rfl))
  have D_is_map := ok_is_map (P := P) (w := w) (base := base) T D_are_values F_is_map (He.glo_ok X G (c.fact 4 (f := .glo "is_map") rfl))
  have D_is_table := ok_is_table (P := P) (w := w) (base := base) T D_are_values F_is_table (He.glo_ok X G (c.fact 5 (f := .glo "is_table") rfl))
  have D__law_deck := ok__law_deck (P := P) (w := w) (base := base) T  F__law_deck (He.glo_ok X G (c.fact 6 (f := .glo "_law_deck") rfl))
  have D__law_draw := ok__law_draw (P := P) (w := w) (base := base) T  F__law_draw (He.glo_ok X G (c.fact 7 (f := .glo "_law_draw") rfl))
  have D__law_same := ok__law_same (P := P) (w := w) (base := base) T  F__law_same (He.glo_ok X G (c.fact 8 (f := .glo "_law_same") rfl)) 8
  have D__law_word := ok__law_word (P := P) (w := w) (base := base) T D__law_draw F__law_word (He.glo_ok X G (c.fact 9 (f := .glo "_law_word") rfl))
  have D__law_names := ok__law_names (P := P) (w := w) (base := base) T D__law_draw D__law_word F__law_names (He.glo_ok X G (c.fact 10 (f := .glo "_law_names") rfl))
  have D__law_count := ok__law_count (P := P) (w := w) (base := base) T  F__law_count (He.glo_ok X G (c.fact 11 (f := .glo "_law_count") rfl))
  have D__law_is_word := ok__law_is_word (P := P) (w := w) (base := base) T  F__law_is_word (He.glo_ok X G (c.fact 12 (f := .glo "_law_is_word") rfl))
  have D__law_is_way := ok__law_is_way (P := P) (w := w) (base := base) T D__law_count F__law_is_way (He.glo_ok X G (c.fact 13 (f := .glo "_law_is_way") rfl))
  have D__law_is_map := ok__law_is_map (P := P) (w := w) (base := base) T D__law_is_way F__law_is_map (He.glo_ok X G (c.fact 14 (f := .glo "_law_is_map") rfl))
  have D__law_is_table := ok__law_is_table (P := P) (w := w) (base := base) T D__law_is_way F__law_is_table (He.glo_ok X G (c.fact 15 (f := .glo "_law_is_table") rfl))
  have D__law_item := ok__law_item (P := P) (w := w) (base := base) T D__law_draw F__law_item (He.glo_ok X G (c.fact 16 (f := .glo "_law_item") rfl))
  have D__law_row := ok__law_row (P := P) (w := w) (base := base) T D__law_draw D__law_item F__law_row (He.glo_ok X G (c.fact 17 (f := .glo "_law_row") rfl))
  have D__law_rows := ok__law_rows (P := P) (w := w) (base := base) T D__law_draw D__law_row F__law_rows (He.glo_ok X G (c.fact 18 (f := .glo "_law_rows") rfl))
  have D__law_near_word := ok__law_near_word (P := P) (w := w) (base := base) T D__law_word D__law_draw F__law_near_word (He.glo_ok X G (c.fact 19 (f := .glo "_law_near_word") rfl))
  exact okF_law T D__law_deck D__law_draw D__law_rows D__law_row D__law_near_word D__law_same D__law_is_word D_is_word D__law_is_map D__law_is_way D_is_map D_is_way D__law_is_table D_is_table F_law
end K01
open PySem PySem.W PySem.Calls PyProof.Rows
set_option maxHeartbeats 0 in
theorem PySem.Challenge.cw_ineditions_k01_words_ways_maps_tables_holds : PySem.Challenge.rw_ineditions_k01_words_ways_maps_tables.Holds := by
  w_on; o_law
  refine HandSHeadRun.head_any (r := OpenLaw.row PySem.Challenge.rw_ineditions_k01_words_ways_maps_tables) (q := view (OpenLaw.row PySem.Challenge.rw_ineditions_k01_words_ways_maps_tables).prog [24]) (H := K01.hk) (ob := K01.ob) (M := 3000) (loose := K01.nm0) (d := HandSHeadRun.topDef (OpenLaw.row PySem.Challenge.rw_ineditions_k01_words_ways_maps_tables).prog 24) (kwd := []) K01.ob_eq
    (by kernel_rfl) (fun s => by kernel_rfl) K01.run (by kernel_rfl) (by kernel_rfl) (by kernel_rfl) (by rfl) (by first | assumption | decide +kernel) (by decide +kernel) ⟨rfl, rfl, rfl, rfl, rfl, by decide +kernel⟩ ?hw ?hc
  case hw => w_witness2
  case hc =>
    refine ML.law_end (CW := fun w => L2.CX (PySem.Challenge.rw_ineditions_k01_words_ways_maps_tables).prog w) (l := PySem.Challenge.rw_ineditions_k01_words_ways_maps_tables) (n := 63) (k := 10) (px := "script") rfl (by decide) (by kernel_rfl) ⟨rfl, by decide, by decide⟩ ?F (fun _ _ _ _ _ z => ML.cx_none z)
    intro w mg fa h Y G hmg0
    obtain ⟨K, KX, c⟩ := Y
    have hmg : mg ("law" : PySem.Str) = some (.ref fa) := by
      have e : (HandSHeadRun.topDef (OpenLaw.row PySem.Challenge.rw_ineditions_k01_words_ways_maps_tables).prog 24).name = ("law" : PySem.Str) := by kernel_rfl
      rw [← e]
      exact hmg0
    obtain ⟨fd, hb, hF⟩ := K01.facts (P := (PySem.Challenge.rw_ineditions_k01_words_ways_maps_tables).prog) (w := w) KX G hmg c
    refine ⟨K, fd, ML.spM K 1 K01.m_law, KX, hb, fun H a ns hl _ hS => ?_, hF⟩
    obtain ⟨fin, ht⟩ := K01.law_true ns hl
    exact ML.law_sp hS ht

