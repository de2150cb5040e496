import PyProof.Rows.All
import HandS.ForMost
import HandS.ForExc
import HandS.TupAny
import HandS.TupMul
import HandS.Wide
import HandS.Style
import HandS.Zip
import HandS.IsInst
import HandS.SortKw
import HandS.More
import HandS.Strs
import HandS.SetFor
import PyProof.MinMaxWalk
import PyProof.EnumMake
import PyProof.Draws
import HandS.Zip0
import KE.DataCmp
import KE.SortData
import HandS.TupSets
import HandS.SetFor
import KE.SortCalls
import KE.SortData
import PySem.Challenge.RW_floodmarks_k07_whole_all_ways_together
set_option Elab.async false
set_option linter.all false
set_option maxRecDepth 100000
set_option maxHeartbeats 1000000
/-! L3: a layer of plain data over the hand layer: what a piece of text computes, said without addresses. -/
namespace L3
open PySem PySem.Spec PyProof.Rows L2

/-- plain data -/
inductive D where
  | non | bl (b : Bool) | int (i : Int) | str (x : Str) | lst (xs : List D) | tup (xs : List D) | dct (ks : List Int) (ds : List D)

def mkK (ks : List Int) (vs : List V) : List (Key × V) := (ks.zip vs).map fun p => (Sum.inl p.1, p.2)

mutual
def Dat (H : Hp) : D → V → Prop
  | .non, v => v = .non
  | .bl b, v => v = .bl b
  | .int i, v => v = .int i
  | .str x, v => v = .str x
  | .lst ds, v => ∃ a vs, v = .ref a ∧ H a = some (.lst vs) ∧ Dats H ds vs
  | .tup ds, v => ∃ a vs, v = .ref a ∧ H a = some (.tup vs) ∧ Dats H ds vs
  | .dct ks ds, v => ∃ a vs, v = .ref a ∧ H a = some (.dK (mkK ks vs)) ∧ ks.length = vs.length ∧ Dats H ds vs
def Dats (H : Hp) : List D → List V → Prop
  | [], vs => vs = []
  | d :: ds, vs => ∃ v r, vs = v :: r ∧ Dat H d v ∧ Dats H ds r
end

mutual
theorem Dat.mono {H H' : Hp} (e : Same H H') : ∀ (d : D) (v : V), Dat H d v → Dat H' d v
  | .non, _, h => h
  | .bl _, _, h => h
  | .int _, _, h => h
  | .str _, _, h => h
  | .lst ds, _, ⟨a, vs, h1, h2, h3⟩ => ⟨a, vs, h1, e _ _ h2, Dats.mono e ds vs h3⟩
  | .tup ds, _, ⟨a, vs, h1, h2, h3⟩ => ⟨a, vs, h1, e _ _ h2, Dats.mono e ds vs h3⟩
  | .dct ks ds, _, ⟨a, vs, h1, h2, h4, h3⟩ => ⟨a, vs, h1, e _ _ h2, h4, Dats.mono e ds vs h3⟩
theorem Dats.mono {H H' : Hp} (e : Same H H') : ∀ (ds : List D) (vs : List V), Dats H ds vs → Dats H' ds vs
  | [], _, h => h
  | d :: ds, _, ⟨v, r, h1, h2, h3⟩ => ⟨v, r, h1, Dat.mono e d v h2, Dats.mono e ds r h3⟩
end

theorem Dats.nil {H : Hp} : Dats H [] [] := rfl
theorem Dats.cons {H : Hp} {d : D} {ds : List D} {v : V} {vs : List V} (h : Dat H d v) (t : Dats H ds vs) : Dats H (d :: ds) (v :: vs) := ⟨v, vs, rfl, h, t⟩
theorem Dats.length {H : Hp} : ∀ {ds : List D} {vs : List V}, Dats H ds vs → ds.length = vs.length
  | [], _, h => by cases h; rfl
  | d :: ds, _, ⟨v, r, h1, h2, h3⟩ => by subst h1; simp [Dats.length h3]
theorem Dats.get {H : Hp} : ∀ {ds : List D} {vs : List V} {i : Nat} {d : D}, Dats H ds vs → ds[i]? = some d → ∃ v, vs[i]? = some v ∧ Dat H d v
  | [], _, i, d, h, e => by simp at e
  | x :: ds, _, 0, d, ⟨v, r, h1, h2, h3⟩, e => by
    subst h1
    simp at e; subst e
    exact ⟨v, rfl, h2⟩
  | x :: ds, _, i + 1, d, ⟨v, r, h1, h2, h3⟩, e => by
    subst h1
    simp at e
    simpa using Dats.get h3 e
theorem Dats.getV {H : Hp} : ∀ {ds : List D} {vs : List V} {i : Nat} {v : V}, Dats H ds vs → vs[i]? = some v → ∃ d, ds[i]? = some d ∧ Dat H d v := fun {ds vs i v} h e => by
  have hl := h.length
  have hi : i < ds.length := by
    have := (List.getElem?_eq_some_iff.mp e).1
    omega
  obtain ⟨v', e', q⟩ := h.get (List.getElem?_eq_getElem hi)
  rw [e] at e'; cases e'
  exact ⟨_, List.getElem?_eq_getElem hi, q⟩
theorem Dats.append {H : Hp} : ∀ {ds es : List D} {vs us : List V}, Dats H ds vs → Dats H es us → Dats H (ds ++ es) (vs ++ us)
  | [], _, _, _, h, k => by cases h; exact k
  | d :: ds, _, _, _, ⟨v, r, h1, h2, h3⟩, k => by subst h1; exact ⟨v, _, rfl, h2, Dats.append h3 k⟩
theorem Dats.take {H : Hp} : ∀ {ds : List D} {vs : List V} (n : Nat), Dats H ds vs → Dats H (ds.take n) (vs.take n)
  | _, _, 0, _ => by rw [List.take_zero, List.take_zero]; exact rfl
  | [], _, n + 1, h => by cases h; exact rfl
  | d :: ds, _, n + 1, ⟨v, r, h1, h2, h3⟩ => by subst h1; exact ⟨v, _, rfl, h2, Dats.take n h3⟩
theorem Dats.drop {H : Hp} : ∀ {ds : List D} {vs : List V} (n : Nat), Dats H ds vs → Dats H (ds.drop n) (vs.drop n)
  | _, _, 0, h => h
  | [], _, n + 1, h => by cases h; exact rfl
  | d :: ds, _, n + 1, ⟨v, r, h1, h2, h3⟩ => by subst h1; exact Dats.drop n h3
theorem Dats.set {H : Hp} {d : D} {v : V} (q : Dat H d v) : ∀ {ds : List D} {vs : List V} (n : Nat), Dats H ds vs → Dats H (ds.set n d) (vs.set n v)
  | [], _, n, h => by cases h; exact rfl
  | x :: ds, _, 0, ⟨v', r, h1, h2, h3⟩ => by subst h1; exact ⟨v, _, rfl, q, h3⟩
  | x :: ds, _, n + 1, ⟨v', r, h1, h2, h3⟩ => by subst h1; exact ⟨v', _, rfl, h2, Dats.set q n h3⟩
theorem Dats.rep {H : Hp} {ds : List D} {vs : List V} (h : Dats H ds vs) : ∀ n : Nat, Dats H (List.replicate n ds).flatten (List.replicate n vs).flatten
  | 0 => rfl
  | n + 1 => by rw [List.replicate_succ, List.replicate_succ, List.flatten_cons, List.flatten_cons]; exact h.append (Dats.rep h n)
theorem Dats.reverse {H : Hp} : ∀ {ds : List D} {vs : List V}, Dats H ds vs → Dats H ds.reverse vs.reverse
  | [], _, h => by cases h; exact rfl
  | d :: ds, _, ⟨v, r, h1, h2, h3⟩ => by
    subst h1
    rw [List.reverse_cons, List.reverse_cons]
    exact (Dats.reverse h3).append ⟨v, [], rfl, h2, rfl⟩
theorem Dats.ints {H : Hp} : ∀ {ns : List Int} {vs : List V}, Dats H (ns.map D.int) vs → vs = ns.map V.int
  | [], _, h => h
  | n :: ns, _, ⟨v, r, h1, h2, h3⟩ => by
    have h2 : v = .int n := h2
    subst h1 h2
    rw [Dats.ints h3]; rfl
theorem Dats.of_ints {H : Hp} : ∀ (ns : List Int), Dats H (ns.map D.int) (ns.map V.int)
  | [] => rfl
  | n :: ns => ⟨.int n, _, rfl, rfl, Dats.of_ints ns⟩
theorem Dats.bls {H : Hp} : ∀ {ns : List Bool} {vs : List V}, Dats H (ns.map D.bl) vs → vs = ns.map V.bl
  | [], _, h => h
  | n :: ns, _, ⟨v, r, h1, h2, h3⟩ => by
    have h2 : v = .bl n := h2
    subst h1 h2
    rw [Dats.bls h3]; rfl

/-! ### what a slot holds -/
inductive S where
  | fz (d : D) | ow (ds : List D) | od (ks : List Int) (ds : List D) | bg (ds : List D)
def S.toD : S → D
  | .fz d => d
  | .ow ds => .lst ds
  | .od ks ds => .dct ks ds
  | .bg ds => .lst ds
def S.own : S → Bool
  | .fz _ => false
  | _ => true
def S.isBg : S → Bool
  | .bg _ => true
  | _ => false
abbrev En := List (Option S)

/-- an own object at p -/
def OwnAt (G H : Hp) (p : Addr) : S → Prop
  | .fz _ => False
  | .ow ds => ∃ vs, H p = some (.lst vs) ∧ Dats G ds vs
  | .od ks ds => ∃ vs, H p = some (.dK (mkK ks vs)) ∧ ks.length = vs.length ∧ Dats G ds vs
  | .bg ds => ∃ vs, H p = some (.lst vs) ∧ Dats G ds vs
theorem OwnAt.some {G H : Hp} {p : Addr} {s : S} (h : OwnAt G H p s) : ∃ o, H p = some o := by
  cases s with
  | fz d => exact h.elim
  | ow ds => obtain ⟨vs, e, _⟩ := h; exact ⟨_, e⟩
  | od ks ds => obtain ⟨vs, e, _⟩ := h; exact ⟨_, e⟩
  | bg ds => obtain ⟨vs, e, _⟩ := h; exact ⟨_, e⟩
theorem OwnAt.mono {G H G' H' : Hp} {p : Addr} {s : S} (h : OwnAt G H p s) (e : Same G G') (k : H' p = H p) : OwnAt G' H' p s := by
  cases s with
  | fz d => exact h.elim
  | ow ds => obtain ⟨vs, e1, q⟩ := h; exact ⟨vs, k.trans e1, Dats.mono e _ _ q⟩
  | od ks ds => obtain ⟨vs, e1, z, q⟩ := h; exact ⟨vs, k.trans e1, z, Dats.mono e _ _ q⟩
  | bg ds => obtain ⟨vs, e1, q⟩ := h; exact ⟨vs, k.trans e1, Dats.mono e _ _ q⟩

/-- a def's entry: its heap, what of it stands for good, its bag -/
structure FC where
  H0 : Hp
  G0 : Hp
  bag : Option Addr

structure Rep (C : FC) (G H : Hp) (σ : L2.St) (ρ : En) : Prop where
  len : ρ.length = σ.length
  sub : Same G H
  g0 : Same C.G0 G
  keep : ∀ p o, C.H0 p = some o → C.bag ≠ some p → H p = some o
  new : ∀ p o, G p = some o → C.G0 p = some o ∨ C.H0 p = none
  bl : ∀ p, C.bag = some p → G p = none ∧ C.H0 p ≠ none ∧ H p ≠ none
  fz : ∀ (i : Nat) (d : D), ρ[i]? = some (some (.fz d)) → ∃ v, σ[i]? = some (some v) ∧ Dat G d v
  ow : ∀ (i : Nat) (s : S), ρ[i]? = some (some s) → s.own = true → ∃ p, σ[i]? = some (some (.ref p)) ∧ OwnAt G H p s ∧ G p = none ∧ ((C.H0 p = none ∧ (s.isBg = true → C.bag = none)) ∨ (C.bag = some p ∧ s.isBg = true))
  ap : ∀ (i j : Nat) (s s' : S) (p : Addr), i ≠ j → ρ[i]? = some (some s) → s.own = true → ρ[j]? = some (some s') → s'.own = true → σ[i]? = some (some (.ref p)) → σ[j]? = some (some (.ref p)) → False

theorem Same.new {H : Hp} {p : Addr} {o : HO} (h : H p = none) : Same H (upd H p o) := fun b x e => by
  rw [upd_ne (ne_of_none e h)]
  exact e
theorem Same.none {H H' : Hp} (e : Same H H') {p : Addr} (h : H' p = none) : H p = none := e.free h

section
variable {C : FC} {G H : Hp} {σ : L2.St} {ρ : En}
theorem Rep.h0 (R : Rep C G H σ ρ) {p : Addr} (h : H p = none) : C.H0 p = none := by
  cases e : C.H0 p with
  | none => rfl
  | some o =>
    by_cases hb : C.bag = some p
    · exact absurd h (R.bl p hb).2.2
    · rw [R.keep p o e hb] at h; cases h
theorem Rep.gn (R : Rep C G H σ ρ) {p : Addr} (h : H p = none) : G p = none := R.sub.free h
/-- a result: frozen, or an object of its own, apart from the slots -/
def RV (C : FC) (G H : Hp) (σ : L2.St) (ρ : En) (s : S) (v : V) : Prop :=
  match s with
  | .fz d => Dat G d v
  | s => ∃ p, v = .ref p ∧ OwnAt G H p s ∧ G p = none ∧ C.H0 p = none ∧ s.isBg = false ∧ ∀ (j : Nat) (s' : S), ρ[j]? = some (some s') → s'.own = true → σ[j]? ≠ some (some (.ref p))
theorem RV.own {s : S} {v : V} (h : RV C G H σ ρ s v) (o : s.own = true) : ∃ p, v = .ref p ∧ OwnAt G H p s ∧ G p = none ∧ C.H0 p = none ∧ s.isBg = false ∧ ∀ (j : Nat) (s' : S), ρ[j]? = some (some s') → s'.own = true → σ[j]? ≠ some (some (.ref p)) := by
  cases s with
  | fz d => cases o
  | ow ds => exact h
  | od ks ds => exact h
  | bg ds => exact h
/-- what G knows grows by an own object p of H that no slot holds -/
theorem Rep.freezeAt (R : Rep C G H σ ρ) {p : Addr} {o : HO} (hp : H p = some o) (hg : G p = none) (h0 : C.H0 p = none) (ha : ∀ (j : Nat) (s' : S), ρ[j]? = some (some s') → s'.own = true → σ[j]? ≠ some (some (.ref p))) :
    Rep C (upd G p o) H σ ρ := by
  have gs : Same G (upd G p o) := Same.new hg
  refine ⟨R.len, fun b x e => ?_, R.g0.trans gs, R.keep, fun b x e => ?_, fun b e => ?_, fun i d e => ?_, fun i s e os => ?_, R.ap⟩
  · by_cases hb : b = p
    · subst hb; rw [upd_same] at e; cases e; exact hp
    · rw [upd_ne hb] at e; exact R.sub b x e
  · by_cases hb : b = p
    · subst hb; exact .inr h0
    · rw [upd_ne hb] at e; exact R.new b x e
  · obtain ⟨a, b', c⟩ := R.bl b e
    refine ⟨?_, b', c⟩
    by_cases hb : b = p
    · subst hb; exact absurd h0 b'
    · rw [upd_ne hb]; exact a
  · obtain ⟨v, h1, h2⟩ := R.fz i d e
    exact ⟨v, h1, Dat.mono gs d v h2⟩
  · obtain ⟨q, h1, h2, h3, h4⟩ := R.ow i s e os
    have hq : q ≠ p := fun z => ha i s e os (z ▸ h1)
    exact ⟨q, h1, h2.mono gs rfl, by rw [upd_ne hq]; exact h3, h4⟩
theorem Rep.freeze (R : Rep C G H σ ρ) {s : S} {v : V} (h : RV C G H σ ρ s v) : ∃ G', Rep C G' H σ ρ ∧ Same G G' ∧ Dat G' s.toD v := by
  cases s with
  | fz d => exact ⟨G, R, Same.refl G, h⟩
  | ow ds =>
    obtain ⟨p, rfl, ⟨vs, hp, hd⟩, hg, h0, hb, ha⟩ := h
    exact ⟨_, R.freezeAt hp hg h0 ha, Same.new hg, p, vs, rfl, upd_same, Dats.mono (Same.new hg) _ _ hd⟩
  | od ks ds =>
    obtain ⟨p, rfl, ⟨vs, hp, hl, hd⟩, hg, h0, hb, ha⟩ := h
    exact ⟨_, R.freezeAt hp hg h0 ha, Same.new hg, p, vs, rfl, upd_same, hl, Dats.mono (Same.new hg) _ _ hd⟩
  | bg ds =>
    obtain ⟨p, _, _, _, _, hb, _⟩ := h
    cases hb
/-- a new object, frozen at once -/
theorem Rep.newFz (R : Rep C G H σ ρ) {p : Addr} {o : HO} (hp : H p = none) : Rep C (upd G p o) (upd H p o) σ ρ := by
  have hg := R.gn hp
  have h0 := R.h0 hp
  have gs : Same G (upd G p o) := Same.new hg
  have hs : Same H (upd H p o) := Same.new hp
  refine ⟨R.len, fun b x e => ?_, R.g0.trans gs, fun b x e z => hs _ _ (R.keep b x e z), fun b x e => ?_, fun b e => ?_, fun i d e => ?_, fun i s e os => ?_, R.ap⟩
  · by_cases hb : b = p
    · subst hb; rw [upd_same] at e ⊢; exact e
    · rw [upd_ne hb] at e ⊢; exact R.sub b x e
  · by_cases hb : b = p
    · subst hb; exact .inr h0
    · rw [upd_ne hb] at e; exact R.new b x e
  · obtain ⟨a, b', c⟩ := R.bl b e
    have hb : b ≠ p := fun z => by subst z; exact c hp
    refine ⟨?_, b', ?_⟩
    · rw [upd_ne hb]; exact a
    · rw [upd_ne hb]; exact c
  · obtain ⟨v, h1, h2⟩ := R.fz i d e
    exact ⟨v, h1, Dat.mono gs d v h2⟩
  · obtain ⟨q, h1, h2, h3, h4⟩ := R.ow i s e os
    obtain ⟨x, hx⟩ := h2.some
    have hq : q ≠ p := ne_of_none hx hp
    exact ⟨q, h1, h2.mono gs (upd_ne hq), by rw [upd_ne hq]; exact h3, h4⟩
/-- a new object, known to nobody yet -/
theorem Rep.newOw (R : Rep C G H σ ρ) {p : Addr} {o : HO} (hp : H p = none) : Rep C G (upd H p o) σ ρ := by
  have hs : Same H (upd H p o) := Same.new hp
  refine ⟨R.len, R.sub.trans hs, R.g0, fun b x e z => hs _ _ (R.keep b x e z), R.new, fun b e => ?_, R.fz, fun i s e os => ?_, R.ap⟩
  · obtain ⟨a, b', c⟩ := R.bl b e
    have hb : b ≠ p := fun z => by subst z; exact c hp
    exact ⟨a, b', by rw [upd_ne hb]; exact c⟩
  · obtain ⟨q, h1, h2, h3, h4⟩ := R.ow i s e os
    obtain ⟨x, hx⟩ := h2.some
    have hq : q ≠ p := ne_of_none hx hp
    exact ⟨q, h1, h2.mono (Same.refl G) (upd_ne hq), h3, h4⟩
theorem Rep.apart (R : Rep C G H σ ρ) {p : Addr} (hp : H p = none) : ∀ (j : Nat) (s' : S), ρ[j]? = some (some s') → s'.own = true → σ[j]? ≠ some (some (.ref p)) := fun j s' e os z => by
  obtain ⟨q, h1, h2, _⟩ := R.ow j s' e os
  rw [z] at h1; cases h1
  obtain ⟨x, hx⟩ := h2.some
  rw [hx] at hp; cases hp
/-- a new list as a result -/
theorem Rep.resL (R : Rep C G H σ ρ) {p : Addr} {vs : List V} {ds : List D} (hp : H p = none) (hd : Dats G ds vs) : Rep C G (upd H p (.lst vs)) σ ρ ∧ RV C G (upd H p (.lst vs)) σ ρ (.ow ds) (.ref p) :=
  ⟨R.newOw hp, p, rfl, ⟨vs, upd_same, hd⟩, R.gn hp, R.h0 hp, rfl, R.apart hp⟩

theorem get_set {α : Type} {l : List (Option α)} {i j : Nat} {x y : α} (h : (l.set i (some x))[j]? = some (some y)) : (j = i ∧ y = x) ∨ (j ≠ i ∧ l[j]? = some (some y)) := by
  by_cases e : i = j
  · subst e
    by_cases hl : i < l.length
    · rw [List.getElem?_set_self hl] at h
      exact .inl ⟨rfl, (Option.some.inj (Option.some.inj h)).symm⟩
    · rw [List.getElem?_eq_none (by simpa using hl)] at h; cases h
  · rw [List.getElem?_set_ne e] at h
    exact .inr ⟨fun z => e z.symm, h⟩
theorem get_setN {α : Type} {l : List (Option α)} {i j : Nat} {y : α} (h : (l.set i none)[j]? = some (some y)) : j ≠ i ∧ l[j]? = some (some y) := by
  by_cases e : i = j
  · subst e
    by_cases hl : i < l.length
    · rw [List.getElem?_set_self hl] at h
      cases h
    · rw [List.getElem?_eq_none (by simpa using hl)] at h; cases h
  · rw [List.getElem?_set_ne e] at h
    exact ⟨fun z => e z.symm, h⟩
theorem set_at {α : Type} {l : List (Option α)} {i j : Nat} {x : Option α} (h : j ≠ i) : (l.set i x)[j]? = l[j]? := List.getElem?_set_ne (Ne.symm h)
theorem Rep.lt (R : Rep C G H σ ρ) {i : Nat} {s : S} (h : (ρ.set i (some s))[i]? = some (some s)) : i < σ.length := by
  have := (List.getElem?_eq_some_iff.mp h).1
  rw [List.length_set] at this
  rw [← R.len]; exact this
theorem set_self_lt {α : Type} {l : List (Option α)} {i : Nat} {x : α} (h : i < l.length) : (l.set i (some x))[i]? = some (some x) := List.getElem?_set_self h
theorem lt_of_set {α : Type} {l : List (Option α)} {i : Nat} {x y : α} (h : (l.set i (some x))[i]? = some (some y)) : i < l.length := by
  have := (List.getElem?_eq_some_iff.mp h).1
  simpa using this
theorem own_fz {s : S} {d : D} (h : s.own = true) : s ≠ .fz d := fun e => by subst e; cases h
/-- a slot stored -/
theorem Rep.set (R : Rep C G H σ ρ) {s : S} {v : V} (i : Nat) (h : RV C G H σ ρ s v) : Rep C G H (σ.set i (some v)) (ρ.set i (some s)) := by
  have lt : ∀ {y : S}, (ρ.set i (some s))[i]? = some (some y) → i < σ.length := fun h => by rw [← R.len]; exact lt_of_set h
  refine ⟨by rw [List.length_set, List.length_set]; exact R.len, R.sub, R.g0, R.keep, R.new, R.bl, fun j d e => ?_, fun j s' e os => ?_, fun j k s1 s2 p ne e1 o1 e2 o2 z1 z2 => ?_⟩
  · rcases get_set e with ⟨rfl, e'⟩ | ⟨hj, e'⟩
    · cases s with
      | fz d' => cases e'; exact ⟨v, set_self_lt (lt e), h⟩
      | _ => cases e'
    · obtain ⟨u, h1, h2⟩ := R.fz j d e'
      exact ⟨u, by rw [set_at hj]; exact h1, h2⟩
  · rcases get_set e with ⟨rfl, rfl⟩ | ⟨hj, e'⟩
    · obtain ⟨p, rfl, h2, h3, h4, h5, h6⟩ := h.own os
      exact ⟨p, set_self_lt (lt e), h2, h3, .inl ⟨h4, fun z => by rw [h5] at z; cases z⟩⟩
    · obtain ⟨q, h1, h2⟩ := R.ow j s' e' os
      exact ⟨q, by rw [set_at hj]; exact h1, h2⟩
  · rcases get_set e1 with ⟨rfl, rfl⟩ | ⟨hj, e1'⟩
    · obtain ⟨q, rfl, h2, h3, h4, h5, h6⟩ := h.own o1
      rcases get_set e2 with ⟨rfl, rfl⟩ | ⟨hk, e2'⟩
      · exact ne rfl
      · rw [set_at hk] at z2
        rw [set_self_lt (lt e1)] at z1
        cases z1
        exact h6 k s2 e2' o2 z2
    · rw [set_at hj] at z1
      rcases get_set e2 with ⟨rfl, rfl⟩ | ⟨hk, e2'⟩
      · obtain ⟨q, rfl, h2, h3, h4, h5, h6⟩ := h.own o2
        rw [set_self_lt (lt e2)] at z2
        cases z2
        exact h6 j s1 e1' o1 z1
      · rw [set_at hk] at z2
        exact R.ap j k s1 s2 p ne e1' o1 e2' o2 z1 z2
/-- an own slot frozen where it stands -/
theorem Rep.freezeSlot (R : Rep C G H σ ρ) {i : Nat} {s : S} (e : ρ[i]? = some (some s)) (os : s.own = true) (nb : s.isBg = false) :
    ∃ G' v, Rep C G' H σ (ρ.set i (some (.fz s.toD))) ∧ Same G G' ∧ σ[i]? = some (some v) ∧ Dat G' s.toD v := by
  obtain ⟨p, h1, h2, h3, h4⟩ := R.ow i s e os
  have h0 : C.H0 p = none := by
    rcases h4 with h | ⟨_, h⟩
    · exact h.1
    · rw [nb] at h; cases h
  -- first forget the slot
  have R1 : Rep C G H σ (ρ.set i none) := by
    refine ⟨by rw [List.length_set]; exact R.len, R.sub, R.g0, R.keep, R.new, R.bl, fun j d e => ?_, fun j s' e os => ?_, fun j k s1 s2 p ne e1 o1 e2 o2 z1 z2 => ?_⟩
    · exact R.fz j d (get_setN e).2
    · exact R.ow j s' (get_setN e).2 os
    · exact R.ap j k s1 s2 p ne (get_setN e1).2 o1 (get_setN e2).2 o2 z1 z2
  have ha : ∀ (j : Nat) (s' : S), (ρ.set i none)[j]? = some (some s') → s'.own = true → σ[j]? ≠ some (some (.ref p)) := fun j s' e' o' z =>
    R.ap i j s s' p (fun q => (get_setN e').1 q.symm) e os (get_setN e').2 o' h1 z
  have rv : RV C G H σ (ρ.set i none) s (.ref p) := by
    cases s with
    | fz d => cases os
    | ow ds => exact ⟨p, rfl, h2, h3, h0, rfl, ha⟩
    | od ks ds => exact ⟨p, rfl, h2, h3, h0, rfl, ha⟩
    | bg ds => cases nb
  obtain ⟨G', R2, gs, hd⟩ := R1.freeze rv
  refine ⟨G', _, ?_, gs, h1, hd⟩
  have R3 := R2.set i (s := .fz s.toD) (v := .ref p) hd
  rw [List.set_set] at R3
  have es : σ.set i (some (.ref p)) = σ := by
    obtain ⟨hl, ee⟩ := List.getElem?_eq_some_iff.mp h1
    rw [← ee]; exact List.set_getElem_self hl
  rw [es] at R3
  exact R3
end
end L3

namespace L3
open PySem PySem.Spec PyProof.Rows L2

/-! ### readings over plain data -/
abbrev DE := En → (S → En → Prop) → Prop
abbrev DT := En → (Bool → En → Prop) → Prop
abbrev DA := En → (List D → En → Prop) → Prop
structure DEnds where
  nx : En → Prop
  bk : En → Prop := fun _ => False
  ct : En → Prop := fun _ => False
  rt : S → En → Prop
abbrev DS := DEnds → En → Prop

def Rf (C : FC) (te : TE) (t : DE) : Prop := ∀ (G H : Hp) (σ : L2.St) (ρ : En) (QD : S → En → Prop) (Q : VK), Rep C G H σ ρ → t ρ QD →
  (∀ v s G' H' ρ', Rep C G' H' σ ρ' → Same G G' → RV C G' H' σ ρ' s v → QD s ρ' → Q v H') → te σ H Q
def RfT (C : FC) (tt : TT) (t : DT) : Prop := ∀ (G H : Hp) (σ : L2.St) (ρ : En) (QD : Bool → En → Prop) (Q : Bool → Hp → Prop), Rep C G H σ ρ → t ρ QD →
  (∀ b G' H' ρ', Rep C G' H' σ ρ' → Same G G' → QD b ρ' → Q b H') → tt σ H Q
def RfA (C : FC) (ta : TA) (t : DA) : Prop := ∀ (G H : Hp) (σ : L2.St) (ρ : En) (QD : List D → En → Prop) (Q : List V → Hp → Prop), Rep C G H σ ρ → t ρ QD →
  (∀ vs ds G' H' ρ', Rep C G' H' σ ρ' → Same G G' → Dats G' ds vs → QD ds ρ' → Q vs H') → ta σ H Q
structure EndsOk (C : FC) (G : Hp) (DD : DEnds) (E : Ends) : Prop where
  nx : ∀ G' H' σ' ρ', Rep C G' H' σ' ρ' → Same G G' → DD.nx ρ' → E.nx σ' H'
  bk : ∀ G' H' σ' ρ', Rep C G' H' σ' ρ' → Same G G' → DD.bk ρ' → E.bk σ' H'
  ct : ∀ G' H' σ' ρ', Rep C G' H' σ' ρ' → Same G G' → DD.ct ρ' → E.ct σ' H'
  rt : ∀ v s G' H' σ' ρ', Rep C G' H' σ' ρ' → Same G G' → RV C G' H' σ' ρ' s v → DD.rt s ρ' → E.rt v H'
def RfS (C : FC) (ts : TS) (t : DS) : Prop := ∀ (G H : Hp) (σ : L2.St) (ρ : En) (DD : DEnds) (E : Ends), Rep C G H σ ρ → t DD ρ → EndsOk C G DD E → ts E σ H
theorem EndsOk.mono {C : FC} {G G' : Hp} {DD : DEnds} {E : Ends} (e : EndsOk C G DD E) (s : Same G G') : EndsOk C G' DD E :=
  ⟨fun _ _ _ _ R s' => e.nx _ _ _ _ R (s.trans s'), fun _ _ _ _ R s' => e.bk _ _ _ _ R (s.trans s'), fun _ _ _ _ R s' => e.ct _ _ _ _ R (s.trans s'), fun _ _ _ _ _ _ R s' => e.rt _ _ _ _ _ _ R (s.trans s')⟩

structure PV (X : Cx) (C : FC) (e : Expr) (te : TE) (t : DE) : Prop where
  pe : PE X e te
  rf : Rf C te t
structure PTV (X : Cx) (C : FC) (e : Expr) (tt : TT) (t : DT) : Prop where
  pe : PT X e tt
  rf : RfT C tt t
structure PAV (X : Cx) (C : FC) (es : List Expr) (ta : TA) (t : DA) : Prop where
  pe : PA X es ta
  rf : RfA C ta t
structure PSV (X : Cx) (C : FC) (st : Stmt) (ts : TS) (t : DS) : Prop where
  pe : PS X st ts
  rf : RfS C ts t
structure PSsV (X : Cx) (C : FC) (st : List Stmt) (ts : TS) (t : DS) : Prop where
  pe : PSs X st ts
  rf : RfS C ts t

section
variable {X : Cx} {C : FC}
/-- the value taken, frozen -/
theorem Rf.go {te : TE} {t : DE} (h : Rf C te t) {G H : Hp} {σ : L2.St} {ρ : En} {QD : D → En → Prop} {Q : VK} (R : Rep C G H σ ρ) (q : t ρ fun s ρ' => QD s.toD ρ')
    (k : ∀ v d G' H' ρ', Rep C G' H' σ ρ' → Same G G' → Dat G' d v → QD d ρ' → Q v H') : te σ H Q :=
  h G H σ ρ _ Q R q fun v s G' H' ρ' R' sm rv qd => by
    obtain ⟨G2, R2, s2, hd⟩ := R'.freeze rv
    exact k v s.toD G2 H' ρ' R2 (sm.trans s2) hd qd

theorem rvf {G H : Hp} {σ : L2.St} {ρ : En} {d : D} {v : V} (h : Dat G d v) : RV C G H σ ρ (.fz d) v := h
/-! ### names, constants -/
def xVar (i : Nat) : DE := fun ρ Q => match ρ[i]? with
  | some (some (.fz d)) => Q (.fz d) ρ
  | some (some (.ow ds)) => Q (.fz (.lst ds)) (ρ.set i (some (.fz (.lst ds))))
  | some (some (.od ks ds)) => Q (.fz (.dct ks ds)) (ρ.set i (some (.fz (.dct ks ds))))
  | _ => False
theorem rf_var (i : Nat) : Rf C (tVar i) (xVar i) := fun G H σ ρ QD Q R h k => by
  unfold xVar at h
  split at h
  · rename_i d e
    obtain ⟨v, h1, h2⟩ := R.fz i d e
    exact ⟨v, h1, k v _ G H ρ R (Same.refl G) (rvf h2) h⟩
  · rename_i ds e
    obtain ⟨G', v, R', sm, h1, h2⟩ := R.freezeSlot e rfl rfl
    exact ⟨v, h1, k v _ G' H _ R' sm (rvf h2) h⟩
  · rename_i ks ds e
    obtain ⟨G', v, R', sm, h1, h2⟩ := R.freezeSlot e rfl rfl
    exact ⟨v, h1, k v _ G' H _ R' sm (rvf h2) h⟩
  · exact h.elim
theorem dv (i : Nat) {x : Str} {pos : Pos} (hN : X.N[i]? = some x := by rfl) (hv : Vis X.env.scope x := by first | exact Or.inl rfl | exact Or.inr (Or.inl rfl) | exact Or.inr (Or.inr rfl)) (hd : (x == ("__debug__" : Str)) = false := by decide)
    (hcd : (x == ("__classdict__" : Str)) = false := by decide) : PV X C (.Name x pos) (tVar i) (xVar i) := ⟨pe_var hN hv hd hcd, rf_var i⟩
def xC (d : D) : DE := fun ρ Q => Q (.fz d) ρ
theorem rf_c {v : V} {d : D} (h : ∀ G, Dat G d v) : Rf C (tC v) (xC d) := fun G H σ ρ QD Q R q k => k v _ G H ρ R (Same.refl G) (rvf (h G)) q
theorem d_int {i j pos} : PV X C (.Constant (.int i) j pos) (tC (.int i)) (xC (.int i)) := ⟨pe_int, rf_c fun _ => rfl⟩
theorem d_bl {b j pos} : PV X C (.Constant (.bool b) j pos) (tC (.bl b)) (xC (.bl b)) := ⟨pe_bl, rf_c fun _ => rfl⟩
theorem d_non {j pos} : PV X C (.Constant .none j pos) (tC .non) (xC .non) := ⟨pe_non, rf_c fun _ => rfl⟩
theorem d_str {x j pos} : PV X C (.Constant (.str x) j pos) (tC (.str x)) (xC (.str x)) := ⟨pe_str, rf_c fun _ => rfl⟩
theorem d_globI {x : Str} {i : Int} {pos : Pos} (hg : Gl X x) (hm : ∃ t, X.mg x = some (.int i t)) (hd : (x == ("__debug__" : Str)) = false := by decide) : PV X C (.Name x pos) (tC (.int i)) (xC (.int i)) :=
  ⟨let ⟨t, hm⟩ := hm; pe_glob hg hm ⟨t, rfl⟩ hd, rf_c fun _ => rfl⟩

/-! ### arguments, displays -/
def xNil : DA := fun ρ Q => Q [] ρ
def xCons (t : DE) (u : DA) : DA := fun ρ Q => t ρ fun s ρ1 => u ρ1 fun ds ρ2 => Q (s.toD :: ds) ρ2
theorem da_nil : PAV X C [] tNil xNil := ⟨pa_nil, fun G H σ ρ QD Q R q k => k [] [] G H ρ R (Same.refl G) rfl q⟩
theorem rf_cons {te : TE} {ta : TA} {t : DE} {u : DA} (h1 : Rf C te t) (h2 : RfA C ta u) : RfA C (tCons te ta) (xCons t u) := fun G H σ ρ QD Q R q k =>
  h1.go (QD := fun d ρ1 => u ρ1 fun ds ρ2 => QD (d :: ds) ρ2) R q fun v d G1 H1 ρ1 R1 s1 hd q1 =>
    h2 G1 H1 σ ρ1 _ _ R1 q1 fun vs ds G2 H2 ρ2 R2 s2 hds q2 => k (v :: vs) (d :: ds) G2 H2 ρ2 R2 (s1.trans s2) (.cons (Dat.mono s2 d v hd) hds) q2
theorem da_cons {e : Expr} {es : List Expr} {te : TE} {ta : TA} {t : DE} {u : DA} (h1 : PV X C e te t) (h2 : PAV X C es ta u) (hs : starEach (e :: es) X.env = (false, eval e X.env) :: starEach es X.env := by rfl) : PAV X C (e :: es) (tCons te ta) (xCons t u) :=
  ⟨pa_cons h1.pe h2.pe hs, rf_cons h1.rf h2.rf⟩
def xTup (t : DA) : DE := fun ρ Q => t ρ fun ds ρ1 => ds.length ≤ 100000 ∧ Q (.fz (.tup ds)) ρ1
def xLst (t : DA) : DE := fun ρ Q => t ρ fun ds ρ1 => ds.length ≤ 100000 ∧ Q (.ow ds) ρ1
theorem line5 {n : Nat} (h : n ≤ 100000) : n ≤ sizeLine := Nat.le_trans h (by decide)
theorem Rep.resT {G H : Hp} {σ : L2.St} {ρ : En} (R : Rep C G H σ ρ) {p : Addr} {vs : List V} {ds : List D} (hp : H p = none) (hd : Dats G ds vs) : Rep C (upd G p (.tup vs)) (upd H p (.tup vs)) σ ρ ∧ Same G (upd G p (.tup vs)) ∧ RV C (upd G p (.tup vs)) (upd H p (.tup vs)) σ ρ (.fz (.tup ds)) (.ref p) :=
  have gs : Same G (upd G p (.tup vs)) := Same.new (R.gn hp)
  ⟨R.newFz hp, gs, p, vs, rfl, upd_same, Dats.mono gs _ _ hd⟩
theorem rf_tup {ta : TA} {u : DA} (h : RfA C ta u) : Rf C (tTup ta) (xTup u) := fun G H σ ρ QD Q R q k =>
  h G H σ ρ _ _ R q fun vs ds G1 H1 ρ1 R1 s1 hd ⟨hl, q1⟩ => ⟨by rw [← hd.length]; exact line5 hl, fun p hp => by
    obtain ⟨R2, gs, rv⟩ := R1.resT hp hd
    exact k _ _ _ _ _ R2 (s1.trans gs) rv q1⟩
theorem rf_lst {ta : TA} {u : DA} (h : RfA C ta u) : Rf C (tLst ta) (xLst u) := fun G H σ ρ QD Q R q k =>
  h G H σ ρ _ _ R q fun vs ds G1 H1 ρ1 R1 s1 hd ⟨hl, q1⟩ => ⟨by rw [← hd.length]; exact line5 hl, fun p hp => by
    obtain ⟨R2, rv⟩ := R1.resL hp hd
    exact k _ _ _ _ _ R2 s1 rv q1⟩
theorem d_tup {es : List Expr} {x1} {pos : Pos} {ta : TA} {u : DA} (h : PAV X C es ta u) : PV X C (.Tuple es x1 pos) (tTup ta) (xTup u) := ⟨pe_tup h.pe, rf_tup h.rf⟩
theorem d_lst {es : List Expr} {pos : Pos} {ta : TA} {u : DA} (h : PAV X C es ta u) : PV X C (.List es pos) (tLst ta) (xLst u) := ⟨pe_lst h.pe, rf_lst h.rf⟩

/-! ### operators -/
abbrev DO1 := D → (S → Prop) → Prop
abbrev DO2 := D → D → (S → Prop) → Prop
def RfO (C : FC) (r : R2) (rd : DO2) : Prop := ∀ (G H : Hp) (σ : L2.St) (ρ : En) (x y : V) (dx dy : D) (QD : S → Prop) (Q : VK), Rep C G H σ ρ → Dat G dx x → Dat G dy y → rd dx dy QD →
  (∀ v s G' H', Rep C G' H' σ ρ → Same G G' → RV C G' H' σ ρ s v → QD s → Q v H') → r x y H Q
def xOp (rd : DO2) (a b : DE) : DE := fun ρ Q => a ρ fun s ρ1 => b ρ1 fun s' ρ2 => rd s.toD s'.toD fun z => Q z ρ2
theorem rf_op {r : R2} {rd : DO2} {ta tb : TE} {a b : DE} (ho : RfO C r rd) (ha : Rf C ta a) (hb : Rf C tb b) : Rf C (tOp r ta tb) (xOp rd a b) := fun G H σ ρ QD Q R q k =>
  ha.go (QD := fun d ρ1 => b ρ1 fun s' ρ2 => rd d s'.toD fun z => QD z ρ2) R q fun v d G1 H1 ρ1 R1 s1 hd q1 =>
    hb.go (QD := fun d' ρ2 => rd d d' fun z => QD z ρ2) R1 q1 fun v' d' G2 H2 ρ2 R2 s2 hd' q2 =>
      ho G2 H2 σ ρ2 v v' d d' _ Q R2 (Dat.mono s2 d v hd) hd' q2 fun z s G3 H3 R3 s3 rv q3 => k z s G3 H3 ρ2 R3 ((s1.trans s2).trans s3) rv q3
theorem RfO.or {r r' : R2} {rd rd' : DO2} (h : RfO C r rd) (h' : RfO C r' rd') : RfO C (fun x y H Q => r x y H Q ∨ r' x y H Q) (fun x y Q => rd x y Q ∨ rd' x y Q) := fun G H σ ρ x y dx dy QD Q R hx hy q k => by
  rcases q with q | q
  · exact .inl (h G H σ ρ x y dx dy QD Q R hx hy q k)
  · exact .inr (h' G H σ ρ x y dx dy QD Q R hx hy q k)
theorem RfO.imp {r : R2} {rd rd' : DO2} (h : RfO C r rd) (i : ∀ x y Q, rd' x y Q → rd x y Q) : RfO C r rd' := fun G H σ ρ x y dx dy QD Q R hx hy q k => h G H σ ρ x y dx dy QD Q R hx hy (i _ _ _ q) k
structure OV (X : Cx) (C : FC) (f : Value → Value → Sem Value) (r : R2) (rd : DO2) : Prop where
  op : OpR X f r
  rf : RfO C r rd
theorem d_op {op : Operator} {r : R2} {rd : DO2} {e1 e2 : Expr} {ta tb : TE} {a b : DE} {pos : Pos} (ho : OV X C (binaryOp op) r rd) (ha : PV X C e1 ta a) (hb : PV X C e2 tb b) : PV X C (.BinOp e1 op e2 pos) (tOp r ta tb) (xOp rd a b) :=
  ⟨pe_op ho.op ha.pe hb.pe, rf_op ho.rf ha.rf hb.rf⟩
theorem d_cmp {op : CmpOp} {r : R2} {rd : DO2} {e1 e2 : Expr} {ta tb : TE} {a b : DE} {pos : Pos} (ho : OV X C (compareOp op) r rd) (ha : PV X C e1 ta a) (hb : PV X C e2 tb b) (hm : behindInMarks op e2 = false := by first | exact nomark _ | rfl) : PV X C (.Compare e1 [op] [e2] pos) (tOp r ta tb) (xOp rd a b) :=
  ⟨pe_cmpR ho.op ha.pe hb.pe hm, rf_op ho.rf ha.rf hb.rf⟩
/-- two ints -/
def xII (c : Int → Int → Prop) (f : Int → Int → D) : DO2 := fun x y Q => match x, y with
  | .int i, .int j => c i j ∧ Q (.fz (f i j))
  | _, _ => False
theorem rf_II {c : Int → Int → Prop} {g : Int → Int → V} {f : Int → Int → D} (h : ∀ G i j, Dat G (f i j) (g i j)) : RfO C (rI c g) (xII c f) := fun G H σ ρ x y dx dy QD Q R hx hy q k => by
  unfold xII at q
  split at q
  · rename_i i j
    cases (show x = _ from hx)
    cases (show y = _ from hy)
    exact ⟨i, j, rfl, rfl, q.1, k _ _ G H R (Same.refl G) (rvf (h G i j)) q.2⟩
  · exact q.elim
def xII0 (f : Int → Int → D) : DO2 := fun x y Q => match x, y with
  | .int i, .int j => Q (.fz (f i j))
  | _, _ => False
theorem rf_II0 {g : Int → Int → V} {f : Int → Int → D} (h : ∀ G i j, Dat G (f i j) (g i j)) : RfO C (rI0 g) (xII0 f) := fun G H σ ρ x y dx dy QD Q R hx hy q k => by
  unfold xII0 at q
  split at q
  · rename_i i j
    cases (show x = _ from hx)
    cases (show y = _ from hy)
    exact ⟨i, j, rfl, rfl, k _ _ G H R (Same.refl G) (rvf (h G i j)) q⟩
  · exact q.elim
def xAdd : DO2 := fun x y Q => match x, y with
  | .int i, .int j => Q (.fz (.int (i + j)))
  | .lst xs, .lst ys => xs.length + ys.length ≤ 100000 ∧ Q (.ow (xs ++ ys))
  | .tup xs, .tup ys => xs.length + ys.length ≤ 100000 ∧ Q (.fz (.tup (xs ++ ys)))
  | _, _ => False
theorem o_add : OV X C (binaryOp .Add) (fun x y H Q => rI0 (fun i j => .int (i + j)) x y H Q ∨ rCat x y H Q ∨ rCatA X.K x y H Q) xAdd := by
  refine ⟨op_add.or (op_cat.or op_catA), fun G H σ ρ x y dx dy QD Q R hx hy q k => ?_⟩
  unfold xAdd at q
  split at q
  · rename_i i j
    cases (show x = _ from hx)
    cases (show y = _ from hy)
    exact .inl ⟨i, j, rfl, rfl, k _ _ G H R (Same.refl G) (rvf (d := .int (i + j)) rfl) q⟩
  · rename_i xs ys
    obtain ⟨a, vs, rfl, h1, h2⟩ := hx
    obtain ⟨b, us, rfl, h3, h4⟩ := hy
    refine .inr (.inl ⟨a, b, vs, us, rfl, rfl, R.sub _ _ h1, R.sub _ _ h3, ?_, fun p hp => ?_⟩)
    · rw [← h2.length, ← h4.length]; exact line5 q.1
    · obtain ⟨R2, rv⟩ := R.resL hp (h2.append h4)
      exact k _ _ _ _ R2 (Same.refl G) rv q.2
  · rename_i xs ys
    obtain ⟨a, vs, rfl, h1, h2⟩ := hx
    obtain ⟨b, us, rfl, h3, h4⟩ := hy
    refine .inr (.inr ⟨a, b, vs, us, rfl, rfl, SqT.of (R.sub _ _ h1), SqT.of (R.sub _ _ h3), ?_, ?_⟩)
    · rw [← h2.length, ← h4.length]; exact line5 q.1
    · refine ⟨fun e => ?_, fun _ e => ?_, fun _ _ p hp => ?_⟩
      · subst e
        have ex : xs = [] := List.eq_nil_of_length_eq_zero h2.length
        subst ex
        exact k _ _ G H R (Same.refl G) (rvf (d := .tup ys) ⟨b, us, rfl, h3, h4⟩) q.2
      · subst e
        have ex : ys = [] := List.eq_nil_of_length_eq_zero h4.length
        subst ex
        rw [List.append_nil] at q
        exact k _ _ G H R (Same.refl G) (rvf (d := .tup xs) ⟨a, vs, rfl, h1, h2⟩) q.2
      · obtain ⟨R2, gs, rv⟩ := R.resT hp (h2.append h4)
        exact k _ _ _ _ R2 gs rv q.2
  · exact q.elim
end
end L3

namespace L3
open PySem PySem.Spec PyProof.Rows L2

/-! ### plain data as the library's -/
mutual
def toP : D → PyData
  | .non => .none
  | .bl b => .bool b
  | .int i => .int i
  | .str x => .str x
  | .lst ds => .list (toPs ds)
  | .tup ds => .tuple (toPs ds)
  | .dct _ _ => .none
def toPs : List D → List PyData
  | [] => []
  | d :: ds => toP d :: toPs ds
end
mutual
def okD : Nat → D → Bool
  | _, .non => true
  | _, .bl _ => true
  | _, .int _ => true
  | _, .str x => PyData.strOk x
  | 0, .lst _ => false
  | 0, .tup _ => false
  | n + 1, .lst ds => okDs n ds
  | n + 1, .tup ds => okDs n ds
  | _, .dct _ _ => false
def okDs : Nat → List D → Bool
  | _, [] => true
  | n, d :: ds => okD n d && okDs n ds
end
mutual
theorem okD.dp {K : PySem.W.Frag} {G H : Hp} (sm : Same G H) : ∀ (n : Nat) (d : D) (v : V), okD n d = true → Dat G d v → Dp K H v (toP d)
  | _, .non, _, _, h => by cases (show _ = _ from h); exact .non
  | _, .bl b, _, _, h => by cases (show _ = _ from h); exact .bl b
  | _, .int i, _, _, h => by cases (show _ = _ from h); exact .int i
  | _, .str x, _, _, h => by cases (show _ = _ from h); exact .str x
  | n + 1, .lst ds, _, o, ⟨a, vs, h1, h2, h3⟩ => by
    subst h1
    exact .lst (SqL.of (sm _ _ h2)) (okDs.dp sm n ds vs (by simpa [okD] using o) h3)
  | n + 1, .tup ds, _, o, ⟨a, vs, h1, h2, h3⟩ => by
    subst h1
    exact .tup (SqT.of (sm _ _ h2)) (okDs.dp sm n ds vs (by simpa [okD] using o) h3)
  | 0, .lst _, _, o, _ => by simp [okD] at o
  | 0, .tup _, _, o, _ => by simp [okD] at o
  | _, .dct _ _, _, o, _ => by simp [okD] at o
theorem okDs.dp {K : PySem.W.Frag} {G H : Hp} (sm : Same G H) : ∀ (n : Nat) (ds : List D) (vs : List V), okDs n ds = true → Dats G ds vs → DpAll K H vs (toPs ds)
  | _, [], _, _, h => by cases (show _ = _ from h); exact .nil
  | n, d :: ds, _, o, ⟨v, r, h1, h2, h3⟩ => by
    subst h1
    simp only [okDs, Bool.and_eq_true] at o
    exact .cons (okD.dp sm n d v o.1 h2) (okDs.dp sm n ds r o.2 h3)
end
mutual
theorem okD.lay : ∀ (n : Nat) (d : D), okD n d = true → (toP d).canLay0 = true ∧ (toP d).depth ≤ n
  | n, .non, _ => by simp [toP, PyData.canLay0, PyData.depth]
  | n, .bl _, _ => by simp [toP, PyData.canLay0, PyData.depth]
  | n, .int _, _ => by simp [toP, PyData.canLay0, PyData.depth]
  | n, .str x, o => by simpa [toP, PyData.canLay0, PyData.depth, okD] using o
  | n + 1, .lst ds, o => by
    obtain ⟨a, b⟩ := okDs.lay n ds (by simpa [okD] using o)
    simp only [toP, PyData.canLay0, PyData.depth]
    exact ⟨a, by omega⟩
  | n + 1, .tup ds, o => by
    obtain ⟨a, b⟩ := okDs.lay n ds (by simpa [okD] using o)
    simp only [toP, PyData.canLay0, PyData.depth]
    exact ⟨a, by omega⟩
  | 0, .lst _, o => by simp [okD] at o
  | 0, .tup _, o => by simp [okD] at o
  | _, .dct _ _, o => by simp [okD] at o
theorem okDs.lay : ∀ (n : Nat) (ds : List D), okDs n ds = true → PyData.canLayAll0 (toPs ds) = true ∧ PyData.depthAll (toPs ds) ≤ n
  | n, [], _ => by simp [toPs, PyData.canLayAll0, PyData.depthAll]
  | n, d :: ds, o => by
    simp only [okDs, Bool.and_eq_true] at o
    obtain ⟨a, b⟩ := okD.lay n d o.1
    obtain ⟨c, e⟩ := okDs.lay n ds o.2
    simp only [toPs, PyData.canLayAll0, PyData.depthAll, a, c, Bool.and_self, true_and]
    omega
end
theorem okD.shaped {d : D} (o : okD 8 d = true) : SeqAt.shaped (toP d) = true := by
  obtain ⟨a, b⟩ := okD.lay 8 d o
  unfold SeqAt.shaped
  rw [a, Bool.true_and]
  exact decide_eq_true (by omega)
/-- equality as Python has it -/
def eqD (x y : D) : Bool := PyData.eqv (toP x) (toP y)
theorem okD_ints : ∀ (n : Nat) (ns : List Int), okDs n (ns.map D.int) = true
  | _, [] => rfl
  | n, x :: ns => by
    rw [List.map_cons]
    simp only [okDs, okD, Bool.true_and]
    exact okD_ints n ns
theorem eqv_ints : ∀ (ns ms : List Int), PyData.eqvAll (toPs (ns.map D.int)) (toPs (ms.map D.int)) = decide (ns = ms)
  | [], [] => rfl
  | [], _ :: _ => rfl
  | _ :: _, [] => rfl
  | x :: ns, y :: ms => by
    simp only [List.map_cons, toPs, toP, PyData.eqvAll, PyData.eqv, eqv_ints ns ms, List.cons.injEq]
    by_cases h : x = y
    · subst h; simp
    · simp [h]
theorem eqD_tup_ints (ns ms : List Int) : eqD (.tup (ns.map D.int)) (.tup (ms.map D.int)) = decide (ns = ms) := by
  simp only [eqD, toP, PyData.eqv]
  exact eqv_ints ns ms
theorem eqD_lst_ints (ns ms : List Int) : eqD (.lst (ns.map D.int)) (.lst (ms.map D.int)) = decide (ns = ms) := by
  simp only [eqD, toP, PyData.eqv]
  exact eqv_ints ns ms
theorem eqD_int (i j : Int) : eqD (.int i) (.int j) = decide (i = j) := by
  simp only [eqD, toP, PyData.eqv]
  by_cases h : i = j
  · subst h; simp
  · simp [h]

section
variable {X : Cx} {C : FC}
def xEq : DO2 := fun x y Q => okD 8 x = true ∧ okD 8 y = true ∧ Q (.fz (.bl (eqD x y)))
def xNe : DO2 := fun x y Q => okD 8 x = true ∧ okD 8 y = true ∧ Q (.fz (.bl (!eqD x y)))
theorem o_eq (hu : X.A.units + 64 < cLine) : OV X C (compareOp .Eq) (rEqD X.K) xEq := ⟨op_eqD hu, fun G H σ ρ x y dx dy QD Q R hx hy ⟨h1, h2, q⟩ k =>
  ⟨toP dx, toP dy, okD.dp R.sub 8 _ _ h1 hx, okD.dp R.sub 8 _ _ h2 hy, okD.shaped h1, okD.shaped h2, k _ _ G H R (Same.refl G) (rvf (d := .bl _) rfl) q⟩⟩
theorem o_ne (hu : X.A.units + 64 < cLine) : OV X C (compareOp .NotEq) (rNeD X.K) xNe := ⟨op_neD hu, fun G H σ ρ x y dx dy QD Q R hx hy ⟨h1, h2, q⟩ k =>
  ⟨toP dx, toP dy, okD.dp R.sub 8 _ _ h1 hx, okD.dp R.sub 8 _ _ h2 hy, okD.shaped h1, okD.shaped h2, k _ _ G H R (Same.refl G) (rvf (d := .bl _) rfl) q⟩⟩
theorem o_lt : OV X C (compareOp .Lt) (rI0 fun i j => .bl (decide (i < j))) (xII0 fun i j => .bl (decide (i < j))) := ⟨op_lt, rf_II0 fun _ _ _ => rfl⟩
theorem o_le : OV X C (compareOp .LtE) (rI0 fun i j => .bl (decide (i ≤ j))) (xII0 fun i j => .bl (decide (i ≤ j))) := ⟨op_le, rf_II0 fun _ _ _ => rfl⟩
theorem o_gt : OV X C (compareOp .Gt) (rI0 fun i j => .bl (decide (j < i))) (xII0 fun i j => .bl (decide (j < i))) := ⟨op_gt, rf_II0 fun _ _ _ => rfl⟩
theorem o_ge : OV X C (compareOp .GtE) (rI0 fun i j => .bl (decide (j ≤ i))) (xII0 fun i j => .bl (decide (j ≤ i))) := ⟨op_ge, rf_II0 fun _ _ _ => rfl⟩
theorem o_sub : OV X C (binaryOp .Sub) (rI0 fun i j => .int (i - j)) (xII0 fun i j => .int (i - j)) := ⟨op_sub, rf_II0 fun _ _ _ => rfl⟩
/-- % by a positive number -/
theorem o_mod : OV X C (binaryOp .Mod) (rI (fun _ j => 0 < j) fun i j => .int (i % j)) (xII (fun _ j => 0 < j) fun i j => .int (i % j)) := ⟨op_mod, rf_II fun _ _ _ => rfl⟩
theorem o_div : OV X C (binaryOp .FloorDiv) (rI CDivW fun i j => .int (i / j)) (xII CDivW fun i j => .int (i / j)) := ⟨op_fdivW, rf_II fun _ _ _ => rfl⟩
theorem o_pow : OV X C (binaryOp .Pow) (rI CPow fun i j => .int (i ^ j.toNat)) (xII CPow fun i j => .int (i ^ j.toNat)) := ⟨op_pow, rf_II fun _ _ _ => rfl⟩
def xMul : DO2 := fun x y Q => match x, y with
  | .int i, .int j => CMulW i j ∧ Q (.fz (.int (i * j)))
  | .lst xs, .int k => xs.length * k.toNat ≤ 100000 ∧ k < 100000 ∧ -100000 < k ∧ Q (.ow (List.replicate k.toNat xs).flatten)
  | .tup xs, .int k => xs ≠ [] ∧ 2 ≤ k ∧ k ≤ 1000 ∧ xs.length ≤ 1000 ∧ Q (.fz (.tup (List.replicate k.toNat xs).flatten))
  | _, _ => False
theorem o_mul : OV X C (binaryOp .Mult) (fun x y H Q => rI CMulW (fun i j => .int (i * j)) x y H Q ∨ rRep x y H Q ∨ rRepT X.K x y H Q) xMul := by
  refine ⟨op_mulW.or (op_rep.or op_repT), fun G H σ ρ x y dx dy QD Q R hx hy q k => ?_⟩
  unfold xMul at q
  split at q
  · rename_i i j
    cases (show x = _ from hx)
    cases (show y = _ from hy)
    exact .inl ⟨i, j, rfl, rfl, q.1, k _ _ G H R (Same.refl G) (rvf (d := .int (i * j)) rfl) q.2⟩
  · rename_i xs i
    obtain ⟨a, vs, rfl, h1, h2⟩ := hx
    cases (show y = _ from hy)
    refine .inr (.inl ⟨a, i, vs, rfl, rfl, R.sub _ _ h1, by omega, by omega, ?_, fun p hp => ?_⟩)
    · rw [← h2.length]; exact line5 q.1
    · obtain ⟨R2, rv⟩ := R.resL hp (h2.rep i.toNat)
      exact k _ _ _ _ R2 (Same.refl G) rv q.2.2.2
  · rename_i xs i
    obtain ⟨a, vs, rfl, h1, h2⟩ := hx
    cases (show y = _ from hy)
    obtain ⟨q1, q2, q3, q4, q5⟩ := q
    refine .inr (.inr ⟨a, i, vs, rfl, rfl, SqT.of (R.sub _ _ h1), fun e => q1 ?_, q2, q3, by rw [← h2.length]; exact q4, fun p hp => ?_⟩)
    · subst e; exact List.eq_nil_of_length_eq_zero h2.length
    · obtain ⟨R2, gs, rv⟩ := R.resT hp (h2.rep i.toNat)
      exact k _ _ _ _ R2 gs rv q5
  · exact q.elim
def isNonD : D → Bool
  | .non => true
  | _ => false
theorem isNon_of {G : Hp} {d : D} {v : V} (h : Dat G d v) : decide (v = V.non) = isNonD d := by
  cases d with
  | non => cases (show v = _ from h); rfl
  | bl b => cases (show v = _ from h); rfl
  | int i => cases (show v = _ from h); rfl
  | str x => cases (show v = _ from h); rfl
  | lst ds => obtain ⟨a, vs, rfl, _⟩ := h; rfl
  | tup ds => obtain ⟨a, vs, rfl, _⟩ := h; rfl
  | dct ks ds => obtain ⟨a, vs, rfl, _⟩ := h; rfl
def xIsN : DO2 := fun x y Q => match y with
  | .non => Q (.fz (.bl (isNonD x)))
  | _ => False
def xNotN : DO2 := fun x y Q => match y with
  | .non => Q (.fz (.bl (!isNonD x)))
  | _ => False
theorem o_isN : OV X C (compareOp .Is) (fun x y H Q => y = .non ∧ Q (.bl (decide (x = .non))) H) xIsN := ⟨op_isN, fun G H σ ρ x y dx dy QD Q R hx hy q k => by
  unfold xIsN at q
  split at q
  · cases (show y = _ from hy)
    refine ⟨rfl, ?_⟩
    rw [isNon_of hx]
    exact k _ _ G H R (Same.refl G) (rvf (d := .bl _) rfl) q
  · exact q.elim⟩
theorem o_notN : OV X C (compareOp .IsNot) (fun x y H Q => y = .non ∧ Q (.bl (!decide (x = .non))) H) xNotN := ⟨op_notN, fun G H σ ρ x y dx dy QD Q R hx hy q k => by
  unfold xNotN at q
  split at q
  · cases (show y = _ from hy)
    refine ⟨rfl, ?_⟩
    rw [isNon_of hx]
    exact k _ _ G H R (Same.refl G) (rvf (d := .bl _) rfl) q
  · exact q.elim⟩
/-- in, not in: ints in a list, a tuple of ints -/
theorem inV_ints (i : Int) : ∀ ns : List Int, inV (.int i) (ns.map V.int) = decide (i ∈ ns)
  | [] => rfl
  | n :: ns => by
    have ih := inV_ints i ns
    unfold inV at ih ⊢
    rw [List.map_cons, List.any_cons, ih]
    have e : eqV (.int n) (.int i) = decide (i = n) := by
      simp only [eqV]
      by_cases h : i = n
      · subst h; simp
      · simp [h, Ne.symm h]
    rw [e]
    by_cases h1 : i = n <;> by_cases h2 : i ∈ ns <;> simp [h1, h2]
theorem flat_ints : ∀ ns : List Int, (ns.map V.int).all flatV = true
  | [] => rfl
  | n :: ns => by rw [List.map_cons, List.all_cons, flat_ints ns]; rfl
def xIn (neg : Bool) : DO2 := fun x y Q => ∃ (i : Int) (ns : List Int), x = .int i ∧ (y = .lst (ns.map D.int) ∨ y = .tup (ns.map D.int)) ∧ Q (.fz (.bl (if neg then !decide (i ∈ ns) else decide (i ∈ ns))))
theorem rf_in (K : PySem.W.Frag) (neg : Bool) : RfO C (rIn K neg) (xIn neg) := fun G H σ ρ x y dx dy QD Q R hx hy q k => by
  obtain ⟨i, ns, rfl, hd, q⟩ := q
  cases (show x = _ from hx)
  rcases hd with rfl | rfl
  · obtain ⟨a, vs, rfl, h1, h2⟩ := hy
    cases h2.ints
    refine ⟨a, _, rfl, .inl (SqL.of (R.sub _ _ h1)), rfl, flat_ints ns, ?_⟩
    rw [inV_ints]
    exact k _ _ G H R (Same.refl G) (rvf (d := .bl _) rfl) q
  · obtain ⟨a, vs, rfl, h1, h2⟩ := hy
    cases h2.ints
    refine ⟨a, _, rfl, .inr (SqT.of (R.sub _ _ h1)), rfl, flat_ints ns, ?_⟩
    rw [inV_ints]
    exact k _ _ G H R (Same.refl G) (rvf (d := .bl _) rfl) q
theorem o_in : OV X C (compareOp .In) (rIn X.K false) (xIn false) := ⟨op_in_seq, rf_in _ _⟩
theorem o_notIn : OV X C (compareOp .NotIn) (rIn X.K true) (xIn true) := ⟨op_notIn_seq, rf_in _ _⟩
/-- -a -/
def xNeg : DO1 := fun x Q => match x with
  | .int i => Q (.fz (.int (-i)))
  | _ => False
def xUn (rd : DO1) (a : DE) : DE := fun ρ Q => a ρ fun s ρ1 => rd s.toD fun z => Q z ρ1
theorem d_neg {e : Expr} {te : TE} {t : DE} {pos : Pos} (h : PV X C e te t) : PV X C (.UnaryOp .USub e pos) (tUn (rU fun i => .int (-i)) te) (xUn xNeg t) := ⟨pe_un un_neg h.pe, fun G H σ ρ QD Q R q k =>
  h.rf.go (QD := fun d ρ1 => xNeg d fun z => QD z ρ1) R q fun v d G1 H1 ρ1 R1 s1 hd q1 => by
    unfold xNeg at q1
    split at q1
    · rename_i i
      exact ⟨i, hd, k _ _ G1 H1 ρ1 R1 s1 (rvf (d := .int (-i)) rfl) q1⟩
    · exact q1.elim⟩

/-! ### subscripts, slices -/
theorem atI_len {α β : Type} {xs : List α} {ys : List β} {i : Int} {x : α} (hl : xs.length = ys.length) (h : atI xs i = some x) : ∃ j, ixN ys.length i = some j ∧ xs[j]? = some x := by
  unfold atI at h
  cases e : ixN xs.length i with
  | none => rw [e] at h; cases h
  | some j => rw [e] at h; exact ⟨j, by rw [← hl]; exact e, h⟩
theorem Dats.atI {G : Hp} {ds : List D} {vs : List V} {i : Int} {d : D} (h : Dats G ds vs) (e : atI ds i = some d) : ∃ v, L2.atI vs i = some v ∧ Dat G d v := by
  obtain ⟨j, h1, h2⟩ := atI_len h.length e
  obtain ⟨v, h3, h4⟩ := h.get h2
  exact ⟨v, by unfold L2.atI; rw [h1]; exact h3, h4⟩
def xIx : DO2 := fun x y Q => match x, y with
  | .lst ds, .int i => ∃ d, atI ds i = some d ∧ Q (.fz d)
  | .tup ds, .int i => ∃ d, atI ds i = some d ∧ Q (.fz d)
  | _, _ => False
theorem rf_ix (K : PySem.W.Frag) : RfO C (rIx K) xIx := fun G H σ ρ x y dx dy QD Q R hx hy q k => by
  unfold xIx at q
  split at q
  · rename_i ds i
    obtain ⟨d, e, q⟩ := q
    obtain ⟨a, vs, rfl, h1, h2⟩ := hx
    cases (show y = _ from hy)
    obtain ⟨v, h3, h4⟩ := h2.atI e
    exact .inl ⟨a, vs, i, v, rfl, rfl, SqL.of (R.sub _ _ h1), h3, k _ _ G H R (Same.refl G) (rvf h4) q⟩
  · rename_i ds i
    obtain ⟨d, e, q⟩ := q
    obtain ⟨a, vs, rfl, h1, h2⟩ := hx
    cases (show y = _ from hy)
    obtain ⟨v, h3, h4⟩ := h2.atI e
    exact .inr (.inl ⟨a, vs, i, v, rfl, rfl, SqT.of (R.sub _ _ h1), h3, k _ _ G H R (Same.refl G) (rvf h4) q⟩)
  · exact q.elim
theorem d_ix {a b : Expr} {ta tb : TE} {da db : DE} {pos : Pos} (ha : PV X C a ta da) (hb : PV X C b tb db) (hs : PlainIx b := by exact fun _ _ => rfl) : PV X C (.Subscript a b pos) (tOp (rIx X.K) ta tb) (xOp xIx da db) :=
  ⟨pe_ix ix_seq ha.pe hb.pe hs, rf_op (rf_ix _) ha.rf hb.rf⟩
/-- of an own slot, that stays -/
def xIxO (i : Nat) (b : DE) : DE := fun ρ Q => b ρ fun s ρ1 => ∃ ds k d, (ρ1[i]? = some (some (.ow ds)) ∨ ρ1[i]? = some (some (.bg ds))) ∧ s.toD = .int k ∧ atI ds k = some d ∧ Q (.fz d) ρ1
def isOwn (ρ : En) (i : Nat) : Prop := ∃ s, ρ[i]? = some (some s) ∧ s.own = true
theorem rf_ixO {K : PySem.W.Frag} {i : Nat} {tb : TE} {db : DE} (hb : Rf C tb db) : Rf C (tOp (rIx K) (tVar i) tb) (fun ρ Q => isOwn ρ i ∧ xIxO i db ρ Q) := fun G H σ ρ QD Q R ⟨⟨s0, e0, o0⟩, q⟩ k => by
  obtain ⟨p, h1, _⟩ := R.ow i s0 e0 o0
  refine ⟨.ref p, h1, hb.go (QD := fun d' ρ1 => ∃ ds k d, (ρ1[i]? = some (some (.ow ds)) ∨ ρ1[i]? = some (some (.bg ds))) ∧ d' = .int k ∧ atI ds k = some d ∧ QD (.fz d) ρ1) R q fun v d' G1 H1 ρ1 R1 s1 hd q1 => ?_⟩
  obtain ⟨ds, n, d, hs, rfl, e, q2⟩ := q1
  cases (show v = _ from hd)
  have : ∃ vs, H1 p = some (.lst vs) ∧ Dats G1 ds vs := by
    rcases hs with hs | hs
    · obtain ⟨p', h1', ⟨vs, h2, h3⟩, _⟩ := R1.ow i _ hs rfl
      rw [h1] at h1'; cases h1'
      exact ⟨vs, h2, h3⟩
    · obtain ⟨p', h1', ⟨vs, h2, h3⟩, _⟩ := R1.ow i _ hs rfl
      rw [h1] at h1'; cases h1'
      exact ⟨vs, h2, h3⟩
  obtain ⟨vs, h2, h3⟩ := this
  obtain ⟨u, h4, h5⟩ := h3.atI e
  exact .inl ⟨p, vs, n, u, rfl, rfl, SqL.of h2, h4, k _ _ G1 H1 ρ1 R1 s1 (rvf h5) q2⟩
theorem d_ixO (i : Nat) {x : Str} {b : Expr} {tb : TE} {db : DE} {p pos : Pos} (hb : PV X C b tb db) (hs : PlainIx b := by exact fun _ _ => rfl) (hN : X.N[i]? = some x := by rfl) (hv : Vis X.env.scope x := by first | exact Or.inl rfl | exact Or.inr (Or.inl rfl) | exact Or.inr (Or.inr rfl))
    (hd : (x == ("__debug__" : Str)) = false := by decide) (hcd : (x == ("__classdict__" : Str)) = false := by decide) : PV X C (.Subscript (.Name x p) b pos) (tOp (rIx X.K) (tVar i) tb) (fun ρ Q => isOwn ρ i ∧ xIxO i db ρ Q) :=
  ⟨pe_ix ix_seq (pe_var hN hv hd hcd) hb.pe hs, rf_ixO hb.rf⟩
abbrev DO := En → (Option Int → En → Prop) → Prop
def RfP (C : FC) (to : TO) (t : DO) : Prop := ∀ (G H : Hp) (σ : L2.St) (ρ : En) (QD : Option Int → En → Prop) (Q : Option Int → Hp → Prop), Rep C G H σ ρ → t ρ QD →
  (∀ o G' H' ρ', Rep C G' H' σ ρ' → Same G G' → QD o ρ' → Q o H') → to σ H Q
structure POV (X : Cx) (C : FC) (e : Option Expr) (to : TO) (t : DO) : Prop where
  pe : PO X e to
  rf : RfP C to t
theorem do_none : POV X C none tNoPart (fun ρ Q => Q none ρ) := ⟨po_none, fun G H σ ρ QD Q R q k => k none G H ρ R (Same.refl G) q⟩
def xPart (t : DE) : DO := fun ρ Q => t ρ fun s ρ1 => match s.toD with
  | .int i => Q (some i) ρ1
  | _ => False
theorem do_some {e : Expr} {te : TE} {t : DE} (h : PV X C e te t) : POV X C (some e) (tPart te) (xPart t) := ⟨po_some h.pe, fun G H σ ρ QD Q R q k =>
  h.rf.go (QD := fun d ρ1 => match d with | .int i => QD (some i) ρ1 | _ => False) R q fun v d G1 H1 ρ1 R1 s1 hd q1 => by
    split at q1
    · rename_i i
      exact ⟨i, hd, k _ G1 H1 ρ1 R1 s1 q1⟩
    · exact q1.elim⟩
def cutD (xs : List D) (lo hi : Option Int) : List D := (xs.drop (HT.sIx xs.length 0 lo)).take (HT.sIx xs.length xs.length hi - HT.sIx xs.length 0 lo)
theorem Dats.cut {G : Hp} {ds : List D} {vs : List V} (h : Dats G ds vs) (lo hi : Option Int) : Dats G (cutD ds lo hi) (cutV vs lo hi) := by
  unfold cutD cutV
  rw [h.length]
  exact (h.drop _).take _
def xSl (a : DE) (lo hi : DO) : DE := fun ρ Q => a ρ fun s ρ1 => lo ρ1 fun l ρ2 => hi ρ2 fun h ρ3 => match s.toD with
  | .lst ds => Q (.ow (cutD ds l h)) ρ3
  | .tup ds => Q (.fz (.tup (cutD ds l h))) ρ3
  | _ => False
theorem d_sl {e : Expr} {lo hi : Option Expr} {te : TE} {tl th : TO} {t : DE} {dl dh : DO} {p2 pos : Pos} (h : PV X C e te t) (hl : POV X C lo tl dl) (hh : POV X C hi th dh) :
    PV X C (.Subscript e (.Slice lo hi none p2) pos) (tSl (fun x lo hi H Q => rSlL X.K x lo hi H Q ∨ rSlA X.K x lo hi H Q) te tl th) (xSl t dl dh) := by
  refine ⟨pe_slice (sl_list.or sl_tupA) h.pe hl.pe hh.pe, fun G H σ ρ QD Q R q k => ?_⟩
  refine h.rf.go (QD := fun d ρ1 => dl ρ1 fun l ρ2 => dh ρ2 fun h ρ3 => match d with | .lst ds => QD (.ow (cutD ds l h)) ρ3 | .tup ds => QD (.fz (.tup (cutD ds l h))) ρ3 | _ => False) R q fun v d G1 H1 ρ1 R1 s1 hd q1 => ?_
  refine hl.rf G1 H1 σ ρ1 _ _ R1 q1 fun l G2 H2 ρ2 R2 s2 q2 => ?_
  refine hh.rf G2 H2 σ ρ2 _ _ R2 q2 fun u G3 H3 ρ3 R3 s3 q3 => ?_
  have sm := (s1.trans s2).trans s3
  have hd3 := Dat.mono s3 d v (Dat.mono s2 d v hd)
  split at q3
  · rename_i ds
    obtain ⟨a, vs, rfl, h1, h2⟩ := hd3
    refine .inl ⟨a, vs, rfl, SqL.of (R3.sub _ _ h1), fun p hp => ?_⟩
    obtain ⟨R4, rv⟩ := R3.resL hp (h2.cut l u)
    exact k _ _ _ _ _ R4 sm rv q3
  · rename_i ds
    obtain ⟨a, vs, rfl, h1, h2⟩ := hd3
    refine .inr ⟨a, vs, rfl, SqT.of (R3.sub _ _ h1), fun e => ?_, fun _ p hp => ?_⟩
    · have ec : cutD ds l u = ds := by
        unfold cutD
        rw [h2.length, e.1, e.2]
        rw [← h2.length]
        simp
      rw [ec] at q3
      exact k _ _ _ _ _ R3 sm (rvf (d := .tup ds) ⟨a, vs, rfl, h1, h2⟩) q3
    · obtain ⟨R4, gs, rv⟩ := R3.resT hp (h2.cut l u)
      exact k _ _ _ _ _ R4 (sm.trans gs) rv q3
  · exact q3.elim
/-- l[::-1] -/
def xRevL (a : DE) : DE := fun ρ Q => a ρ fun s ρ1 => match s.toD with
  | .lst ds => Q (.ow ds.reverse) ρ1
  | _ => False
theorem d_revL {e : Expr} {te : TE} {t : DE} {k : Nat} {p1 p2 p3 pos : Pos} (h : PV X C e te t) : PV X C (.Subscript e (.Slice none none (some (.UnaryOp .USub (.Constant (.int 1) k p1) p2)) p3) pos) (tRevL X.K te) (xRevL t) := by
  refine ⟨pe_revL h.pe, fun G H σ ρ QD Q R q k => ?_⟩
  refine h.rf.go (QD := fun d ρ1 => match d with | .lst ds => QD (.ow ds.reverse) ρ1 | _ => False) R q fun v d G1 H1 ρ1 R1 s1 hd q1 => ?_
  split at q1
  · rename_i ds
    obtain ⟨a, vs, rfl, h1, h2⟩ := hd
    refine ⟨a, vs, rfl, SqL.of (R1.sub _ _ h1), fun p hp => ?_⟩
    obtain ⟨R2, rv⟩ := R1.resL hp h2.reverse
    exact k _ _ _ _ _ R2 s1 rv q1
  · exact q1.elim
end
end L3

namespace L3
open PySem PySem.Spec PyProof.Rows L2

section
variable {X : Cx} {C : FC}
/-! ### tests -/
def xTest (t : DE) : DT := fun ρ Q => t ρ fun s ρ1 => match s.toD with
  | .bl b => Q b ρ1
  | _ => False
theorem rf_test {te : TE} {t : DE} (h : Rf C te t) : RfT C (tTest te) (xTest t) := fun G H σ ρ QD Q R q k =>
  h.go (QD := fun d ρ1 => match d with | .bl b => QD b ρ1 | _ => False) R q fun v d G1 H1 ρ1 R1 s1 hd q1 => by
    split at q1
    · rename_i b
      exact ⟨b, hd, k b G1 H1 ρ1 R1 s1 q1⟩
    · exact q1.elim
theorem dt_cmp {op : CmpOp} {r : R2} {rd : DO2} {e1 e2 : Expr} {ta tb : TE} {a b : DE} {pos : Pos} (ho : OV X C (compareOp op) r rd) (ha : PV X C e1 ta a) (hb : PV X C e2 tb b) (hm : behindInMarks op e2 = false := by first | exact nomark _ | rfl) : PTV X C (.Compare e1 [op] [e2] pos) (tTest (tOp r ta tb)) (xTest (xOp rd a b)) :=
  ⟨pt_cmpR ho.op ha.pe hb.pe hm, rf_test (rf_op ho.rf ha.rf hb.rf)⟩
theorem dt_val {e : Expr} {te : TE} {t : DE} (h : PV X C e te t) (he : ∀ whole, isTrue e X.env whole = (do let v ← whole; standAt e.pos; holding [v] (truthy v)) := by intro _; rfl) : PTV X C e (tB te) (xTest t) :=
  ⟨pt_val h.pe he, fun G H σ ρ QD Q R q k => rf_test h.rf G H σ ρ QD Q R q k⟩
def xNot (t : DT) : DT := fun ρ Q => t ρ fun b ρ1 => Q (!b) ρ1
theorem dt_not {e : Expr} {tt : TT} {t : DT} {pos : Pos} (h : PTV X C e tt t) : PTV X C (.UnaryOp .Not e pos) (tNot tt) (xNot t) :=
  ⟨pt_not h.pe, fun G H σ ρ QD Q R q k => h.rf G H σ ρ _ _ R q fun b G1 H1 ρ1 R1 s1 q1 => k _ _ _ _ R1 s1 q1⟩
structure PWV (X : Cx) (C : FC) (e : Expr) (tt : TT) (t : DT) : Prop where
  pe : PW X e tt
  rf : RfT C tt t
theorem PWV.pt {e : Expr} {tt : TT} {t : DT} (h : PWV X C e tt t) : PTV X C e tt t := ⟨h.pe.pt, h.rf⟩
def xAnd (t u : DT) : DT := fun ρ Q => t ρ fun b ρ1 => if b = true then u ρ1 Q else Q false ρ1
def xOr (t u : DT) : DT := fun ρ Q => t ρ fun b ρ1 => if b = true then Q true ρ1 else u ρ1 Q
theorem rf_and {tt uu : TT} {t u : DT} (h1 : RfT C tt t) (h2 : RfT C uu u) : RfT C (tAnd tt uu) (xAnd t u) := fun G H σ ρ QD Q R q k =>
  h1 G H σ ρ _ _ R q fun b G1 H1 ρ1 R1 s1 q1 => by
    cases b with
    | true => exact h2 G1 H1 σ ρ1 _ _ R1 q1 fun b G2 H2 ρ2 R2 s2 q2 => k b G2 H2 ρ2 R2 (s1.trans s2) q2
    | false => exact k false G1 H1 ρ1 R1 s1 q1
theorem rf_or {tt uu : TT} {t u : DT} (h1 : RfT C tt t) (h2 : RfT C uu u) : RfT C (tOr tt uu) (xOr t u) := fun G H σ ρ QD Q R q k =>
  h1 G H σ ρ _ _ R q fun b G1 H1 ρ1 R1 s1 q1 => by
    cases b with
    | false => exact h2 G1 H1 σ ρ1 _ _ R1 q1 fun b G2 H2 ρ2 R2 s2 q2 => k b G2 H2 ρ2 R2 (s1.trans s2) q2
    | true => exact k true G1 H1 ρ1 R1 s1 q1
theorem dw_and1 {a : Expr} {tt : TT} {t : DT} {pos : Pos} (h : PTV X C a tt t) : PWV X C (.BoolOp .And [a] pos) tt t := ⟨pw_and1 h.pe, h.rf⟩
theorem dw_or1 {a : Expr} {tt : TT} {t : DT} {pos : Pos} (h : PTV X C a tt t) : PWV X C (.BoolOp .Or [a] pos) tt t := ⟨pw_or1 h.pe, h.rf⟩
theorem dw_and {a b : Expr} {rest : List Expr} {tt uu : TT} {t u : DT} {pos : Pos} (h : PTV X C a tt t) (h2 : PWV X C (.BoolOp .And (b :: rest) pos) uu u) : PWV X C (.BoolOp .And (a :: b :: rest) pos) (tAnd tt uu) (xAnd t u) := ⟨pw_and h.pe h2.pe, rf_and h.rf h2.rf⟩
theorem dw_or {a b : Expr} {rest : List Expr} {tt uu : TT} {t u : DT} {pos : Pos} (h : PTV X C a tt t) (h2 : PWV X C (.BoolOp .Or (b :: rest) pos) uu u) : PWV X C (.BoolOp .Or (a :: b :: rest) pos) (tOr tt uu) (xOr t u) := ⟨pw_or h.pe h2.pe, rf_or h.rf h2.rf⟩
/-- as values; all but the last are truths -/
def xAndV (t u : DE) : DE := fun ρ Q => t ρ fun s ρ1 => match s.toD with
  | .bl b => if b = true then u ρ1 Q else Q (.fz (.bl false)) ρ1
  | _ => False
def xOrV (t u : DE) : DE := fun ρ Q => t ρ fun s ρ1 => match s.toD with
  | .bl b => if b = true then Q (.fz (.bl true)) ρ1 else u ρ1 Q
  | _ => False
def xNotV (t : DE) : DE := fun ρ Q => t ρ fun s ρ1 => match s.toD with
  | .bl b => Q (.fz (.bl (!b))) ρ1
  | _ => False
theorem rf_andV {ta tb : TE} {t u : DE} (h1 : Rf C ta t) (h2 : Rf C tb u) : Rf C (tAndV ta tb) (xAndV t u) := fun G H σ ρ QD Q R q k =>
  h1.go (QD := fun d ρ1 => match d with | .bl b => if b = true then u ρ1 QD else QD (.fz (.bl false)) ρ1 | _ => False) R q fun v d G1 H1 ρ1 R1 s1 hd q1 => by
    split at q1
    · rename_i b
      refine ⟨b, hd, ?_⟩
      cases b with
      | true => exact h2 G1 H1 σ ρ1 _ _ R1 q1 fun v s G2 H2 ρ2 R2 s2 rv q2 => k v s G2 H2 ρ2 R2 (s1.trans s2) rv q2
      | false => exact k _ _ G1 H1 ρ1 R1 s1 (rvf (d := .bl false) rfl) q1
    · exact q1.elim
theorem rf_orV {ta tb : TE} {t u : DE} (h1 : Rf C ta t) (h2 : Rf C tb u) : Rf C (tOrV ta tb) (xOrV t u) := fun G H σ ρ QD Q R q k =>
  h1.go (QD := fun d ρ1 => match d with | .bl b => if b = true then QD (.fz (.bl true)) ρ1 else u ρ1 QD | _ => False) R q fun v d G1 H1 ρ1 R1 s1 hd q1 => by
    split at q1
    · rename_i b
      refine ⟨b, hd, ?_⟩
      cases b with
      | false => exact h2 G1 H1 σ ρ1 _ _ R1 q1 fun v s G2 H2 ρ2 R2 s2 rv q2 => k v s G2 H2 ρ2 R2 (s1.trans s2) rv q2
      | true => exact k _ _ G1 H1 ρ1 R1 s1 (rvf (d := .bl true) rfl) q1
    · exact q1.elim
theorem d_one {op} {a : Expr} {te : TE} {t : DE} {pos : Pos} (h : PV X C a te t) : PV X C (.BoolOp op [a] pos) te t := ⟨pe_one h.pe, h.rf⟩
theorem d_and {a b : Expr} {rest : List Expr} {ta tb : TE} {t u : DE} {pos : Pos} (h : PV X C a ta t) (h2 : PV X C (.BoolOp .And (b :: rest) pos) tb u) : PV X C (.BoolOp .And (a :: b :: rest) pos) (tAndV ta tb) (xAndV t u) := ⟨pe_and h.pe h2.pe, rf_andV h.rf h2.rf⟩
theorem d_or {a b : Expr} {rest : List Expr} {ta tb : TE} {t u : DE} {pos : Pos} (h : PV X C a ta t) (h2 : PV X C (.BoolOp .Or (b :: rest) pos) tb u) : PV X C (.BoolOp .Or (a :: b :: rest) pos) (tOrV ta tb) (xOrV t u) := ⟨pe_or h.pe h2.pe, rf_orV h.rf h2.rf⟩
theorem d_not {a : Expr} {ta : TE} {t : DE} {pos : Pos} (h : PV X C a ta t) : PV X C (.UnaryOp .Not a pos) (tNotV ta) (xNotV t) := ⟨pe_not h.pe, fun G H σ ρ QD Q R q k =>
  h.rf.go (QD := fun d ρ1 => match d with | .bl b => QD (.fz (.bl (!b))) ρ1 | _ => False) R q fun v d G1 H1 ρ1 R1 s1 hd q1 => by
    split at q1
    · rename_i b
      exact ⟨b, hd, k _ _ G1 H1 ρ1 R1 s1 (rvf (d := .bl (!b)) rfl) q1⟩
    · exact q1.elim⟩
def xIfE (c : DT) (t u : DE) : DE := fun ρ Q => c ρ fun b ρ1 => if b = true then t ρ1 Q else u ρ1 Q
theorem d_if {c a b : Expr} {tt : TT} {ta tb : TE} {tc : DT} {t u : DE} {pos : Pos} (hc : PTV X C c tt tc) (h : PV X C a ta t) (h2 : PV X C b tb u) : PV X C (.IfExp c a b pos) (tIf tt ta tb) (xIfE tc t u) :=
  ⟨pe_ifExp hc.pe h.pe h2.pe, fun G H σ ρ QD Q R q k => hc.rf G H σ ρ _ _ R q fun b G1 H1 ρ1 R1 s1 q1 => by
    cases b with
    | true => exact h.rf G1 H1 σ ρ1 _ _ R1 q1 fun v s G2 H2 ρ2 R2 s2 rv q2 => k v s G2 H2 ρ2 R2 (s1.trans s2) rv q2
    | false => exact h2.rf G1 H1 σ ρ1 _ _ R1 q1 fun v s G2 H2 ρ2 R2 s2 rv q2 => k v s G2 H2 ρ2 R2 (s1.trans s2) rv q2⟩
/-- a < b < c -/
def xChain (rd rd' : DO2) (a b c : DE) : DE := fun ρ Q => a ρ fun s ρ1 => b ρ1 fun s' ρ2 => rd s.toD s'.toD fun z => match z with
  | .fz (.bl k) => if k = true then c ρ2 fun s'' ρ3 => rd' s'.toD s''.toD fun z => Q z ρ3 else Q (.fz (.bl false)) ρ2
  | _ => False
theorem rf_chain {r r' : R2} {rd rd' : DO2} {ta tb tc : TE} {a b c : DE} (ho : RfO C r rd) (ho' : RfO C r' rd') (ha : Rf C ta a) (hb : Rf C tb b) (hc : Rf C tc c) : Rf C (tChain r r' ta tb tc) (xChain rd rd' a b c) := fun G H σ ρ QD Q R q k => by
  refine ha.go (QD := fun d ρ1 => b ρ1 fun s' ρ2 => rd d s'.toD fun z => match z with
    | .fz (.bl k) => if k = true then c ρ2 fun s'' ρ3 => rd' s'.toD s''.toD fun z => QD z ρ3 else QD (.fz (.bl false)) ρ2
    | _ => False) R q fun v d G1 H1 ρ1 R1 s1 hd q1 => ?_
  refine hb.go (QD := fun d' ρ2 => rd d d' fun z => match z with
    | .fz (.bl k) => if k = true then c ρ2 fun s'' ρ3 => rd' d' s''.toD fun z => QD z ρ3 else QD (.fz (.bl false)) ρ2
    | _ => False) R1 q1 fun v' d' G2 H2 ρ2 R2 s2 hd' q2 => ?_
  refine ho G2 H2 σ ρ2 v v' d d' _ _ R2 (Dat.mono s2 d v hd) hd' q2 fun z s G3 H3 R3 s3 rv q3 => ?_
  split at q3
  · rename_i k'
    refine ⟨k', rv, ?_⟩
    cases k' with
    | true =>
      refine hc.go (QD := fun d'' ρ3 => rd' d' d'' fun z => QD z ρ3) R3 q3 fun v'' d'' G4 H4 ρ4 R4 s4 hd'' q4 => ?_
      exact ho' G4 H4 σ ρ4 v' v'' d' d'' _ Q R4 (Dat.mono s4 _ _ (Dat.mono s3 _ _ hd')) hd'' q4 fun z s G5 H5 R5 s5 rv q5 => k z s G5 H5 ρ4 R5 ((((s1.trans s2).trans s3).trans s4).trans s5) rv q5
    | false => exact k _ _ G3 H3 ρ2 R3 ((s1.trans s2).trans s3) (rvf (d := .bl false) rfl) q3
  · exact q3.elim
theorem d_chain {op op' : CmpOp} {r r' : R2} {rd rd' : DO2} {e1 e2 e3 : Expr} {ta tb tc : TE} {a b c : DE} {pos : Pos} (ho : OV X C (compareOp op) r rd) (ho' : OV X C (compareOp op') r' rd') (ha : PV X C e1 ta a) (hb : PV X C e2 tb b) (hc : PV X C e3 tc c)
    (hm : lastMarks [op, op'] [e2, e3] = false := by with_unfolding_all rfl) : PV X C (.Compare e1 [op, op'] [e2, e3] pos) (tChain r r' ta tb tc) (xChain rd rd' a b c) :=
  ⟨pe_chain ho.op ho'.op ha.pe hb.pe hc.pe hm, rf_chain ho.rf ho'.rf ha.rf hb.rf hc.rf⟩
theorem dt_chain {op op' : CmpOp} {r r' : R2} {rd rd' : DO2} {e1 e2 e3 : Expr} {ta tb tc : TE} {a b c : DE} {pos : Pos} (ho : OV X C (compareOp op) r rd) (ho' : OV X C (compareOp op') r' rd') (ha : PV X C e1 ta a) (hb : PV X C e2 tb b) (hc : PV X C e3 tc c)
    (hm : lastMarks [op, op'] [e2, e3] = false := by with_unfolding_all rfl) : PTV X C (.Compare e1 [op, op'] [e2, e3] pos) (tTest (tChain r r' ta tb tc)) (xTest (xChain rd rd' a b c)) :=
  ⟨pt_chain ho.op ho'.op ha.pe hb.pe hc.pe hm, rf_test (rf_chain ho.rf ho'.rf ha.rf hb.rf hc.rf)⟩

/-! ### built-ins -/
abbrev DC := List D → (S → Prop) → Prop
def RfC (C : FC) (r : List V → Hp → VK → Prop) (rd : DC) : Prop := ∀ (G H : Hp) (σ : L2.St) (ρ : En) (vs : List V) (ds : List D) (QD : S → Prop) (Q : VK), Rep C G H σ ρ → Dats G ds vs → rd ds QD →
  (∀ v s G' H', Rep C G' H' σ ρ → Same G G' → RV C G' H' σ ρ s v → QD s → Q v H') → r vs H Q
structure CV (X : Cx) (C : FC) (f : Value) (r : List V → Hp → VK → Prop) (rd : DC) : Prop where
  op : CallR X f r
  rf : RfC C r rd
def xCB (rd : DC) (a : DA) : DE := fun ρ Q => a ρ fun ds ρ1 => rd ds fun s => Q s ρ1
theorem rf_cb {r : List V → Hp → VK → Prop} {rd : DC} {ta : TA} {a : DA} (hc : RfC C r rd) (ha : RfA C ta a) : Rf C (tCB r ta) (xCB rd a) := fun G H σ ρ QD Q R q k =>
  ha G H σ ρ _ _ R q fun vs ds G1 H1 ρ1 R1 s1 hd q1 => hc G1 H1 σ ρ1 vs ds _ Q R1 hd q1 fun v s G2 H2 R2 s2 rv q2 => k v s G2 H2 ρ1 R2 (s1.trans s2) rv q2
theorem d_callB {id : String} {x : Str} {p pos : Pos} {e : Expr} {es : List Expr} {r : List V → Hp → VK → Prop} {rd : DC} {ta : TA} {a : DA} (hc : CV X C (.builtin id) r rd) (hg : Gl X x) (hm : X.mg x = none) (hv : bootBuiltins x = some (.builtin id)) (ha : PAV X C (e :: es) ta a)
    (hn : x ≠ "__name__" := by decide) (hdb : (x == ("__debug__" : Str)) = false := by decide) (he : starEach (e :: es) X.env = (false, eval e X.env) :: starEach es X.env := by rfl) (hpl : (backTo pos (starEach es X.env)).any (·.1) = false := by rfl) :
    PV X C (.Call (.Name x p) (e :: es) [] pos) (tCB r ta) (xCB rd a) := ⟨pe_callB hc.op hg hm hv ha.pe hn hdb he hpl, rf_cb hc.rf ha.rf⟩
theorem d_callTy {T : String} {x : Str} {p pos : Pos} {e : Expr} {es : List Expr} {r : List V → Hp → VK → Prop} {rd : DC} {ta : TA} {a : DA} (hc : CV X C (.type T) r rd) (hg : Gl X x) (hm : X.mg x = none) (hv : bootBuiltins x = some (.type T)) (ha : PAV X C (e :: es) ta a)
    (hn : x ≠ "__name__" := by decide) (hdb : (x == ("__debug__" : Str)) = false := by decide) (he : starEach (e :: es) X.env = (false, eval e X.env) :: starEach es X.env := by rfl) (hpl : (backTo pos (starEach es X.env)).any (·.1) = false := by rfl) :
    PV X C (.Call (.Name x p) (e :: es) [] pos) (tCB r ta) (xCB rd a) := ⟨pe_callTy hc.op hg hm hv ha.pe hn hdb he hpl, rf_cb hc.rf ha.rf⟩
theorem Dats.one {G : Hp} {d : D} {vs : List V} (h : Dats G [d] vs) : ∃ v, vs = [v] ∧ Dat G d v := by
  obtain ⟨v, r, rfl, h1, h2⟩ := h
  cases (show r = [] from h2)
  exact ⟨v, rfl, h1⟩
theorem Dats.two {G : Hp} {d e : D} {vs : List V} (h : Dats G [d, e] vs) : ∃ v u, vs = [v, u] ∧ Dat G d v ∧ Dat G e u := by
  obtain ⟨v, r, rfl, h1, h2⟩ := h
  obtain ⟨u, rfl, h3⟩ := Dats.one h2
  exact ⟨v, u, rfl, h1, h3⟩
def xLen : DC := fun ds Q => match ds with
  | [.lst xs] => Q (.fz (.int xs.length))
  | [.tup xs] => Q (.fz (.int xs.length))
  | _ => False
theorem c_len : CV X C (.builtin "len") (fun xs H Q => ∃ p ys, xs = [.ref p] ∧ (SqL X.K H p ys ∨ SqT X.K H p ys) ∧ Q (.int ys.length) H) xLen := ⟨call_len_seq, fun G H σ ρ vs ds QD Q R hd q k => by
  unfold xLen at q
  split at q
  · rename_i xs
    obtain ⟨v, rfl, a, us, rfl, h1, h2⟩ := hd.one
    refine ⟨a, us, rfl, .inl (SqL.of (R.sub _ _ h1)), ?_⟩
    rw [← h2.length]
    exact k _ _ G H R (Same.refl G) (rvf (d := .int _) rfl) q
  · rename_i xs
    obtain ⟨v, rfl, a, us, rfl, h1, h2⟩ := hd.one
    refine ⟨a, us, rfl, .inr (SqT.of (R.sub _ _ h1)), ?_⟩
    rw [← h2.length]
    exact k _ _ G H R (Same.refl G) (rvf (d := .int _) rfl) q
  · exact q.elim⟩
/-- len of an own slot, that stays -/
theorem d_lenO (i : Nat) {x : Str} {p p2 pos : Pos} (hg : Gl X "len") (hm : X.mg "len" = none) (hN : X.N[i]? = some x := by rfl) (hv : Vis X.env.scope x := by first | exact Or.inl rfl | exact Or.inr (Or.inl rfl) | exact Or.inr (Or.inr rfl))
    (hd : (x == ("__debug__" : Str)) = false := by decide) (hcd : (x == ("__classdict__" : Str)) = false := by decide) (hs : starEach [.Name x p2] X.env = (false, eval (.Name x p2) X.env) :: starEach [] X.env := by rfl) (hpl : (backTo pos (starEach [] X.env)).any (·.1) = false := by rfl) :
    PV X C (.Call (.Name "len" p) [.Name x p2] [] pos) (tCB (fun xs H Q => ∃ p ys, xs = [.ref p] ∧ (SqL X.K H p ys ∨ SqT X.K H p ys) ∧ Q (.int ys.length) H) (tCons (tVar i) tNil)) (fun ρ Q => ∃ ds, (ρ[i]? = some (some (.ow ds)) ∨ ρ[i]? = some (some (.bg ds))) ∧ Q (.fz (.int ds.length)) ρ) := by
  refine ⟨pe_callB call_len_seq hg hm PySem.boot_len (pa_cons (pe_var hN hv hd hcd) pa_nil hs) (by decide) (by decide) hs hpl, fun G H σ ρ QD Q R ⟨ds, hs, q⟩ k => ?_⟩
  have : ∃ p vs, σ[i]? = some (some (.ref p)) ∧ H p = some (.lst vs) ∧ Dats G ds vs := by
    rcases hs with hs | hs
    · obtain ⟨p', h1', ⟨vs, h2, h3⟩, _⟩ := R.ow i _ hs rfl
      exact ⟨_, vs, h1', h2, h3⟩
    · obtain ⟨p', h1', ⟨vs, h2, h3⟩, _⟩ := R.ow i _ hs rfl
      exact ⟨_, vs, h1', h2, h3⟩
  obtain ⟨a, vs, h1, h2, h3⟩ := this
  refine ⟨.ref a, h1, a, vs, rfl, .inl (SqL.of h2), ?_⟩
  rw [← h3.length]
  exact k _ _ G H ρ R (Same.refl G) (rvf (d := .int _) rfl) q
def xSum : DC := fun ds Q => ∃ ns : List Int, ds = [.lst (ns.map D.int)] ∧ Q (.fz (.int ns.sum))
theorem c_sum (hc : X.calm = true) : CV X C (.builtin "sum") (rSum X.K) xSum := ⟨cr_sum hc, fun G H σ ρ vs ds QD Q R hd ⟨ns, e, q⟩ k => by
  subst e
  obtain ⟨v, rfl, a, us, rfl, h1, h2⟩ := hd.one
  cases h2.ints
  exact ⟨a, ns, rfl, SqL.of (R.sub _ _ h1), k _ _ G H R (Same.refl G) (rvf (d := .int _) rfl) q⟩⟩
def xMaxL : DC := fun ds Q => ∃ ns : List Int, ds = [.lst (ns.map D.int)] ∧ ns ≠ [] ∧ ∀ m, m ∈ ns → (∀ y ∈ ns, y ≤ m) → Q (.fz (.int m))
theorem c_max (hc : X.calm = true) : CV X C (.builtin "max") (rMax X.K) xMaxL := ⟨cr_max hc, fun G H σ ρ vs ds QD Q R hd ⟨ns, e, ne, q⟩ k => by
  subst e
  obtain ⟨v, rfl, a, us, rfl, h1, h2⟩ := hd.one
  cases h2.ints
  exact ⟨a, ns, rfl, SqL.of (R.sub _ _ h1), List.length_pos_iff.mpr ne, fun m hm hle => k _ _ G H R (Same.refl G) (rvf (d := .int _) rfl) (q m hm hle)⟩⟩
def xMax2 : DC := fun ds Q => match ds with
  | [.int i, .int j] => Q (.fz (.int (if j > i then j else i)))
  | _ => False
def xMin2 : DC := fun ds Q => match ds with
  | [.int i, .int j] => Q (.fz (.int (if j < i then j else i)))
  | _ => False
theorem c_max2 (hc : X.calm = true) : CV X C (.builtin "max") (fun xs H Q => ∃ i j, xs = [.int i, .int j] ∧ Q (.int (if j > i then j else i)) H) xMax2 := ⟨call_max2 hc, fun G H σ ρ vs ds QD Q R hd q k => by
  unfold xMax2 at q
  split at q
  · rename_i i j
    obtain ⟨v, u, rfl, h1, h2⟩ := hd.two
    cases (show v = _ from h1)
    cases (show u = _ from h2)
    exact ⟨i, j, rfl, k _ _ G H R (Same.refl G) (rvf (d := .int _) rfl) q⟩
  · exact q.elim⟩
theorem c_min2 (hc : X.calm = true) : CV X C (.builtin "min") (fun xs H Q => ∃ i j, xs = [.int i, .int j] ∧ Q (.int (if j < i then j else i)) H) xMin2 := ⟨call_min2 hc, fun G H σ ρ vs ds QD Q R hd q k => by
  unfold xMin2 at q
  split at q
  · rename_i i j
    obtain ⟨v, u, rfl, h1, h2⟩ := hd.two
    cases (show v = _ from h1)
    cases (show u = _ from h2)
    exact ⟨i, j, rfl, k _ _ G H R (Same.refl G) (rvf (d := .int _) rfl) q⟩
  · exact q.elim⟩
def xAll : DC := fun ds Q => ∃ bs : List Bool, ds = [.lst (bs.map D.bl)] ∧ Q (.fz (.bl (bs.all id)))
theorem c_all (hc : X.calm = true) : CV X C (.builtin "all") (rAll X.K) xAll := ⟨cr_all hc, fun G H σ ρ vs ds QD Q R hd ⟨ns, e, q⟩ k => by
  subst e
  obtain ⟨v, rfl, a, us, rfl, h1, h2⟩ := hd.one
  cases h2.bls
  exact ⟨a, ns, rfl, SqL.of (R.sub _ _ h1), k _ _ G H R (Same.refl G) (rvf (d := .bl _) rfl) q⟩⟩
def xIntOf : DC := fun ds Q => match ds with
  | [.int i] => Q (.fz (.int i))
  | [.bl b] => Q (.fz (.int (if b then 1 else 0)))
  | _ => False
theorem c_int : CV X C (.type "int") (fun xs H Q => (∃ i, xs = [.int i] ∧ Q (.int i) H) ∨ ∃ k, xs = [.bl k] ∧ Q (.int (if k then 1 else 0)) H) xIntOf := ⟨call_int1, fun G H σ ρ vs ds QD Q R hd q k => by
  unfold xIntOf at q
  split at q
  · rename_i i
    obtain ⟨v, rfl, h1⟩ := hd.one
    cases (show v = _ from h1)
    exact .inl ⟨i, rfl, k _ _ G H R (Same.refl G) (rvf (d := .int _) rfl) q⟩
  · rename_i i
    obtain ⟨v, rfl, h1⟩ := hd.one
    cases (show v = _ from h1)
    exact .inr ⟨i, rfl, k _ _ G H R (Same.refl G) (rvf (d := .int _) rfl) q⟩
  · exact q.elim⟩
def xListOf : DC := fun ds Q => match ds with
  | [.lst xs] => Q (.ow xs)
  | [.tup xs] => Q (.ow xs)
  | _ => False
theorem c_list : CV X C (.type "list") (fun xs H Q => ∃ p ys, xs = [.ref p] ∧ (SqL X.K H p ys ∨ SqT X.K H p ys) ∧ ∀ l, H l = none → Q (.ref l) (upd H l (.lst ys))) xListOf := ⟨call_list_of, fun G H σ ρ vs ds QD Q R hd q k => by
  unfold xListOf at q
  split at q
  · rename_i xs
    obtain ⟨v, rfl, a, us, rfl, h1, h2⟩ := hd.one
    refine ⟨a, us, rfl, .inl (SqL.of (R.sub _ _ h1)), fun l hl => ?_⟩
    obtain ⟨R2, rv⟩ := R.resL hl h2
    exact k _ _ _ _ R2 (Same.refl G) rv q
  · rename_i xs
    obtain ⟨v, rfl, a, us, rfl, h1, h2⟩ := hd.one
    refine ⟨a, us, rfl, .inr (SqT.of (R.sub _ _ h1)), fun l hl => ?_⟩
    obtain ⟨R2, rv⟩ := R.resL hl h2
    exact k _ _ _ _ R2 (Same.refl G) rv q
  · exact q.elim⟩
def xTupOf : DC := fun ds Q => match ds with
  | [.lst xs] => Q (.fz (.tup xs))
  | [.tup xs] => Q (.fz (.tup xs))
  | _ => False
theorem c_tuple : CV X C (.type "tuple") (fun xs H Q => ∃ p ys, xs = [.ref p] ∧ ((SqL X.K H p ys ∧ ∀ l, H l = none → Q (.ref l) (upd H l (.tup ys))) ∨ (SqT X.K H p ys ∧ Q (.ref p) H))) xTupOf := ⟨call_tuple_of, fun G H σ ρ vs ds QD Q R hd q k => by
  unfold xTupOf at q
  split at q
  · rename_i xs
    obtain ⟨v, rfl, a, us, rfl, h1, h2⟩ := hd.one
    refine ⟨a, us, rfl, .inl ⟨SqL.of (R.sub _ _ h1), fun l hl => ?_⟩⟩
    obtain ⟨R2, gs, rv⟩ := R.resT hl h2
    exact k _ _ _ _ R2 gs rv q
  · rename_i xs
    obtain ⟨v, rfl, a, us, rfl, h1, h2⟩ := hd.one
    exact ⟨a, us, rfl, .inr ⟨SqT.of (R.sub _ _ h1), k _ _ G H R (Same.refl G) (rvf (d := .tup xs) ⟨a, us, rfl, h1, h2⟩) q⟩⟩
  · exact q.elim⟩

/-! ### statements -/
def xNext : DS := fun D ρ => D.nx ρ
def xSeq (t u : DS) : DS := fun D ρ => t { D with nx := u D } ρ
theorem ds_nil : PSsV X C [] tNext xNext := ⟨pss_nil, fun G H σ ρ DD E R q k => k.nx G H σ ρ R (Same.refl G) q⟩
theorem ds_cons {st : Stmt} {rest : List Stmt} {ts us : TS} {t u : DS} (h : PSV X C st ts t) (h2 : PSsV X C rest us u) : PSsV X C (st :: rest) (tSeq ts us) (xSeq t u) :=
  ⟨pss_cons h.pe h2.pe, fun G H σ ρ DD E R q k => h.rf G H σ ρ { DD with nx := u DD } { E with nx := us E } R q ⟨fun G' H' σ' ρ' R' s' q' => h2.rf G' H' σ' ρ' DD E R' q' (k.mono s'), k.bk, k.ct, k.rt⟩⟩
theorem ds_one {st : Stmt} {ts : TS} {t : DS} (h : PSV X C st ts t) : PSsV X C [st] ts t := ⟨pss_one h.pe, h.rf⟩
def xExpr (te : DE) : DS := fun D ρ => te ρ fun _ ρ1 => D.nx ρ1
theorem ds_expr {e : Expr} {te : TE} {t : DE} {pos : Pos} (h : PV X C e te t) (hs : swapsWith e none pos.line X.env = pure false := by rfl) : PSV X C (.Expr e pos) (tDrop te) (xExpr t) :=
  ⟨ps_expr h.pe hs, fun G H σ ρ DD E R q k => h.rf G H σ ρ _ _ R q fun v s G1 H1 ρ1 R1 s1 rv q1 => k.nx G1 H1 σ ρ1 R1 s1 q1⟩
def xRet (te : DE) : DS := fun D ρ => te ρ D.rt
theorem ds_ret {e : Expr} {te : TE} {t : DE} {pos : Pos} (h : PV X C e te t) : PSV X C (.Return (some e) pos) (tRet te) (xRet t) :=
  ⟨ps_ret h.pe, fun G H σ ρ DD E R q k => h.rf G H σ ρ _ _ R q fun v s G1 H1 ρ1 R1 s1 rv q1 => k.rt v s G1 H1 σ ρ1 R1 s1 rv q1⟩
def xIf (c : DT) (t u : DS) : DS := fun D ρ => c ρ fun b ρ1 => if b = true then t D ρ1 else u D ρ1
theorem ds_if {c : Expr} {a b : List Stmt} {tt : TT} {tc : DT} {ta tb : TS} {t u : DS} {pos : Pos} (hc : PTV X C c tt tc) (h : PSsV X C a ta t) (h2 : PSsV X C b tb u) : PSV X C (.If c a b pos) (tIfS tt ta tb) (xIf tc t u) :=
  ⟨ps_if hc.pe h.pe h2.pe, fun G H σ ρ DD E R q k => hc.rf G H σ ρ _ _ R q fun b G1 H1 ρ1 R1 s1 q1 => by
    cases b with
    | true => exact h.rf G1 H1 σ ρ1 DD E R1 q1 (k.mono s1)
    | false => exact h2.rf G1 H1 σ ρ1 DD E R1 q1 (k.mono s1)⟩
def xNever : DS := fun _ _ => False
theorem ds_never {st : Stmt} : PSV X C st tNever xNever := ⟨ps_never, fun _ _ _ _ _ _ _ q _ => q.elim⟩
/-- name = e -/
def xSet (i : Nat) (t : DE) : DS := fun D ρ => t ρ fun s ρ1 => D.nx (ρ1.set i (some s))
theorem rf_set {i : Nat} {te : TE} {t : DE} (h : Rf C te t) : RfS C (tAsg te (gName i)) (xSet i t) := fun G H σ ρ DD E R q k =>
  h G H σ ρ _ _ R q fun v s G1 H1 ρ1 R1 s1 rv q1 => k.nx G1 H1 _ _ (R1.set i rv) s1 q1
theorem ds_set (i : Nat) {x : Str} {e : Expr} {te : TE} {t : DE} {pos' pos : Pos} (hN : X.N.Nodup) (h : PV X C e te t) (hi : X.N[i]? = some x := by rfl) (hx : Loc X.env.scope x := by first | exact Or.inl rfl | exact Or.inr rfl)
    (hs : swapsWith e (some (.Name x pos')) pos.line X.env = pure false := by rfl) (hf : X.fn x = true ∨ X.env.scope.names.lookup x = some .local := by first | exact .inl rfl | exact .inr rfl) : PSV X C (.Assign [.Name x pos'] e pos) (tAsg te (gName i)) (xSet i t) :=
  ⟨ps_set hN hi hx h.pe hs hf, rf_set h.rf⟩
/-! ### targets -/
abbrev DG := D → En → (En → Prop) → Prop
structure PGV (X : Cx) (C : FC) (tg : Expr) (g : TG) (gd : DG) (is : List Nat) : Prop where
  pe : PG X tg g
  rf : ∀ (G H : Hp) (σ : L2.St) (ρ : En) (v : V) (d : D) (QD : En → Prop) (Q : L2.St → Hp → Prop), Rep C G H σ ρ → Dat G d v → gd d ρ QD →
    (∀ G' H' σ' ρ', Rep C G' H' σ' ρ' → Same G G' → H' = H → (∀ vs : List Nat, (∀ k ∈ is, k ∈ vs) → wipe σ' vs = wipe σ vs) → QD ρ' → Q σ' H') → g v σ H Q
def xName (i : Nat) : DG := fun d ρ Q => Q (ρ.set i (some (.fz d)))
theorem wipe_set {σ : L2.St} {i : Nat} {x : Option V} : ∀ {vs : List Nat}, i ∈ vs → wipe (σ.set i x) vs = wipe σ vs
  | v :: vs, h => by
    unfold wipe
    by_cases e : i = v
    · subst e
      by_cases h2 : i ∈ vs
      · rw [wipe_set h2]
      · have : ∀ {ws : List Nat}, i ∉ ws → wipe (σ.set i x) ws = (wipe σ ws).set i x := by
          intro ws
          induction ws with
          | nil => intro _; rfl
          | cons w ws ih =>
            intro hn
            simp only [List.mem_cons, not_or] at hn
            unfold wipe
            rw [ih hn.2, List.set_comm _ _ hn.1]
        rw [this h2, List.set_set]
    · rw [wipe_set ((List.mem_cons.mp h).resolve_left e)]
theorem dg_name (i : Nat) {x : Str} {pos : Pos} (hN : X.N.Nodup) (hi : X.N[i]? = some x := by rfl) (hx : Loc X.env.scope x := by first | exact Or.inl rfl | exact Or.inr rfl)
    (hf : X.fn x = true ∨ X.env.scope.names.lookup x = some .local := by first | exact .inl rfl | exact .inr rfl) : PGV X C (.Name x pos) (gName i) (xName i) [i] :=
  ⟨pg_name hN hi hx hf, fun G H σ ρ v d QD Q R hd q k => k G H _ _ (R.set i (s := .fz d) hd) (Same.refl G) rfl (fun vs hv => wipe_set (hv i (by simp))) q⟩
abbrev DGs := List D → En → (En → Prop) → Prop
structure PGsV (X : Cx) (C : FC) (ts : List Expr) (g : TGs) (gd : DGs) (is : List Nat) : Prop where
  pe : PGs X ts g
  rf : ∀ (G H : Hp) (σ : L2.St) (ρ : En) (vs : List V) (ds : List D) (QD : En → Prop) (Q : L2.St → Hp → Prop), Rep C G H σ ρ → Dats G ds vs → gd ds ρ QD →
    (∀ G' H' σ' ρ', Rep C G' H' σ' ρ' → Same G G' → H' = H → (∀ vs : List Nat, (∀ k ∈ is, k ∈ vs) → wipe σ' vs = wipe σ vs) → QD ρ' → Q σ' H') → g vs σ H Q
def xGNil : DGs := fun ds ρ Q => match ds with
  | [] => Q ρ
  | _ => False
def xGCons (g : DG) (gs : DGs) : DGs := fun ds ρ Q => match ds with
  | d :: r => g d ρ fun ρ1 => gs r ρ1 Q
  | [] => False
theorem dgs_nil : PGsV X C [] gNil xGNil [] := ⟨pgs_nil, fun G H σ ρ vs ds QD Q R hd q k => by
  unfold xGNil at q
  split at q
  · exact ⟨hd, k G H σ ρ R (Same.refl G) rfl (fun _ _ => rfl) q⟩
  · exact q.elim⟩
theorem dgs_cons {e : Expr} {es : List Expr} {g : TG} {gs : TGs} {gd : DG} {gsd : DGs} {is js : List Nat} (h1 : PGV X C e g gd is) (h2 : PGsV X C es gs gsd js) (hs : (assignEach (e :: es) X.env).map (·.2) = assign e X.env :: (assignEach es X.env).map (·.2) := by rfl) :
    PGsV X C (e :: es) (gCons g gs) (xGCons gd gsd) (is ++ js) := ⟨pgs_cons h1.pe h2.pe hs, fun G H σ ρ vs ds QD Q R hd q k => by
  unfold xGCons at q
  split at q
  · rename_i d r
    obtain ⟨v, us, rfl, hd1, hd2⟩ := hd
    refine ⟨v, us, rfl, h1.rf G H σ ρ v d _ _ R hd1 q fun G1 H1 σ1 ρ1 R1 s1 e1 w1 q1 => ?_⟩
    exact h2.rf G1 H1 σ1 ρ1 us r _ _ R1 (Dats.mono s1 _ _ hd2) q1 fun G2 H2 σ2 ρ2 R2 s2 e2 w2 q2 => k G2 H2 σ2 ρ2 R2 (s1.trans s2) (e2.trans e1)
      (fun vs hv => (w2 vs fun k hk => hv k (List.mem_append_right _ hk)).trans (w1 vs fun k hk => hv k (List.mem_append_left _ hk))) q2
  · exact q.elim⟩
def xGTup (n : Nat) (g : DGs) : DG := fun d ρ Q => match d with
  | .tup ds => ds.length = n ∧ g ds ρ Q
  | _ => False
theorem dg_tup {es : List Expr} {k : Nat} {g : TGs} {gd : DGs} {n : Nat} {is : List Nat} {pos : Pos} (hc : X.calm = true) (h : PGsV X C es g gd is)
    (hn : (assignEach es X.env).length = n := by rfl) (hst : (assignEach es X.env).findIdx? (·.1) = none := by rfl) : PGV X C (.Tuple es k pos) (gTup X.K n g) (xGTup n gd) is :=
  ⟨pg_tup hc h.pe hn hst, fun G H σ ρ v d QD Q R hd q kk => by
    unfold xGTup at q
    split at q
    · rename_i ds
      obtain ⟨a, vs, rfl, h1, h2⟩ := hd
      exact ⟨a, vs, rfl, SqT.of (R.sub _ _ h1), by rw [← h2.length]; exact q.1, h.rf G H σ ρ vs ds QD Q R h2 q.2 kk⟩
    · exact q.elim⟩
/-- target = e, of any form -/
def xAsg (t : DE) (g : DG) : DS := fun D ρ => t ρ fun s ρ1 => g s.toD ρ1 D.nx
theorem ds_asg {tg e : Expr} {te : TE} {t : DE} {g : TG} {gd : DG} {is : List Nat} {pos : Pos} (h : PV X C e te t) (hg : PGV X C tg g gd is) (hs : swapsWithSole [tg] e pos.line X.env = pure false := by rfl) (hw : swappedStores [tg] e X.env = pure none := by rfl)
    (h1 : (assignEach [tg] X.env).map (·.2) = [assign tg X.env] := by rfl) : PSV X C (.Assign [tg] e pos) (tAsg te g) (xAsg t gd) :=
  ⟨ps_asg h.pe hg.pe hs hw h1, fun G H σ ρ DD E R q k => h.rf.go (QD := fun d ρ1 => gd d ρ1 DD.nx) R q fun v d G1 H1 ρ1 R1 s1 hd q1 =>
    hg.rf G1 H1 σ ρ1 v d _ _ R1 hd q1 fun G2 H2 σ2 ρ2 R2 s2 _ _ q2 => k.nx G2 H2 σ2 ρ2 R2 (s1.trans s2) q2⟩
/-- x[k] = e, x an own slot -/
def xStore (i : Nat) (te ti : DE) : DS := fun Z ρ => te ρ fun s ρ1 => isOwn ρ1 i ∧ ti ρ1 fun s' ρ2 => ∃ (ds : List D) (k : Int) (j : Nat), s'.toD = .int k ∧ ixN ds.length k = some j ∧
  ((ρ2[i]? = some (some (.ow ds)) ∧ Z.nx (ρ2.set i (some (.ow (ds.set j s.toD))))) ∨ (ρ2[i]? = some (some (.bg ds)) ∧ Z.nx (ρ2.set i (some (.bg (ds.set j s.toD))))))
/-- the own object of a slot changes -/
theorem Rep.write {C : FC} {G H : Hp} {σ : L2.St} {ρ : En} (R : Rep C G H σ ρ) {i : Nat} {s s' : S} {p : Addr} {o : HO} (e : ρ[i]? = some (some s)) (os : s.own = true) (hp : σ[i]? = some (some (.ref p))) (os' : s'.own = true) (eb : s'.isBg = s.isBg) (h : OwnAt G (upd H p o) p s') :
    Rep C G (upd H p o) σ (ρ.set i (some s')) := by
  obtain ⟨p', h1, h2, h3, h4⟩ := R.ow i s e os
  rw [hp] at h1; cases h1
  have hi : i < ρ.length := (List.getElem?_eq_some_iff.mp e).1
  refine ⟨by rw [List.length_set]; exact R.len, fun b x q => ?_, R.g0, fun b x q z => ?_, R.new, fun b q => ?_, fun j d q => ?_, fun j s2 q o2 => ?_, fun j k s1 s2 q ne e1 o1 e2 o2 z1 z2 => ?_⟩
  · have : b ≠ p := fun z => by subst z; rw [h3] at q; cases q
    rw [upd_ne this]; exact R.sub b x q
  · have : b ≠ p := fun z' => by
      subst z'
      rcases h4 with ⟨h4, _⟩ | ⟨h4, _⟩
      · rw [h4] at q; cases q
      · exact z h4
    rw [upd_ne this]; exact R.keep b x q z
  · obtain ⟨a, b', c⟩ := R.bl b q
    refine ⟨a, b', ?_⟩
    by_cases z : b = p
    · subst z; rw [upd_same]; exact fun z => nomatch z
    · rw [upd_ne z]; exact c
  · rcases get_set q with ⟨rfl, q'⟩ | ⟨hj, q'⟩
    · subst q'; cases os'
    · exact R.fz j d q'
  · rcases get_set q with ⟨rfl, q'⟩ | ⟨hj, q'⟩
    · subst q'
      refine ⟨p, hp, h, h3, ?_⟩
      rw [eb]; exact h4
    · obtain ⟨q1, z1, z2, z3, z4⟩ := R.ow j s2 q' o2
      have : q1 ≠ p := fun z => by subst z; exact R.ap i j s s2 q1 (Ne.symm hj) e os q' o2 hp z1
      exact ⟨q1, z1, z2.mono (Same.refl G) (upd_ne this), z3, z4⟩
  · rcases get_set e1 with ⟨rfl, e1'⟩ | ⟨hj, e1'⟩
    · rcases get_set e2 with ⟨rfl, e2'⟩ | ⟨hk, e2'⟩
      · exact ne rfl
      · exact R.ap j k s s2 q ne e os e2' o2 z1 z2
    · rcases get_set e2 with ⟨rfl, e2'⟩ | ⟨hk, e2'⟩
      · exact R.ap j k s1 s q ne e1' o1 e os z1 z2
      · exact R.ap j k s1 s2 q ne e1' o1 e2' o2 z1 z2
theorem ds_store (i : Nat) {x : Str} {b e : Expr} {te tb : TE} {t tt : DE} {p0 p1 pos : Pos} (h : PV X C e te t) (hb : PV X C b tb tt) (hN : X.N[i]? = some x := by rfl) (hv : Vis X.env.scope x := by first | exact Or.inl rfl | exact Or.inr (Or.inl rfl) | exact Or.inr (Or.inr rfl))
    (hd : (x == ("__debug__" : Str)) = false := by decide) (hcd : (x == ("__classdict__" : Str)) = false := by decide)
    (ha : ∀ v, assign (.Subscript (.Name x p0) b p1) X.env v = (do
      let ov ← holding [v] (eval (.Name x p0) X.env)
      let iv ← holding [v, ov] (eval b X.env)
      standAt p1
      holding [v, ov, iv] (setItem ov iv v)
      release [v, ov, iv] []) := by intro _; rfl)
    (hs : swapsWithSole [.Subscript (.Name x p0) b p1] e pos.line X.env = pure false := by rfl) (hw : swappedStores [.Subscript (.Name x p0) b p1] e X.env = pure none := by rfl)
    (h1 : (assignEach [.Subscript (.Name x p0) b p1] X.env).map (·.2) = [assign (.Subscript (.Name x p0) b p1) X.env] := by rfl) :
    PSV X C (.Assign [.Subscript (.Name x p0) b p1] e pos) (tAsg te (gSub (tVar i) tb rSetL)) (xStore i t tt) := by
  refine ⟨ps_asg h.pe (pg_sub (pe_var hN hv hd hcd) hb.pe set_list ha) hs hw h1, fun G H σ ρ DD E R q k => ?_⟩
  refine h.rf.go (QD := fun d ρ1 => isOwn ρ1 i ∧ tt ρ1 fun s' ρ2 => ∃ (ds : List D) (k : Int) (j : Nat), s'.toD = .int k ∧ ixN ds.length k = some j ∧
    ((ρ2[i]? = some (some (.ow ds)) ∧ DD.nx (ρ2.set i (some (.ow (ds.set j d))))) ∨ (ρ2[i]? = some (some (.bg ds)) ∧ DD.nx (ρ2.set i (some (.bg (ds.set j d))))))) R q fun v d G1 H1 ρ1 R1 s1 hd1 q1 => ?_
  obtain ⟨⟨s0, e0, o0⟩, q1⟩ := q1
  obtain ⟨p, hp, _⟩ := R1.ow i s0 e0 o0
  refine ⟨.ref p, hp, hb.rf.go (QD := fun d' ρ2 => ∃ (ds : List D) (k : Int) (j : Nat), d' = .int k ∧ ixN ds.length k = some j ∧
    ((ρ2[i]? = some (some (.ow ds)) ∧ DD.nx (ρ2.set i (some (.ow (ds.set j d))))) ∨ (ρ2[i]? = some (some (.bg ds)) ∧ DD.nx (ρ2.set i (some (.bg (ds.set j d))))))) R1 q1 fun v' d' G2 H2 ρ2 R2 s2 hd2 q2 => ?_⟩
  obtain ⟨ds, n, j, rfl, hj, q2⟩ := q2
  cases (show v' = _ from hd2)
  rcases q2 with ⟨e2, q2⟩ | ⟨e2, q2⟩
  · obtain ⟨p', hp', ⟨vs, h2, h3⟩, _⟩ := R2.ow i _ e2 rfl
    rw [hp] at hp'; cases hp'
    refine ⟨p, vs, n, j, rfl, rfl, h2, by rw [← h3.length]; exact hj, ?_⟩
    exact k.nx G2 _ σ _ (R2.write e2 rfl hp (s' := .ow (ds.set j d)) rfl rfl ⟨_, upd_same, h3.set (Dat.mono s2 _ _ hd1) j⟩) (s1.trans s2) q2
  · obtain ⟨p', hp', ⟨vs, h2, h3⟩, _⟩ := R2.ow i _ e2 rfl
    rw [hp] at hp'; cases hp'
    refine ⟨p, vs, n, j, rfl, rfl, h2, by rw [← h3.length]; exact hj, ?_⟩
    exact k.nx G2 _ σ _ (R2.write e2 rfl hp (s' := .bg (ds.set j d)) rfl rfl ⟨_, upd_same, h3.set (Dat.mono s2 _ _ hd1) j⟩) (s1.trans s2) q2
/-- x.append(e), x an own slot -/
def xApp (i : Nat) (te : DE) : DE := fun ρ Q => (∃ ds, ρ[i]? = some (some (.ow ds))) ∧ te ρ fun s ρ1 => ∃ ds, ρ1[i]? = some (some (.ow ds)) ∧ ds.length < 100000 ∧ Q (.fz .non) (ρ1.set i (some (.ow (ds ++ [s.toD]))))
theorem d_app (i : Nat) {x : Str} {e : Expr} {te : TE} {t : DE} {p0 apos pos : Pos} (h : PV X C e te t) (hN : X.N[i]? = some x := by rfl) (hv : Vis X.env.scope x := by first | exact Or.inl rfl | exact Or.inr (Or.inl rfl) | exact Or.inr (Or.inr rfl))
    (hd : (x == ("__debug__" : Str)) = false := by decide) (hcd : (x == ("__classdict__" : Str)) = false := by decide)
    (hbase : attributeBase (.Name x p0) "append" X.env (eval (.Name x p0) X.env) = eval (.Name x p0) X.env := by rfl)
    (hfew : ((backTo pos (starEach [e] X.env)).all (fun x => !x.1) && (backToKw pos (keywordEach [] X.env)).all (fun x => x.1.isSome)
      && decide ([e].length + ([] : List Keyword).length + (if ([] : List Keyword).isEmpty then 0 else 1) < 30)) = true := by rfl)
    (hline : (apos.endLine == pos.line) = true := by rfl) (hs : starEach [e] X.env = (false, eval e X.env) :: starEach [] X.env := by rfl) (hpl : (backTo pos (starEach [] X.env)).any (·.1) = false := by rfl) :
    PV X C (.Call (.Attribute (.Name x p0) "append" apos) [e] [] pos) (tBM X.K "list" rAppend (tVar i) (tCons te tNil)) (xApp i t) := by
  refine ⟨pe_bm PySem.F.plainAttrs_list PySem.F.slot_list_append PySem.F.type_list_append mt_append (pe_var hN hv hd hcd) (pa_cons h.pe pa_nil hs) hbase hfew hline hs hpl, fun G H σ ρ QD Q R ⟨⟨ds0, e0⟩, q⟩ k => ?_⟩
  obtain ⟨p, hp, ⟨vs0, hat, _⟩, _⟩ := R.ow i _ e0 rfl
  refine ⟨.ref p, hp, .inl ⟨rfl, vs0, SqL.of hat⟩, ?_⟩
  refine h.rf.go (QD := fun d ρ1 => ∃ ds, ρ1[i]? = some (some (.ow ds)) ∧ ds.length < 100000 ∧ QD (.fz .non) (ρ1.set i (some (.ow (ds ++ [d]))))) R q fun v d G1 H1 ρ1 R1 s1 hd1 q1 => ?_
  obtain ⟨ds, e1, hl, q1⟩ := q1
  obtain ⟨p', hp', ⟨vs, h2, h3⟩, _⟩ := R1.ow i _ e1 rfl
  rw [hp] at hp'; cases hp'
  refine ⟨p, vs, v, rfl, rfl, h2, by rw [← h3.length]; exact Nat.lt_of_lt_of_le hl (by decide), ?_⟩
  exact k _ _ G1 _ _ (R1.write e1 rfl hp (s' := .ow (ds ++ [d])) rfl rfl ⟨_, upd_same, h3.append ⟨v, [], rfl, hd1, rfl⟩⟩) s1 (rvf (d := .non) rfl) q1
end
end L3

namespace L3
open PySem PySem.Spec PyProof.Rows L2

/-! ### what is walked -/
def Ex1 (G H G' H' : Hp) : Prop := (G' = G ∧ H' = H) ∨ ∃ T o, H T = none ∧ G' = upd G T o ∧ H' = upd H T o
theorem Rep.ex1 {C : FC} {G H G' H' : Hp} {σ : L2.St} {ρ : En} (R : Rep C G H σ ρ) (e : Ex1 G H G' H') : Rep C G' H' σ ρ ∧ Same G G' := by
  rcases e with ⟨rfl, rfl⟩ | ⟨T, o, hT, rfl, rfl⟩
  · exact ⟨R, Same.refl _⟩
  · exact ⟨R.newFz hT, Same.new (R.gn hT)⟩
def JR (G : Hp) (J : It) (items : List D) : Prop := ∀ G1 H1, Same G G1 → Same G1 H1 →
  J.stop items.length H1 ∧ ∀ (i : Nat) (d : D), items[i]? = some d → J.go i H1 ∧ ∀ x H2, J.yld i H1 x H2 → ∃ G2, Ex1 G1 H1 G2 H2 ∧ Dat G2 d x
abbrev DI := En → (List D → En → Prop) → Prop
def RfI (C : FC) (wi : TI) (t : DI) : Prop := ∀ (G H : Hp) (σ : L2.St) (ρ : En) (QD : List D → En → Prop) (R' : It → Hp → Prop), Rep C G H σ ρ → t ρ QD →
  (∀ J items G' H' ρ', Rep C G' H' σ ρ' → Same G G' → JR G' J items → QD items ρ' → R' J H') → wi σ H R'
structure PIV (X : Cx) (C : FC) (tg iter : Expr) (wi : TI) (t : DI) : Prop where
  pe : PI X tg iter wi
  rf : RfI C wi t
section
variable {X : Cx} {C : FC}
/-- a list or a tuple -/
def iSeq (K : PySem.W.Frag) (tl : TE) : TI := fun σ H R => tl σ H fun x H1 => ∃ a, x = .ref a ∧ (((∃ xs, SqL K H1 a xs) ∧ R (Itl K a) H1) ∨ ((∃ xs, SqT K H1 a xs) ∧ R (Itt K a) H1))
theorem pi_seq {tg l : Expr} {tl : TE} (hl : PE X l tl) : PI X tg l (iSeq X.K tl) := by
  refine ⟨fun pins s σ H R I h => ?_⟩
  refine thn (hl.run pins s σ H _ I h) fun v s1 ⟨x, H1, I1, r1, q1⟩ => ?_
  obtain ⟨a, e, q⟩ := q1
  subst e
  cases r1
  rcases q with ⟨⟨xs, hq⟩, q⟩ | ⟨⟨xs, hq⟩, q⟩
  · obtain ⟨its, rv, p, hz⟩ := I1.list hq
    refine wpAny_pyIter_list p.isList ?_
    refine ⟨s1.heap.objs.size, [s1.heap.objs.size], _, _, H1, rfl, I1.kept (t' := s1.toks) fun b o e => Heap.get?_push_of_some _ e, turn_list a _, ⟨_, Heap.get?_push_size _ rfl, rfl, rfl⟩, fun b hb => ?_, q⟩
    have e : b = s1.heap.objs.size := by simpa using hb
    subst e
    exact I1.fpOk (Nat.le_refl _) (I1.hok.fresh (Nat.le_refl _))
  · obtain ⟨its, rv, p, hz⟩ := I1.tuple hq
    refine wpAny_pyIter_tuple (show s1.heap.IsTuple a its.toArray from p) ?_
    refine ⟨s1.heap.objs.size, [s1.heap.objs.size], _, _, H1, rfl, I1.kept (t' := s1.toks) fun b o e => Heap.get?_push_of_some _ e, turn_tuple a _, ⟨_, Heap.get?_push_size _ rfl, rfl, rfl⟩, fun b hb => ?_, q⟩
    have e : b = s1.heap.objs.size := by simpa using hb
    subst e
    exact I1.fpOk (Nat.le_refl _) (I1.hok.fresh (Nat.le_refl _))
theorem rdL {K : PySem.W.Frag} {H : Hp} {a : Addr} {vs xs : List V} (h : H a = some (.lst vs)) : SqL K H a vs := SqL.of h
/-- items of a list -/
theorem jr_list {K : PySem.W.Frag} {G : Hp} {a : Addr} {vs : List V} {ds : List D} (h : G a = some (.lst vs)) (hd : Dats G ds vs) : JR G (Itl K a) ds := fun G1 H1 s1 s2 => by
  have ha : SqL K H1 a vs := SqL.of (s2 _ _ (s1 _ _ h))
  refine ⟨⟨vs, ha, by rw [hd.length]; exact Nat.le_refl _⟩, fun i d e => ?_⟩
  obtain ⟨v, h3, h4⟩ := hd.get e
  refine ⟨⟨vs, v, ha, h3⟩, fun x H2 ⟨e2, hy⟩ => ⟨G1, .inl ⟨rfl, e2⟩, ?_⟩⟩
  have := hy vs ha
  rw [h3] at this; cases this
  exact Dat.mono s1 _ _ h4
theorem jr_tup {K : PySem.W.Frag} {G : Hp} {a : Addr} {vs : List V} {ds : List D} (h : G a = some (.tup vs)) (hd : Dats G ds vs) : JR G (Itt K a) ds := fun G1 H1 s1 s2 => by
  have ha : SqT K H1 a vs := SqT.of (s2 _ _ (s1 _ _ h))
  refine ⟨⟨vs, ha, by rw [hd.length]; exact Nat.le_refl _⟩, fun i d e => ?_⟩
  obtain ⟨v, h3, h4⟩ := hd.get e
  refine ⟨⟨vs, v, ha, h3⟩, fun x H2 ⟨e2, hy⟩ => ⟨G1, .inl ⟨rfl, e2⟩, ?_⟩⟩
  have := hy vs ha
  rw [h3] at this; cases this
  exact Dat.mono s1 _ _ h4
def xSeqI (t : DE) : DI := fun ρ Q => t ρ fun s ρ1 => match s.toD with
  | .lst ds => Q ds ρ1
  | .tup ds => Q ds ρ1
  | _ => False
theorem di_seq {tg l : Expr} {tl : TE} {t : DE} (h : PV X C l tl t) : PIV X C tg l (iSeq X.K tl) (xSeqI t) := ⟨pi_seq h.pe, fun G H σ ρ QD R' R q k => by
  refine h.rf.go (QD := fun d ρ1 => match d with | .lst ds => QD ds ρ1 | .tup ds => QD ds ρ1 | _ => False) R q fun v d G1 H1 ρ1 R1 s1 hd q1 => ?_
  split at q1
  · rename_i ds
    obtain ⟨a, vs, rfl, h1, h2⟩ := hd
    exact ⟨a, rfl, .inl ⟨⟨vs, SqL.of (R1.sub _ _ h1)⟩, k _ _ G1 H1 ρ1 R1 s1 (jr_list h1 h2) q1⟩⟩
  · rename_i ds
    obtain ⟨a, vs, rfl, h1, h2⟩ := hd
    exact ⟨a, rfl, .inr ⟨⟨vs, SqT.of (R1.sub _ _ h1)⟩, k _ _ G1 H1 ρ1 R1 s1 (jr_tup h1 h2) q1⟩⟩
  · exact q1.elim⟩
/-- lo, lo + 1, .. -/
def rngD (lo : Int) (n : Nat) : List D := (List.range n).map fun i : Nat => D.int (lo + i)
theorem rngD_len (lo : Int) (n : Nat) : (rngD lo n).length = n := by simp [rngD]
theorem rngD_get {lo : Int} {n i : Nat} {d : D} (h : (rngD lo n)[i]? = some d) : i < n ∧ d = .int (lo + i) := by
  have hi : i < n := by
    have := (List.getElem?_eq_some_iff.mp h).1
    rwa [rngD_len] at this
  refine ⟨hi, ?_⟩
  unfold rngD at h
  rw [List.getElem?_map, List.getElem?_range hi] at h
  exact (Option.some.inj h).symm
theorem jr_range {G : Hp} {lo : Int} {n : Nat} : JR G (Itr lo n) (rngD lo n) := fun G1 H1 s1 s2 => by
  refine ⟨by rw [rngD_len]; exact Nat.le_refl n, fun i d e => ?_⟩
  obtain ⟨hi, rfl⟩ := rngD_get e
  exact ⟨hi, fun x H2 ⟨e2, e3⟩ => ⟨G1, .inl ⟨rfl, e2⟩, e3⟩⟩
def xRng1 (t : DA) : DI := fun ρ Q => t ρ fun ds ρ1 => match ds with
  | [.int j] => -1000000000000 < j ∧ j < 1000000000000 ∧ Q (rngD 0 j.toNat) ρ1
  | _ => False
theorem di_range1 {tg a : Expr} {ta : TA} {t : DA} {p pos : Pos} (hg : Gl X "range") (hm : X.mg "range" = none) (ha : PAV X C [a] ta t) (hs : starEach [a] X.env = [(false, eval a X.env)] := by rfl) : PIV X C tg (.Call (.Name "range" p) [a] [] pos) (iRng1 ta) (xRng1 t) :=
  ⟨pi_range1 hg hm ha.pe hs, fun G H σ ρ QD R' R q k => ha.rf G H σ ρ _ _ R q fun vs ds G1 H1 ρ1 R1 s1 hd q1 => by
    split at q1
    · rename_i j
      obtain ⟨v, rfl, h1⟩ := hd.one
      cases (show v = _ from h1)
      exact ⟨j, rfl, by omega, by omega, k _ _ G1 H1 ρ1 R1 s1 jr_range q1.2.2⟩
    · exact q1.elim⟩
def xRng2 (t : DA) : DI := fun ρ Q => t ρ fun ds ρ1 => match ds with
  | [.int i, .int j] => (-1000000000000 < i ∧ i < 1000000000000 ∧ -1000000000000 < j ∧ j < 1000000000000) ∧ Q (rngD i (j - i).toNat) ρ1
  | _ => False
theorem di_range2 {tg a b : Expr} {ta : TA} {t : DA} {p pos : Pos} (hg : Gl X "range") (hm : X.mg "range" = none) (ha : PAV X C [a, b] ta t) (hs : starEach [a, b] X.env = [(false, eval a X.env), (false, eval b X.env)] := by rfl) (hs2 : starEach [b] X.env = [(false, eval b X.env)] := by rfl) :
    PIV X C tg (.Call (.Name "range" p) [a, b] [] pos) (iRng2 ta) (xRng2 t) :=
  ⟨pi_range2 hg hm ha.pe hs hs2, fun G H σ ρ QD R' R q k => ha.rf G H σ ρ _ _ R q fun vs ds G1 H1 ρ1 R1 s1 hd q1 => by
    split at q1
    · rename_i i j
      obtain ⟨v, u, rfl, h1, h2⟩ := hd.two
      cases (show v = _ from h1)
      cases (show u = _ from h2)
      obtain ⟨⟨b1, b2, b3, b4⟩, q1⟩ := q1
      exact ⟨i, j, rfl, ⟨by omega, by omega, by omega, by omega⟩, k _ _ G1 H1 ρ1 R1 s1 jr_range q1⟩
    · exact q1.elim⟩
def zipD (xs ys : List D) : List D := (xs.zip ys).map fun p => .tup [p.1, p.2]
theorem zipD_len (xs ys : List D) : (zipD xs ys).length = min xs.length ys.length := by simp [zipD]
theorem zipD_get {xs ys : List D} {i : Nat} {d : D} (h : (zipD xs ys)[i]? = some d) : ∃ x y, xs[i]? = some x ∧ ys[i]? = some y ∧ d = .tup [x, y] := by
  unfold zipD at h
  rw [List.getElem?_map] at h
  cases e : (xs.zip ys)[i]? with
  | none => rw [e] at h; cases h
  | some p =>
    rw [e] at h
    obtain ⟨h1, h2⟩ := List.getElem?_zip_eq_some.mp e
    exact ⟨p.1, p.2, h1, h2, (Option.some.inj h).symm⟩
theorem pair_new {G1 H1 : Hp} {T : Addr} {x y : V} {a b : D} (sm : Same G1 H1) (hT : H1 T = none) (ha : Dat G1 a x) (hb : Dat G1 b y) : ∃ G2, Ex1 G1 H1 G2 (upd H1 T (.tup [x, y])) ∧ Dat G2 (.tup [a, b]) (.ref T) := by
  have gs : Same G1 (upd G1 T (.tup [x, y])) := Same.new (sm.free hT)
  exact ⟨_, .inr ⟨T, _, hT, rfl, rfl⟩, T, [x, y], rfl, upd_same, x, [y], rfl, Dat.mono gs _ _ ha, y, [], rfl, Dat.mono gs _ _ hb, rfl⟩
theorem jr_zipL {K : PySem.W.Frag} {G : Hp} {a b : Addr} {vs us : List V} {ds es : List D} (h : G a = some (.lst vs)) (hd : Dats G ds vs) (h' : G b = some (.lst us)) (hd' : Dats G es us) : JR G (Itz K a b) (zipD ds es) := fun G1 H1 s1 s2 => by
  have ha : SqL K H1 a vs := SqL.of (s2 _ _ (s1 _ _ h))
  have hb : SqL K H1 b us := SqL.of (s2 _ _ (s1 _ _ h'))
  refine ⟨⟨vs, us, ha, hb, ?_⟩, fun i d e => ?_⟩
  · rw [zipD_len, ← hd.length, ← hd'.length]; omega
  · obtain ⟨x, y, e1, e2, rfl⟩ := zipD_get e
    obtain ⟨v, h3, h4⟩ := hd.get e1
    obtain ⟨u, h5, h6⟩ := hd'.get e2
    refine ⟨⟨vs, us, v, u, ha, hb, h3, h5⟩, fun z H2 hy => ?_⟩
    obtain ⟨T, x', y', rfl, hT, rfl, f1, f2⟩ := hy
    have := f1 vs ha
    rw [h3] at this; cases this
    have := f2 us hb
    rw [h5] at this; cases this
    exact pair_new s2 hT (Dat.mono s1 _ _ h4) (Dat.mono s1 _ _ h6)
theorem jr_zipT {K : PySem.W.Frag} {G : Hp} {a b : Addr} {vs us : List V} {ds es : List D} (h : G a = some (.tup vs)) (hd : Dats G ds vs) (h' : G b = some (.tup us)) (hd' : Dats G es us) : JR G (RZ.ItzT K a b) (zipD ds es) := fun G1 H1 s1 s2 => by
  have ha : SqT K H1 a vs := SqT.of (s2 _ _ (s1 _ _ h))
  have hb : SqT K H1 b us := SqT.of (s2 _ _ (s1 _ _ h'))
  refine ⟨⟨vs, us, ha, hb, ?_⟩, fun i d e => ?_⟩
  · rw [zipD_len, ← hd.length, ← hd'.length]; omega
  · obtain ⟨x, y, e1, e2, rfl⟩ := zipD_get e
    obtain ⟨v, h3, h4⟩ := hd.get e1
    obtain ⟨u, h5, h6⟩ := hd'.get e2
    refine ⟨⟨vs, us, v, u, ha, hb, h3, h5⟩, fun z H2 hy => ?_⟩
    obtain ⟨T, x', y', rfl, hT, rfl, f1, f2⟩ := hy
    have := f1 vs ha
    rw [h3] at this; cases this
    have := f2 us hb
    rw [h5] at this; cases this
    exact pair_new s2 hT (Dat.mono s1 _ _ h4) (Dat.mono s1 _ _ h6)
def xZip (t : DA) : DI := fun ρ Q => t ρ fun ds ρ1 => match ds with
  | [.lst xs, .lst ys] => Q (zipD xs ys) ρ1
  | [.tup xs, .tup ys] => Q (zipD xs ys) ρ1
  | _ => False
theorem di_zip {e e2 : Expr} {ta : TA} {t : DA} {p pos tpos : Pos} {elts : List Expr} {kk : Nat} (hg : Gl X "zip") (hm : X.mg "zip" = none) (ha : PAV X C [e, e2] ta t)
    (hs : starEach [e, e2] X.env = (false, eval e X.env) :: starEach [e2] X.env := by rfl) (hpl : (backTo pos (starEach [e2] X.env)).any (·.1) = false := by rfl) : PIV X C (.Tuple elts kk tpos) (.Call (.Name "zip" p) [e, e2] [] pos) (RZ.iZipA X.K ta) (xZip t) :=
  ⟨RZ.pi_zipA hg hm ha.pe hs hpl, fun G H σ ρ QD R' R q k => ha.rf G H σ ρ _ _ R q fun vs ds G1 H1 ρ1 R1 s1 hd q1 => by
    split at q1
    · rename_i xs ys
      obtain ⟨v, u, rfl, ⟨a, us, rfl, h1, h2⟩, ⟨b, ws, rfl, h3, h4⟩⟩ := hd.two
      exact ⟨a, b, us, ws, rfl, .inl ⟨SqL.of (R1.sub _ _ h1), SqL.of (R1.sub _ _ h3), k _ _ G1 H1 ρ1 R1 s1 (jr_zipL h1 h2 h3 h4) q1⟩⟩
    · rename_i xs ys
      obtain ⟨v, u, rfl, ⟨a, us, rfl, h1, h2⟩, ⟨b, ws, rfl, h3, h4⟩⟩ := hd.two
      exact ⟨a, b, us, ws, rfl, .inr ⟨SqT.of (R1.sub _ _ h1), SqT.of (R1.sub _ _ h3), k _ _ G1 H1 ρ1 R1 s1 (jr_zipT h1 h2 h3 h4) q1⟩⟩
    · exact q1.elim⟩
def enumD (xs : List D) : List D := (xs.zipIdx).map fun p => .tup [.int (p.2 : Nat), p.1]
theorem enumD_len (xs : List D) : (enumD xs).length = xs.length := by simp [enumD]
theorem enumD_get {xs : List D} {i : Nat} {d : D} (h : (enumD xs)[i]? = some d) : ∃ x, xs[i]? = some x ∧ d = .tup [.int (i : Nat), x] := by
  unfold enumD at h
  rw [List.getElem?_map, List.getElem?_zipIdx] at h
  cases e : xs[i]? with
  | none => rw [e] at h; cases h
  | some p =>
    rw [e] at h
    refine ⟨p, rfl, ?_⟩
    have := (Option.some.inj h).symm
    simpa using this
theorem jr_enum {K : PySem.W.Frag} {G : Hp} {a : Addr} {vs : List V} {ds : List D} (h : G a = some (.lst vs)) (hd : Dats G ds vs) : JR G (Ite K a) (enumD ds) := fun G1 H1 s1 s2 => by
  have ha : SqL K H1 a vs := SqL.of (s2 _ _ (s1 _ _ h))
  refine ⟨⟨vs, ha, by rw [enumD_len, hd.length]; exact Nat.le_refl _⟩, fun i d e => ?_⟩
  obtain ⟨x, e1, rfl⟩ := enumD_get e
  obtain ⟨v, h3, h4⟩ := hd.get e1
  refine ⟨⟨vs, v, ha, h3⟩, fun z H2 hy => ?_⟩
  obtain ⟨T, x', rfl, hT, rfl, f1⟩ := hy
  have := f1 vs ha
  rw [h3] at this; cases this
  exact pair_new s2 hT rfl (Dat.mono s1 _ _ h4)

/-! ### loops -/
def xFor (ti : DI) (g : DG) (tb : DS) : DS := fun Z ρ => ti ρ fun items ρ1 => ∃ Inv : Nat → En → Prop, Inv 0 ρ1 ∧
  (∀ (i : Nat) (d : D) (ρ : En), items[i]? = some d → Inv i ρ → g d ρ fun ρ2 => tb { nx := Inv (i + 1), ct := Inv (i + 1), bk := Z.nx, rt := Z.rt } ρ2) ∧ ∀ ρ, Inv items.length ρ → Z.nx ρ
theorem ds_for {tg iter : Expr} {body : List Stmt} {wi : TI} {ti : DI} {g : TG} {gd : DG} {is : List Nat} {tb : TS} {t : DS} {pos : Pos} (hp : PassesOwn (model X.prog X.w) X.A X.env X.xe) (hc : X.calm = true) (hi : PIV X C tg iter wi ti) (hg : PGV X C tg g gd is) (hb : PSsV X C body tb t)
    (hs : ∀ x, foldedSetIterable iter X.env x = pure x := by intro _; rfl) : PSV X C (.For tg iter body [] pos) (tFor wi g tb) (xFor ti gd t) := by
  refine ⟨ps_for hp hc hi.pe hg.pe hb.pe hs, fun G H σ ρ DD E R q k => ?_⟩
  refine hi.rf G H σ ρ _ _ R q fun J items G1 H1 ρ1 R1 s1 jr ⟨Iv, i0, istep, iend⟩ => ?_
  refine ⟨fun i m σ' H' => m = items.length - i ∧ i ≤ items.length ∧ ∃ G' ρ', Rep C G' H' σ' ρ' ∧ Same G1 G' ∧ Iv i ρ', ⟨_, rfl, Nat.zero_le _, G1, ρ1, R1, Same.refl _, i0⟩, ?_⟩
  rintro i m σ' H' ⟨rfl, hi', G', ρ', R', s', iv⟩
  obtain ⟨jst, jgo⟩ := jr G' H' s' R'.sub
  by_cases hlt : i < items.length
  · obtain ⟨go, yl⟩ := jgo i items[i] (List.getElem?_eq_getElem hlt)
    refine .inr ⟨go, fun σ2 H2 => ∃ G2 ρ2, Rep C G2 H2 σ2 ρ2 ∧ Same G1 G2 ∧ Iv (i + 1) ρ2, fun σ2 H2 ⟨G2, ρ2, R2, s2, iv2⟩ => ⟨items.length - (i + 1), by omega, rfl, hlt, G2, ρ2, R2, s2, iv2⟩, fun x H2 hy => ?_⟩
    obtain ⟨G2, e2, hd⟩ := yl x H2 hy
    obtain ⟨R2, s2⟩ := R'.ex1 e2
    refine hg.rf G2 H2 σ' ρ' x items[i] _ _ R2 hd (istep i items[i] ρ' (List.getElem?_eq_getElem hlt) iv) fun G3 H3 σ3 ρ3 R3 s3 _ _ q3 => ?_
    have sm : Same G1 G3 := (s'.trans s2).trans s3
    exact hb.rf G3 H3 σ3 ρ3 _ _ R3 q3 ⟨fun _ _ _ _ R4 s4 q4 => ⟨_, _, R4, sm.trans s4, q4⟩, fun _ _ _ _ R4 s4 q4 => k.nx _ _ _ _ R4 ((s1.trans sm).trans s4) q4, fun _ _ _ _ R4 s4 q4 => ⟨_, _, R4, sm.trans s4, q4⟩,
      fun _ _ _ _ _ _ R4 s4 rv q4 => k.rt _ _ _ _ _ _ R4 ((s1.trans sm).trans s4) rv q4⟩
  · have e : i = items.length := by omega
    subst e
    exact .inl ⟨jst, k.nx _ _ _ _ R' (s1.trans s') (iend ρ' iv)⟩
def xWhile (c : DT) (tb : DS) : DS := fun Z ρ => ∃ Inv : Nat → En → Prop, (∃ m, Inv m ρ) ∧ ∀ m ρ, Inv m ρ → c ρ fun b ρ1 => if b = true then tb { nx := fun ρ' => ∃ m', m' < m ∧ Inv m' ρ', ct := fun ρ' => ∃ m', m' < m ∧ Inv m' ρ', bk := Z.nx, rt := Z.rt } ρ1 else Z.nx ρ1
theorem ds_while {c : Expr} {body : List Stmt} {tt : TT} {tc : DT} {tb : TS} {t : DS} {pos : Pos} (hp : PassesOwn (model X.prog X.w) X.A X.env X.xe) (hc : PTV X C c tt tc) (hb : PSsV X C body tb t) : PSV X C (.While c body [] pos) (tWhile tt tb) (xWhile tc t) := by
  refine ⟨ps_while hp hc.pe hb.pe, fun G H σ ρ DD E R ⟨Iv, ⟨m0, i0⟩, istep⟩ k => ?_⟩
  refine ⟨fun m σ' H' => ∃ G' ρ', Rep C G' H' σ' ρ' ∧ Same G G' ∧ Iv m ρ', ⟨m0, G, ρ, R, Same.refl _, i0⟩, ?_⟩
  rintro m σ' H' ⟨G', ρ', R', s', iv⟩
  refine hc.rf G' H' σ' ρ' _ _ R' (istep m ρ' iv) fun b G1 H1 ρ1 R1 s1 q1 => ?_
  cases b with
  | true =>
    refine ⟨fun σ2 H2 => ∃ m', m' < m ∧ ∃ G2 ρ2, Rep C G2 H2 σ2 ρ2 ∧ Same G G2 ∧ Iv m' ρ2, fun σ2 H2 ⟨m', hm, h⟩ => ⟨m', hm, h⟩, ?_⟩
    have sm := s'.trans s1
    exact hb.rf G1 H1 σ' ρ1 _ _ R1 q1 ⟨fun _ _ _ _ R4 s4 ⟨m', hm, q4⟩ => ⟨m', hm, _, _, R4, sm.trans s4, q4⟩, fun _ _ _ _ R4 s4 q4 => k.nx _ _ _ _ R4 (sm.trans s4) q4, fun _ _ _ _ R4 s4 ⟨m', hm, q4⟩ => ⟨m', hm, _, _, R4, sm.trans s4, q4⟩,
      fun _ _ _ _ _ _ R4 s4 rv q4 => k.rt _ _ _ _ _ _ R4 (sm.trans s4) rv q4⟩
  | false => exact k.nx _ _ _ _ R1 (s'.trans s1) q1

/-! ### comprehensions -/
def wipeD (ρ : En) : List Nat → En
  | [] => ρ
  | v :: vs => (wipeD ρ vs).set v none
def kf (ρ : En) (v : Nat) : Option S := match ρ[v]? with
  | some (some (.fz d)) => some (.fz d)
  | _ => none
def unw (ρ ρb : En) : List Nat → En
  | [] => ρb
  | v :: vs => (unw ρ ρb vs).set v (kf ρ v)
theorem wipeD_get {ρ : En} {j : Nat} {s : S} : ∀ {vs : List Nat}, (wipeD ρ vs)[j]? = some (some s) → ρ[j]? = some (some s) ∧ j ∉ vs
  | [], h => ⟨h, by simp⟩
  | v :: vs, h => by
    unfold wipeD at h
    obtain ⟨h1, h2⟩ := get_setN h
    obtain ⟨h3, h4⟩ := wipeD_get h2
    exact ⟨h3, by simp only [List.mem_cons, not_or]; exact ⟨h1, h4⟩⟩
theorem wipeD_len (ρ : En) : ∀ vs : List Nat, (wipeD ρ vs).length = ρ.length
  | [] => rfl
  | v :: vs => by unfold wipeD; rw [List.length_set, wipeD_len ρ vs]
theorem unw_len (ρ ρb : En) : ∀ vs : List Nat, (unw ρ ρb vs).length = ρb.length
  | [] => rfl
  | v :: vs => by unfold unw; rw [List.length_set, unw_len ρ ρb vs]
theorem kf_some {ρ : En} {v : Nat} {s : S} (h : kf ρ v = some s) : ρ[v]? = some (some s) ∧ s.own = false := by
  unfold kf at h
  split at h
  · rename_i d e
    cases h
    exact ⟨e, rfl⟩
  · cases h
theorem unw_get {ρ ρb : En} {j : Nat} {s : S} : ∀ {vs : List Nat}, (unw ρ ρb vs)[j]? = some (some s) → (ρ[j]? = some (some s) ∧ s.own = false) ∨ (j ∉ vs ∧ ρb[j]? = some (some s))
  | [], h => .inr ⟨by simp, h⟩
  | v :: vs, h => by
    unfold unw at h
    cases e : kf ρ v with
    | none =>
      rw [e] at h
      obtain ⟨h1, h2⟩ := get_setN h
      rcases unw_get h2 with h3 | ⟨h3, h4⟩
      · exact .inl h3
      · exact .inr ⟨by simp only [List.mem_cons, not_or]; exact ⟨h1, h3⟩, h4⟩
    | some s' =>
      rw [e] at h
      rcases get_set h with ⟨rfl, rfl⟩ | ⟨h1, h2⟩
      · exact .inl (kf_some e)
      · rcases unw_get h2 with h3 | ⟨h3, h4⟩
        · exact .inl h3
        · exact .inr ⟨by simp only [List.mem_cons, not_or]; exact ⟨h1, h3⟩, h4⟩
theorem wipe_at {σ : L2.St} {j : Nat} : ∀ {vs : List Nat}, j ∉ vs → (wipe σ vs)[j]? = σ[j]?
  | [], _ => rfl
  | v :: vs, h => by
    simp only [List.mem_cons, not_or] at h
    unfold wipe
    rw [set_at h.1, wipe_at h.2]
theorem Rep.wipe {C : FC} {G H : Hp} {σ : L2.St} {ρ : En} (R : Rep C G H σ ρ) (vs : List Nat) : Rep C G H (wipe σ vs) (wipeD ρ vs) := by
  refine ⟨by rw [wipeD_len, wipe_length]; exact R.len, R.sub, R.g0, R.keep, R.new, R.bl, fun i d e => ?_, fun i s e os => ?_, fun i j s s' p ne e1 o1 e2 o2 z1 z2 => ?_⟩
  · obtain ⟨h1, h2⟩ := wipeD_get e
    rw [wipe_at h2]; exact R.fz i d h1
  · obtain ⟨h1, h2⟩ := wipeD_get e
    rw [wipe_at h2]; exact R.ow i s h1 os
  · obtain ⟨h1, h2⟩ := wipeD_get e1
    obtain ⟨h3, h4⟩ := wipeD_get e2
    rw [wipe_at h2] at z1
    rw [wipe_at h4] at z2
    exact R.ap i j s s' p ne h1 o1 h3 o2 z1 z2
theorem Rep.unwipe {C : FC} {G1 H1 G H : Hp} {σ : L2.St} {ρ ρb : En} {vs : List Nat} (R1 : Rep C G1 H1 σ ρ) (R : Rep C G H (L2.wipe σ vs) ρb) (sm : Same G1 G) : Rep C G H σ (unw ρ ρb vs) := by
  refine ⟨by rw [unw_len, R.len, wipe_length], R.sub, R.g0, R.keep, R.new, R.bl, fun i d e => ?_, fun i s e os => ?_, fun i j s s' p ne e1 o1 e2 o2 z1 z2 => ?_⟩
  · rcases unw_get e with ⟨h1, _⟩ | ⟨h1, h2⟩
    · obtain ⟨v, h3, h4⟩ := R1.fz i d h1
      exact ⟨v, h3, Dat.mono sm _ _ h4⟩
    · obtain ⟨v, h3, h4⟩ := R.fz i d h2
      rw [wipe_at h1] at h3
      exact ⟨v, h3, h4⟩
  · rcases unw_get e with ⟨_, h1⟩ | ⟨h1, h2⟩
    · rw [os] at h1; cases h1
    · obtain ⟨p, h3, h4⟩ := R.ow i s h2 os
      rw [wipe_at h1] at h3
      exact ⟨p, h3, h4⟩
  · rcases unw_get e1 with ⟨_, h1⟩ | ⟨h1, h2⟩
    · rw [o1] at h1; cases h1
    · rcases unw_get e2 with ⟨_, h3⟩ | ⟨h3, h4⟩
      · rw [o2] at h3; cases h3
      · rw [← wipe_at h1] at z1
        rw [← wipe_at h3] at z2
        exact R.ap i j s s' p ne h2 o1 h4 o2 z1 z2
/-- an object set aside while other things run -/
def FC.aside (C : FC) (p : Addr) (o : HO) : FC := { C with H0 := upd C.H0 p o }
theorem Rep.aside {C : FC} {G H : Hp} {σ : L2.St} {ρ : En} (R : Rep C G H σ ρ) {p : Addr} {o : HO} (hp : H p = some o) (hg : G p = none) (h0 : C.H0 p = none) (ha : ∀ (j : Nat) (s' : S), ρ[j]? = some (some s') → s'.own = true → σ[j]? ≠ some (some (.ref p))) :
    Rep (C.aside p o) G H σ ρ := by
  refine ⟨R.len, R.sub, R.g0, fun b x e z => ?_, fun b x e => ?_, fun b e => ?_, R.fz, fun i s e os => ?_, R.ap⟩
  · have e : upd C.H0 p o b = some x := e
    by_cases hb : b = p
    · subst hb; rw [upd_same] at e; cases e; exact hp
    · rw [upd_ne hb] at e; exact R.keep b x e z
  · show C.G0 b = some x ∨ upd C.H0 p o b = none
    have hb : b ≠ p := fun z => by subst z; rw [hg] at e; cases e
    rw [upd_ne hb]; exact R.new b x e
  · obtain ⟨a, b', c⟩ := R.bl b e
    refine ⟨a, ?_, c⟩
    show upd C.H0 p o b ≠ none
    by_cases hb : b = p
    · subst hb; rw [upd_same]; exact fun z => nomatch z
    · rw [upd_ne hb]; exact b'
  · obtain ⟨q, h1, h2, h3, h4⟩ := R.ow i s e os
    have hq : q ≠ p := fun z => ha i s e os (z ▸ h1)
    refine ⟨q, h1, h2, h3, ?_⟩
    show (upd C.H0 p o q = none ∧ _) ∨ _
    rw [upd_ne hq]; exact h4
theorem Rep.back {C : FC} {G H : Hp} {σ : L2.St} {ρ : En} {p : Addr} {o : HO} (hg0 : C.G0 p = none) (h0 : C.H0 p = none) (hb0 : C.bag ≠ some p) (R : Rep (C.aside p o) G H σ ρ) :
    Rep C G H σ ρ ∧ H p = some o ∧ G p = none ∧ ∀ (j : Nat) (s' : S), ρ[j]? = some (some s') → s'.own = true → σ[j]? ≠ some (some (.ref p)) := by
  have hp : H p = some o := R.keep p o (show upd C.H0 p o p = some o from upd_same) hb0
  have hg : G p = none := by
    cases e : G p with
    | none => rfl
    | some x =>
      rcases R.new p x e with z | z
      · rw [show C.G0 p = some x from z] at hg0; cases hg0
      · have this : upd C.H0 p o p = some o := upd_same
        rw [show upd C.H0 p o p = none from z] at this; cases this
  have ha : ∀ (j : Nat) (s' : S), ρ[j]? = some (some s') → s'.own = true → σ[j]? ≠ some (some (.ref p)) := fun j s' e os z => by
    obtain ⟨q, h1, h2, h3, h4⟩ := R.ow j s' e os
    rw [z] at h1; cases h1
    rcases h4 with ⟨h4, _⟩ | ⟨h4, _⟩
    · have : upd C.H0 p o p = some o := upd_same
      rw [show upd C.H0 p o p = none from h4] at this; cases this
    · exact hb0 h4
  refine ⟨⟨R.len, R.sub, R.g0, fun b x e z => ?_, fun b x e => ?_, fun b e => ?_, R.fz, fun i s e os => ?_, R.ap⟩, hp, hg, ha⟩
  · have hb : b ≠ p := fun z => by subst z; rw [h0] at e; cases e
    exact R.keep b x (show upd C.H0 p o b = some x by rw [upd_ne hb]; exact e) z
  · rcases R.new b x e with z | z
    · exact .inl z
    · have hb : b ≠ p := fun z => by subst z; rw [hg] at e; cases e
      have z' : upd C.H0 p o b = none := z
      rw [upd_ne hb] at z'
      exact .inr z'
  · obtain ⟨a, b', c⟩ := R.bl b e
    have hb : b ≠ p := fun z => by subst z; exact hb0 e
    have z' : upd C.H0 p o b ≠ none := b'
    rw [upd_ne hb] at z'
    exact ⟨a, z', c⟩
  · obtain ⟨q, h1, h2, h3, h4⟩ := R.ow i s e os
    refine ⟨q, h1, h2, h3, ?_⟩
    rcases h4 with ⟨h4, hb4⟩ | h4
    · have hq : q ≠ p := fun z => ha i s e os (z ▸ h1)
      have z' : upd C.H0 p o q = none := h4
      rw [upd_ne hq] at z'
      exact .inl ⟨z', hb4⟩
    · exact .inr h4
def xLc (ti : DI) (g : DG) (tt : DT) (te : DE) (vs : List Nat) : DE := fun ρ Q => ti ρ fun items ρ1 => items.length ≤ 100000 ∧ ∃ Inv : Nat → List D → En → Prop, Inv 0 [] (wipeD ρ1 vs) ∧
  (∀ (i : Nat) (d : D) (acc : List D) (ρb : En), items[i]? = some d → Inv i acc ρb → g d ρb fun ρ2 => tt ρ2 fun b ρ3 => if b = true then te ρ3 fun s ρ4 => Inv (i + 1) (acc ++ [s.toD]) (wipeD ρ4 vs) else Inv (i + 1) acc (wipeD ρ3 vs)) ∧
  ∀ acc ρb, Inv items.length acc ρb → Q (.ow acc) (unw ρ1 ρb vs)
structure PTsV (X : Cx) (C : FC) (ifs : List Expr) (tt : TT) (t : DT) : Prop where
  pe : PTs X ifs tt
  rf : RfT C tt t
theorem dts_nil : PTsV X C [] tYes (fun ρ Q => Q true ρ) := ⟨pts_nil, fun G H σ ρ QD Q R q k => k true G H ρ R (Same.refl G) q⟩
theorem dts_one {c : Expr} {tt : TT} {t : DT} (h : PTV X C c tt t) : PTsV X C [c] tt t := ⟨pts_one h.pe, h.rf⟩
theorem rf_lc {wi : TI} {ti : DI} {g : TG} {gd : DG} {tt : TT} {t : DT} {te : TE} {d : DE} {vs is : List Nat} (hi : RfI C wi ti)
    (hg : ∀ (C : FC) (G H : Hp) (σ : L2.St) (ρ : En) (v : V) (d : D) (QD : En → Prop) (Q : L2.St → Hp → Prop), Rep C G H σ ρ → Dat G d v → gd d ρ QD →
    (∀ G' H' σ' ρ', Rep C G' H' σ' ρ' → Same G G' → H' = H → (∀ vs : List Nat, (∀ k ∈ is, k ∈ vs) → wipe σ' vs = wipe σ vs) → QD ρ' → Q σ' H') → g v σ H Q)
    (ht : ∀ C, RfT C tt t) (he : ∀ C, Rf C te d) (hv : ∀ k ∈ is, k ∈ vs) : Rf C (tLc wi g tt te vs) (xLc ti gd t d vs) := fun G H σ ρ QD Q R q k => by
  refine hi G H σ ρ _ _ R q fun J items G1 H1 ρ1 R1 s1 jr ⟨hlen, Iv, i0, istep, iend⟩ D0 hD => ?_
  have h0 := R1.h0 hD
  have g1 := R1.gn hD
  have g00 : C.G0 D0 = none := R1.g0.free g1
  have b0 : C.bag ≠ some D0 := fun z => (R1.bl _ z).2.1 h0
  have RD : Rep C G1 (upd H1 D0 (.lst [])) σ ρ1 := R1.newOw hD
  have apD := R1.apart hD
  refine ⟨fun i m H' => m = items.length - i ∧ i ≤ items.length ∧ ∃ G' ρb acc accV, Rep C G' H' (wipe σ vs) ρb ∧ Same G1 G' ∧ H' D0 = some (.lst accV) ∧ Dats G' acc accV ∧ G' D0 = none ∧
    (∀ (j : Nat) (s' : S), ρb[j]? = some (some s') → s'.own = true → (wipe σ vs)[j]? ≠ some (some (.ref D0))) ∧ acc.length ≤ i ∧ Iv i acc ρb,
    ⟨_, rfl, Nat.zero_le _, G1, wipeD ρ1 vs, [], [], RD.wipe vs, Same.refl _, upd_same, rfl, g1, fun j s' e os z => ?_, Nat.le_refl _, i0⟩, ?_⟩
  · obtain ⟨h1, h2⟩ := wipeD_get e
    rw [wipe_at h2] at z
    exact apD j s' h1 os z
  rintro i m H' ⟨rfl, hi', G', ρb, acc, accV, R', s', hH, hdat, hG, hap, hal, iv⟩
  obtain ⟨jst, jgo⟩ := jr G' H' s' R'.sub
  by_cases hlt : i < items.length
  · obtain ⟨go, yl⟩ := jgo i items[i] (List.getElem?_eq_getElem hlt)
    refine .inr ⟨go, fun H2 => ∃ G2 ρ2 acc2 accV2, Rep C G2 H2 (wipe σ vs) ρ2 ∧ Same G1 G2 ∧ H2 D0 = some (.lst accV2) ∧ Dats G2 acc2 accV2 ∧ G2 D0 = none ∧
      (∀ (j : Nat) (s' : S), ρ2[j]? = some (some s') → s'.own = true → (wipe σ vs)[j]? ≠ some (some (.ref D0))) ∧ acc2.length ≤ i + 1 ∧ Iv (i + 1) acc2 ρ2,
      fun H2 ⟨G2, ρ2, acc2, accV2, h⟩ => ⟨items.length - (i + 1), by omega, rfl, hlt, G2, ρ2, acc2, accV2, h⟩, fun x H2 hy => ?_⟩
    obtain ⟨G2, e2, hd⟩ := yl x H2 hy
    obtain ⟨R2, s2⟩ := R'.ex1 e2
    have hH2 : H2 D0 = some (.lst accV) := by
      rcases e2 with ⟨_, rfl⟩ | ⟨T, o, hT, _, rfl⟩
      · exact hH
      · rw [upd_ne (ne_of_none hH hT)]; exact hH
    have hG2 : G2 D0 = none := by
      rcases e2 with ⟨rfl, _⟩ | ⟨T, o, hT, rfl, _⟩
      · exact hG
      · rw [upd_ne (ne_of_none hH hT)]; exact hG
    have RA := R2.aside hH2 hG2 h0 hap
    refine hg _ G2 H2 (wipe σ vs) ρb x items[i] _ _ RA hd (istep i items[i] acc ρb (List.getElem?_eq_getElem hlt) iv) fun G3 H3 σ3 ρ3 R3 s3 e3 w3 q3 => ?_
    have ew : wipe σ3 vs = wipe σ vs := by
      rw [w3 vs hv]
      have idem : ∀ (ws : List Nat) (us : List Nat), (∀ k ∈ us, k ∈ ws) → wipe (wipe σ us) ws = wipe σ ws := by
        intro ws us
        induction us with
        | nil => intro _; rfl
        | cons u us ih =>
          intro hu
          show wipe ((wipe σ us).set u none) ws = _
          rw [wipe_set (hu u (by simp)), ih fun k hk => hu k (by simp [hk])]
      exact idem vs vs fun k hk => hk
    refine ⟨ew, ht _ G3 H3 σ3 ρ3 _ _ R3 q3 fun b G4 H4 ρ4 R4 s4 q4 => ?_⟩
    cases b with
    | true =>
      refine he _ G4 H4 σ3 ρ4 _ _ R4 q4 fun v s G5 H5 ρ5 R5 s5 rv q5 => ?_
      obtain ⟨G6, R6, s6, hd6⟩ := R5.freeze rv
      obtain ⟨R7, hH7, hG7, ap7⟩ := Rep.back g00 h0 b0 R6
      have sm : Same G' G6 := (((s2.trans s3).trans s4).trans s5).trans s6
      have dacc : Dats G6 (acc ++ [s.toD]) (accV ++ [v]) := (Dats.mono sm _ _ hdat).append ⟨v, [], rfl, hd6, rfl⟩
      refine ⟨accV, hH7, ?_, G6, wipeD ρ5 vs, _, _, ?_, s'.trans sm, upd_same, dacc, hG7, fun j s' e os z => ?_, ?_, q5⟩
      · rw [← hdat.length]
        exact Nat.lt_of_lt_of_le (Nat.lt_of_le_of_lt hal (Nat.lt_of_lt_of_le hlt hlen)) (by decide)
      · rw [← ew]
        refine Rep.wipe (R := ?_) vs
        -- the list D0 written: no slot holds it
        have hk : ∀ b x, b ≠ D0 → H5 b = x → upd H5 D0 (.lst (accV ++ [v])) b = x := fun b x hb e => by rw [upd_ne hb]; exact e
        refine ⟨R7.len, fun b x e => ?_, R7.g0, fun b x e z => ?_, R7.new, fun b e => ?_, R7.fz, fun j s e os => ?_, R7.ap⟩
        · exact hk b _ (fun z => by subst z; rw [hG7] at e; cases e) (R7.sub b x e)
        · exact hk b _ (fun z => by subst z; rw [h0] at e; cases e) (R7.keep b x e z)
        · obtain ⟨a, b', c⟩ := R7.bl b e
          refine ⟨a, b', ?_⟩
          rw [upd_ne fun z => by subst z; exact b0 e]; exact c
        · obtain ⟨p, z1, z2, z3, z4⟩ := R7.ow j s e os
          have hp : p ≠ D0 := fun z => ap7 j s e os (z ▸ z1)
          exact ⟨p, z1, z2.mono (Same.refl _) (upd_ne hp), z3, z4⟩
      · obtain ⟨h1, h2⟩ := wipeD_get e
        rw [← ew, wipe_at h2] at z
        exact ap7 j s' h1 os z
      · rw [List.length_append]
        show acc.length + 1 ≤ i + 1
        omega
    | false =>
      obtain ⟨R7, hH7, hG7, ap7⟩ := Rep.back g00 h0 b0 R4
      have sm : Same G' G4 := (s2.trans s3).trans s4
      refine ⟨G4, wipeD ρ4 vs, acc, accV, ?_, s'.trans sm, hH7, Dats.mono sm _ _ hdat, hG7, fun j s' e os z => ?_, by omega, q4⟩
      · rw [← ew]; exact R7.wipe vs
      · obtain ⟨h1, h2⟩ := wipeD_get e
        rw [← ew, wipe_at h2] at z
        exact ap7 j s' h1 os z
  · have e : i = items.length := by omega
    subst e
    refine .inl ⟨jst, k _ (.ow acc) G' H' _ (R1.unwipe R' s') (s1.trans s') ⟨D0, rfl, ⟨accV, hH, hdat⟩, hG, h0, rfl, fun j s'' e os z => ?_⟩ (iend acc ρb iv)⟩
    rcases unw_get e with ⟨_, h1⟩ | ⟨h1, h2⟩
    · rw [os] at h1; cases h1
    · rw [← wipe_at h1] at z
      exact hap j s'' h2 os z
end
end L3

namespace L3
open PySem PySem.Spec PyProof.Rows L2

section
variable {X : Cx} {C : FC}
/-! ### comprehensions, as terms -/
theorem d_lc {elt tg iter : Expr} {ifs : List Expr} {scope : Scope} {pos : Pos} {wi : TI} {ti : DI} {g : TG} {gd : DG} {tt : TT} {t : DT} {te : TE} {d : DE} {is : List Nat} (own : List (Str × Nat)) (hc : X.calm = true) (hN : X.N.Nodup) (hi : PIV X C tg iter wi ti) (ok : BlkOk X.N X.env.scope scope own)
    (hg : ∀ (C : FC) (s : Shared) (H : Hp) (c : Addr) (cl : List (Str × Addr)) (fp : List Addr), PGV (X.blk s H scope (compEnvC scope cl c X.env) fp) C tg g gd is) (ht : ∀ (C : FC) (s : Shared) (H : Hp) (c : Addr) (cl : List (Str × Addr)) (fp : List Addr), PTsV (X.blk s H scope (compEnvC scope cl c X.env) fp) C ifs tt t)
    (he : ∀ (C : FC) (s : Shared) (H : Hp) (c : Addr) (cl : List (Str × Addr)) (fp : List Addr), PV (X.blk s H scope (compEnvC scope cl c X.env) fp) C elt te d) (hv : ∀ k ∈ is, k ∈ own.map (·.2) := by decide) (hs : ∀ x, foldedSetIterable iter X.env x = pure x := by intro _; rfl) :
    PV X C (.ListComp elt [⟨tg, iter, ifs, 0⟩] scope pos) (tLc wi g tt te (own.map (·.2))) (xLc ti gd t d (own.map (·.2))) :=
  ⟨pe_lc hc hN hi.pe ok (fun s H c cl fp => (hg C s H c cl fp).pe) (fun s H c cl fp => (ht C s H c cl fp).pe) (fun s H c cl fp => (he C s H c cl fp).pe) hs,
    rf_lc hi.rf (fun C' => (hg C' X.s_0 X.H_0 0 [] []).rf) (fun C' => (ht C' X.s_0 X.H_0 0 [] []).rf) (fun C' => (he C' X.s_0 X.H_0 0 [] []).rf) hv⟩
/-- name = [..], on one line -/
theorem ds_setLc (i : Nat) {y : Str} {py : Pos} {elt tg iter : Expr} {ifs : List Expr} {scope : Scope} {pos spos : Pos} {wi : TI} {ti : DI} {g : TG} {gd : DG} {tt : TT} {t : DT} {te : TE} {d : DE} {is : List Nat} (own : List (Str × Nat)) (hc : X.calm = true) (hN : X.N.Nodup)
    (hi : PIV X C tg iter wi ti) (ok : BlkOk X.N X.env.scope scope own)
    (hg : ∀ (C : FC) (s : Shared) (H : Hp) (c : Addr) (cl : List (Str × Addr)) (fp : List Addr), PGV (X.blk s H scope (compEnvC scope cl c X.env) fp) C tg g gd is) (ht : ∀ (C : FC) (s : Shared) (H : Hp) (c : Addr) (cl : List (Str × Addr)) (fp : List Addr), PTsV (X.blk s H scope (compEnvC scope cl c X.env) fp) C ifs tt t)
    (he : ∀ (C : FC) (s : Shared) (H : Hp) (c : Addr) (cl : List (Str × Addr)) (fp : List Addr), PV (X.blk s H scope (compEnvC scope cl c X.env) fp) C elt te d)
    (hsw : swapsWith (.ListComp elt [⟨tg, iter, ifs, 0⟩] scope pos) (some (.Name y py)) spos.line X.env = pure true)
    (hy : X.N[i]? = some y := by rfl) (hyl : X.env.scope.names.lookup y = some .local := by rfl)
    (hv : ∀ k ∈ is, k ∈ own.map (·.2) := by decide) (hs : ∀ x, foldedSetIterable iter X.env x = pure x := by intro _; rfl) :
    PSV X C (.Assign [.Name y py] (.ListComp elt [⟨tg, iter, ifs, 0⟩] scope pos) spos) (tAsg (tLc wi g tt te (own.map (·.2))) (gName i)) (xSet i (xLc ti gd t d (own.map (·.2)))) :=
  ⟨ps_setLc hc hN hy hyl hsw hi.pe ok (fun s H c cl fp => (hg C s H c cl fp).pe) (fun s H c cl fp => (ht C s H c cl fp).pe) (fun s H c cl fp => (he C s H c cl fp).pe) hs,
    rf_set (rf_lc hi.rf (fun C' => (hg C' X.s_0 X.H_0 0 [] []).rf) (fun C' => (ht C' X.s_0 X.H_0 0 [] []).rf) (fun C' => (he C' X.s_0 X.H_0 0 [] []).rf) hv)⟩
/-- a, b = x, y -/
def xPar (i j : Nat) (ta : DA) : DS := fun Z ρ => ta ρ fun ds ρ1 => match ds with
  | [d, e] => Z.nx ((ρ1.set i (some (.fz d))).set j (some (.fz e)))
  | _ => False
theorem ds_par (i j : Nat) {x y : Str} {a b : Expr} {ta : TA} {t : DA} {px py pt pos : Pos} {kt k2 pt2} (hc : X.calm = true) (hN : X.N.Nodup) (ha : PAV X C [a, b] ta t)
    (hw : swappedStores [.Tuple [.Name x px, .Name y py] kt pt] (.Tuple [a, b] k2 pt2) X.env = pure (some [x, y]) := by rfl)
    (hi : X.N[i]? = some x := by rfl) (hj : X.N[j]? = some y := by rfl) (hij : i ≠ j := by decide)
    (hx : X.env.scope.names.lookup x = some .local := by rfl) (hy : X.env.scope.names.lookup y = some .local := by rfl)
    (hs : swapsWithSole [.Tuple [.Name x px, .Name y py] kt pt] (.Tuple [a, b] k2 pt2) pos.line X.env = pure false := by rfl) :
    PSV X C (.Assign [.Tuple [.Name x px, .Name y py] kt pt] (.Tuple [a, b] k2 pt2) pos) (tPar i j ta) (xPar i j t) :=
  ⟨ps_par hc hN hi hj hij hx hy ha.pe hw hs, fun G H σ ρ DD E R q k => ha.rf G H σ ρ _ _ R q fun vs ds G1 H1 ρ1 R1 s1 hd q1 => by
    split at q1
    · rename_i d e
      obtain ⟨v, u, rfl, h1, h2⟩ := hd.two
      exact ⟨v, u, rfl, k.nx G1 H1 _ _ ((R1.set i (s := .fz d) h1).set j (s := .fz e) h2) s1 q1⟩
    · exact q1.elim⟩
end

/-! ### what a def promises, over plain data -/
/-- arguments, what is told, which exceptions leave (by their classes' names) -/
abbrev DP := List D → (S → Prop) → (Str → Prop) → Prop
/-- what is told: frozen, or a new object -/
def RetV (G H' H : Hp) (s : S) (v : V) : Prop :=
  match s with
  | .fz d => Dat G d v
  | s => ∃ p, v = .ref p ∧ OwnAt G H' p s ∧ G p = none ∧ H p = none ∧ s.isBg = false
structure Post (G H G' H' : Hp) (s : S) (v : V) : Prop where
  g : Same G G'
  h : Same H H'
  sub : Same G' H'
  new : ∀ p o, G' p = some o → G p = some o ∨ H p = none
  ret : RetV G' H' H s v
def spD (mg : Str → Option Value) (n : Nat) (dp : DP) : Sp := fun vs H Q E => ∃ (G : Hp) (ds : List D) (QD : S → Prop) (ED : Str → Prop), Same G H ∧ Dats G ds vs ∧ ds.length = n ∧ dp ds QD ED ∧
  (∀ v s G' H', QD s → Post G H G' H' s v → Q v H') ∧ ∀ c Ca H', ED c → mg c = some (.ref Ca) → Same H H' → E (.ref Ca) none H'
theorem spD_len {mg : Str → Option Value} {n : Nat} {dp : DP} {ps : List Str} (h : ps.length = n) : ∀ vs H Q E, spD mg n dp vs H Q E → vs.length = ps.length := fun vs H Q E ⟨G, ds, _, _, _, hd, hl, _⟩ => by
  rw [h, ← hl, hd.length]
/-- the bag first: what it holds, the other arguments, what is told with the bag's end -/
abbrev DB := List D → List D → (S → List D → Prop) → Prop
structure PostB (b : Addr) (G H G' H' : Hp) (s : S) (v : V) (bd : List D) : Prop where
  g : Same G G'
  h : ∀ p o, p ≠ b → H p = some o → H' p = some o
  sub : Same G' H'
  new : ∀ p o, G' p = some o → G p = some o ∨ H p = none
  bag : ∃ vs, H' b = some (.lst vs) ∧ Dats G' bd vs
  ret : RetV G' H' H s v
def spB (n : Nat) (db : DB) : Sp := fun vs H Q E => ∃ (G : Hp) (b : Addr) (vs' bv : List V) (bd ds : List D) (QD : S → List D → Prop), vs = .ref b :: vs' ∧ Same G H ∧ G b = none ∧ H b = some (.lst bv) ∧ Dats G bd bv ∧ Dats G ds vs' ∧ ds.length = n ∧ db bd ds QD ∧
  ∀ v s bd' G' H', QD s bd' → PostB b G H G' H' s v bd' → Q v H'
theorem spB_len {n : Nat} {db : DB} {ps : List Str} (h : ps.length = n + 1) : ∀ vs H Q E, spB n db vs H Q E → vs.length = ps.length := fun vs H Q E ⟨G, b, vs', bv, bd, ds, QD, e, _, _, _, _, hd, hl, _⟩ => by
  subst e
  rw [h, ← hl, hd.length]
  rfl

section
variable {X : Cx} {C : FC}
def xCall (n : Nat) (dp : DP) (ED : Str → Prop) (a : DA) : DE := fun ρ Q => a ρ fun ds ρ1 => ds.length = n ∧ dp ds (fun s => Q s ρ1) ED
theorem Rep.post {G H G' H' : Hp} {σ : L2.St} {ρ : En} {s : S} {v : V} (R : Rep C G H σ ρ) (P : Post G H G' H' s v) : Rep C G' H' σ ρ ∧ RV C G' H' σ ρ s v := by
  have R2 : Rep C G' H' σ ρ := by
    refine ⟨R.len, P.sub, R.g0.trans P.g, fun p o e z => P.h _ _ (R.keep p o e z), fun p o e => ?_, fun p e => ?_, fun i d e => ?_, fun i s e os => ?_, R.ap⟩
    · rcases P.new p o e with h | h
      · exact R.new p o h
      · exact .inr (R.h0 h)
    · obtain ⟨a, b, c⟩ := R.bl p e
      have hp : ∃ o, H p = some o := Option.ne_none_iff_exists'.mp c
      obtain ⟨o, ho⟩ := hp
      refine ⟨?_, b, by rw [P.h _ _ ho]; exact fun z => nomatch z⟩
      cases q : G' p with
      | none => rfl
      | some x =>
        rcases P.new p x q with h | h
        · rw [a] at h; cases h
        · exact absurd h c
    · obtain ⟨v, h1, h2⟩ := R.fz i d e
      exact ⟨v, h1, Dat.mono P.g _ _ h2⟩
    · obtain ⟨p, h1, h2, h3, h4⟩ := R.ow i s e os
      obtain ⟨o, ho⟩ := h2.some
      refine ⟨p, h1, h2.mono P.g ((P.h _ _ ho).trans ho.symm), ?_, h4⟩
      cases q : G' p with
      | none => rfl
      | some x =>
        rcases P.new p x q with h | h
        · rw [h3] at h; cases h
        · rw [ho] at h; cases h
  refine ⟨R2, ?_⟩
  have rt := P.ret
  cases s with
  | fz d => exact rt
  | ow ds =>
    obtain ⟨p, rfl, h2, h3, h4, h5⟩ := rt
    exact ⟨p, rfl, h2, h3, R.h0 h4, h5, R.apart h4⟩
  | od ks ds =>
    obtain ⟨p, rfl, h2, h3, h4, h5⟩ := rt
    exact ⟨p, rfl, h2, h3, R.h0 h4, h5, R.apart h4⟩
  | bg ds =>
    obtain ⟨p, rfl, h2, h3, h4, h5⟩ := rt
    cases h5
/-- what is wanted of exceptions, over the names -/
def EOk (C : FC) (mg : Str → Option Value) (ED : Str → Prop) (E : XK) : Prop := ∀ c Ca H', ED c → mg c = some (.ref Ca) → (∀ p o, C.H0 p = some o → C.bag ≠ some p → H' p = some o) → E (.ref Ca) none H'
theorem EOk.none {C : FC} {mg : Str → Option Value} {E : XK} : EOk C mg (fun _ => False) E := fun _ _ _ h _ _ => h.elim
theorem rf_call {n : Nat} {dp : DP} {ED : Str → Prop} {E : XK} {mg : Str → Option Value} {ta : TA} {a : DA} (he : EOk C mg ED E) (ha : RfA C ta a) : Rf C (tCall (spD mg n dp) [] E ta) (xCall n dp ED a) := fun G H σ ρ QD Q R q k => by
  refine ha G H σ ρ _ _ R q fun vs ds G1 H1 ρ1 R1 s1 hd ⟨hl, q1⟩ => ?_
  rw [List.append_nil]
  refine ⟨G1, ds, _, ED, R1.sub, hd, hl, q1, fun v s G' H' qs P => ?_, fun c Ca H' h1 h2 h3 => he c Ca H' h1 h2 fun p o e z => h3 _ _ (R1.keep p o e z)⟩
  obtain ⟨R2, rv⟩ := R1.post P
  exact k v s G' H' ρ1 R2 (s1.trans P.g) rv qs
theorem d_call {CX : CXT} {k n : Nat} {f : Addr} {fd : FuncData} {ps : List Str} {dp : DP} {ED : Str → Prop} {E : XK} {x : Str} {p pos : Pos} {e : Expr} {es : List Expr} {ta : TA} {a : DA} (F : FnOk X.prog X.w X.K X.mg X.base CX k f fd ps (spD X.mg n dp)) (hr : Room k X.A)
    (hm : X.mg x = some (.ref f)) (hk : PySem.W.keepIn X.K (.ref f) = true) (hb : Binds X.K fd ps []) (hx : Passes CX X E) (hE : EOk C X.mg ED E) (ha : PAV X C (e :: es) ta a) (hg : Gl X x := by rfl)
    (hdb : (x == ("__debug__" : Str)) = false := by decide) (he : starEach (e :: es) X.env = (false, eval e X.env) :: starEach es X.env := by rfl) (hpl : (backTo pos (starEach es X.env)).any (·.1) = false := by rfl) :
    PV X C (.Call (.Name x p) (e :: es) [] pos) (tCall (spD X.mg n dp) [] E ta) (xCall n dp ED a) := ⟨pe_call F hr hg hm hk hb .nil hx ha.pe hdb he hpl, rf_call hE ha.rf⟩
/-- the bag in slot i handed on -/
def xCallB (i n : Nat) (db : DB) (a : DA) : DE := fun ρ Q => (∃ b, ρ[i]? = some (some (.bg b))) ∧ a ρ fun ds ρ1 => ds.length = n ∧ ∃ b, ρ1[i]? = some (some (.bg b)) ∧ db b ds fun s b' => Q s (ρ1.set i (some (.bg b')))
theorem Rep.postB {G H G' H' : Hp} {σ : L2.St} {ρ : En} {s : S} {v : V} {i : Nat} {bd bd' : List D} {b : Addr} (R : Rep C G H σ ρ) (e : ρ[i]? = some (some (.bg bd))) (hb : σ[i]? = some (some (.ref b))) (P : PostB b G H G' H' s v bd') :
    Rep C G' H' σ (ρ.set i (some (.bg bd'))) ∧ RV C G' H' σ (ρ.set i (some (.bg bd'))) s v := by
  obtain ⟨b1, hb1, h2, h3, h4⟩ := R.ow i _ e rfl
  rw [hb] at hb1; cases hb1
  obtain ⟨ob, hob⟩ := h2.some
  have gb : G' b = none := by
    cases q : G' b with
    | none => rfl
    | some x =>
      rcases P.new b x q with h | h
      · rw [h3] at h; cases h
      · rw [hob] at h; cases h
  have R2 : Rep C G' H' σ (ρ.set i (some (.bg bd'))) := by
    refine ⟨by rw [List.length_set]; exact R.len, P.sub, R.g0.trans P.g, fun p o e z => ?_, fun p o e => ?_, fun p e => ?_, fun j d e => ?_, fun j s e' os => ?_, fun j k s1 s2 q ne e1 o1 e2 o2 z1 z2 => ?_⟩
    · have : p ≠ b := fun z' => by
        subst z'
        rcases h4 with ⟨h4, _⟩ | ⟨h4, _⟩
        · rw [h4] at e; cases e
        · exact z h4
      exact P.h _ _ this (R.keep p o e z)
    · rcases P.new p o e with h | h
      · exact R.new p o h
      · exact .inr (R.h0 h)
    · obtain ⟨a, b', c⟩ := R.bl p e
      obtain ⟨o, ho⟩ := Option.ne_none_iff_exists'.mp c
      refine ⟨?_, b', ?_⟩
      · cases q : G' p with
        | none => rfl
        | some x =>
          rcases P.new p x q with h | h
          · rw [a] at h; cases h
          · exact absurd h c
      · by_cases hp : p = b
        · subst hp
          obtain ⟨vs, q, _⟩ := P.bag
          rw [q]; exact fun z => nomatch z
        · rw [P.h _ _ hp ho]; exact fun z => nomatch z
    · rcases get_set e with ⟨_, z⟩ | ⟨_, z⟩
      · cases z
      · obtain ⟨v, h1, h2⟩ := R.fz j d z
        exact ⟨v, h1, Dat.mono P.g _ _ h2⟩
    · rcases get_set e' with ⟨rfl, rfl⟩ | ⟨hj, z⟩
      · exact ⟨b, hb, P.bag, gb, h4⟩
      · obtain ⟨p, z1, z2, z3, z4⟩ := R.ow j s z os
        obtain ⟨o, ho⟩ := z2.some
        have hp : p ≠ b := fun q => by subst q; exact R.ap i j _ s p (Ne.symm hj) e rfl z os hb z1
        refine ⟨p, z1, z2.mono P.g ((P.h _ _ hp ho).trans ho.symm), ?_, z4⟩
        cases q : G' p with
        | none => rfl
        | some x =>
          rcases P.new p x q with h | h
          · rw [z3] at h; cases h
          · rw [ho] at h; cases h
    · rcases get_set e1 with ⟨rfl, rfl⟩ | ⟨hj, e1'⟩
      · rcases get_set e2 with ⟨rfl, rfl⟩ | ⟨hk, e2'⟩
        · exact ne rfl
        · exact R.ap j k _ s2 q ne e rfl e2' o2 z1 z2
      · rcases get_set e2 with ⟨rfl, rfl⟩ | ⟨hk, e2'⟩
        · exact R.ap j k s1 _ q ne e1' o1 e rfl z1 z2
        · exact R.ap j k s1 s2 q ne e1' o1 e2' o2 z1 z2
  refine ⟨R2, ?_⟩
  have apn : ∀ {p : Addr}, H p = none → ∀ (j : Nat) (s' : S), (ρ.set i (some (.bg bd')))[j]? = some (some s') → s'.own = true → σ[j]? ≠ some (some (.ref p)) := fun {p} hp j s' e' os z => by
    rcases get_set e' with ⟨rfl, rfl⟩ | ⟨hj, e''⟩
    · rw [hb] at z; cases z
      rw [hob] at hp; cases hp
    · exact R.apart hp j s' e'' os z
  have rt := P.ret
  cases s with
  | fz d => exact rt
  | ow ds =>
    obtain ⟨p, rfl, h2, h3, h4, h5⟩ := rt
    exact ⟨p, rfl, h2, h3, R.h0 h4, h5, apn h4⟩
  | od ks ds =>
    obtain ⟨p, rfl, h2, h3, h4, h5⟩ := rt
    exact ⟨p, rfl, h2, h3, R.h0 h4, h5, apn h4⟩
  | bg ds =>
    obtain ⟨p, rfl, h2, h3, h4, h5⟩ := rt
    cases h5
theorem rf_callB {i n : Nat} {db : DB} {E : XK} {ta : TA} {a : DA} (ha : RfA C ta a) : Rf C (tCall (spB n db) [] E (tCons (tVar i) ta)) (xCallB i n db a) := fun G H σ ρ QD Q R ⟨⟨b0, e0⟩, q⟩ k => by
  obtain ⟨p, hp, _⟩ := R.ow i _ e0 rfl
  refine ⟨.ref p, hp, ha G H σ ρ _ _ R q fun vs ds G1 H1 ρ1 R1 s1 hd ⟨hl, b1, e1, q1⟩ => ?_⟩
  obtain ⟨p', hp', ⟨bv, h2, h3⟩, h4, _⟩ := R1.ow i _ e1 rfl
  rw [hp] at hp'; cases hp'
  rw [List.append_nil]
  refine ⟨G1, p, vs, bv, b1, ds, _, rfl, R1.sub, h4, h2, h3, hd, hl, q1, fun v s bd' G' H' qs P => ?_⟩
  obtain ⟨R2, rv⟩ := R1.postB e1 hp P
  exact k v s G' H' _ R2 (s1.trans P.g) rv qs
theorem d_callBag (i : Nat) {CX : CXT} {k n : Nat} {f : Addr} {fd : FuncData} {ps : List Str} {db : DB} {E : XK} {x y : Str} {p p2 pos : Pos} {es : List Expr} {ta : TA} {a : DA} (F : FnOk X.prog X.w X.K X.mg X.base CX k f fd ps (spB n db)) (hr : Room k X.A)
    (hm : X.mg x = some (.ref f)) (hk : PySem.W.keepIn X.K (.ref f) = true) (hb : Binds X.K fd ps []) (hx : Passes CX X E) (ha : PAV X C es ta a) (hg : Gl X x := by rfl)
    (hN : X.N[i]? = some y := by rfl) (hv : Vis X.env.scope y := by first | exact Or.inl rfl | exact Or.inr (Or.inl rfl) | exact Or.inr (Or.inr rfl)) (hd : (y == ("__debug__" : Str)) = false := by decide) (hcd : (y == ("__classdict__" : Str)) = false := by decide)
    (hdb : (x == ("__debug__" : Str)) = false := by decide) (he : starEach (.Name y p2 :: es) X.env = (false, eval (.Name y p2) X.env) :: starEach es X.env := by rfl) (hpl : (backTo pos (starEach es X.env)).any (·.1) = false := by rfl) :
    PV X C (.Call (.Name x p) (.Name y p2 :: es) [] pos) (tCall (spB n db) [] E (tCons (tVar i) ta)) (xCallB i n db a) := ⟨pe_call F hr hg hm hk hb .nil hx (pa_cons (pe_var hN hv hd hcd) ha.pe he) hdb he hpl, rf_callB ha.rf⟩
end

/-! ### a def by its body -/
def ini (n : Nat) (ds : List D) : En := ds.map (fun d => some (.fz d)) ++ List.replicate (n - ds.length) none
theorem start_at {N : List Str} {vs : List V} {i : Nat} {v : V} (h : vs[i]? = some v) : (L2.start N vs)[i]? = some (some v) := by
  unfold L2.start
  have hi := (List.getElem?_eq_some_iff.mp h).1
  rw [List.getElem?_append_left (by simpa using hi), List.getElem?_map, h]; rfl
theorem rep_start {N : List Str} {G H : Hp} {vs : List V} {ds : List D} (sm : Same G H) (hd : Dats G ds vs) (hn : ds.length ≤ N.length) : Rep ⟨H, G, none⟩ G H (L2.start N vs) (ini N.length ds) := by
  have hl := hd.length
  have at0 : ∀ (i : Nat) (s : S), (ini N.length ds)[i]? = some (some s) → ∃ d, ds[i]? = some d ∧ s = .fz d := fun i s e => by
    unfold ini at e
    by_cases hi : i < ds.length
    · rw [List.getElem?_append_left (by simpa using hi), List.getElem?_map, List.getElem?_eq_getElem hi] at e
      exact ⟨ds[i], List.getElem?_eq_getElem hi, (Option.some.inj (Option.some.inj e)).symm⟩
    · rw [List.getElem?_append_right (by simpa using hi), List.getElem?_replicate] at e
      split at e <;> cases e
  refine ⟨?_, sm, Same.refl G, fun _ _ e _ => e, fun _ _ e => .inl e, fun p e => (by cases e), fun i d e => ?_, fun i s e os => ?_, fun i j s s' p ne e1 o1 e2 o2 z1 z2 => ?_⟩
  · unfold ini L2.start
    simp only [List.length_append, List.length_map, List.length_replicate]
    omega
  · obtain ⟨d', h1, h2⟩ := at0 i _ e
    cases h2
    obtain ⟨v, h3, h4⟩ := hd.get h1
    exact ⟨v, start_at h3, h4⟩
  · obtain ⟨d', h1, rfl⟩ := at0 i _ e
    cases os
  · obtain ⟨d', h1, rfl⟩ := at0 i _ e1
    cases o1
theorem Rep.ret {G0 H0 G H : Hp} {σ : L2.St} {ρ : En} {s : S} {v : V} (R : Rep ⟨H0, G0, none⟩ G H σ ρ) (rv : RV ⟨H0, G0, none⟩ G H σ ρ s v) : Post G0 H0 G H s v :=
  ⟨R.g0, fun p o e => R.keep p o e (fun z => nomatch z), R.sub, R.new, by
    cases s with
    | fz d => exact rv
    | ow ds => obtain ⟨p, rfl, h2, h3, h4, h5, _⟩ := rv; exact ⟨p, rfl, h2, h3, h4, h5⟩
    | od ks ds => obtain ⟨p, rfl, h2, h3, h4, h5, _⟩ := rv; exact ⟨p, rfl, h2, h3, h4, h5⟩
    | bg ds => obtain ⟨p, rfl, h2, h3, h4, h5, _⟩ := rv; exact ⟨p, rfl, h2, h3, h4, h5⟩⟩
section
variable {P : Program} {w : World} {K : PySem.W.Frag} {mg : Str → Option Value} {base : Heap}
/-- no exception leaves -/
theorem fun_ok {x qual : Str} {st : Stmt} {f : Addr} {fd : FuncData} {N ps : List Str} {k n : Nat} {dp : DP} (F : Fun K x qual st f fd) (Sc : FnScope N ps (defScope st)) (hps : ps.length = n) (hN : n ≤ N.length)
    (h : ∀ (cdv : Value) (A : Around) (outer : List PySem.Env) (s : Shared) (H : Hp) (E : XK) (C : FC), Room k (A.deeper (envOfC qual (defScope st) s.heap.objs.size f cdv)) →
      ∃ ts t, PSsV (cxOf CX0 P w K mg base N qual (defScope st) f cdv A outer s H E).nox C (defBody st) ts t ∧ ∀ ds QD ED, ds.length = n → dp ds QD ED → t { nx := fun _ => QD (.fz .non), rt := fun s _ => QD s } (ini N.length ds)) :
    FnOk P w K mg base CX0 (k + 1) f fd ps (spD mg n dp) := by
  refine F.ok Sc (spD_len hps) fun cdv A outer s H vs Q E hr ⟨G, ds, QD, ED, sm, hd, hl, hdp, hq, _⟩ => ?_
  obtain ⟨ts, t, hb, hrd⟩ := h cdv A outer s H E ⟨H, G, none⟩ hr
  refine ⟨ts, hb.pe, hb.rf G H _ _ _ _ (rep_start (N := N) sm hd (by omega)) (hrd ds QD ED hl hdp) ⟨fun G' H' σ' ρ' R' s' q => ?_, fun _ _ _ _ _ _ q => q.elim, fun _ _ _ _ _ _ q => q.elim, fun v s G' H' σ' ρ' R' s' rv q => ?_⟩⟩
  · exact hq _ _ G' H' q (R'.ret (s := .fz .non) rfl)
  · exact hq v s G' H' q (R'.ret rv)
def iniB (n : Nat) (bd ds : List D) : En := some (.bg bd) :: (ds.map (fun d => some (.fz d)) ++ List.replicate (n - (ds.length + 1)) none)
theorem rep_startB {N : List Str} {G H : Hp} {vs bv : List V} {bd ds : List D} {b : Addr} (sm : Same G H) (gb : G b = none) (hb : H b = some (.lst bv)) (hbd : Dats G bd bv) (hd : Dats G ds vs) (hn : ds.length + 1 ≤ N.length) :
    Rep ⟨H, G, some b⟩ G H (L2.start N (.ref b :: vs)) (iniB N.length bd ds) := by
  have hl := hd.length
  have at0 : ∀ (i : Nat) (s : S), (iniB N.length bd ds)[i]? = some (some s) → (i = 0 ∧ s = .bg bd) ∨ ∃ j d, i = j + 1 ∧ ds[j]? = some d ∧ s = .fz d := fun i s e => by
    cases i with
    | zero =>
      have e' : some (some (S.bg bd)) = some (some s) := e
      cases e'
      exact .inl ⟨rfl, rfl⟩
    | succ j =>
      have e' : (ds.map (fun d => some (S.fz d)) ++ List.replicate (N.length - (ds.length + 1)) none)[j]? = some (some s) := e
      by_cases hi : j < ds.length
      · rw [List.getElem?_append_left (by simpa using hi), List.getElem?_map, List.getElem?_eq_getElem hi] at e'
        exact .inr ⟨j, ds[j], rfl, List.getElem?_eq_getElem hi, (Option.some.inj (Option.some.inj e')).symm⟩
      · rw [List.getElem?_append_right (by simpa using hi), List.getElem?_replicate] at e'
        split at e' <;> cases e'
  refine ⟨?_, sm, Same.refl G, fun _ _ e _ => e, fun _ _ e => .inl e, fun p e => ?_, fun i d e => ?_, fun i s e os => ?_, fun i j s s' p ne e1 o1 e2 o2 z1 z2 => ?_⟩
  · unfold iniB L2.start
    simp only [List.length_append, List.length_map, List.length_replicate, List.length_cons]
    omega
  · cases e
    exact ⟨gb, (by show H b ≠ none; rw [hb]; exact fun z => nomatch z), (by rw [hb]; exact fun z => nomatch z)⟩
  · rcases at0 i _ e with ⟨_, z⟩ | ⟨j, d', rfl, h1, h2⟩
    · cases z
    · cases h2
      obtain ⟨v, h3, h4⟩ := hd.get h1
      exact ⟨v, start_at (by simpa using h3), h4⟩
  · rcases at0 i _ e with ⟨rfl, rfl⟩ | ⟨j, d', rfl, h1, rfl⟩
    · exact ⟨b, start_at rfl, ⟨bv, hb, hbd⟩, gb, .inr ⟨rfl, rfl⟩⟩
    · cases os
  · rcases at0 i _ e1 with ⟨rfl, rfl⟩ | ⟨j', d', rfl, h1, rfl⟩
    · rcases at0 j _ e2 with ⟨rfl, rfl⟩ | ⟨j', d', rfl, h1, rfl⟩
      · exact ne rfl
      · cases o2
    · cases o1
/-- a def whose first argument is the bag: the bag's end stands in slot 0 -/
theorem fun_okB {x qual : Str} {st : Stmt} {f : Addr} {fd : FuncData} {N ps : List Str} {k n : Nat} {db : DB} (F : Fun K x qual st f fd) (Sc : FnScope N ps (defScope st)) (hps : ps.length = n + 1) (hN : n + 1 ≤ N.length)
    (h : ∀ (cdv : Value) (A : Around) (outer : List PySem.Env) (s : Shared) (H : Hp) (E : XK) (C : FC), Room k (A.deeper (envOfC qual (defScope st) s.heap.objs.size f cdv)) →
      ∃ ts t, PSsV (cxOf CX0 P w K mg base N qual (defScope st) f cdv A outer s H E).nox C (defBody st) ts t ∧ ∀ bd ds QD, ds.length = n → db bd ds QD →
        t { nx := fun _ => False, rt := fun s ρ => ∃ bd', ρ[0]? = some (some (.bg bd')) ∧ QD s bd' } (iniB N.length bd ds)) :
    FnOk P w K mg base CX0 (k + 1) f fd ps (spB n db) := by
  refine F.ok Sc (spB_len hps) fun cdv A outer s H vs Q E hr ⟨G, b, vs', bv, bd, ds, QD, e, sm, gb, hb, hbd, hd, hl, hdp, hq⟩ => ?_
  subst e
  obtain ⟨ts, t, hbo, hrd⟩ := h cdv A outer s H E ⟨H, G, some b⟩ hr
  have hst : (L2.start N (.ref b :: vs'))[0]? = some (some (.ref b)) := start_at rfl
  refine ⟨ts, hbo.pe, hbo.rf G H _ _ _ _ (rep_startB (N := N) sm gb hb hbd hd (by omega)) (hrd bd ds QD hl hdp) ⟨fun _ _ _ _ _ _ q => q.elim, fun _ _ _ _ _ _ q => q.elim, fun _ _ _ _ _ _ q => q.elim, fun v s G' H' σ' ρ' R' s' rv ⟨bd', e0, q⟩ => ?_⟩⟩
  obtain ⟨p, h1, ⟨bv', h2, h3⟩, h4, h5⟩ := R'.ow 0 _ e0 rfl
  have hp : p = b := by
    rcases h5 with ⟨_, h5⟩ | ⟨h5, _⟩
    · cases h5 rfl
    · exact (Option.some.inj h5).symm
  subst hp
  refine hq v s bd' G' H' q ⟨R'.g0, fun q o ne e => R'.keep q o e (fun z => ne (Option.some.inj z).symm), R'.sub, R'.new, ⟨bv', h2, h3⟩, ?_⟩
  cases s with
  | fz d => exact rv
  | ow ds => obtain ⟨q, rfl, h2, h3, h4, h5, _⟩ := rv; exact ⟨q, rfl, h2, h3, h4, h5⟩
  | od ks ds => obtain ⟨q, rfl, h2, h3, h4, h5, _⟩ := rv; exact ⟨q, rfl, h2, h3, h4, h5⟩
  | bg ds => obtain ⟨q, rfl, h2, h3, h4, h5, _⟩ := rv; cases h5
end
end L3

namespace L3
open PySem PySem.Spec PyProof.Rows L2

/-! ### defs of the text, by name -/
def Df (K : PySem.W.Frag) (mg : Str → Option Value) (x : Str) (st : Stmt) (ps : List Str) : Prop := ∃ f fd, Fun K x x st f fd ∧ mg x = some (.ref f) ∧ Binds K fd ps []
def Fn (P : Program) (w : World) (K : PySem.W.Frag) (mg : Str → Option Value) (base : Heap) (x : Str) (k n : Nat) (dp : DP) : Prop :=
  ∃ f fd ps, FnOk P w K mg base CX0 k f fd ps (spD mg n dp) ∧ mg x = some (.ref f) ∧ PySem.W.keepIn K (.ref f) = true ∧ Binds K fd ps []
def FnB (P : Program) (w : World) (K : PySem.W.Frag) (mg : Str → Option Value) (base : Heap) (x : Str) (k n : Nat) (db : DB) : Prop :=
  ∃ f fd ps, FnOk P w K mg base CX0 k f fd ps (spB n db) ∧ mg x = some (.ref f) ∧ PySem.W.keepIn K (.ref f) = true ∧ Binds K fd ps []
section
variable {X : Cx} {C : FC}
theorem d_fn {k n : Nat} {dp : DP} {x : Str} {p pos : Pos} {e : Expr} {es : List Expr} {ta : TA} {a : DA} (F : Fn X.prog X.w X.K X.mg X.base x k n dp) (hr : Room k X.A) (ha : PAV X C (e :: es) ta a) (hg : Gl X x := by rfl)
    (hdb : (x == ("__debug__" : Str)) = false := by decide) (he : starEach (e :: es) X.env = (false, eval e X.env) :: starEach es X.env := by rfl) (hpl : (backTo pos (starEach es X.env)).any (·.1) = false := by rfl) :
    PV X C (.Call (.Name x p) (e :: es) [] pos) (tCall (spD X.mg n dp) [] E0 ta) (xCall n dp (fun _ => False) a) := by
  obtain ⟨f, fd, ps, hF, hm, hk, hb⟩ := F
  exact d_call hF hr hm hk hb pass0 EOk.none ha hg hdb he hpl
theorem d_fnB (i : Nat) {k n : Nat} {db : DB} {x y : Str} {p p2 pos : Pos} {es : List Expr} {ta : TA} {a : DA} (F : FnB X.prog X.w X.K X.mg X.base x k n db) (hr : Room k X.A) (ha : PAV X C es ta a) (hg : Gl X x := by rfl)
    (hN : X.N[i]? = some y := by rfl) (hv : Vis X.env.scope y := by first | exact Or.inl rfl | exact Or.inr (Or.inl rfl) | exact Or.inr (Or.inr rfl)) (hd : (y == ("__debug__" : Str)) = false := by decide) (hcd : (y == ("__classdict__" : Str)) = false := by decide)
    (hdb : (x == ("__debug__" : Str)) = false := by decide) (he : starEach (.Name y p2 :: es) X.env = (false, eval (.Name y p2) X.env) :: starEach es X.env := by rfl) (hpl : (backTo pos (starEach es X.env)).any (·.1) = false := by rfl) :
    PV X C (.Call (.Name x p) (.Name y p2 :: es) [] pos) (tCall (spB n db) [] E0 (tCons (tVar i) ta)) (xCallB i n db a) := by
  obtain ⟨f, fd, ps, hF, hm, hk, hb⟩ := F
  exact d_callBag i hF hr hm hk hb pass0 ha hg hN hv hd hcd hdb he hpl
end
section
variable {P : Program} {w : World} {K : PySem.W.Frag} {mg : Str → Option Value} {base : Heap}
theorem fn_mk {x : Str} {st : Stmt} {N ps : List Str} {k n : Nat} {dp : DP} (d : Df K mg x st ps) (Sc : FnScope N ps (defScope st)) (hps : ps.length = n) (hN : n ≤ N.length)
    (h : ∀ (f : Addr) (cdv : Value) (A : Around) (outer : List PySem.Env) (s : Shared) (H : Hp) (E : XK) (C : FC), Room k (A.deeper (envOfC x (defScope st) s.heap.objs.size f cdv)) →
      ∃ ts t, PSsV (cxOf CX0 P w K mg base N x (defScope st) f cdv A outer s H E).nox C (defBody st) ts t ∧ ∀ ds QD ED, ds.length = n → dp ds QD ED → t { nx := fun _ => QD (.fz .non), rt := fun s _ => QD s } (ini N.length ds)) :
    Fn P w K mg base x (k + 1) n dp := by
  obtain ⟨f, fd, F, hm, hb⟩ := d
  exact ⟨f, fd, ps, fun_ok F Sc hps hN (h f), hm, F.kp, hb⟩
theorem fn_mkB {x : Str} {st : Stmt} {N ps : List Str} {k n : Nat} {db : DB} (d : Df K mg x st ps) (Sc : FnScope N ps (defScope st)) (hps : ps.length = n + 1) (hN : n + 1 ≤ N.length)
    (h : ∀ (f : Addr) (cdv : Value) (A : Around) (outer : List PySem.Env) (s : Shared) (H : Hp) (E : XK) (C : FC), Room k (A.deeper (envOfC x (defScope st) s.heap.objs.size f cdv)) →
      ∃ ts t, PSsV (cxOf CX0 P w K mg base N x (defScope st) f cdv A outer s H E).nox C (defBody st) ts t ∧ ∀ bd ds QD, ds.length = n → db bd ds QD →
        t { nx := fun _ => False, rt := fun s ρ => ∃ bd', ρ[0]? = some (some (.bg bd')) ∧ QD s bd' } (iniB N.length bd ds)) :
    FnB P w K mg base x (k + 1) n db := by
  obtain ⟨f, fd, F, hm, hb⟩ := d
  exact ⟨f, fd, ps, fun_okB F Sc hps hN (h f), hm, F.kp, hb⟩
theorem Fn.imp {x : Str} {k n : Nat} {dp dp' : DP} (F : Fn P w K mg base x k n dp) (h : ∀ ds Q E, dp' ds Q E → dp ds Q E) : Fn P w K mg base x k n dp' := by
  obtain ⟨f, fd, ps, hF, hm, hk, hb⟩ := F
  exact ⟨f, fd, ps, hF.imp fun vs H Q E ⟨G, ds, QD, ED, h1, h2, h3, h4, h5⟩ => ⟨G, ds, QD, ED, h1, h2, h3, h _ _ _ h4, h5⟩, hm, hk, hb⟩
end

/-! ### isinstance -/
def tyN : D → String
  | .non => "NoneType"
  | .bl _ => "bool"
  | .int _ => "int"
  | .str _ => "str"
  | .lst _ => "list"
  | .tup _ => "tuple"
  | .dct _ _ => "dict"
def isiN (T : String) (n : String) : Bool := n == T || (n == "bool" && T == "int")
def isiD (T : String) (d : D) : Bool := isiN T (tyN d)
theorem tyN_cases (d : D) : tyN d ∈ ["NoneType", "bool", "int", "str", "list", "tuple", "dict"] := by cases d <;> simp [tyN]
theorem kit_all : (["NoneType", "bool", "int", "str", "list", "tuple", "dict"].all fun n => ["int", "bool", "list", "tuple", "str"].all fun T => kitB n T == some (isiN T n)) = true := by decide +kernel
theorem kit_of_d {T : String} (hT : T ∈ ["int", "bool", "list", "tuple", "str"]) (d : D) : kitB (tyN d) T = some (isiD T d) := by
  have h := List.all_eq_true.mp (List.all_eq_true.mp kit_all (tyN d) (tyN_cases d)) T hT
  exact eq_of_beq h
theorem tyX_of {K : PySem.W.Frag} {G H : Hp} (sm : Same G H) {d : D} {v : V} (h : Dat G d v) : TyX K H v (.type (tyN d)) := by
  cases d with
  | non => cases (show v = _ from h); exact .base .non
  | bl b => cases (show v = _ from h); exact .base (.bl b)
  | int i => cases (show v = _ from h); exact .base (.int i)
  | str x => cases (show v = _ from h); exact .base (.str x)
  | lst ds => obtain ⟨a, vs, rfl, h1, _⟩ := h; exact .base (.lst (sm _ _ h1))
  | tup ds => obtain ⟨a, vs, rfl, h1, _⟩ := h; exact .base (.tup (sm _ _ h1))
  | dct ks ds => obtain ⟨a, vs, rfl, h1, _⟩ := h; exact .base (.dK (sm _ _ h1))
section
variable {X : Cx} {C : FC}
def xIsi (T : String) (t : DE) : DE := fun ρ Q => t ρ fun s ρ1 => Q (.fz (.bl (isiD T s.toD))) ρ1
theorem d_isi (T : String) (hT : T ∈ ["int", "bool", "list", "tuple", "str"]) {y : Str} (hbt : bootBuiltins y = some (.type T)) (hy1 : y ≠ "__name__") (hy2 : (y == ("__debug__" : Str)) = false) {e : Expr} {te : TE} {t : DE} {p p2 pos : Pos} (hg : Gl X "isinstance") (hm : X.mg "isinstance" = none) (hm2 : X.mg y = none) (h : PV X C e te t) (hg2 : Gl X y)
    (he : starEach [e, .Name y p2] X.env = (false, eval e X.env) :: starEach [.Name y p2] X.env) (he2 : starEach [.Name y p2] X.env = (false, eval (.Name y p2) X.env) :: starEach [] X.env)
    (hpl : (backTo pos (starEach [.Name y p2] X.env)).any (·.1) = false) :
    PV X C (.Call (.Name "isinstance" p) [e, .Name y p2] [] pos) (tCB (rIsi X.K) (tCons te (tCons (tC (.ty T)) tNil))) (xIsi T t) := by
  refine ⟨pe_callB call_isi hg hm (by decide +kernel) (pa_cons h.pe (pa_cons (pe_bltn (v := .ty T) hg2 hm2 hbt rfl hy1 hy2) pa_nil he2) he) (by decide) (by decide) he hpl, fun G H σ ρ QD Q R q k => ?_⟩
  refine h.rf.go (QD := fun d ρ1 => QD (.fz (.bl (isiD T d))) ρ1) R q fun v d G1 H1 ρ1 R1 s1 hd q1 => ?_
  exact ⟨v, .ty T, .type (tyN d), .type T, isiD T d, rfl, .ty T, tyX_of R1.sub hd, kit_ty (kit_of_d hT d), k _ _ G1 H1 ρ1 R1 s1 (rvf (d := .bl _) rfl) q1⟩
theorem d_isi_int {e : Expr} {te : TE} {t : DE} {p p2 pos : Pos} (hg : Gl X "isinstance") (hm : X.mg "isinstance" = none) (hm2 : X.mg "int" = none) (h : PV X C e te t) (hg2 : Gl X "int" := by rfl) (he : starEach [e, .Name "int" p2] X.env = (false, eval e X.env) :: starEach [.Name "int" p2] X.env := by rfl) (he2 : starEach [.Name "int" p2] X.env = (false, eval (.Name "int" p2) X.env) :: starEach [] X.env := by rfl)
    (hpl : (backTo pos (starEach [.Name "int" p2] X.env)).any (·.1) = false := by rfl) : PV X C (.Call (.Name "isinstance" p) [e, .Name "int" p2] [] pos) (tCB (rIsi X.K) (tCons te (tCons (tC (.ty "int")) tNil))) (xIsi "int" t) := d_isi "int" (by decide) (by decide +kernel) (by decide) (by decide) hg hm hm2 h hg2 he he2 hpl
theorem d_isi_bool {e : Expr} {te : TE} {t : DE} {p p2 pos : Pos} (hg : Gl X "isinstance") (hm : X.mg "isinstance" = none) (hm2 : X.mg "bool" = none) (h : PV X C e te t) (hg2 : Gl X "bool" := by rfl) (he : starEach [e, .Name "bool" p2] X.env = (false, eval e X.env) :: starEach [.Name "bool" p2] X.env := by rfl) (he2 : starEach [.Name "bool" p2] X.env = (false, eval (.Name "bool" p2) X.env) :: starEach [] X.env := by rfl)
    (hpl : (backTo pos (starEach [.Name "bool" p2] X.env)).any (·.1) = false := by rfl) : PV X C (.Call (.Name "isinstance" p) [e, .Name "bool" p2] [] pos) (tCB (rIsi X.K) (tCons te (tCons (tC (.ty "bool")) tNil))) (xIsi "bool" t) := d_isi "bool" (by decide) (by decide +kernel) (by decide) (by decide) hg hm hm2 h hg2 he he2 hpl
theorem d_isi_list {e : Expr} {te : TE} {t : DE} {p p2 pos : Pos} (hg : Gl X "isinstance") (hm : X.mg "isinstance" = none) (hm2 : X.mg "list" = none) (h : PV X C e te t) (hg2 : Gl X "list" := by rfl) (he : starEach [e, .Name "list" p2] X.env = (false, eval e X.env) :: starEach [.Name "list" p2] X.env := by rfl) (he2 : starEach [.Name "list" p2] X.env = (false, eval (.Name "list" p2) X.env) :: starEach [] X.env := by rfl)
    (hpl : (backTo pos (starEach [.Name "list" p2] X.env)).any (·.1) = false := by rfl) : PV X C (.Call (.Name "isinstance" p) [e, .Name "list" p2] [] pos) (tCB (rIsi X.K) (tCons te (tCons (tC (.ty "list")) tNil))) (xIsi "list" t) := d_isi "list" (by decide) (by decide +kernel) (by decide) (by decide) hg hm hm2 h hg2 he he2 hpl
theorem d_isi_tuple {e : Expr} {te : TE} {t : DE} {p p2 pos : Pos} (hg : Gl X "isinstance") (hm : X.mg "isinstance" = none) (hm2 : X.mg "tuple" = none) (h : PV X C e te t) (hg2 : Gl X "tuple" := by rfl) (he : starEach [e, .Name "tuple" p2] X.env = (false, eval e X.env) :: starEach [.Name "tuple" p2] X.env := by rfl) (he2 : starEach [.Name "tuple" p2] X.env = (false, eval (.Name "tuple" p2) X.env) :: starEach [] X.env := by rfl)
    (hpl : (backTo pos (starEach [.Name "tuple" p2] X.env)).any (·.1) = false := by rfl) : PV X C (.Call (.Name "isinstance" p) [e, .Name "tuple" p2] [] pos) (tCB (rIsi X.K) (tCons te (tCons (tC (.ty "tuple")) tNil))) (xIsi "tuple" t) := d_isi "tuple" (by decide) (by decide +kernel) (by decide) (by decide) hg hm hm2 h hg2 he he2 hpl
theorem d_isi_str {e : Expr} {te : TE} {t : DE} {p p2 pos : Pos} (hg : Gl X "isinstance") (hm : X.mg "isinstance" = none) (hm2 : X.mg "str" = none) (h : PV X C e te t) (hg2 : Gl X "str" := by rfl) (he : starEach [e, .Name "str" p2] X.env = (false, eval e X.env) :: starEach [.Name "str" p2] X.env := by rfl) (he2 : starEach [.Name "str" p2] X.env = (false, eval (.Name "str" p2) X.env) :: starEach [] X.env := by rfl)
    (hpl : (backTo pos (starEach [.Name "str" p2] X.env)).any (·.1) = false := by rfl) : PV X C (.Call (.Name "isinstance" p) [e, .Name "str" p2] [] pos) (tCB (rIsi X.K) (tCons te (tCons (tC (.ty "str")) tNil))) (xIsi "str" t) := d_isi "str" (by decide) (by decide +kernel) (by decide) (by decide) hg hm hm2 h hg2 he he2 hpl
/-- isinstance(e, (bool, list, tuple)) -/
def xIsi3 (t : DE) : DE := fun ρ Q => t ρ fun s ρ1 => Q (.fz (.bl (isiD "bool" s.toD || (isiD "list" s.toD || isiD "tuple" s.toD)))) ρ1
theorem d_isi_bool_list_tuple {e : Expr} {te : TE} {t : DE} {p p1 p2 p3 p4 pos : Pos} {kk} (hg : Gl X "isinstance") (hm : X.mg "isinstance" = none) (hm1 : X.mg "bool" = none) (hm2 : X.mg "list" = none) (hm3 : X.mg "tuple" = none) (h : PV X C e te t)
    (hg1 : Gl X "bool" := by rfl) (hg2 : Gl X "list" := by rfl) (hg3 : Gl X "tuple" := by rfl)
    (he : starEach [e, .Tuple [.Name "bool" p1, .Name "list" p2, .Name "tuple" p3] kk p4] X.env = (false, eval e X.env) :: starEach [.Tuple [.Name "bool" p1, .Name "list" p2, .Name "tuple" p3] kk p4] X.env := by rfl)
    (hpl : (backTo pos (starEach [.Tuple [.Name "bool" p1, .Name "list" p2, .Name "tuple" p3] kk p4] X.env)).any (·.1) = false := by rfl)
    (e0 : starEach [.Tuple [.Name "bool" p1, .Name "list" p2, .Name "tuple" p3] kk p4] X.env = (false, eval (.Tuple [.Name "bool" p1, .Name "list" p2, .Name "tuple" p3] kk p4) X.env) :: starEach [] X.env := by rfl)
    (e1 : starEach [.Name "bool" p1, .Name "list" p2, .Name "tuple" p3] X.env = (false, eval (.Name "bool" p1) X.env) :: starEach [.Name "list" p2, .Name "tuple" p3] X.env := by rfl)
    (e2 : starEach [.Name "list" p2, .Name "tuple" p3] X.env = (false, eval (.Name "list" p2) X.env) :: starEach [.Name "tuple" p3] X.env := by rfl)
    (e3 : starEach [.Name "tuple" p3] X.env = (false, eval (.Name "tuple" p3) X.env) :: starEach [] X.env := by rfl) :
    PV X C (.Call (.Name "isinstance" p) [e, .Tuple [.Name "bool" p1, .Name "list" p2, .Name "tuple" p3] kk p4] [] pos) (tCB (rIsiT X.K) (tCons te (tCons (tTup (tCons (tC (.ty "bool")) (tCons (tC (.ty "list")) (tCons (tC (.ty "tuple")) tNil)))) tNil))) (xIsi3 t) := by
  have hall := pe_callB (p := p) (pos := pos) (call_isiT (X := X)) hg hm (by decide +kernel) (pa_cons h.pe (pa_cons (pe_tup (x1 := kk) (pos := p4) (pa_cons (pe_bltn (v := .ty "bool") hg1 hm1 (by decide +kernel) rfl) (pa_cons (pe_bltn (v := .ty "list") hg2 hm2 (by decide +kernel) rfl) (pa_cons (pe_bltn (v := .ty "tuple") hg3 hm3 (by decide +kernel) rfl) pa_nil e3) e2) e1)) pa_nil e0) he) (by decide) (by decide) he hpl
  refine ⟨hall, fun G H σ ρ QD Q R q k => ?_⟩
  refine h.rf.go (QD := fun d ρ1 => QD (.fz (.bl (isiD "bool" d || (isiD "list" d || isiD "tuple" d)))) ρ1) R q fun v d G1 H1 ρ1 R1 s1 hd q1 => ?_
  refine ⟨by decide, fun tp hp => ?_⟩
  have R2 := R1.newOw (o := .tup [.ty "bool", .ty "list", .ty "tuple"]) hp
  refine ⟨v, tp, _, .type (tyN d), [.type "bool", .type "list", .type "tuple"], _, rfl, upd_same, .cons (.ty _) (.cons (.ty _) (.cons (.ty _) .nil)), tyX_of R2.sub hd, ?_, k _ _ G1 _ ρ1 R2 s1 (rvf (d := .bl _) rfl) q1⟩
  have k1 : PySem.W.kitOne X.K (.type (tyN d)) (.type "bool") = some (isiD "bool" d) := kit_ty (kit_of_d (by decide) d)
  have k2 : PySem.W.kitOne X.K (.type (tyN d)) (.type "list") = some (isiD "list" d) := kit_ty (kit_of_d (by decide) d)
  have k3 : PySem.W.kitOne X.K (.type (tyN d)) (.type "tuple") = some (isiD "tuple" d) := kit_ty (kit_of_d (by decide) d)
  refine kitAny_cons k1 (fun e1 => ?_) (fun e1 => by rw [e1, Bool.true_or])
  rw [e1, Bool.false_or]
  refine kitAny_cons k2 (fun e2 => ?_) (fun e2 => by rw [e2, Bool.true_or])
  rw [e2, Bool.false_or]
  exact kitAny_cons k3 (fun e3 => by rw [e3]; exact kitAny_nil) (fun e3 => e3)

/-! ### divmod -/
def xDivmod : DC := fun ds Q => match ds with
  | [.int i, .int j] => (0 < j ∧ j < 1073741824) ∧ Q (.fz (.tup [.int (i / j), .int (i % j)]))
  | _ => False
theorem c_divmod : CV X C (.builtin "divmod") (fun xs H Q => ∃ i j, xs = [.int i, .int j] ∧ CDiv i j ∧ ∀ p, H p = none → Q (.ref p) (upd H p (.tup [.int (i / j), .int (i % j)]))) xDivmod := ⟨call_divmod, fun G H σ ρ vs ds QD Q R hd q k => by
  unfold xDivmod at q
  split at q
  · rename_i i j
    obtain ⟨v, u, rfl, h1, h2⟩ := hd.two
    cases (show v = _ from h1)
    cases (show u = _ from h2)
    refine ⟨i, j, rfl, q.1, fun p hp => ?_⟩
    obtain ⟨R2, gs, rv⟩ := R.resT (ds := [.int (i / j), .int (i % j)]) hp ⟨_, _, rfl, rfl, _, _, rfl, rfl, rfl⟩
    exact k _ _ _ _ R2 gs rv q.2
  · exact q.elim⟩

/-! ### dicts with int keys -/
def putKs (ks : List Int) (k : Int) : List Int := if k ∈ ks then ks else ks ++ [k]
def putVs {α : Type} (ks : List Int) (xs : List α) (k : Int) (x : α) : List α := if k ∈ ks then (ks.zip xs).map (fun p => if p.1 = k then x else p.2) else xs ++ [x]
def getVs {α : Type} (ks : List Int) (xs : List α) (k : Int) : Option α := ((ks.zip xs).find? fun p => decide (p.1 = k)).map (·.2)
theorem inl_iff {a b : Int} : ((Sum.inl a : Key) = Sum.inl b) ↔ a = b := ⟨Sum.inl.inj, fun e => by rw [e]⟩
theorem any_mkK (k : Int) : ∀ (ks : List Int) (vs : List V), ks.length = vs.length → ((mkK ks vs).any fun kv => decide (kv.1 = Sum.inl k)) = decide (k ∈ ks)
  | [], vs, _ => by simp [mkK]
  | a :: ks, [], h => by simp at h
  | a :: ks, v :: vs, h => by
    have ih := any_mkK k ks vs (by simpa using h)
    unfold mkK at ih ⊢
    simp only [List.zip_cons_cons, List.map_cons, List.any_cons, ih]
    by_cases h1 : a = k
    · subst h1; simp
    · have : ¬ (Sum.inl a : Key) = Sum.inl k := fun z => h1 (Sum.inl.inj z)
      simp [h1, this, Ne.symm h1]
theorem map_mkK (k : Int) (x : V) : ∀ (ks : List Int) (vs : List V), ks.length = vs.length → (mkK ks vs).map (fun kv => if kv.1 = Sum.inl k then (kv.1, x) else kv) = mkK ks ((ks.zip vs).map fun p => if p.1 = k then x else p.2)
  | [], vs, _ => by simp [mkK]
  | a :: ks, [], h => by simp at h
  | a :: ks, v :: vs, h => by
    have ih := map_mkK k x ks vs (by simpa using h)
    unfold mkK at ih ⊢
    simp only [List.zip_cons_cons, List.map_cons, ih]
    by_cases h1 : a = k
    · subst h1; simp
    · have : ¬ (Sum.inl a : Key) = Sum.inl k := fun z => h1 (Sum.inl.inj z)
      simp [h1, this]
theorem put_mkK (ks : List Int) (vs : List V) (k : Int) (x : V) (h : ks.length = vs.length) : putK (mkK ks vs) (Sum.inl k) x = mkK (putKs ks k) (putVs ks vs k x) := by
  unfold putK putKs putVs
  rw [any_mkK k ks vs h]
  by_cases hk : k ∈ ks
  · rw [if_pos (decide_eq_true hk), if_pos hk, if_pos hk]; exact map_mkK k x ks vs h
  · rw [if_neg (by rw [decide_eq_false hk]; exact Bool.false_ne_true), if_neg hk, if_neg hk]
    unfold mkK
    rw [List.zip_append h, List.map_append]
    rfl
theorem val_mkK (k : Int) : ∀ (ks : List Int) (vs : List V), valV (mkK ks vs) (Sum.inl k) = getVs ks vs k
  | [], vs => by simp [mkK, valV, getVs]
  | a :: ks, [] => by simp [mkK, valV, getVs]
  | a :: ks, v :: vs => by
    have ih := val_mkK k ks vs
    unfold valV getVs mkK at ih ⊢
    simp only [List.zip_cons_cons, List.map_cons, List.find?_cons]
    by_cases h1 : a = k
    · subst h1; simp
    · have : ¬ (Sum.inl a : Key) = Sum.inl k := fun z => h1 (Sum.inl.inj z)
      simp only [h1, this, decide_false]
      exact ih
theorem keys_mkK (ks : List Int) (vs : List V) (h : ks.length = vs.length) : (mkK ks vs).map (·.1) = ks.map Sum.inl := by
  unfold mkK
  rw [List.map_map]
  have : ((fun (p : Key × V) => p.1) ∘ fun (p : Int × V) => ((Sum.inl p.1 : Key), p.2)) = (Sum.inl ∘ Prod.fst) := rfl
  rw [this, ← List.map_map, List.map_fst_zip (by omega)]
theorem putKs_len {α : Type} (ks : List Int) (xs : List α) (k : Int) (x : α) (h : ks.length = xs.length) : (putKs ks k).length = (putVs ks xs k x).length := by
  unfold putKs putVs
  split <;> simp [h]
theorem putDs {H : Hp} {k : Int} {d : D} {v : V} (hv : Dat H d v) : ∀ {ks : List Int} {ds : List D} {vs : List V}, Dats H ds vs → Dats H ((ks.zip ds).map fun p => if p.1 = k then d else p.2) ((ks.zip vs).map fun p => if p.1 = k then v else p.2)
  | [], _, _, _ => by simp; exact rfl
  | a :: ks, [], _, h => by cases h; simp; exact rfl
  | a :: ks, e :: ds, _, ⟨u, r, h1, h2, h3⟩ => by
    subst h1
    simp only [List.zip_cons_cons, List.map_cons]
    refine ⟨_, _, rfl, ?_, putDs hv h3⟩
    by_cases h1 : a = k
    · simp only [h1, if_true]; exact hv
    · simp only [h1, if_false]; exact h2
theorem putDats {H : Hp} {k : Int} {d : D} {v : V} {ks : List Int} {ds : List D} {vs : List V} (h : Dats H ds vs) (hv : Dat H d v) : Dats H (putVs ks ds k d) (putVs ks vs k v) := by
  unfold putVs
  split
  · exact putDs hv h
  · exact h.append ⟨v, [], rfl, hv, rfl⟩
theorem getDats {H : Hp} {k : Int} : ∀ {ks : List Int} {ds : List D} {vs : List V}, Dats H ds vs → match getVs ks ds k, getVs ks vs k with
    | some d, some v => Dat H d v
    | none, none => True
    | _, _ => False
  | [], _, _, _ => by simp [getVs]
  | a :: ks, [], _, h => by cases h; simp [getVs]
  | a :: ks, e :: ds, _, ⟨u, r, h1, h2, h3⟩ => by
    subst h1
    have ih := getDats (k := k) (ks := ks) h3
    unfold getVs at ih ⊢
    simp only [List.zip_cons_cons, List.find?_cons]
    by_cases h1 : a = k
    · subst h1; simpa using h2
    · simp only [h1, decide_false]; exact ih
/-- {} -/
theorem d_dnew {pos : Pos} : PV X C (.Dict [] [] pos) tDNewK (fun ρ Q => Q (.od [] []) ρ) := ⟨pe_dnewK, fun G H σ ρ QD Q R q k p hp => k _ (.od [] []) G _ ρ (R.newOw hp) (Same.refl G) ⟨p, rfl, ⟨[], upd_same, rfl, rfl⟩, R.gn hp, R.h0 hp, rfl, R.apart hp⟩ q⟩
/-- {k: v} -/
theorem d_disp1 {ek ev : Expr} {tk tv : TE} {dk dv : DE} {pos : Pos} (hk : ∀ C, PV X C ek tk dk) (hv : ∀ C, PV X C ev tv dv) (h : PE X (.Dict [some ek] [ev] pos) (tDisp [(tk, tv)])) :
    PV X C (.Dict [some ek] [ev] pos) (tDisp [(tk, tv)]) (fun ρ Q => dk ρ fun s ρ1 => dv ρ1 fun s' ρ2 => ∃ k, s.toD = .int k ∧ Q (.od [k] [s'.toD]) ρ2) := by
  refine ⟨h, fun G H σ ρ QD Q R q k p hp => ?_⟩
  have h0 := R.h0 hp
  have b0 : C.bag ≠ some p := fun z => (R.bl _ z).2.1 h0
  have g00 : C.G0 p = none := R.g0.free (R.gn hp)
  have RA := (R.newOw (o := .dK []) hp).aside upd_same (R.gn hp) h0 (R.apart hp)
  refine (hk _).rf.go (QD := fun d ρ1 => dv ρ1 fun s' ρ2 => ∃ k, d = .int k ∧ QD (.od [k] [s'.toD]) ρ2) RA q fun v d G1 H1 ρ1 R1 s1 hd q1 => ?_
  refine (hv _).rf.go (QD := fun d' ρ2 => ∃ k, d = .int k ∧ QD (.od [k] [d']) ρ2) R1 q1 fun v' d' G2 H2 ρ2 R2 s2 hd' q2 => ?_
  obtain ⟨n, rfl, q2⟩ := q2
  cases (show v = _ from hd)
  obtain ⟨R3, hp3, hg3, ap3⟩ := Rep.back g00 h0 b0 R2
  refine ⟨hp3, [(Sum.inl n, v')], rfl, by simp, ?_⟩
  have hH : ∀ b x, b ≠ p → H2 b = x → upd H2 p (.dK (mergeK [] [(Sum.inl n, v')])) b = x := fun b x hb e => by rw [upd_ne hb]; exact e
  have R4 : Rep C G2 (upd H2 p (.dK (mergeK [] [(Sum.inl n, v')]))) σ ρ2 := by
    refine ⟨R3.len, fun b x e => ?_, R3.g0, fun b x e z => ?_, R3.new, fun b e => ?_, R3.fz, fun j s e os => ?_, R3.ap⟩
    · exact hH b _ (fun z => by subst z; rw [hg3] at e; cases e) (R3.sub b x e)
    · exact hH b _ (fun z => by subst z; rw [h0] at e; cases e) (R3.keep b x e z)
    · obtain ⟨a, b', c⟩ := R3.bl b e
      exact ⟨a, b', by rw [upd_ne fun z => by subst z; exact b0 e]; exact c⟩
    · obtain ⟨q, z1, z2, z3, z4⟩ := R3.ow j s e os
      have hq : q ≠ p := fun z => ap3 j s e os (z ▸ z1)
      exact ⟨q, z1, z2.mono (Same.refl _) (upd_ne hq), z3, z4⟩
  exact k _ (.od [n] [d']) G2 _ ρ2 R4 (s1.trans s2) ⟨p, rfl, ⟨[v'], upd_same, rfl, v', [], rfl, hd', rfl⟩, hg3, h0, rfl, ap3⟩ q2
/-- x[k] = e, x an own dict -/
def xDput (i : Nat) (te ti : DE) : DS := fun Z ρ => te ρ fun s ρ1 => (∃ ks ds, ρ1[i]? = some (some (.od ks ds))) ∧ ti ρ1 fun s' ρ2 => ∃ (ks : List Int) (ds : List D) (k : Int), s'.toD = .int k ∧ ρ2[i]? = some (some (.od ks ds)) ∧ ks.length < 100000 ∧ Z.nx (ρ2.set i (some (.od (putKs ks k) (putVs ks ds k s.toD))))
theorem ds_dput (i : Nat) {x : Str} {b e : Expr} {te tb : TE} {t tt : DE} {p0 p1 pos : Pos} (hu : X.A.units + 1 < cLine) (h : PV X C e te t) (hb : PV X C b tb tt) (hN : X.N[i]? = some x := by rfl) (hv : Vis X.env.scope x := by first | exact Or.inl rfl | exact Or.inr (Or.inl rfl) | exact Or.inr (Or.inr rfl))
    (hd : (x == ("__debug__" : Str)) = false := by decide) (hcd : (x == ("__classdict__" : Str)) = false := by decide) (hs : swapsWith e (some (.Subscript (.Name x p0) b p1)) pos.line X.env = pure false := by rfl) :
    PSV X C (.Assign [.Subscript (.Name x p0) b p1] e pos) (sDPut (tVar i) tb te) (xDput i t tt) := by
  refine ⟨ps_dput hu (pe_var hN hv hd hcd) hb.pe h.pe hs, fun G H σ ρ DD E R q k => ?_⟩
  refine h.rf.go (QD := fun d ρ1 => (∃ ks ds, ρ1[i]? = some (some (.od ks ds))) ∧ tt ρ1 fun s' ρ2 => ∃ (ks : List Int) (ds : List D) (k : Int), s'.toD = .int k ∧ ρ2[i]? = some (some (.od ks ds)) ∧ ks.length < 100000 ∧ DD.nx (ρ2.set i (some (.od (putKs ks k) (putVs ks ds k d))))) R q fun v d G1 H1 ρ1 R1 s1 hd1 q1 => ?_
  obtain ⟨⟨ks0, ds0, e0⟩, q1⟩ := q1
  obtain ⟨p, hp, _⟩ := R1.ow i _ e0 rfl
  refine ⟨.ref p, hp, hb.rf.go (QD := fun d' ρ2 => ∃ (ks : List Int) (ds : List D) (k : Int), d' = .int k ∧ ρ2[i]? = some (some (.od ks ds)) ∧ ks.length < 100000 ∧ DD.nx (ρ2.set i (some (.od (putKs ks k) (putVs ks ds k d))))) R1 q1 fun v' d' G2 H2 ρ2 R2 s2 hd2 q2 => ?_⟩
  obtain ⟨ks, ds, n, rfl, e2, hl, q2⟩ := q2
  cases (show v' = _ from hd2)
  obtain ⟨p', hp', ⟨vs, h2, hlv, h3⟩, _⟩ := R2.ow i _ e2 rfl
  rw [hp] at hp'; cases hp'
  have hkl : (mkK ks vs).length < sizeLine := by
    have := congrArg List.length (keys_mkK ks vs hlv)
    rw [List.length_map, List.length_map] at this
    rw [this]; exact Nat.lt_of_lt_of_le hl (by decide)
  refine ⟨p, _, rfl, DPut.k (k := Sum.inl n) h2 hkl, ?_⟩
  rw [put_mkK ks vs n v hlv]
  exact k.nx G2 _ σ _ (R2.write e2 rfl hp (s' := .od (putKs ks n) (putVs ks ds n d)) rfl rfl ⟨_, upd_same, putKs_len _ _ _ _ hlv, putDats h3 (Dat.mono s2 _ _ hd1)⟩) (s1.trans s2) q2
/-- x[k], x an own dict -/
theorem d_dgetO (i : Nat) {x : Str} {b : Expr} {tb : TE} {db : DE} {p pos : Pos} (hu : X.A.units + 1 < cLine) (hb : PV X C b tb db) (hs : NoSl b := by exact fun _ _ => rfl) (hN : X.N[i]? = some x := by rfl) (hv : Vis X.env.scope x := by first | exact Or.inl rfl | exact Or.inr (Or.inl rfl) | exact Or.inr (Or.inr rfl))
    (hd : (x == ("__debug__" : Str)) = false := by decide) (hcd : (x == ("__classdict__" : Str)) = false := by decide) :
    PV X C (.Subscript (.Name x p) b pos) (tDGet (tVar i) tb) (fun ρ Q => (∃ ks ds, ρ[i]? = some (some (.od ks ds)) ∨ ρ[i]? = some (some (.fz (.dct ks ds)))) ∧ db ρ fun s ρ1 => ∃ ks ds k d, (ρ1[i]? = some (some (.od ks ds)) ∨ ρ1[i]? = some (some (.fz (.dct ks ds)))) ∧ s.toD = .int k ∧ getVs ks ds k = some d ∧ Q (.fz d) ρ1) := by
  refine ⟨pe_dget hu (pe_var hN hv hd hcd) hb.pe hs, fun G H σ ρ QD Q R ⟨⟨ks0, ds0, h0⟩, q⟩ k => ?_⟩
  have atp : ∃ p, σ[i]? = some (some (.ref p)) := by
    rcases h0 with h0 | h0
    · obtain ⟨p, h1, _⟩ := R.ow i _ h0 rfl
      exact ⟨p, h1⟩
    · obtain ⟨v, h1, a, vs, rfl, _⟩ := R.fz i _ h0
      exact ⟨a, h1⟩
  obtain ⟨p, hp⟩ := atp
  refine ⟨.ref p, hp, hb.rf.go (QD := fun d' ρ1 => ∃ ks ds k d, (ρ1[i]? = some (some (.od ks ds)) ∨ ρ1[i]? = some (some (.fz (.dct ks ds)))) ∧ d' = .int k ∧ getVs ks ds k = some d ∧ QD (.fz d) ρ1) R q fun v d' G1 H1 ρ1 R1 s1 hd q1 => ?_⟩
  obtain ⟨ks, ds, n, d, e1, rfl, hg, q2⟩ := q1
  cases (show v = _ from hd)
  have : ∃ vs, H1 p = some (.dK (mkK ks vs)) ∧ Dats G1 ds vs := by
    rcases e1 with e1 | e1
    · obtain ⟨p', h1', ⟨vs, h2, _, h3⟩, _⟩ := R1.ow i _ e1 rfl
      rw [hp] at h1'; cases h1'
      exact ⟨vs, h2, h3⟩
    · obtain ⟨v, h1', a, vs, rfl, h2, _, h3⟩ := R1.fz i _ e1
      rw [hp] at h1'; cases h1'
      exact ⟨vs, R1.sub _ _ h2, h3⟩
  obtain ⟨vs, h2, h3⟩ := this
  have gd := getDats (k := n) (ks := ks) h3
  rw [hg] at gd
  cases ev : getVs ks vs n with
  | none => rw [ev] at gd; exact gd.elim
  | some u =>
    rw [ev] at gd
    refine ⟨p, u, rfl, ?_, k _ _ G1 H1 ρ1 R1 s1 (rvf gd) q2⟩
    have := DGet.k (k := Sum.inl n) h2
    rw [val_mkK, ev] at this
    exact this
/-- x.get(k, e), x an own dict -/
theorem d_dget2O (i : Nat) {x : Str} {b e : Expr} {tb te : TE} {db de : DE} {p apos pos : Pos} (hu : X.A.units + 1 < cLine) (hb : PV X C b tb db) (he : PV X C e te de) (m : M2 X (.Name x p) "get" apos b e pos := by exact ⟨rfl, rfl, rfl, rfl⟩) (hN : X.N[i]? = some x := by rfl) (hv : Vis X.env.scope x := by first | exact Or.inl rfl | exact Or.inr (Or.inl rfl) | exact Or.inr (Or.inr rfl))
    (hd : (x == ("__debug__" : Str)) = false := by decide) (hcd : (x == ("__classdict__" : Str)) = false := by decide) :
    PV X C (.Call (.Attribute (.Name x p) "get" apos) [b, e] [] pos) (tDGet2 (tVar i) tb te) (fun ρ Q => (∃ ks ds, ρ[i]? = some (some (.od ks ds))) ∧ db ρ fun s ρ1 => de ρ1 fun s' ρ2 => ∃ ks ds k, ρ2[i]? = some (some (.od ks ds)) ∧ s.toD = .int k ∧ Q (.fz ((getVs ks ds k).getD s'.toD)) ρ2) := by
  refine ⟨pe_dget2 hu (pe_var hN hv hd hcd) hb.pe he.pe m, fun G H σ ρ QD Q R ⟨⟨ks0, ds0, h0⟩, q⟩ k => ?_⟩
  obtain ⟨p, hp, ⟨vs0, hp0, _⟩, _⟩ := R.ow i _ h0 rfl
  refine ⟨.ref p, hp, p, rfl, .inl ⟨_, .inl hp0⟩, hb.rf.go (QD := fun d' ρ1 => de ρ1 fun s' ρ2 => ∃ ks ds k, ρ2[i]? = some (some (.od ks ds)) ∧ d' = .int k ∧ QD (.fz ((getVs ks ds k).getD s'.toD)) ρ2) R q fun v d' G1 H1 ρ1 R1 s1 hd q1 => ?_⟩
  refine he.rf.go (QD := fun d2 ρ2 => ∃ ks ds k, ρ2[i]? = some (some (.od ks ds)) ∧ d' = .int k ∧ QD (.fz ((getVs ks ds k).getD d2)) ρ2) R1 q1 fun v2 d2 G2 H2 ρ2 R2 s2 hd2 q2 => ?_
  obtain ⟨ks, ds, n, e1, rfl, q2⟩ := q2
  cases (show v = _ from hd)
  obtain ⟨p', h1', ⟨vs, h2, _, h3⟩, _⟩ := R2.ow i _ e1 rfl
  rw [hp] at h1'; cases h1'
  have gd := getDats (k := n) (ks := ks) h3
  have hD := DGet.k (k := Sum.inl n) h2
  rw [val_mkK] at hD
  refine ⟨_, hD, k _ _ G2 H2 ρ2 R2 (s1.trans s2) (rvf ?_) q2⟩
  cases ed : getVs ks ds n with
  | none =>
    cases ev : getVs ks vs n with
    | none => exact hd2
    | some u => rw [ed, ev] at gd; exact gd.elim
  | some d =>
    cases ev : getVs ks vs n with
    | none => rw [ed, ev] at gd; exact gd.elim
    | some u => rw [ed, ev] at gd; exact gd

/-! ### sorted -/
/-- sorted(list), sorted(dict with int keys) -/
def xSortedD : DC := fun ds Q => ∃ (ks : List Int) (es : List D), (ds = [.dct ks es] ∧ ks.length < 64) ∧ ∀ ys : List Int, ys.Perm ks → ys.Pairwise (· ≤ ·) → Q (.ow (ys.map D.int))
theorem c_sortedD (hc : X.calm = true) : CV X C (.builtin "sorted") (fun xs H Q => ∃ (a : Addr) (kvs : List (Key × V)) (ks : List Int), xs = [.ref a] ∧ Rd H a (.dK kvs) ∧ kvs.map (·.1) = ks.map Sum.inl ∧ ks.length < 64 ∧
    ∀ (ys : List Int) (p : Addr), ys.Perm ks → ys.Pairwise (· ≤ ·) → H p = none → Q (.ref p) (upd H p (.lst (ys.map V.int)))) xSortedD := ⟨call_sortedDI hc, fun G H σ ρ vs ds QD Q R hd ⟨ks, es, ⟨e, hl⟩, q⟩ k => by
  subst e
  obtain ⟨v, rfl, a, us, rfl, h1, h2, h3⟩ := hd.one
  refine ⟨a, _, ks, rfl, .inl (R.sub _ _ h1), keys_mkK ks us h2, hl, fun ys p pm pw hp => ?_⟩
  obtain ⟨R2, rv⟩ := R.resL hp (Dats.of_ints ys)
  exact k _ _ _ _ R2 (Same.refl G) rv (q ys pm pw)⟩
def rSortDR : List V → List V → Hp → VK → Prop := fun xs zs H Q => ∃ (a : Addr) (kvs : List (Key × V)) (ks : List Int), xs = [.ref a] ∧ zs = [.bl true] ∧ Rd H a (.dK kvs) ∧ kvs.map (·.1) = ks.map Sum.inl ∧ ks.length < 1000 ∧
    ∀ (ys : List Int) (p : Addr), ys.Perm ks → ys.Pairwise (· ≥ ·) → H p = none → Q (.ref p) (upd H p (.lst (ys.map V.int)))
theorem cr_sortDR (hcalm : X.calm = true) : CallRK X (.builtin "sorted") [Str.ofString "reverse"] rSortDR := by
  intro pins s σ H vs zs us ws Q I r rz h
  obtain ⟨a, kvs, ks, rfl, rfl, hd, hks, h64, q⟩ := h
  obtain ⟨u, rfl, rx⟩ := vals1 r
  cases rx
  obtain ⟨w1, rfl, e1⟩ := vals1 rz
  obtain rfl : w1 = Value.bool true := e1
  obtain ⟨z, lo, vs, rel, dd⟩ := dk_rd I.hok hd
  obtain ⟨ep, hat⟩ := dd.dictAt
  have kl : vs.map (·.1) = ks.map Sum.inl := rel.keys.symm.trans hks
  have hl : vs.length = ks.length := by simpa using congrArg List.length kl
  refine PyProof.Rows.call_function_entry_kw PyProof.Rows.kind_sorted PyProof.Rows.plain_sorted PyProof.Rows.entry_sorted (PyProof.Rows.args_sorted_rev _ _) ?_
  unfold Builtin.«sorted»
  refine wpAny_bind (m := checkCount "sorted" 1 1 _) (wpAny_pure ?_)
  refine wpAny_bind (PySem.W.kdu_collect (A := X.A.in1) (PySem.W.kdl_dict (knd := mixKind X.prog X.w) (kvs := vs) (ep := ep) lo) (I.ok.hd hcalm) hat (by rw [hl, sizeLine_eq]; omega) fun h' tk acc hk hacc => ?_)
  have hal : acc.toList.length = ks.length := by rw [Array.length_toList, hacc.1, hl]
  have hS : IntsAre acc.toList ks := ints_each hal fun j v e => by
    obtain ⟨k, x, e1, e2⟩ := hacc.2 j v (by rw [← Array.getElem?_toList]; exact e)
    have e3 : (vs.map (·.1))[j]? = some k := by rw [List.getElem?_map, e1]; rfl
    rw [kl, List.getElem?_map] at e3
    obtain ⟨y, ey, e5⟩ := Option.map_eq_some_iff.mp e3
    subst e5
    rcases keyIs_shape (show keyIs (Sum.inl y) v = true from e2) with ⟨i, t, ek, ev⟩ | ⟨z, t, ek, ev⟩
    · cases ek; exact ⟨y, t, ey, ev⟩
    · cases ek
  have I1 : Inv X pins σ H { s with heap := h', toks := tk } := I.kept hk
  refine wpAny_bind (wpAny_newList ?_ (by rw [hal, sizeLine_eq]; omega))
  have hoL : (h'.push (seqObj "list" acc.toList.toArray 0)).get? h'.objs.size = some (seqObj "list" acc.toList.toArray 0) := Heap.get?_push_size _ rfl
  show wpAny _ _ _ _ _ { s with heap := h'.push (seqObj "list" acc.toList.toArray 0), toks := tk }
  refine wpAny_bind (wpAny_holding (wpAny_call_entry_kw PyProof.Rows.slot_list_sort ⟨_, hoL, rfl⟩ PyProof.Rows.entry_list_sort ?_ (PyProof.Rows.args_list_sort_rev _ _)))
  refine SrtR.list_sort_ordR (s := { s with heap := h'.push (seqObj "list" acc.toList.toArray 0), toks := tk }) SrtO.swo_int hoL (by rw [hal, sizeLine_eq]; omega) (fun h2 => SrtO.ints_sortable hS h2) fun out h1 h2 => ⟨_, rfl, ?_⟩
  obtain ⟨ns', k1, k2, k3⟩ := SrtR.ints_outR hS h1 h2
  obtain ⟨e', he'⟩ := PyProof.Rows.sortedHeap_at (vs := acc.toList) (out := if true = true then out.toArray.reverse else out.toArray) hoL
  have hlen : (ns'.map V.int).length ≤ sizeLine := by
    rw [List.length_map, k2.length_eq, sizeLine_eq]; omega
  refine wpAny_pure ⟨_, rfl, .ref h'.objs.size, upd H h'.objs.size (.lst (ns'.map V.int)), I1.laid (t' := tk) (fun b u e => ?_) (Nat.le_refl _)
    (show ObjOk X.prog X.w _ _ _ (.lst (ns'.map V.int)) from ⟨hlen, _, e', vals_of_ints k1, by rw [Array.toArray_toList]; exact he'⟩), rfl, q ns' _ k2 k3 (I1.hok.fresh (Nat.le_refl _))⟩
  have hb : b < h'.objs.size := Heap.lt_size e
  rw [PyProof.Rows.sortedHeap_old (Nat.ne_of_lt hb) (by rw [size_push']; exact Nat.lt_succ_of_lt hb)]
  exact Heap.get?_push_of_some _ e
def xSortedDR (t : DA) : DE := fun ρ Q => t ρ fun ds ρ1 => ∃ (ks : List Int) (es : List D), (ds = [.dct ks es] ∧ ks.length < 1000) ∧ ∀ ys : List Int, ys.Perm ks → ys.Pairwise (· ≥ ·) → Q (.ow (ys.map D.int)) ρ1
theorem d_sortedDR {e : Expr} {ta : TA} {t : DA} {p kp cp pos : Pos} {j} (hc : X.calm = true) (hg : Gl X "sorted") (hm : X.mg "sorted" = none) (ha : PAV X C [e] ta t)
    (he : backTo pos (starEach [e] X.env) = (false, eval e X.env) :: backTo pos (starEach [] X.env) := by rfl) (hpl : (backTo pos (starEach [e] X.env)).any (·.1) = false := by rfl)
    (hall : (backToKw pos (keywordEach [⟨some (Str.ofString "reverse"), .Constant (.bool true) j cp, kp⟩] X.env)).all (·.1.isSome) = true := by rfl)
    (hnone : (backToKw pos (keywordEach [⟨some (Str.ofString "reverse"), .Constant (.bool true) j cp, kp⟩] X.env)).any (·.1.isNone) = false := by rfl)
    (hks : (backToKw pos (keywordEach [⟨some (Str.ofString "reverse"), .Constant (.bool true) j cp, kp⟩] X.env)).filterMap (·.1) = [Str.ofString "reverse"] := by rfl) :
    PV X C (.Call (.Name "sorted" p) [e] [⟨some (Str.ofString "reverse"), .Constant (.bool true) j cp, kp⟩] pos) (tCKw rSortDR ta (tCons (tC (.bl true)) tNil)) (xSortedDR t) := by
  refine ⟨pe_callBK (cr_sortDR hc) hg hm (by decide +kernel) ha.pe (pk_cons pe_bl pk_nil) (by decide) (by decide) he hpl hall hnone hks, fun G H σ ρ QD Q R q k => ?_⟩
  refine ha.rf G H σ ρ _ _ R q fun vs ds G1 H1 ρ1 R1 s1 hd q1 => ?_
  obtain ⟨ks, es, ⟨e, hl⟩, q1⟩ := q1
  subst e
  obtain ⟨v, rfl, a, us, rfl, h1, h2, h3⟩ := hd.one
  refine ⟨a, _, ks, rfl, rfl, .inl (R1.sub _ _ h1), keys_mkK ks us h2, hl, fun ys p pm pw hp => ?_⟩
  obtain ⟨R2, rv⟩ := R1.resL hp (Dats.of_ints ys)
  exact k _ _ _ _ _ R2 s1 rv (q1 ys pm pw)
/-- sorted(set(t)), t a tuple of ints, fewer than 64 -/
def rSetTI (K : PySem.W.Frag) (w : World) : List V → Hp → VK → Prop := fun xs H Q => ∃ (a : Addr) (ns : List Int), xs = [.ref a] ∧ SqT K H a (ns.map V.int) ∧ ns.length < 64 ∧ ∀ p c, H p = none → c ≤ ns.length → Q (.ref p) (upd H p (SetO w p (fun j => decide (j ∈ ns)) c))
theorem cr_setTI (hc : X.calm = true) : CallR X (.type "set") (rSetTI X.K X.w) := by
  intro pins s σ H xs us Q I r h
  obtain ⟨a, ns, rfl, hq, hl, q⟩ := h
  obtain ⟨u, rfl, rx⟩ := vals1 r
  cases rx
  obtain ⟨its, rv, tp, hz⟩ := I.tuple hq
  refine call_set_tupI ns (I.ok.hd hc) (show s.heap.IsTuple a its.toArray from tp) (by simpa using rv.ints) (by unfold scanBound; omega) fun h' tk c R hcl k => ?_
  have hn : H s.heap.objs.size = none := I.hok.fresh (Nat.le_refl _)
  exact ⟨.ref _, _, I.laid (t' := tk) k (Nat.le_refl _) (setO_new R), rfl, q _ c hn hcl⟩
def xSortedSet (t : DA) : DE := fun ρ Q => t ρ fun ds ρ1 => ∃ ns : List Int, ds = [.tup (ns.map D.int)] ∧ ns.length < 64 ∧ ∀ ys : List Int, ys.Pairwise (· < ·) → (∀ k, k ∈ ys ↔ k ∈ ns) → Q (.ow (ys.map D.int)) ρ1
theorem d_sortedSet {e : Expr} {ta : TA} {t : DA} {p p2 pos pos2 : Pos} (hc : X.calm = true) (hg : Gl X "sorted") (hm : X.mg "sorted" = none) (hg2 : Gl X "set") (hm2 : X.mg "set" = none) (ha : PAV X C [e] ta t)
    (he : starEach [e] X.env = (false, eval e X.env) :: starEach [] X.env := by rfl) (hpl : (backTo pos2 (starEach [] X.env)).any (·.1) = false := by rfl)
    (he2 : starEach [.Call (.Name "set" p2) [e] [] pos2] X.env = (false, eval (.Call (.Name "set" p2) [e] [] pos2) X.env) :: starEach [] X.env := by rfl) (hpl2 : (backTo pos (starEach [] X.env)).any (·.1) = false := by rfl) :
    PV X C (.Call (.Name "sorted" p) [.Call (.Name "set" p2) [e] [] pos2] [] pos) (tCB (rSortedSet X.w) (tCons (tCB (rSetTI X.K X.w) ta) tNil)) (xSortedSet t) := by
  refine ⟨pe_callB (cr_sortedSet hc) hg hm (by decide +kernel) (pa_cons (pe_callTy (cr_setTI hc) hg2 hm2 (by decide +kernel) ha.pe (by decide) (by decide) he hpl) pa_nil he2) (by decide) (by decide) he2 hpl2, fun G H σ ρ QD Q R q k => ?_⟩
  refine ha.rf G H σ ρ _ _ R q fun vs ds G1 H1 ρ1 R1 s1 hd ⟨ns, e, hl, q1⟩ => ?_
  subst e
  obtain ⟨v, rfl, a, us, rfl, h1, h2⟩ := hd.one
  cases h2.ints
  refine ⟨a, ns, rfl, SqT.of (R1.sub _ _ h1), hl, fun sp c hp hcl => ⟨sp, _, c, rfl, upd_same, by omega, fun ys p pw mem _ hp2 => ?_⟩⟩
  obtain ⟨R2, rv⟩ := (R1.newOw (o := SetO X.w sp (fun j => decide (j ∈ ns)) c) hp).resL hp2 (Dats.of_ints ys)
  exact k _ _ _ _ _ R2 s1 rv (q1 ys pw fun z => (mem z).trans decide_eq_true_iff)
end
end L3

namespace L3
open PySem PySem.Spec PyProof.Rows L2
theorem toD_fz (d : D) : (S.fz d).toD = d := rfl
theorem toD_ow (d : List D) : (S.ow d).toD = .lst d := rfl
theorem toD_od (k : List Int) (d : List D) : (S.od k d).toD = .dct k d := rfl
theorem toD_bg (d : List D) : (S.bg d).toD = .lst d := rfl
def getv (o : Option (Option S)) (i : Nat) (ρ : En) (Q : S → En → Prop) : Prop := match o with
  | some (some (.fz d)) => Q (.fz d) ρ
  | some (some (.ow ds)) => Q (.fz (.lst ds)) (ρ.set i (some (.fz (.lst ds))))
  | some (some (.od ks ds)) => Q (.fz (.dct ks ds)) (ρ.set i (some (.fz (.dct ks ds))))
  | _ => False
def onB (d : D) (k : Bool → Prop) : Prop := match d with
  | .bl b => k b
  | _ => False
def onI (d : D) (k : Int → Prop) : Prop := match d with
  | .int i => k i
  | _ => False
def onSq (d : D) (k : List D → Prop) : Prop := match d with
  | .lst ds => k ds
  | .tup ds => k ds
  | _ => False
def onSB (z : S) (k : Bool → Prop) : Prop := match z with
  | .fz (.bl b) => k b
  | _ => False
def onSl (d : D) (l h : Option Int) (k : S → Prop) : Prop := match d with
  | .lst ds => k (.ow (cutD ds l h))
  | .tup ds => k (.fz (.tup (cutD ds l h)))
  | _ => False
def onRv (d : D) (k : S → Prop) : Prop := match d with
  | .lst ds => k (.ow ds.reverse)
  | _ => False
def onR1 (ds : List D) (k : List D → Prop) : Prop := match ds with
  | [.int j] => -1000000000000 < j ∧ j < 1000000000000 ∧ k (rngD 0 j.toNat)
  | _ => False
def onR2 (ds : List D) (k : List D → Prop) : Prop := match ds with
  | [.int i, .int j] => (-1000000000000 < i ∧ i < 1000000000000 ∧ -1000000000000 < j ∧ j < 1000000000000) ∧ k (rngD i (j - i).toNat)
  | _ => False
def onZ (ds : List D) (k : List D → Prop) : Prop := match ds with
  | [.lst xs, .lst ys] => k (zipD xs ys)
  | [.tup xs, .tup ys] => k (zipD xs ys)
  | _ => False
def onP (ds : List D) (k : D → D → Prop) : Prop := match ds with
  | [d, e] => k d e
  | _ => False
section
variable {ρ : En} {Q : S → En → Prop} {QB : Bool → En → Prop} {QL : List D → En → Prop} {Z : DEnds} {k : S → Prop} {i j : Int} {n : Nat} {d e : D} {ds xs ys : List D} {t u : DE} {c c' : DT} {a : DA} {s : S}
theorem rd_var : xVar n ρ Q = getv ρ[n]? n ρ Q := rfl
theorem rd_getv1 : getv (some (some (.fz d))) n ρ Q = Q (.fz d) ρ := rfl
theorem rd_getv2 : getv (some (some (.ow ds))) n ρ Q = Q (.fz (.lst ds)) (ρ.set n (some (.fz (.lst ds)))) := rfl
theorem rd_getv3 {ks : List Int} : getv (some (some (.od ks ds))) n ρ Q = Q (.fz (.dct ks ds)) (ρ.set n (some (.fz (.dct ks ds)))) := rfl
theorem rd_test : xTest t ρ QB = t ρ fun s ρ1 => onB s.toD fun b => QB b ρ1 := rfl
theorem rd_onB {b : Bool} {k : Bool → Prop} : onB (.bl b) k = k b := rfl
theorem rd_onI {k : Int → Prop} : onI (.int i) k = k i := rfl
theorem rd_onSB {b : Bool} {k : Bool → Prop} : onSB (.fz (.bl b)) k = k b := rfl
theorem rd_andV : xAndV t u ρ Q = t ρ fun s ρ1 => onB s.toD fun b => if b = true then u ρ1 Q else Q (.fz (.bl false)) ρ1 := rfl
theorem rd_orV : xOrV t u ρ Q = t ρ fun s ρ1 => onB s.toD fun b => if b = true then Q (.fz (.bl true)) ρ1 else u ρ1 Q := rfl
theorem rd_notV : xNotV t ρ Q = t ρ fun s ρ1 => onB s.toD fun b => Q (.fz (.bl (!b))) ρ1 := rfl
theorem rd_chain {rd rd' : DO2} {v : DE} : xChain rd rd' t u v ρ Q = t ρ fun s ρ1 => u ρ1 fun s' ρ2 => rd s.toD s'.toD fun z => onSB z fun k => if k = true then v ρ2 fun s'' ρ3 => rd' s'.toD s''.toD fun z => Q z ρ3 else Q (.fz (.bl false)) ρ2 := rfl
theorem rd_II {cc : Int → Int → Prop} {f : Int → Int → D} : xII cc f (.int i) (.int j) k = (cc i j ∧ k (.fz (f i j))) := rfl
theorem rd_II0 {f : Int → Int → D} : xII0 f (.int i) (.int j) k = k (.fz (f i j)) := rfl
theorem rd_add1 : xAdd (.int i) (.int j) k = k (.fz (.int (i + j))) := rfl
theorem rd_add2 : xAdd (.lst xs) (.lst ys) k = (xs.length + ys.length ≤ 100000 ∧ k (.ow (xs ++ ys))) := rfl
theorem rd_add3 : xAdd (.tup xs) (.tup ys) k = (xs.length + ys.length ≤ 100000 ∧ k (.fz (.tup (xs ++ ys)))) := rfl
theorem rd_mul1 : xMul (.int i) (.int j) k = (CMulW i j ∧ k (.fz (.int (i * j)))) := rfl
theorem rd_mul2 : xMul (.lst xs) (.int j) k = (xs.length * j.toNat ≤ 100000 ∧ j < 100000 ∧ -100000 < j ∧ k (.ow (List.replicate j.toNat xs).flatten)) := rfl
theorem rd_mul3 : xMul (.tup xs) (.int j) k = (xs ≠ [] ∧ 2 ≤ j ∧ j ≤ 1000 ∧ xs.length ≤ 1000 ∧ k (.fz (.tup (List.replicate j.toNat xs).flatten))) := rfl
theorem rd_isN : xIsN d .non k = k (.fz (.bl (isNonD d))) := rfl
theorem rd_notN : xNotN d .non k = k (.fz (.bl (!isNonD d))) := rfl
theorem rd_isN1 : isNonD .non = true := rfl
theorem rd_isN2 : isNonD (.int i) = false := rfl
theorem rd_isN3 : isNonD (.tup xs) = false := rfl
theorem rd_neg : xNeg (.int i) k = k (.fz (.int (-i))) := rfl
theorem rd_ix1 : xIx (.lst ds) (.int i) k = ∃ d, atI ds i = some d ∧ k (.fz d) := rfl
theorem rd_ix2 : xIx (.tup ds) (.int i) k = ∃ d, atI ds i = some d ∧ k (.fz d) := rfl
theorem rd_part {QO : Option Int → En → Prop} : xPart t ρ QO = t ρ fun s ρ1 => onI s.toD fun i => QO (some i) ρ1 := rfl
theorem rd_sl {lo hi : DO} : xSl t lo hi ρ Q = t ρ fun s ρ1 => lo ρ1 fun l ρ2 => hi ρ2 fun h ρ3 => onSl s.toD l h fun z => Q z ρ3 := rfl
theorem rd_onSl1 {l h : Option Int} : onSl (.lst ds) l h k = k (.ow (cutD ds l h)) := rfl
theorem rd_onSl2 {l h : Option Int} : onSl (.tup ds) l h k = k (.fz (.tup (cutD ds l h))) := rfl
theorem rd_rev : xRevL t ρ Q = t ρ fun s ρ1 => onRv s.toD fun z => Q z ρ1 := rfl
theorem rd_onRv : onRv (.lst ds) k = k (.ow ds.reverse) := rfl
theorem rd_len1 : xLen [.lst ds] k = k (.fz (.int ds.length)) := rfl
theorem rd_len2 : xLen [.tup ds] k = k (.fz (.int ds.length)) := rfl
theorem rd_max2 : xMax2 [.int i, .int j] k = k (.fz (.int (if j > i then j else i))) := rfl
theorem rd_min2 : xMin2 [.int i, .int j] k = k (.fz (.int (if j < i then j else i))) := rfl
theorem rd_int1 : xIntOf [.int i] k = k (.fz (.int i)) := rfl
theorem rd_int2 {b : Bool} : xIntOf [.bl b] k = k (.fz (.int (if b then 1 else 0))) := rfl
theorem rd_lst1 : xListOf [.lst ds] k = k (.ow ds) := rfl
theorem rd_lst2 : xListOf [.tup ds] k = k (.ow ds) := rfl
theorem rd_tup1 : xTupOf [.lst ds] k = k (.fz (.tup ds)) := rfl
theorem rd_tup2 : xTupOf [.tup ds] k = k (.fz (.tup ds)) := rfl
theorem rd_dm : xDivmod [.int i, .int j] k = ((0 < j ∧ j < 1073741824) ∧ k (.fz (.tup [.int (i / j), .int (i % j)]))) := rfl
theorem rd_seqI : xSeqI t ρ QL = t ρ fun s ρ1 => onSq s.toD fun ds => QL ds ρ1 := rfl
theorem rd_onSq1 {k : List D → Prop} : onSq (.lst ds) k = k ds := rfl
theorem rd_onSq2 {k : List D → Prop} : onSq (.tup ds) k = k ds := rfl
theorem rd_rng1 : xRng1 a ρ QL = a ρ fun ds ρ1 => onR1 ds fun l => QL l ρ1 := rfl
theorem rd_onR1 {k : List D → Prop} : onR1 [.int j] k = (-1000000000000 < j ∧ j < 1000000000000 ∧ k (rngD 0 j.toNat)) := rfl
theorem rd_rng2 : xRng2 a ρ QL = a ρ fun ds ρ1 => onR2 ds fun l => QL l ρ1 := rfl
theorem rd_onR2 {k : List D → Prop} : onR2 [.int i, .int j] k = ((-1000000000000 < i ∧ i < 1000000000000 ∧ -1000000000000 < j ∧ j < 1000000000000) ∧ k (rngD i (j - i).toNat)) := rfl
theorem rd_zip : xZip a ρ QL = a ρ fun ds ρ1 => onZ ds fun l => QL l ρ1 := rfl
theorem rd_onZ1 {k : List D → Prop} : onZ [.lst xs, .lst ys] k = k (zipD xs ys) := rfl
theorem rd_onZ2 {k : List D → Prop} : onZ [.tup xs, .tup ys] k = k (zipD xs ys) := rfl
theorem rd_par {p q : Nat} : xPar p q a Z ρ = a ρ fun ds ρ1 => onP ds fun d e => Z.nx ((ρ1.set p (some (.fz d))).set q (some (.fz e))) := rfl
theorem rd_onP {k : D → D → Prop} : onP [d, e] k = k d e := rfl
theorem rd_gtup {g : DGs} {QE : En → Prop} : xGTup n g (.tup ds) ρ QE = (ds.length = n ∧ g ds ρ QE) := rfl
theorem rd_gnil {QE : En → Prop} : xGNil [] ρ QE = QE ρ := rfl
theorem rd_gcons {g : DG} {gs : DGs} {QE : En → Prop} : xGCons g gs (d :: ds) ρ QE = g d ρ fun ρ1 => gs ds ρ1 QE := rfl
theorem rd_isi {T : String} : xIsi T t ρ Q = t ρ fun s ρ1 => Q (.fz (.bl (isiD T s.toD))) ρ1 := rfl
end
/-- a comprehension that tests and reckons each item by itself: p, g over the items' own kind -/
theorem lc_pure {α : Type} (as : List α) (ι : α → D) (p : α → Bool) (f : α → D) {ti : DI} {g : DG} {tt : DT} {te : DE} {vs : List Nat} {ρ : En} {Q : S → En → Prop} (ρ1 : En)
    (hi : ∀ QL : List D → En → Prop, QL (as.map ι) ρ1 → ti ρ QL) (hl : as.length ≤ 100000)
    (hs : ∀ a ∈ as, ∀ QD : D → En → Prop, ∀ QN : En → Prop, (p a = true → QD (f a) (wipeD ρ1 vs)) → (p a = false → QN (wipeD ρ1 vs)) → g (ι a) (wipeD ρ1 vs) fun ρ2 => tt ρ2 fun b ρ3 => if b = true then te ρ3 fun s ρ4 => QD s.toD (wipeD ρ4 vs) else QN (wipeD ρ3 vs))
    (q : Q (.ow ((as.filter p).map f)) (unw ρ1 (wipeD ρ1 vs) vs)) : xLc ti g tt te vs ρ Q := by
  refine hi _ ⟨by simpa using hl, fun i acc ρb => acc = ((as.take i).filter p).map f ∧ ρb = wipeD ρ1 vs, ⟨by simp, rfl⟩, fun i d acc ρb hd hI => ?_, fun acc ρb hI => ?_⟩
  · obtain ⟨rfl, rfl⟩ := hI
    rw [List.getElem?_map] at hd
    obtain ⟨a, ha, rfl⟩ := Option.map_eq_some_iff.mp hd
    have hm : a ∈ as := List.mem_of_getElem? ha
    refine hs a hm (fun d ρ4 => ((as.take i).filter p).map f ++ [d] = ((as.take (i + 1)).filter p).map f ∧ ρ4 = wipeD ρ1 vs) (fun ρ3 => ((as.take i).filter p).map f = ((as.take (i + 1)).filter p).map f ∧ ρ3 = wipeD ρ1 vs) (fun hp => ⟨?_, rfl⟩) (fun hp => ⟨?_, rfl⟩)
    · rw [List.take_add_one, ha]
      simp [hp]
    · rw [List.take_add_one, ha]
      simp [hp]
  · obtain ⟨rfl, rfl⟩ := hI
    rw [List.length_map, List.take_length]
    exact q
end L3

/-! the rules once more, with what they read of the context named ahead (for blocks) -/
namespace L3
open PySem PySem.Spec PyProof.Rows L2
section
variable {X : Cx} {C : FC} {w : World}
theorem o_addK (K : PySem.W.Frag) (hK : X.K = K := by rfl) : OV X C (binaryOp .Add) (fun x y H Q => rI0 (fun i j => .int (i + j)) x y H Q ∨ rCat x y H Q ∨ rCatA K x y H Q) xAdd := by subst hK; exact o_add
theorem o_mulK (K : PySem.W.Frag) (hK : X.K = K := by rfl) : OV X C (binaryOp .Mult) (fun x y H Q => rI CMulW (fun i j => .int (i * j)) x y H Q ∨ rRep x y H Q ∨ rRepT K x y H Q) xMul := by subst hK; exact o_mul
theorem o_eqK (K : PySem.W.Frag) (hu : X.A.units + 64 < cLine) (hK : X.K = K := by rfl) : OV X C (compareOp .Eq) (rEqD K) xEq := by subst hK; exact o_eq hu
theorem o_neK (K : PySem.W.Frag) (hu : X.A.units + 64 < cLine) (hK : X.K = K := by rfl) : OV X C (compareOp .NotEq) (rNeD K) xNe := by subst hK; exact o_ne hu
theorem o_inK (K : PySem.W.Frag) (hK : X.K = K := by rfl) : OV X C (compareOp .In) (rIn K false) (xIn false) := by subst hK; exact o_in
theorem o_notInK (K : PySem.W.Frag) (hK : X.K = K := by rfl) : OV X C (compareOp .NotIn) (rIn K true) (xIn true) := by subst hK; exact o_notIn
theorem d_ixK (K : PySem.W.Frag) {a b : Expr} {ta tb : TE} {da db : DE} {pos : Pos} (ha : PV X C a ta da) (hb : PV X C b tb db) (hs : PlainIx b := by exact fun _ _ => rfl) (hK : X.K = K := by rfl) : PV X C (.Subscript a b pos) (tOp (rIx K) ta tb) (xOp xIx da db) := by subst hK; exact d_ix ha hb hs
theorem d_ixOK (K : PySem.W.Frag) (i : Nat) {x : Str} {b : Expr} {tb : TE} {db : DE} {p pos : Pos} (hb : PV X C b tb db) (hs : PlainIx b := by exact fun _ _ => rfl) (hN : X.N[i]? = some x := by rfl) (hv : Vis X.env.scope x := by first | exact Or.inl rfl | exact Or.inr (Or.inl rfl) | exact Or.inr (Or.inr rfl))
    (hd : (x == ("__debug__" : Str)) = false := by decide) (hcd : (x == ("__classdict__" : Str)) = false := by decide) (hK : X.K = K := by rfl) : PV X C (.Subscript (.Name x p) b pos) (tOp (rIx K) (tVar i) tb) (fun ρ Q => isOwn ρ i ∧ xIxO i db ρ Q) := by subst hK; exact d_ixO i hb hs hN hv hd hcd
theorem d_slK (K : PySem.W.Frag) {e : Expr} {lo hi : Option Expr} {te : TE} {tl th : TO} {t : DE} {dl dh : DO} {p2 pos : Pos} (h : PV X C e te t) (hl : POV X C lo tl dl) (hh : POV X C hi th dh) (hK : X.K = K := by rfl) :
    PV X C (.Subscript e (.Slice lo hi none p2) pos) (tSl (fun x lo hi H Q => rSlL K x lo hi H Q ∨ rSlA K x lo hi H Q) te tl th) (xSl t dl dh) := by subst hK; exact d_sl h hl hh
theorem d_revLK (K : PySem.W.Frag) {e : Expr} {te : TE} {t : DE} {k : Nat} {p1 p2 p3 pos : Pos} (h : PV X C e te t) (hK : X.K = K := by rfl) : PV X C (.Subscript e (.Slice none none (some (.UnaryOp .USub (.Constant (.int 1) k p1) p2)) p3) pos) (tRevL K te) (xRevL t) := by subst hK; exact d_revL h
theorem c_lenK (K : PySem.W.Frag) (hK : X.K = K := by rfl) : CV X C (.builtin "len") (fun xs H Q => ∃ p ys, xs = [.ref p] ∧ (SqL K H p ys ∨ SqT K H p ys) ∧ Q (.int ys.length) H) xLen := by subst hK; exact c_len
theorem c_sumK (K : PySem.W.Frag) (hc : X.calm = true) (hK : X.K = K := by rfl) : CV X C (.builtin "sum") (rSum K) xSum := by subst hK; exact c_sum hc
theorem c_maxK (K : PySem.W.Frag) (hc : X.calm = true) (hK : X.K = K := by rfl) : CV X C (.builtin "max") (rMax K) xMaxL := by subst hK; exact c_max hc
theorem c_allK (K : PySem.W.Frag) (hc : X.calm = true) (hK : X.K = K := by rfl) : CV X C (.builtin "all") (rAll K) xAll := by subst hK; exact c_all hc
theorem c_listK (K : PySem.W.Frag) (hK : X.K = K := by rfl) : CV X C (.type "list") (fun xs H Q => ∃ p ys, xs = [.ref p] ∧ (SqL K H p ys ∨ SqT K H p ys) ∧ ∀ l, H l = none → Q (.ref l) (upd H l (.lst ys))) xListOf := by subst hK; exact c_list
theorem c_tupleK (K : PySem.W.Frag) (hK : X.K = K := by rfl) : CV X C (.type "tuple") (fun xs H Q => ∃ p ys, xs = [.ref p] ∧ ((SqL K H p ys ∧ ∀ l, H l = none → Q (.ref l) (upd H l (.tup ys))) ∨ (SqT K H p ys ∧ Q (.ref p) H))) xTupOf := by subst hK; exact c_tuple
theorem di_seqK (K : PySem.W.Frag) {tg l : Expr} {tl : TE} {t : DE} (h : PV X C l tl t) (hK : X.K = K := by rfl) : PIV X C tg l (iSeq K tl) (xSeqI t) := by subst hK; exact di_seq h
theorem di_zipK (K : PySem.W.Frag) {e e2 : Expr} {ta : TA} {t : DA} {p pos tpos : Pos} {elts : List Expr} {kk : Nat} (hg : Gl X "zip") (hm : X.mg "zip" = none) (ha : PAV X C [e, e2] ta t)
    (hs : starEach [e, e2] X.env = (false, eval e X.env) :: starEach [e2] X.env := by rfl) (hpl : (backTo pos (starEach [e2] X.env)).any (·.1) = false := by rfl) (hK : X.K = K := by rfl) : PIV X C (.Tuple elts kk tpos) (.Call (.Name "zip" p) [e, e2] [] pos) (RZ.iZipA K ta) (xZip t) := by subst hK; exact di_zip hg hm ha hs hpl
theorem dg_tupK (K : PySem.W.Frag) {es : List Expr} {k : Nat} {g : TGs} {gd : DGs} {n : Nat} {is : List Nat} {pos : Pos} (hc : X.calm = true) (h : PGsV X C es g gd is)
    (hn : (assignEach es X.env).length = n := by rfl) (hst : (assignEach es X.env).findIdx? (·.1) = none := by rfl) (hK : X.K = K := by rfl) : PGV X C (.Tuple es k pos) (gTup K n g) (xGTup n gd) is := by subst hK; exact dg_tup hc h hn hst
theorem d_fnK {P : Program} {w : World} {K : PySem.W.Frag} {mg : Str → Option Value} {base : Heap} {k n : Nat} {dp : DP} {x : Str} {p pos : Pos} {e : Expr} {es : List Expr} {ta : TA} {a : DA} (F : Fn P w K mg base x k n dp) (hr : Room k X.A) (ha : PAV X C (e :: es) ta a) (hg : Gl X x := by rfl)
    (hdb : (x == ("__debug__" : Str)) = false := by decide) (he : starEach (e :: es) X.env = (false, eval e X.env) :: starEach es X.env := by rfl) (hpl : (backTo pos (starEach es X.env)).any (·.1) = false := by rfl)
    (h1 : X.prog = P := by rfl) (h2 : X.w = w := by rfl) (h3 : X.K = K := by rfl) (h4 : X.mg = mg := by rfl) (h5 : X.base = base := by rfl) :
    PV X C (.Call (.Name x p) (e :: es) [] pos) (tCall (spD mg n dp) [] E0 ta) (xCall n dp (fun _ => False) a) := by subst h1 h2 h3 h4 h5; exact d_fn F hr ha hg hdb he hpl
theorem d_fnBK (i : Nat) {P : Program} {w : World} {K : PySem.W.Frag} {mg : Str → Option Value} {base : Heap} {k n : Nat} {db : DB} {x y : Str} {p p2 pos : Pos} {es : List Expr} {ta : TA} {a : DA} (F : FnB P w K mg base x k n db) (hr : Room k X.A) (ha : PAV X C es ta a) (hg : Gl X x := by rfl)
    (hN : X.N[i]? = some y := by rfl) (hv : Vis X.env.scope y := by first | exact Or.inl rfl | exact Or.inr (Or.inl rfl) | exact Or.inr (Or.inr rfl)) (hd : (y == ("__debug__" : Str)) = false := by decide) (hcd : (y == ("__classdict__" : Str)) = false := by decide)
    (hdb : (x == ("__debug__" : Str)) = false := by decide) (he : starEach (.Name y p2 :: es) X.env = (false, eval (.Name y p2) X.env) :: starEach es X.env := by rfl) (hpl : (backTo pos (starEach es X.env)).any (·.1) = false := by rfl)
    (h1 : X.prog = P := by rfl) (h2 : X.w = w := by rfl) (h3 : X.K = K := by rfl) (h4 : X.mg = mg := by rfl) (h5 : X.base = base := by rfl) :
    PV X C (.Call (.Name x p) (.Name y p2 :: es) [] pos) (tCall (spB n db) [] E0 (tCons (tVar i) ta)) (xCallB i n db a) := by subst h1 h2 h3 h4 h5; exact d_fnB i F hr ha hg hN hv hd hcd hdb he hpl
end
end L3

namespace L3
open PySem PySem.Spec PyProof.Rows L2
theorem isi_int_non : isiD "int" .non = false := by simp [isiD, isiN, tyN]
theorem isi_int_bl {b : Bool} : isiD "int" (.bl b) = true := by simp [isiD, isiN, tyN]
theorem isi_int_int {i : Int} : isiD "int" (.int i) = true := by simp [isiD, isiN, tyN]
theorem isi_int_str {x : Str} : isiD "int" (.str x) = false := by simp [isiD, isiN, tyN]
theorem isi_int_lst {ds : List D} : isiD "int" (.lst ds) = false := by simp [isiD, isiN, tyN]
theorem isi_int_tup {ds : List D} : isiD "int" (.tup ds) = false := by simp [isiD, isiN, tyN]
theorem isi_bool_non : isiD "bool" .non = false := by simp [isiD, isiN, tyN]
theorem isi_bool_bl {b : Bool} : isiD "bool" (.bl b) = true := by simp [isiD, isiN, tyN]
theorem isi_bool_int {i : Int} : isiD "bool" (.int i) = false := by simp [isiD, isiN, tyN]
theorem isi_bool_str {x : Str} : isiD "bool" (.str x) = false := by simp [isiD, isiN, tyN]
theorem isi_bool_lst {ds : List D} : isiD "bool" (.lst ds) = false := by simp [isiD, isiN, tyN]
theorem isi_bool_tup {ds : List D} : isiD "bool" (.tup ds) = false := by simp [isiD, isiN, tyN]
theorem isi_list_non : isiD "list" .non = false := by simp [isiD, isiN, tyN]
theorem isi_list_bl {b : Bool} : isiD "list" (.bl b) = false := by simp [isiD, isiN, tyN]
theorem isi_list_int {i : Int} : isiD "list" (.int i) = false := by simp [isiD, isiN, tyN]
theorem isi_list_str {x : Str} : isiD "list" (.str x) = false := by simp [isiD, isiN, tyN]
theorem isi_list_lst {ds : List D} : isiD "list" (.lst ds) = true := by simp [isiD, isiN, tyN]
theorem isi_list_tup {ds : List D} : isiD "list" (.tup ds) = false := by simp [isiD, isiN, tyN]
theorem isi_tuple_non : isiD "tuple" .non = false := by simp [isiD, isiN, tyN]
theorem isi_tuple_bl {b : Bool} : isiD "tuple" (.bl b) = false := by simp [isiD, isiN, tyN]
theorem isi_tuple_int {i : Int} : isiD "tuple" (.int i) = false := by simp [isiD, isiN, tyN]
theorem isi_tuple_str {x : Str} : isiD "tuple" (.str x) = false := by simp [isiD, isiN, tyN]
theorem isi_tuple_lst {ds : List D} : isiD "tuple" (.lst ds) = false := by simp [isiD, isiN, tyN]
theorem isi_tuple_tup {ds : List D} : isiD "tuple" (.tup ds) = true := by simp [isiD, isiN, tyN]
theorem isi_str_non : isiD "str" .non = false := by simp [isiD, isiN, tyN]
theorem isi_str_bl {b : Bool} : isiD "str" (.bl b) = false := by simp [isiD, isiN, tyN]
theorem isi_str_int {i : Int} : isiD "str" (.int i) = false := by simp [isiD, isiN, tyN]
theorem isi_str_str {x : Str} : isiD "str" (.str x) = true := by simp [isiD, isiN, tyN]
theorem isi_str_lst {ds : List D} : isiD "str" (.lst ds) = false := by simp [isiD, isiN, tyN]
theorem isi_str_tup {ds : List D} : isiD "str" (.tup ds) = false := by simp [isiD, isiN, tyN]
def ownO : Option (Option S) → Prop
  | some (some s) => s.own = true
  | _ => False
theorem rd_isOwn {ρ : En} {n : Nat} : isOwn ρ n = ownO ρ[n]? := by
  apply propext
  unfold isOwn ownO
  constructor
  · rintro ⟨s, e, h⟩
    rw [e]; exact h
  · intro h
    split at h
    · rename_i s e
      exact ⟨s, e, h⟩
    · exact h.elim
theorem rd_own1 {ds : List D} : ownO (some (some (.ow ds))) = True := eq_true rfl
theorem rd_own2 {ds : List D} : ownO (some (some (.bg ds))) = True := eq_true rfl
theorem rd_own3 {ks : List Int} {ds : List D} : ownO (some (some (.od ks ds))) = True := eq_true rfl
def onIx (o : Option (Option S)) (k : Int) (K : D → Prop) : Prop := match o with
  | some (some (.ow ds)) => ∃ d, atI ds k = some d ∧ K d
  | some (some (.bg ds)) => ∃ d, atI ds k = some d ∧ K d
  | _ => False
theorem rd_onIx1 {ds : List D} {k : Int} {K : D → Prop} : onIx (some (some (.ow ds))) k K = ∃ d, atI ds k = some d ∧ K d := rfl
theorem rd_onIx2 {ds : List D} {k : Int} {K : D → Prop} : onIx (some (some (.bg ds))) k K = ∃ d, atI ds k = some d ∧ K d := rfl
theorem rd_ixO {i : Nat} {b : DE} {ρ : En} {Q : S → En → Prop} : xIxO i b ρ Q = b ρ fun s ρ1 => onI s.toD fun k => onIx ρ1[i]? k fun d => Q (.fz d) ρ1 := by
  unfold xIxO
  congr 1
  funext s ρ1
  apply propext
  constructor
  · rintro ⟨ds, k, d, h, e, h1, h2⟩
    rw [e]
    rw [rd_onI]
    rcases h with h | h <;> rw [h] <;> exact ⟨d, h1, h2⟩
  · intro h
    unfold onI at h
    split at h
    · rename_i k e
      unfold onIx at h
      split at h
      · rename_i ds e2
        obtain ⟨d, h1, h2⟩ := h
        exact ⟨ds, k, d, .inl e2, e, h1, h2⟩
      · rename_i ds e2
        obtain ⟨d, h1, h2⟩ := h
        exact ⟨ds, k, d, .inr e2, e, h1, h2⟩
      · exact h.elim
    · exact h.elim
def onStore (o : Option (Option S)) (k : Int) (d : D) (K : S → Prop) : Prop := match o with
  | some (some (.ow ds)) => ∃ j, ixN ds.length k = some j ∧ K (.ow (ds.set j d))
  | some (some (.bg ds)) => ∃ j, ixN ds.length k = some j ∧ K (.bg (ds.set j d))
  | _ => False
theorem rd_onStore1 {ds : List D} {k : Int} {d : D} {K : S → Prop} : onStore (some (some (.ow ds))) k d K = ∃ j, ixN ds.length k = some j ∧ K (.ow (ds.set j d)) := rfl
theorem rd_onStore2 {ds : List D} {k : Int} {d : D} {K : S → Prop} : onStore (some (some (.bg ds))) k d K = ∃ j, ixN ds.length k = some j ∧ K (.bg (ds.set j d)) := rfl
theorem rd_store {i : Nat} {te ti : DE} {Z : DEnds} {ρ : En} : xStore i te ti Z ρ = te ρ fun s ρ1 => isOwn ρ1 i ∧ ti ρ1 fun s' ρ2 => onI s'.toD fun k => onStore ρ2[i]? k s.toD fun z => Z.nx (ρ2.set i (some z)) := by
  unfold xStore
  congr 1
  funext s ρ1
  congr 1
  congr 1
  funext s' ρ2
  apply propext
  constructor
  · rintro ⟨ds, k, j, e, hj, h⟩
    rw [e]
    rw [rd_onI]
    rcases h with ⟨h, h2⟩ | ⟨h, h2⟩ <;> rw [h] <;> exact ⟨j, hj, h2⟩
  · intro h
    unfold onI at h
    split at h
    · rename_i k e
      unfold onStore at h
      split at h
      · rename_i ds e2
        obtain ⟨j, h1, h2⟩ := h
        exact ⟨ds, k, j, e, h1, .inl ⟨e2, h2⟩⟩
      · rename_i ds e2
        obtain ⟨j, h1, h2⟩ := h
        exact ⟨ds, k, j, e, h1, .inr ⟨e2, h2⟩⟩
      · exact h.elim
    · exact h.elim
theorem ex_eq {α : Type} {x : α} {p : α → Prop} : (∃ y, some x = some y ∧ p y) = p x := by
  apply propext
  constructor
  · rintro ⟨y, e, h⟩
    cases e
    exact h
  · exact fun h => ⟨x, rfl, h⟩
theorem atI_c0 {α : Type} {x : α} {l : List α} : atI (x :: l) 0 = some x := atI_nat (j := 0) rfl
theorem atI_c1 {α : Type} {x y : α} {l : List α} : atI (x :: y :: l) 1 = some y := atI_nat (j := 1) rfl
theorem atI_c2 {α : Type} {x y z : α} {l : List α} : atI (x :: y :: z :: l) 2 = some z := atI_nat (j := 2) rfl
theorem ixN3_0 : ixN 3 0 = some 0 := rfl
theorem ixN3_1 : ixN 3 1 = some 1 := rfl
theorem ixN3_2 : ixN 3 2 = some 2 := rfl
theorem cm64 {i j : Int} (h1 : -18446744073709551616 < i) (h2 : i < 18446744073709551616) (h3 : -18446744073709551616 < j) (h4 : j < 18446744073709551616) : CMulW i j :=
  wide_mul (a := 64) (b := 64) (by show i.natAbs < 18446744073709551616; omega) (by show j.natAbs < 18446744073709551616; omega) (by decide) (by decide) (by decide)
theorem cdW {i j : Int} (h1 : 0 < j) (h2 : j < 18446744073709551616) : CDivW i j := wide_div (b := 64) h1 (by show j.natAbs < 18446744073709551616; omega) (by decide) (by decide)
theorem cpw {i j : Int} (h0 : 0 ≤ j) (h1 : j ≤ 1000) (h2 : -18446744073709551616 < i) (h3 : i < 18446744073709551616) : CPow i j := ⟨h0, by omega, by show i.natAbs < 18446744073709551616; omega⟩

/-! ### the bag of draws -/
def bagOK (m : Nat) (bd : List D) : Prop := ∃ a b c : Int, bd = [.int a, .int b, .int c] ∧ 0 ≤ a ∧ 0 ≤ b ∧ b < 2305843009213693951 ∧ 0 ≤ c ∧ c ≤ 100000 + m
theorem bagOK.mono {m n : Nat} {bd : List D} (h : bagOK m bd) (l : m ≤ n) : bagOK n bd := by
  obtain ⟨a, b, c, e, h1, h2, h3, h4, h5⟩ := h
  exact ⟨a, b, c, e, h1, h2, h3, h4, by omega⟩

mutual
def sm : Nat → D → Bool
  | _, .non => true
  | _, .bl _ => true
  | _, .int _ => true
  | _, .str x => PyData.strOk x
  | 0, .lst _ => false
  | 0, .tup _ => false
  | n + 1, .lst ds => decide (ds.length ≤ 100000) && sms n ds
  | n + 1, .tup ds => decide (ds.length ≤ 100000) && sms n ds
  | _, .dct _ _ => false
def sms : Nat → List D → Bool
  | _, [] => true
  | n, d :: ds => sm n d && sms n ds
end
theorem sms_mem : ∀ {n : Nat} {ds : List D}, sms n ds = true → ∀ d ∈ ds, sm n d = true
  | _, [], _, d, h => by cases h
  | n, x :: ds, o, d, h => by
    simp only [sms, Bool.and_eq_true] at o
    rcases List.mem_cons.mp h with rfl | h
    · exact o.1
    · exact sms_mem o.2 d h
theorem sms_of : ∀ {n : Nat} {ds : List D}, (∀ d ∈ ds, sm n d = true) → sms n ds = true
  | _, [], _ => rfl
  | n, x :: ds, h => by
    simp only [sms, Bool.and_eq_true]
    exact ⟨h x (by simp), sms_of fun d hd => h d (by simp [hd])⟩
theorem sm_int (n : Nat) (i : Int) : sm n (.int i) = true := by cases n <;> rfl
theorem sm_non (n : Nat) : sm n .non = true := by cases n <;> rfl
theorem sm_tup {n : Nat} {ns : List Int} (h : ns.length ≤ 100000) : sm (n + 1) (.tup (ns.map D.int)) = true := by
  simp only [sm, List.length_map, decide_eq_true h, Bool.true_and]
  exact sms_of fun d hd => by
    obtain ⟨i, _, rfl⟩ := List.mem_map.mp hd
    exact sm_int n i
theorem sm_lst {n : Nat} {ns : List Int} (h : ns.length ≤ 100000) : sm (n + 1) (.lst (ns.map D.int)) = true := by
  simp only [sm, List.length_map, decide_eq_true h, Bool.true_and]
  exact sms_of fun d hd => by
    obtain ⟨i, _, rfl⟩ := List.mem_map.mp hd
    exact sm_int n i
/-- a def that nobody calls: for a recursion's ground -/
theorem fn_void {P : Program} {w : World} {K : PySem.W.Frag} {mg : Str → Option Value} {base : Heap} {x : Str} {st : Stmt} {ps : List Str} (n : Nat) (d : Df K mg x st ps) (hps : ps.length = n) : Fn P w K mg base x 0 n (fun _ _ _ => False) := by
  obtain ⟨f, fd, F, hm, hb⟩ := d
  exact ⟨f, fd, ps, ⟨spD_len hps, fun A outer s H args us vs Q E hr e0 hb hv ⟨G, ds, QD, ED, h1, h2, h3, h4, h5⟩ => h4.elim⟩, hm, F.kp, hb⟩
end L3
namespace L3
open PySem PySem.Spec PyProof.Rows L2
section
variable {X : Cx} {C : FC}
def onE (ds : List D) (k : List D → Prop) : Prop := match ds with
  | [.lst xs] => k (enumD xs)
  | [.tup xs] => k (enumD xs)
  | _ => False
def xEnum (t : DA) : DI := fun ρ Q => t ρ fun ds ρ1 => onE ds fun l => Q l ρ1
theorem rd_onE1 {xs : List D} {k : List D → Prop} : onE [.lst xs] k = k (enumD xs) := rfl
theorem rd_onE2 {xs : List D} {k : List D → Prop} : onE [.tup xs] k = k (enumD xs) := rfl
/-- of a list alone -/
def onEl (ds : List D) (k : List D → Prop) : Prop := match ds with
  | [.lst xs] => k (enumD xs)
  | _ => False
def xEnumL (t : DA) : DI := fun ρ Q => t ρ fun ds ρ1 => onEl ds fun l => Q l ρ1
theorem di_enumL (K : PySem.W.Frag) {e : Expr} {ta : TA} {t : DA} {p pos tpos : Pos} {elts : List Expr} {kk : Nat} (hg : Gl X "enumerate") (hm : X.mg "enumerate" = none) (ha : PAV X C [e] ta t)
    (hs : starEach [e] X.env = [(false, eval e X.env)] := by rfl) (hK : X.K = K := by rfl) : PIV X C (.Tuple elts kk tpos) (.Call (.Name "enumerate" p) [e] [] pos) (iEnum K ta) (xEnumL t) := by
  subst hK
  refine ⟨pi_enum hg hm ha.pe hs, fun G H σ ρ QD R' R q k => ha.rf G H σ ρ _ _ R q fun vs ds G1 H1 ρ1 R1 s1 hd q1 => ?_⟩
  unfold onEl at q1
  split at q1
  · rename_i xs
    obtain ⟨v, rfl, a, us, rfl, h1, h2⟩ := hd.one
    exact ⟨a, us, rfl, SqL.of (R1.sub _ _ h1), k _ _ G1 H1 ρ1 R1 s1 (jr_enum h1 h2) q1⟩
  · exact q1.elim
end
end L3
namespace L3
open PySem PySem.Spec PyProof.Rows L2
/-! ### the law's own loop: over bags -/
def envB (n i : Nat) (bd : List D) : En := (List.replicate n none).set i (some (.bg bd))
theorem envB_get {n i j : Nat} {bd : List D} {s : S} (h : (envB n i bd)[j]? = some (some s)) : j = i ∧ s = .bg bd := by
  unfold envB at h
  rcases get_set h with h | ⟨_, h⟩
  · exact h
  · rw [List.getElem?_replicate] at h
    split at h <;> cases h
theorem rep_bag {H : Hp} {σ : L2.St} {n i : Nat} {bd : List D} {b : Addr} {vs : List V} (hl : σ.length = n) (hb : H b = some (.lst vs)) (hd : Dats (fun _ => none) bd vs) (hs : σ[i]? = some (some (.ref b))) :
    Rep ⟨H, fun _ => none, some b⟩ (fun _ => none) H σ (envB n i bd) := by
  refine ⟨by unfold envB; rw [List.length_set, List.length_replicate, hl], fun _ _ e => (by cases e), fun _ _ e => e, fun _ _ e _ => e, fun _ _ e => (by cases e), fun p e => ?_, fun j d e => ?_, fun j s e os => ?_, fun j k s1 s2 p ne e1 o1 e2 o2 z1 z2 => ?_⟩
  · cases e
    exact ⟨rfl, (by show H b ≠ none; rw [hb]; exact fun z => nomatch z), (by rw [hb]; exact fun z => nomatch z)⟩
  · cases (envB_get e).2
  · obtain ⟨rfl, rfl⟩ := envB_get e
    exact ⟨b, hs, ⟨vs, hb, hd⟩, rfl, .inr ⟨rfl, rfl⟩⟩
  · exact ne ((envB_get e1).1.trans (envB_get e2).1.symm)
/-- the bags of a list, as they stand -/
def BagsAt (H : Hp) (bs : List Addr) (i : Nat) : Prop := ∀ (j : Nat) (b : Addr), i ≤ j → bs[j]? = some b → ∃ bd, bagOK 0 bd ∧ ∃ vs, H b = some (.lst vs) ∧ ∀ G, Dats G bd vs
theorem for_bags {K : PySem.W.Frag} {tsb : TS} {tb : DS} {n i0 : Nat} {p : Addr} {bs : List Addr} {σ : L2.St} {H : Hp} {E : Ends} (hbody : ∀ C, RfS C tsb tb)
    (hpure : ∀ bd, bagOK 0 bd → tb { nx := fun ρ => ρ.length = n, ct := fun ρ => ρ.length = n, rt := fun _ _ => False } (envB n i0 bd)) (hi0 : i0 < n) (hσ : σ.length = n)
    (hp : H p = some (.lst (bs.map V.ref))) (nd : bs.Nodup) (hpb : p ∉ bs) (hB : BagsAt H bs 0) (hend : ∀ σ' H', Same (fun q => if q ∈ bs then none else H q) H' → E.nx σ' H') :
    ∃ W : Nat → Nat → L2.St → Hp → Prop, (∃ m, W 0 m σ H) ∧ ∀ i m σ H, W i m σ H →
      ((Itl K p).stop i H ∧ E.nx σ H) ∨ ((Itl K p).go i H ∧ ∃ N : L2.St → Hp → Prop, (∀ σ' H', N σ' H' → ∃ m', m' < m ∧ W (i + 1) m' σ' H') ∧ ∀ x H', (Itl K p).yld i H x H' → gName i0 x σ H' fun σ2 H2 => tsb { E with nx := N, ct := N, bk := E.nx } σ2 H2) := by
  refine ⟨fun i m σ' H' => m = bs.length - i ∧ i ≤ bs.length ∧ σ'.length = n ∧ H' p = some (.lst (bs.map V.ref)) ∧ BagsAt H' bs i ∧ Same (fun q => if q ∈ bs then none else H q) H',
    ⟨_, rfl, Nat.zero_le _, hσ, hp, hB, fun q o e => ?_⟩, ?_⟩
  · have e : (if q ∈ bs then none else H q) = some o := e
    split at e
    · cases e
    · exact e
  rintro i m σ1 H1 ⟨rfl, hi, hl, hp1, hB1, sm⟩
  have hL : SqL K H1 p (bs.map V.ref) := .inl (.inl hp1)
  by_cases hlt : i < bs.length
  · have g1 : (bs.map V.ref)[i]? = some (.ref bs[i]) := by rw [List.getElem?_map, List.getElem?_eq_getElem hlt]; rfl
    refine .inr ⟨⟨_, _, hL, g1⟩, fun σ' H' => i + 1 ≤ bs.length ∧ σ'.length = n ∧ H' p = some (.lst (bs.map V.ref)) ∧ BagsAt H' bs (i + 1) ∧ Same (fun q => if q ∈ bs then none else H q) H',
      fun σ' H' h => ⟨bs.length - (i + 1), by omega, rfl, h⟩, fun x H' ⟨eH, hx⟩ => ?_⟩
    subst eH
    have ex : x = .ref bs[i] := Option.some.inj ((hx _ hL).symm.trans g1)
    subst ex
    obtain ⟨bd, ok, vs, hv, hd⟩ := hB1 i bs[i] (Nat.le_refl _) (List.getElem?_eq_getElem hlt)
    have hl2 : (σ1.set i0 (some (.ref bs[i]))).length = n := by rw [List.length_set]; exact hl
    have R := rep_bag (i := i0) hl2 hv (hd _) (set_self_lt (by omega))
    have done : ∀ {G' H2 : Hp} {σ2 : L2.St} {ρ2 : En}, Rep ⟨H', fun _ => none, some bs[i]⟩ G' H2 σ2 ρ2 → ρ2.length = n → i + 1 ≤ bs.length ∧ σ2.length = n ∧ H2 p = some (.lst (bs.map V.ref)) ∧ BagsAt H2 bs (i + 1) ∧ Same (fun q => if q ∈ bs then none else H q) H2 := fun {G' H2 σ2 ρ2} R2 hn => by
      refine ⟨hlt, R2.len ▸ hn, R2.keep p _ hp1 (fun z => hpb ((Option.some.inj z) ▸ List.getElem_mem hlt)), fun j b hj hjb => ?_, fun q o e => ?_⟩
      · obtain ⟨bd', ok', vs', hv', hd'⟩ := hB1 j b (by omega) hjb
        refine ⟨bd', ok', vs', R2.keep b _ hv' (fun z => ?_), hd'⟩
        have e1 : bs[i] = b := Option.some.inj z
        obtain ⟨hj2, e2⟩ := List.getElem?_eq_some_iff.mp hjb
        have := (List.getElem_inj (h₀ := hlt) (h₁ := hj2) nd).mp (e1.trans e2.symm)
        omega
      · have e1 := sm q o e
        refine R2.keep q o e1 (fun z => ?_)
        have e2 : bs[i] = q := Option.some.inj z
        have e3 : (if q ∈ bs then none else H q) = some o := e
        rw [if_pos (e2 ▸ List.getElem_mem hlt)] at e3
        cases e3
    exact hbody _ _ _ _ _ _ _ R (hpure bd ok) ⟨fun _ _ _ _ R2 _ q => done R2 q, fun _ _ _ _ _ _ q => q.elim, fun _ _ _ _ R2 _ q => done R2 q, fun _ _ _ _ _ _ _ _ _ q => q.elim⟩
  · exact .inl ⟨⟨_, hL, by rw [List.length_map]; omega⟩, hend σ1 H1 sm⟩
end L3

namespace L3
open PySem PySem.Spec PyProof.Rows L2
/-- a row of draws from the bag -/
theorem lc_draw (lo n m : Nat) (top : Int) (ρf : List D → En) {ti : DI} {g : DG} {tt : DT} {te : DE} {vs : List Nat} {ρ : En} {Q : S → En → Prop}
    (hti : ∀ QL : List D → En → Prop, (∀ (n' : Nat) (b0 : List D), lo ≤ n' → n' ≤ n → bagOK m b0 → QL (rngD 0 n') (ρf b0)) → ti ρ QL) (hn : n ≤ 100000)
    (hstep : ∀ (i : Nat) (bd : List D) (QN : D → En → Prop) (QF : En → Prop), i < n → bagOK (m + i) bd → (∀ (r : Int) (bd' : List D), 0 ≤ r → r < top → bagOK (m + i + 1) bd' → QN (.int (1 + r)) (wipeD (ρf bd') vs)) →
      g (.int (0 + i)) (wipeD (ρf bd) vs) fun ρ2 => tt ρ2 fun b ρ3 => if b = true then te ρ3 fun s ρ4 => QN s.toD (wipeD ρ4 vs) else QF (wipeD ρ3 vs))
    (hend : ∀ (hs : List Int) (b0 bd' : List D), lo ≤ hs.length → hs.length ≤ n → (∀ x ∈ hs, 1 ≤ x ∧ x ≤ top) → bagOK (m + n) bd' → Q (.ow (hs.map D.int)) (unw (ρf b0) (wipeD (ρf bd') vs) vs)) : xLc ti g tt te vs ρ Q := by
  refine hti _ fun n' b0 hlo hn' hb0 => ⟨by rw [rngD_len]; omega, fun i acc ρb => ∃ (hs : List Int) (bd : List D), acc = hs.map D.int ∧ hs.length = i ∧ (∀ x ∈ hs, 1 ≤ x ∧ x ≤ top) ∧ bagOK (m + i) bd ∧ ρb = wipeD (ρf bd) vs,
    ⟨[], b0, rfl, rfl, fun x hx => (by cases hx), hb0, rfl⟩, fun i d acc ρb hd hI => ?_, fun acc ρb hI => ?_⟩
  · obtain ⟨hs, bd, rfl, hl, ha, hb, rfl⟩ := hI
    obtain ⟨hi, rfl⟩ := rngD_get hd
    refine hstep i bd (fun d ρ4 => ∃ (hs' : List Int) (bd : List D), hs.map D.int ++ [d] = hs'.map D.int ∧ hs'.length = i + 1 ∧ (∀ x ∈ hs', 1 ≤ x ∧ x ≤ top) ∧ bagOK (m + (i + 1)) bd ∧ ρ4 = wipeD (ρf bd) vs)
      (fun ρ3 => ∃ (hs' : List Int) (bd : List D), hs.map D.int = hs'.map D.int ∧ hs'.length = i + 1 ∧ (∀ x ∈ hs', 1 ≤ x ∧ x ≤ top) ∧ bagOK (m + (i + 1)) bd ∧ ρ3 = wipeD (ρf bd) vs) (by omega) hb
      (fun r bd' h0 h1 hb' => ⟨hs ++ [1 + r], bd', by simp, by simp [hl], fun x hx => ?_, hb', rfl⟩)
    rcases List.mem_append.mp hx with h | h
    · exact ha x h
    · simp only [List.mem_singleton] at h
      omega
  · obtain ⟨hs, bd, rfl, hl, ha, hb, rfl⟩ := hI
    rw [rngD_len] at hl hb
    exact hend hs b0 bd (by omega) (by omega) ha (hb.mono (by omega))
theorem lc_pure0 {α : Type} (as : List α) (ι : α → D) (p : α → Bool) (f : α → D) {ti : DI} {g : DG} {tt : DT} {te : DE} {vs : List Nat} {ρ : En} {Q : S → En → Prop}
    (hi : ∀ QL : List D → En → Prop, QL (as.map ι) ρ → ti ρ QL) (hl : as.length ≤ 100000)
    (hs : ∀ a ∈ as, ∀ QD : D → En → Prop, ∀ QN : En → Prop, (p a = true → QD (f a) (wipeD ρ vs)) → (p a = false → QN (wipeD ρ vs)) → g (ι a) (wipeD ρ vs) fun ρ2 => tt ρ2 fun b ρ3 => if b = true then te ρ3 fun s ρ4 => QD s.toD (wipeD ρ4 vs) else QN (wipeD ρ3 vs))
    (q : Q (.ow ((as.filter p).map f)) (unw ρ (wipeD ρ vs) vs)) : xLc ti g tt te vs ρ Q := lc_pure as ι p f ρ hi hl hs q
/-- a test ahead of the law's loop -/
theorem pre_test {tt : TT} {t : DT} {n : Nat} {σ : L2.St} {H : Hp} {Q : Bool → Hp → Prop} (h : ∀ C, RfT C tt t) (hl : σ.length = n) (hp : t (List.replicate n none) fun b _ => b = false) (k : ∀ H', Same H H' → Q false H') : tt σ H Q := by
  have none_at : ∀ (i : Nat) (s : S), (List.replicate n (none : Option S))[i]? = some (some s) → False := fun i s e => by
    rw [List.getElem?_replicate] at e
    split at e <;> cases e
  refine h ⟨H, fun _ => none, none⟩ (fun _ => none) H σ (List.replicate n none) _ Q ⟨by rw [List.length_replicate, hl], fun _ _ e => (by cases e), fun _ _ e => e, fun _ _ e _ => e, fun _ _ e => (by cases e), fun p e => (by cases e), fun i d e => (none_at i _ e).elim,
    fun i s e _ => (none_at i _ e).elim, fun i j s s' p _ e _ _ _ _ _ => (none_at i _ e).elim⟩ hp fun b G' H' ρ' R _ e => ?_
  subst e
  exact k H' fun p o e => R.keep p o e (fun z => nomatch z)
/-- a last expression, behind the law's loop -/
theorem post_expr {te : TE} {t : DE} {n : Nat} {σ : L2.St} {H : Hp} {Q : VK} {v0 : V} {d0 : D} (h : ∀ C, Rf C te t) (hl : σ.length = n) (hp : t (List.replicate n none) fun s _ => s = .fz d0) (hv : ∀ G v, Dat G d0 v → v = v0) (k : ∀ H', Q v0 H') : te σ H Q := by
  have none_at : ∀ (i : Nat) (s : S), (List.replicate n (none : Option S))[i]? = some (some s) → False := fun i s e => by
    rw [List.getElem?_replicate] at e
    split at e <;> cases e
  refine h ⟨H, fun _ => none, none⟩ (fun _ => none) H σ (List.replicate n none) _ Q ⟨by rw [List.length_replicate, hl], fun _ _ e => (by cases e), fun _ _ e => e, fun _ _ e _ => e, fun _ _ e => (by cases e), fun p e => (by cases e), fun i d e => (none_at i _ e).elim,
    fun i s e _ => (none_at i _ e).elim, fun i j s s' p _ e _ _ _ _ _ => (none_at i _ e).elim⟩ hp fun v s G' H' ρ' R _ rv e => ?_
  subst e
  rw [hv _ _ rv]
  exact k H'
end L3

namespace L3
open PySem PySem.Spec PyProof.Rows L2
/-! ### max(list, default = d) -/
section
variable {prog : Program} {w : World} {A : Around} {R : Result → Shared → Prop} {it : Addr} {fp wr : List Addr} {n : Nat} {P : Nat → Value → Prop} {St : Nat → Heap → Prop}
def kwD (d : Value) : List (Str × Value) := [("default", d)]
def pairObj (vs : Array Value) (c : Nat) : Obj := { cls := .type "list", dict := none, data := .seq vs c, slots := #[] }
def keptBut (wr : List Addr) (S : Addr) (h h' : Heap) : Prop := ∀ b o, b ∉ wr → b ≠ S → h.get? b = some o → h'.get? b = some o
theorem mxName : (toString "max" ++ toString ".loop" : String) = "max.loop" := by decide
theorem maxD_on (W : Walks prog w A.in1 it fp wr n P St) (bt : Nat → Nat → Bool) (hc : CmpOf prog w A.in1 .Gt P bt) (S : Addr) (hf : S ∉ fp) (d : Value) : ∀ (m j : Nat) (s : Shared) (vb : Value) (c : Nat), n - (j + 1) = m → j + 1 ≤ n → St (j + 1) s.heap → P (argBest bt j) vb →
    s.heap.get? S = some (pairObj #[vb, vb] c) → (∀ v h' tk, P (argBest bt (n - 1)) v → keptBut wr S s.heap h' → R (.ok (.ret v)) { s with heap := h', toks := tk }) →
    codeAny (model prog w) A (.builtin "max.loop" ⟨[.ref it, .none, .ref S], kwD d⟩) R s
  | 0, j, s, vb, c, hm, hle, hst, hp, hS, k => by
    have e : j + 1 = n := by omega
    have nw : S ∉ wr := fun z => hf (W.sub _ z)
    refine codeAny_builtin F.entry_max_loop ?_; rw [Around.under_plainId F.plain_max_loop _]
    show wpAny _ A.in1 (seqItems? (.ref S) >>= _) _ _ s; refine wpAny_bind (wpAny_seqItems hS rfl ?_)
    show wpAny _ A.in1 (tryCatch (pyNext (.ref it)) _ >>= _) _ _ s; refine wpAny_bind (wpAny_tryCatch (W.done s _ _ (e ▸ hst) fun h' tk kp => ?_))
    show wpAny _ A.in1 (updateSeq S (fun _ => #[]) >>= _) _ _ _; refine wpAny_bind (wpAny_updateSeq (kp S _ nw hS) rfl (wpAny_bind (wpAny_letGo (wpAny_pure ?_))))
    exact k vb _ tk (by rw [← e]; exact hp) fun b o h1 h2 z => (Heap.get?_update_other _ _ (Ne.symm h2)).trans (kp b o h1 z)
  | m + 1, j, s, vb, c, hm, hle, hst, hp, hS, k => by
    have nw : S ∉ wr := fun z => hf (W.sub _ z)
    refine codeAny_builtin F.entry_max_loop ?_; rw [Around.under_plainId F.plain_max_loop _]
    show wpAny _ A.in1 (seqItems? (.ref S) >>= _) _ _ s; refine wpAny_bind (wpAny_seqItems hS rfl ?_)
    show wpAny _ A.in1 (tryCatch (pyNext (.ref it)) _ >>= _) _ _ s; refine wpAny_bind (wpAny_tryCatch (W.item (j + 1) s _ _ (by omega) hst fun v h' tk hv st kp => ?_))
    have hS' := kp S _ nw hS
    show wpAny _ A.in1 (tryCatch (holding [v, v] (richCompare .Gt v vb >>= _)) _ >>= _) _ _ _; refine wpAny_bind (wpAny_tryCatch (wpAny_holding (wpAny_bind (hc (j + 1) (argBest bt j) v vb _ _ _ hv hp ?_))))
    refine wpAny_bind (wpAny_holding (wpAny_truthy_bool ?_)); refine wpAny_bind (wpAny_letGo (wpAny_pure ?_))
    have eb : argBest bt (j + 1) = if bt (j + 1) (argBest bt j) then j + 1 else argBest bt j := rfl
    by_cases hb : bt (j + 1) (argBest bt j) = true
    · rw [hb]; simp only [if_true]
      refine wpAny_bind (wpAny_updateSeq hS' rfl (wpAny_bind (wpAny_letGo ?_))); rw [mxName]
      refine wpAny_pure ⟨plainId_quiet F.plain_max_loop _, maxD_on W bt hc S hf d m (j + 1) _ v _ (by omega) (by omega) (W.frame _ _ _ st fun b hb2 o z => ?_) (by rw [eb, if_pos hb]; exact hv) (Heap.get?_update_self _ hS' rfl) fun v' h2 tk2 hv' kp' => ?_⟩
      · exact (Heap.get?_update_other _ _ (fun h : S = b => hf (by rw [h]; exact hb2))).trans z
      · exact k v' h2 tk2 hv' fun b o h1 h2 z => kp' b o h1 h2 ((Heap.get?_update_other _ _ (Ne.symm h2)).trans (kp b o h1 z))
    · rw [Bool.not_eq_true] at hb; rw [hb]; simp only [Bool.false_eq_true, if_false]
      refine wpAny_bind (wpAny_letGo ?_); rw [mxName]
      refine wpAny_pure ⟨plainId_quiet F.plain_max_loop _, maxD_on W bt hc S hf d m (j + 1) _ vb c (by omega) (by omega) st (by rw [eb, hb]; exact hp) hS' fun v' h2 tk2 hv' kp' => ?_⟩
      exact k v' h2 tk2 hv' fun b o h1 h2 z => kp' b o h1 h2 (kp b o h1 z)
theorem maxD_first (W : Walks prog w A.in1 it fp wr n P St) (bt : Nat → Nat → Bool) (hc : CmpOf prog w A.in1 .Gt P bt) (S : Addr) (hf : S ∉ fp) (d : Value) {s : Shared} {c : Nat} (hst : St 0 s.heap) (hS : s.heap.get? S = some (pairObj #[] c))
    (k : ∀ v h' tk, (0 < n → P (argBest bt (n - 1)) v) → (n = 0 → v = d) → keptBut wr S s.heap h' → R (.ok (.ret v)) { s with heap := h', toks := tk }) :
    codeAny (model prog w) A (.builtin "max.loop" ⟨[.ref it, .none, .ref S], kwD d⟩) R s := by
  have nw : S ∉ wr := fun z => hf (W.sub _ z)
  refine codeAny_builtin F.entry_max_loop ?_; rw [Around.under_plainId F.plain_max_loop _]
  show wpAny _ A.in1 (seqItems? (.ref S) >>= _) _ _ s; refine wpAny_bind (wpAny_seqItems hS rfl ?_)
  show wpAny _ A.in1 (tryCatch (pyNext (.ref it)) _ >>= _) _ _ s
  by_cases hn : 0 < n
  · refine wpAny_bind (wpAny_tryCatch (W.item 0 s _ _ hn hst fun v h' tk hv st kp => ?_))
    have hS' := kp S _ nw hS
    show wpAny _ A.in1 (updateSeq S (fun _ => #[v, v]) >>= _) _ _ _; refine wpAny_bind (wpAny_updateSeq hS' rfl ?_); rw [mxName]
    refine wpAny_pure ⟨plainId_quiet F.plain_max_loop _, maxD_on W bt hc S hf d _ 0 _ v _ rfl hn (W.frame _ _ _ st fun b hb2 o z => ?_) hv (Heap.get?_update_self _ hS' rfl) fun v' h2 tk2 hv' kp' => ?_⟩
    · exact (Heap.get?_update_other _ _ (fun h : S = b => hf (by rw [h]; exact hb2))).trans z
    · exact k v' h2 tk2 (fun _ => hv') (fun z => absurd z (Nat.pos_iff_ne_zero.mp hn)) fun b o h1 h2 z => kp' b o h1 h2 ((Heap.get?_update_other _ _ (Ne.symm h2)).trans (kp b o h1 z))
  · have e : n = 0 := by omega
    refine wpAny_bind (wpAny_tryCatch (W.done s _ _ (e ▸ hst) fun h' tk kp => ?_))
    refine wpAny_bind (wpAny_rule (wpAny_pure ?_))
    exact (k d h' tk (fun z => absurd z hn) (fun _ => rfl) fun b o h1 _ z => kp b o h1 z)
theorem call_tree_kw {id : String} {b : Builtin} {args : List Value} {kw : List (Str × Value)} {E : Value → Shared → Prop} {s : Shared} {Q : Value → Shared → Prop} (hk : builtinKind id = none) (hp : plainId id = true) (hb : entryFor table id = some b) (ha : argsOk id ⟨args, kw⟩)
    (h : wpAny (model prog w) A.in1 (b ⟨args, kw⟩) (fun fin s' => ∃ c', fin = .again c' ∧ c'.quiet = true ∧ codeAny (model prog w) A c' (fun r s' => match r with | .ok (.ret v) => Q v s' | .ok _ => False | .error e => E e s') s') E s) :
    wpAny (model prog w) A (call (.builtin id) args kw) Q E s := by
  refine wpAny_call (codeAny_call_builtin hp hb ?_)
  have h2 := wpAny_mono h (Q' := fun fin s' => match fin with | .done f => (match (Except.ok f : Result) with | .ok (.ret v) => Q v s' | .ok _ => False | .error e => E e s') | .again c' => c'.quiet = true ∧ codeAny (model prog w) A c' (fun r s' => match r with | .ok (.ret v) => Q v s' | .ok _ => False | .error e => E e s') s') (fun fin s' ⟨c', e, h3⟩ => by subst e; exact h3) fun _ _ z => z
  simp only [checkBuiltinCall, hk]
  cases hsig : Manifest.signature? id with
  | none => exact wpAny_pure h2
  | some sig =>
    have ha' : Bind.checkArgs id sig ⟨args, kw⟩ = pure () := by simpa only [argsOk, hsig] using ha
    simp only [ha']; exact wpAny_pure h2
theorem args_maxD (a d : Value) : argsOk "max" ⟨[a], kwD d⟩ := by unfold argsOk; kernel_rfl
theorem call_maxD {l : Addr} {its : List Value} {ns : List Int} {d : Value} {E : Value → Shared → Prop} {s : Shared} {Q : Value → Shared → Prop} (hh : A.handled = none) (hl : s.heap.IsList l its.toArray) (hi : IntsAre its ns)
    (h : ∀ h' tk v, (∀ b o, s.heap.get? b = some o → h'.get? b = some o) → (ns = [] → v = d) → (ns ≠ [] → ∃ m t, v = .int m t ∧ m ∈ ns ∧ ∀ a ∈ ns, a ≤ m) → Q v { s with heap := h', toks := tk }) : wpAny (model prog w) A (call (.builtin "max") [.ref l] (kwD d)) Q E s := by
  obtain ⟨xs, e⟩ := hi.allInts.items
  have hn : numsOf (intItems xs).toList = ns := by rw [← e]; exact hi.numsOf
  rw [nums_intItems] at hn; subst hn; rw [e] at hl
  refine call_tree_kw F.kind_max F.plain_max F.entry_max (args_maxD _ _) ?_
  show wpAny _ A.in1 (Builtin.Builtins.bindParams "max" ["key", "default"] 0 ⟨[], kwD d⟩ >>= _) _ _ s
  refine wpAny_bind (wpAny_of_eq (show Builtin.Builtins.bindParams "max" ["key", "default"] 0 ⟨[], kwD d⟩ = pure [none, some d] from rfl) ?_)
  refine wpAny_bind (wpAny_pure ?_)
  refine wpAny_bind (iter_intList hl fun s₂ e st hfp hlI => ?_)
  subst e
  refine wpAny_bind (wpAny_newObj_type ?_)
  rw [mxName]
  have W := Walks.list (A := A.in1) (prog := prog) (w := w) hh _ l hlI (intItems xs)
  refine wpAny_pure ⟨_, rfl, plainId_quiet F.plain_max_loop _, maxD_first W _ (CmpOf.ints_gt (numAt xs) (fun _ _ => intItems_at)) _ (fun hm => Nat.lt_irrefl _ (hfp _ hm)) d (W.frame _ _ _ st fun b _ o z => Heap.get?_push_of_some _ z) (Heap.get?_push_size _ rfl) fun v h' tk h1 h2 kp => ?_⟩
  have kk : ∀ b o, s.heap.get? b = some o → h'.get? b = some o := old_kept fun b o h3 z => kp b o h3 (Nat.ne_of_lt (Heap.lt_size z)) (Heap.get?_push_of_some _ z)
  have sz : (intItems xs).size = xs.size := by simp [intItems]
  have lz : ((xs.toList.map (·.1))).length = xs.size := by rw [List.length_map, Array.length_toList]
  refine h h' tk v kk (fun z => h2 ?_) fun z => ?_
  · rw [sz, ← lz, z]; rfl
  · have hpos : 0 < xs.size := by
      rw [← lz]; exact List.length_pos_iff.mpr z
    obtain ⟨t, rfl⟩ := intItems_at (h1 (by rw [sz]; exact hpos))
    rw [sz]
    obtain ⟨g1, g2⟩ := argBest_gt (numAt xs) (xs.size - 1)
    refine ⟨_, t, rfl, ?_, fun a ha => ?_⟩
    · rw [numAt_eq]; exact PySem.getD_mem (by rw [lz]; omega)
    · obtain ⟨j, hj, rfl⟩ := mem_getD ha
      rw [lz] at hj; rw [← numAt_eq]; exact g2 j (by omega)
end
section
variable {X : Cx} {C : FC}
def rMaxDf (K : PySem.W.Frag) : List V → List V → Hp → VK → Prop := fun xs zs H Q => ∃ (a : Addr) (ns : List Int) (d : Int), xs = [.ref a] ∧ zs = [.int d] ∧ SqL K H a (ns.map V.int) ∧ ∀ m, (ns = [] → m = d) → (ns ≠ [] → m ∈ ns ∧ ∀ y ∈ ns, y ≤ m) → Q (.int m) H
theorem cr_maxDf (hc : X.calm = true) : CallRK X (.builtin "max") [Str.ofString "default"] (rMaxDf X.K) := by
  intro pins s σ H vs zs us ws Q I r rz h
  obtain ⟨a, ns, d, rfl, rfl, hs, q⟩ := h
  obtain ⟨its, rv, hl, _⟩ := I.list hs
  rw [Vals.ref1 r]
  obtain ⟨w1, rfl, td, rfl⟩ := vals1 rz
  refine call_maxD (d := Value.int d td) (I.ok.hd hc) hl.isList rv.ints fun h' tk v hk e1 e2 => ?_
  by_cases hn : ns = []
  · rw [e1 hn]
    exact ⟨.int d, H, I.kept hk, ⟨_, rfl⟩, q d (fun _ => rfl) (fun z => absurd hn z)⟩
  · obtain ⟨m, t, rfl, hm, hle⟩ := e2 hn
    exact ⟨.int m, H, I.kept hk, ⟨_, rfl⟩, q m (fun z => absurd z hn) (fun _ => ⟨hm, hle⟩)⟩
def xMaxDf (t : DA) (d : Int) : DE := fun ρ Q => t ρ fun ds ρ1 => ∃ ns : List Int, ds = [.lst (ns.map D.int)] ∧ ∀ m, (ns = [] → m = d) → (ns ≠ [] → m ∈ ns ∧ ∀ y ∈ ns, y ≤ m) → Q (.fz (.int m)) ρ1
theorem d_maxD {e : Expr} {ta : TA} {t : DA} {p kp cp pos : Pos} {j} {d : Int} (hc : X.calm = true) (hg : Gl X "max") (hm : X.mg "max" = none) (ha : PAV X C [e] ta t)
    (he : backTo pos (starEach [e] X.env) = (false, eval e X.env) :: backTo pos (starEach [] X.env) := by rfl) (hpl : (backTo pos (starEach [e] X.env)).any (·.1) = false := by rfl)
    (hall : (backToKw pos (keywordEach [⟨some (Str.ofString "default"), .Constant (.int d) j cp, kp⟩] X.env)).all (·.1.isSome) = true := by rfl)
    (hnone : (backToKw pos (keywordEach [⟨some (Str.ofString "default"), .Constant (.int d) j cp, kp⟩] X.env)).any (·.1.isNone) = false := by rfl)
    (hks : (backToKw pos (keywordEach [⟨some (Str.ofString "default"), .Constant (.int d) j cp, kp⟩] X.env)).filterMap (·.1) = [Str.ofString "default"] := by rfl) :
    PV X C (.Call (.Name "max" p) [e] [⟨some (Str.ofString "default"), .Constant (.int d) j cp, kp⟩] pos) (tCKw (rMaxDf X.K) ta (tCons (tC (.int d)) tNil)) (xMaxDf t d) := by
  refine ⟨pe_callBK (cr_maxDf hc) hg hm (by decide +kernel) ha.pe (pk_cons pe_int pk_nil) (by decide) (by decide) he hpl hall hnone hks, fun G H σ ρ QD Q R q k => ?_⟩
  refine ha.rf G H σ ρ _ _ R q fun vs ds G1 H1 ρ1 R1 s1 hd ⟨ns, e, q1⟩ => ?_
  subst e
  obtain ⟨v, rfl, a, us, rfl, h1, h2⟩ := hd.one
  cases h2.ints
  exact ⟨a, ns, d, rfl, rfl, SqL.of (R1.sub _ _ h1), fun m e1 e2 => k _ _ _ _ _ R1 s1 (rvf (d := .int _) rfl) (q1 m e1 e2)⟩
theorem d_maxDK (K : PySem.W.Frag) {e : Expr} {ta : TA} {t : DA} {p kp cp pos : Pos} {j} {d : Int} (hc : X.calm = true) (hg : Gl X "max") (hm : X.mg "max" = none) (ha : PAV X C [e] ta t) (hK : X.K = K := by rfl)
    (he : backTo pos (starEach [e] X.env) = (false, eval e X.env) :: backTo pos (starEach [] X.env) := by rfl) (hpl : (backTo pos (starEach [e] X.env)).any (·.1) = false := by rfl)
    (hall : (backToKw pos (keywordEach [⟨some (Str.ofString "default"), .Constant (.int d) j cp, kp⟩] X.env)).all (·.1.isSome) = true := by rfl)
    (hnone : (backToKw pos (keywordEach [⟨some (Str.ofString "default"), .Constant (.int d) j cp, kp⟩] X.env)).any (·.1.isNone) = false := by rfl)
    (hks : (backToKw pos (keywordEach [⟨some (Str.ofString "default"), .Constant (.int d) j cp, kp⟩] X.env)).filterMap (·.1) = [Str.ofString "default"] := by rfl) :
    PV X C (.Call (.Name "max" p) [e] [⟨some (Str.ofString "default"), .Constant (.int d) j cp, kp⟩] pos) (tCKw (rMaxDf K) ta (tCons (tC (.int d)) tNil)) (xMaxDf t d) := by
  subst hK
  exact d_maxD hc hg hm ha he hpl hall hnone hks
end
theorem cut_take (ns : List D) (k : Int) (h : 0 ≤ k) : L3.cutD ns none (some k) = ns.take k.toNat := by
  unfold L3.cutD
  obtain ⟨n, rfl⟩ : ∃ n : Nat, k = (n : Int) := ⟨k.toNat, by omega⟩
  rw [HT.sIx_none, HT.sIx_nat, List.drop_zero, Nat.sub_zero, Int.toNat_natCast]
  by_cases hn : n ≤ ns.length
  · rw [Nat.min_eq_left hn]
  · rw [Nat.min_eq_right (by omega), List.take_of_length_le (Nat.le_refl _), List.take_of_length_le (by omega)]
theorem cut_drop (ns : List D) (k : Int) (h : 0 ≤ k) : L3.cutD ns (some k) none = ns.drop k.toNat := by
  unfold L3.cutD
  obtain ⟨n, rfl⟩ : ∃ n : Nat, k = (n : Int) := ⟨k.toNat, by omega⟩
  rw [HT.sIx_none, HT.sIx_nat, Int.toNat_natCast]
  by_cases hn : n ≤ ns.length
  · rw [Nat.min_eq_left hn, List.take_of_length_le (by rw [List.length_drop]; exact Nat.le_refl _)]
  · rw [Nat.min_eq_right (by omega), List.drop_of_length_le (Nat.le_refl _), List.drop_of_length_le (by omega), List.take_nil]
/-- the row of draws where the bag stands in the k-th slot -/
theorem lc_drawAt (k lo n m : Nat) (top : Int) {ti : DI} {g : DG} {tt : DT} {te : DE} {vs : List Nat} {ρ : En} {Q : S → En → Prop}
    (hti : ∀ QL : List D → En → Prop, (∀ (n' : Nat) (b0 : List D), lo ≤ n' → n' ≤ n → bagOK m b0 → QL (rngD 0 n') (ρ.set k (some (.bg b0)))) → ti ρ QL) (hn : n ≤ 100000)
    (hstep : ∀ (i : Nat) (bd : List D) (QN : D → En → Prop) (QF : En → Prop), i < n → bagOK (m + i) bd → (∀ (r : Int) (bd' : List D), 0 ≤ r → r < top → bagOK (m + i + 1) bd' → QN (.int (1 + r)) (wipeD (ρ.set k (some (.bg bd'))) vs)) →
      g (.int (0 + i)) (wipeD (ρ.set k (some (.bg bd))) vs) fun ρ2 => tt ρ2 fun b ρ3 => if b = true then te ρ3 fun s ρ4 => QN s.toD (wipeD ρ4 vs) else QF (wipeD ρ3 vs))
    (hend : ∀ (hs : List Int) (b0 bd' : List D), lo ≤ hs.length → hs.length ≤ n → (∀ x ∈ hs, 1 ≤ x ∧ x ≤ top) → bagOK (m + n) bd' → Q (.ow (hs.map D.int)) (unw (ρ.set k (some (.bg b0))) (wipeD (ρ.set k (some (.bg bd'))) vs) vs)) : xLc ti g tt te vs ρ Q :=
  lc_draw lo n m top (fun b => ρ.set k (some (.bg b))) hti hn hstep hend
end L3

namespace L3
open PySem PySem.Spec PyProof.Rows L2
/-! ### enumerate(tuple) -/
def tupIt (a : Addr) : Obj := { cls := .type "tuple_iterator", data := .fields #[.ref a, .int 0 0] }
def enumOb (it : Addr) : Obj := { cls := .type "enumerate", data := .fields #[.none, .bool false, .ref it, rawInt 0, .none, .none] }
section
open AutoSeq1 (wpAny_loadPart')
theorem meets_enumT (a : Addr) (items : Array Value) (n : Nat) (dct : Option Addr) (sl : Array (Option Value)) :
    Meets (Builtin.«enumerate.__new__» ⟨[.type "enumerate", .ref a], []⟩) (fun _ R s => s.heap.get? a = some { cls := .type "tuple", dict := dct, data := .seq items n, slots := sl } ∧
      R (.ok (.ret (.ref (s.heap.push (tupIt a)).objs.size))) { s with heap := (s.heap.push (tupIt a)).push (enumOb s.heap.objs.size) }) :=
  .of_wp fun prog w A R s h => by
    obtain ⟨hp, g, d, tk, os⟩ := s; obtain ⟨hl, h⟩ := h
    have hsub := sub_enumerate; have hT : Heap.IsTuple (Shared.heap ⟨hp, g, d, tk, os⟩) a items := ⟨_, hl, rfl, n, rfl⟩
    wp_walk using wpAny_loadPart' hl
    refine wpAny_stack_any fun st => wpAny_pure ?_
    split
    · rename_i c _ _ _ _ _
      cases (c == Value.type "enumerate") <;> (wp_walk using wpAny_loadPart' hl, wpAny_pyIter_tuple hT; exact ⟨_, rfl, h⟩)
    · wp_walk using wpAny_loadPart' hl, wpAny_pyIter_tuple hT; exact ⟨_, rfl, h⟩
end
section
variable {prog : Program} {w : World} {A : Around} {E : Value → Shared → Prop} {s : Shared}
theorem call_enumT {a : Addr} {items : Array Value} {Q : Value → Shared → Prop} (hT : s.heap.IsTuple a items)
    (h : ∀ h', IsEnum h' (s.heap.objs.size + 1) s.heap.objs.size 0 .none → h'.IsTupleIter s.heap.objs.size a 0 → (∀ b o, s.heap.get? b = some o → h'.get? b = some o) → Q (.ref (s.heap.objs.size + 1)) { s with heap := h' }) :
    wpAny (model prog w) A (call (.type "enumerate") [.ref a]) Q E s := by
  obtain ⟨⟨c, dct, dt, sl⟩, hl, hc, n, hd⟩ := hT
  obtain rfl : c = .type "tuple" := hc; obtain rfl : dt = .seq items n := hd
  refine callType_new F.called_enumerate (by decide) (F.typeCall_enumerate_1 _) (F.newCall_enumerate_1 _) (fun obj => F.args_object_init_2 obj _) F.entry_enumerate_new (meets_enumT a items n dct sl) ⟨hl, ?_⟩
  have hz : (s.heap.push (tupIt a)).objs.size = s.heap.objs.size + 1 := Heap.size_push ..
  show _ ∧ _
  rw [hz]
  have he : IsEnum ((s.heap.push (tupIt a)).push (enumOb s.heap.objs.size)) (s.heap.objs.size + 1) s.heap.objs.size 0 .none := by
    have := Heap.get?_push_size (s.heap.push (tupIt a)) (o := enumOb s.heap.objs.size) rfl
    rw [hz] at this; exact this
  exact ⟨⟨_, he, rfl⟩, h _ he ⟨_, Heap.get?_push_of_some _ (Heap.get?_push_size _ rfl), rfl, rfl⟩ fun b o y => Heap.get?_push_of_some _ (Heap.get?_push_of_some _ y)⟩
theorem draws_tup (hh : A.handled = none) (it a : Addr) (items : Array Value) (hne : a ≠ it) : Draws prog w A it [it, a] items.size (fun i x => items[i]? = some x) (fun i h => h.IsTupleIter it a i ∧ h.IsTuple a items) where
  live := fun i h ⟨⟨o, ho, _⟩, _⟩ => ⟨o, ho⟩
  frame := fun i h h' ⟨x, y⟩ k => ⟨x.at fun o q => k it (by simp) o q, y.at fun o q => k a (by simp) o q⟩
  item := fun i s Q E hi ⟨x, y⟩ hQ => RZ.nextOf_tuple_item x y (x := items[i]) (Array.getElem?_eq_getElem hi) fun h' hit sb => hQ _ h' s.toks (Array.getElem?_eq_getElem hi) ⟨hit, y.at fun o q => (sb.2 a hne).trans q⟩ sb
  done := fun s Q E ⟨x, y⟩ hE => RZ.nextOf_tuple_end hh x y (Array.getElem?_eq_none (Nat.le_refl _)) hE
theorem draws_stop (hh : A.handled = none) (it a : Addr) (items : Array Value) (hne : a ≠ it) (i : Nat) (hi : items.size ≤ i) : Draws prog w A it [it, a] 0 (fun _ _ => True) (fun j h => h.IsTupleIter it a (i + j) ∧ h.IsTuple a items) where
  live := fun j h ⟨⟨o, ho, _⟩, _⟩ => ⟨o, ho⟩
  frame := fun j h h' ⟨x, y⟩ k => ⟨x.at fun o q => k it (by simp) o q, y.at fun o q => k a (by simp) o q⟩
  item := fun j s Q E hj => absurd hj (Nat.not_lt_zero _)
  done := fun s Q E ⟨x, y⟩ hE => RZ.nextOf_tuple_end hh x y (Array.getElem?_eq_none (by omega)) hE
end
def IteT (K : PySem.W.Frag) (a : Addr) : It :=
  ⟨fun i H => ∃ (xs : List V) (x : V), SqT K H a xs ∧ xs[i]? = some x, fun i H v H' => ∃ T x, v = .ref T ∧ H T = none ∧ H' = upd H T (.tup [.int (i : Nat), x]) ∧ ∀ xs, SqT K H a xs → xs[i]? = some x, fun i H => ∃ xs : List V, SqT K H a xs ∧ xs.length ≤ i⟩
theorem enum_ne_tup {h : Heap} {e it a : Addr} {i : Int} {old : Value} {items : Array Value} (he : IsEnum h e it i old) (ht : h.IsTuple a items) : e ≠ a := fun z => by
  subst z
  obtain ⟨o, ho, hc, _⟩ := ht
  rw [he] at ho; cases ho
  exact absurd (Value.type.inj hc) (by decide)
theorem tup_ne_it {h : Heap} {it a : Addr} {i : Nat} {items : Array Value} (hi : h.IsTupleIter it a i) (ht : h.IsTuple a items) : a ≠ it := fun z => by
  subst z
  obtain ⟨o, ho, hc, _⟩ := ht
  obtain ⟨o', ho', hc', _⟩ := hi
  rw [ho] at ho'; cases ho'
  rw [hc] at hc'
  exact absurd (Value.type.inj hc') (by decide)
theorem turn_enumT {P : Program} {w : World} {K : PySem.W.Frag} {elts : List Expr} {kk : Nat} {tpos : Pos} (a e it : Addr) :
    Turn P w K (.Tuple elts kk tpos) (IteT K a) [e, it] e (fun i h => (∃ old, IsEnum h e it ((i : Nat) : Int) old) ∧ h.IsTupleIter it a i ∧ e ≠ it) where
  mem := List.mem_cons_self ..
  obj := fun i h ⟨⟨old, he⟩, ⟨o, ho, hc, hd⟩, _⟩ b hb => by
    rcases (by simpa using hb : b = e ∨ b = it) with z | z
    · subst z; exact ⟨_, he, fun v q => nomatch q⟩
    · subst z; exact ⟨o, ho, fun v q => by rw [hd] at q; cases q⟩
  keep := fun i h h' ⟨⟨old, he⟩, hi, hne⟩ k => ⟨⟨old, k e (by simp) _ he⟩, hi.at (fun o q => k it (by simp) o q), hne⟩
  item := by
    rintro X rfl rfl rfl hC i pins s σ H E I hf ⟨⟨old, he⟩, hit, hne⟩ ⟨xs, x, hq, hx⟩
    obtain ⟨its, rv, p, hz⟩ := I.tuple hq
    obtain ⟨u, hu, ru⟩ := rv.get hx
    have ht : s.heap.IsTuple a its.toArray := p
    have hel : e < s.heap.objs.size := Heap.lt_size he
    have hil : it < s.heap.objs.size := by obtain ⟨_, q, _⟩ := hit; exact Heap.lt_size q
    have hut : its.toArray[i]? = some u := by simpa using hu
    have hlt : i < its.toArray.size := (Array.getElem?_eq_some_iff.mp hut).1
    refine wpAny_pyNext_enum_itemD (draws_tup (A := X.A.in1) (show X.A.in1.handled = none from I.ok.hd hC) it a its.toArray (tup_ne_it hit ht)) he ⟨hit, ht⟩ hlt hne (by simp only [List.mem_cons, List.not_mem_nil, or_false, not_or]; exact ⟨hne, enum_ne_tup he ht⟩) fun y h' tk hP ho hst' hT hsz hk => ?_
    obtain rfl : u = y := Option.some.inj (hut.symm.trans hP)
    refine ⟨_, rfl, wpAny_letOwnedTupleGo_enum (s := { s with heap := h', toks := tk + 1 }) ho fun h2 he' sb => ?_⟩
    have hT2 : h2.get? s.heap.objs.size = some { cls := .type "tuple", data := .seq #[.int i tk, u] } := (sb.2 _ (Nat.ne_of_gt hel)).trans hT
    have ok : ObjOk X.prog X.w (upd H s.heap.objs.size (.tup [.int (i : Nat), x])) h2 s.heap.objs.size (.tup [.int (i : Nat), x]) := ⟨by show 2 ≤ sizeLine; decide, [.int i tk, u], .cons ⟨_, rfl⟩ (.cons ru .nil), ⟨_, hT2, rfl, _, rfl⟩⟩
    have I1 : Inv X pins σ (upd H s.heap.objs.size (.tup [.int (i : Nat), x])) { s with heap := h2, toks := tk + 1 } :=
      I.turnedNew (ch := [e, it]) (fun b ob hb q => (sb.2 b fun z => hb (by simp [z])).trans (hk b ob (fun z => hb (by simp [z])) (fun z => hb (by simp [z])) q)) hf (Nat.le_refl _) ok
    refine ⟨.ref s.heap.objs.size, _, I1, rfl, ⟨_, x, rfl, I.hok.fresh (Nat.le_refl _), rfl, fun ys hy => (I.tuple_inj hy hq) ▸ hx⟩, ⟨⟨u, ?_⟩, hst'.1.at fun o q => (sb.2 it (Ne.symm hne)).trans q, hne⟩, fun b hb => ?_⟩
    · rw [show ((i + 1 : Nat) : Int) = (i : Int) + 1 from by omega]; exact he'
    · have hb' : b < s.heap.objs.size := by
        rcases (by simpa using hb : b = e ∨ b = it) with z | z
        · rw [z]; exact hel
        · rw [z]; exact hil
      rw [upd_ne (Nat.ne_of_lt hb')]; exact (hf b hb).1
  done := by
    rintro X rfl rfl rfl hC i pins s σ H E I hf ⟨⟨old, he⟩, hit, hne⟩ ⟨xs, hq, hx⟩
    obtain ⟨its, rv, p, hz⟩ := I.tuple hq
    have ht : s.heap.IsTuple a its.toArray := p
    obtain ⟨f0, f1, f2, f3, f4, f5⟩ := hf it (by simp)
    have hl := rv.length
    exact wpAny_pyNext_enum_endD (draws_stop (A := X.A.in1) (show X.A.in1.handled = none from I.ok.hd hC) it a its.toArray (tup_ne_it hit ht) i (by simp; omega)) he ⟨hit, ht⟩ fun h' eb => ⟨rfl, I.turned (t' := s.toks) (fun b o hb q => eb b o hb q) f0 f1 f3 f4 f5⟩
  self := fun A i s Q E ⟨⟨_, he⟩, _⟩ h => wpAny_pyIter_enum he h
def iEnumT (K : PySem.W.Frag) (ta : TA) : TI := fun σ H R => ta σ H fun vs H1 => ∃ a xs, vs = [.ref a] ∧ SqT K H1 a xs ∧ R (IteT K a) H1
theorem pi_enumT {X : Cx} {e : Expr} {ta : TA} {p pos tpos : Pos} {elts : List Expr} {kk : Nat} (hg : Gl X "enumerate") (hm : X.mg "enumerate" = none) (ha : PA X [e] ta) (hs : starEach [e] X.env = [(false, eval e X.env)] := by rfl) :
    PI X (.Tuple elts kk tpos) (.Call (.Name "enumerate" p) [e] [] pos) (iEnumT X.K ta) := by
  refine ⟨fun pins s σ H R I h => ?_⟩
  refine Call_ (ld_blt I hg hm boot_enumerate (PyProof.Rows.callWith_type1 (thn (ha.run pos pins s σ H _ I h) fun us s1 ⟨vs, H1, I1, r1, a, xs, ex, hq, q⟩ => ?_) hs rfl))
  subst ex
  rw [Vals.ref1 r1]
  obtain ⟨its, rv, p', hz⟩ := I1.tuple hq
  refine call_enumT (show s1.heap.IsTuple a its.toArray from p') fun h' he hit hk => wpAny_pyIter_enum he ?_
  have I2 : Inv X pins σ H1 { s1 with heap := h' } := I1.kept (t' := s1.toks) hk
  refine ⟨s1.heap.objs.size + 1, [s1.heap.objs.size + 1, s1.heap.objs.size], _, _, H1, rfl, I2, turn_enumT a (s1.heap.objs.size + 1) s1.heap.objs.size, ⟨⟨.none, he⟩, hit, Nat.succ_ne_self _⟩, fun b hb => ?_, q⟩
  have hle : s1.heap.objs.size ≤ b := by
    rcases (by simpa using hb : b = s1.heap.objs.size + 1 ∨ b = s1.heap.objs.size) with z | z
    · rw [z]; exact Nat.le_add_right _ _
    · rw [z]; exact Nat.le_refl _
  exact I1.fpOk hle (I1.hok.fresh hle)
theorem jr_enumT {K : PySem.W.Frag} {G : Hp} {a : Addr} {vs : List V} {ds : List D} (h : G a = some (.tup vs)) (hd : Dats G ds vs) : JR G (IteT K a) (enumD ds) := fun G1 H1 s1 s2 => by
  have ha : SqT K H1 a vs := SqT.of (s2 _ _ (s1 _ _ h))
  refine ⟨⟨vs, ha, by rw [enumD_len, hd.length]; exact Nat.le_refl _⟩, fun i d e => ?_⟩
  obtain ⟨x, e1, rfl⟩ := enumD_get e
  obtain ⟨v, h3, h4⟩ := hd.get e1
  refine ⟨⟨vs, v, ha, h3⟩, fun z H2 ⟨T, x', e2, hT, e3, f1⟩ => ?_⟩
  subst e2 e3
  cases (h3.symm.trans (f1 vs ha))
  exact pair_new s2 hT rfl (Dat.mono s1 _ _ h4)
section
variable {X : Cx} {C : FC}
def onEt (ds : List D) (k : List D → Prop) : Prop := match ds with
  | [.tup xs] => k (enumD xs)
  | _ => False
theorem rd_onEt {xs : List D} {k : List D → Prop} : onEt [.tup xs] k = k (enumD xs) := rfl
def xEnumT (t : DA) : DI := fun ρ Q => t ρ fun ds ρ1 => onEt ds fun l => Q l ρ1
theorem di_enumT (K : PySem.W.Frag) {e : Expr} {ta : TA} {t : DA} {p pos tpos : Pos} {elts : List Expr} {kk : Nat} (hg : Gl X "enumerate") (hm : X.mg "enumerate" = none) (ha : PAV X C [e] ta t)
    (hs : starEach [e] X.env = [(false, eval e X.env)] := by rfl) (hK : X.K = K := by rfl) : PIV X C (.Tuple elts kk tpos) (.Call (.Name "enumerate" p) [e] [] pos) (iEnumT K ta) (xEnumT t) := by
  subst hK
  refine ⟨pi_enumT hg hm ha.pe hs, fun G H σ ρ QD R' R q k => ha.rf G H σ ρ _ _ R q fun vs ds G1 H1 ρ1 R1 s1 hd q1 => ?_⟩
  unfold onEt at q1
  split at q1
  · rename_i xs
    obtain ⟨v, rfl, a, us, rfl, h1, h2⟩ := hd.one
    exact ⟨a, us, rfl, SqT.of (R1.sub _ _ h1), k _ _ G1 H1 ρ1 R1 s1 (jr_enumT h1 h2) q1⟩
  · exact q1.elim
end
def flood (ms : List Int) (h : Int) : List Int := ms.filter (fun x => decide (h < x)) ++ [h]
def floods (ms hs : List Int) : List Int := hs.foldl flood ms
theorem flood_len (ms : List Int) (h : Int) : (flood ms h).length ≤ ms.length + 1 := by
  have := List.length_filter_le (fun x => decide (h < x)) ms
  simp only [flood, List.length_append, List.length_cons, List.length_nil]
  omega
theorem floods_len : ∀ (hs ms : List Int), (floods ms hs).length ≤ ms.length + hs.length
  | [], ms => by simp [floods]
  | h :: hs, ms => by
    have h1 := floods_len hs (flood ms h)
    have h2 := flood_len ms h
    simp only [floods, List.foldl_cons, List.length_cons] at h1 ⊢
    omega
theorem floods_take {ms hs : List Int} {i : Nat} {h : Int} (e : hs[i]? = some h) : floods ms (hs.take (i + 1)) = flood (floods ms (hs.take i)) h := by
  unfold floods
  rw [List.take_add_one, e]
  simp
theorem ixN_n {n j : Nat} {z : Int} (e : z = (j : Int)) (hj : j < n) : ixN n z = some j := by
  subst e; unfold ixN; rw [if_pos (Int.natCast_nonneg j), if_pos (by omega)]; simp
theorem rng_get {k i j : Nat} (h : (List.range k)[i]? = some j) : i < k ∧ j = i := by
  obtain ⟨h1, h2⟩ := List.getElem?_eq_some_iff.mp h
  rw [List.length_range] at h1
  rw [List.getElem_range] at h2
  exact ⟨h1, h2.symm⟩
end L3

namespace L3
open PySem PySem.Spec PyProof.Rows L2
section
variable {X : Cx} {C : FC}
theorem Dats.three {G : Hp} {d e f : D} {vs : List V} (h : Dats G [d, e, f] vs) : ∃ v u w, vs = [v, u, w] ∧ Dat G d v ∧ Dat G e u ∧ Dat G f w := by
  obtain ⟨v, r, rfl, h1, h2⟩ := h
  obtain ⟨u, w, rfl, h3, h4⟩ := Dats.two h2
  exact ⟨v, u, w, rfl, h1, h3, h4⟩
def onP3 (i j l : Nat) (ds : List D) (ρ : En) (K : En → Prop) : Prop := match ds with
  | [d, e, f] => K (((ρ.set i (some (.fz d))).set j (some (.fz e))).set l (some (.fz f)))
  | _ => False
def xPar3 (i j l : Nat) (ta : DA) : DS := fun Z ρ => ta ρ fun ds ρ1 => onP3 i j l ds ρ1 Z.nx
theorem rd_onP3 {i j l : Nat} {d e f : D} {ρ : En} {K : En → Prop} : onP3 i j l [d, e, f] ρ K = K (((ρ.set i (some (.fz d))).set j (some (.fz e))).set l (some (.fz f))) := rfl
theorem ds_par3 (i j l : Nat) {x y z : Str} {a b c : Expr} {ta : TA} {t : DA} {px py pz pt pos : Pos} {kt k2 pt2} (hc : X.calm = true) (hN : X.N.Nodup) (ha : PAV X C [a, b, c] ta t)
    (hw : swappedStores [.Tuple [.Name x px, .Name y py, .Name z pz] kt pt] (.Tuple [a, b, c] k2 pt2) X.env = pure (some [x, y, z]) := by rfl)
    (hi : X.N[i]? = some x := by rfl) (hj : X.N[j]? = some y := by rfl) (hl : X.N[l]? = some z := by rfl) (hij : i ≠ j := by decide) (hil : i ≠ l := by decide) (hjl : j ≠ l := by decide)
    (hx : X.env.scope.names.lookup x = some .local := by rfl) (hy : X.env.scope.names.lookup y = some .local := by rfl) (hz : X.env.scope.names.lookup z = some .local := by rfl)
    (hs : swapsWithSole [.Tuple [.Name x px, .Name y py, .Name z pz] kt pt] (.Tuple [a, b, c] k2 pt2) pos.line X.env = pure false := by rfl) :
    PSV X C (.Assign [.Tuple [.Name x px, .Name y py, .Name z pz] kt pt] (.Tuple [a, b, c] k2 pt2) pos) (tPar3 i j l ta) (xPar3 i j l t) :=
  ⟨ps_par3 hc hN hi hj hl hij hil hjl hx hy hz ha.pe hw hs, fun G H σ ρ DD E R q k => ha.rf G H σ ρ _ _ R q fun vs ds G1 H1 ρ1 R1 s1 hd q1 => by
    unfold onP3 at q1
    split at q1
    · rename_i d e f
      obtain ⟨v, u, w, rfl, h1, h2, h3⟩ := hd.three
      exact ⟨v, u, w, rfl, k.nx G1 H1 _ _ (((R1.set i (s := .fz d) h1).set j (s := .fz e) h2).set l (s := .fz f) h3) s1 q1⟩
    · exact q1.elim⟩
theorem d_disp1V {ek ev : Expr} {tk tv : TE} {dk dv : DE} {pos : Pos} (hk : ∀ C, PV X C ek tk dk) (hv : ∀ C, PV X C ev tv dv) : PV X C (.Dict [some ek] [ev] pos) (tDisp [(tk, tv)]) (fun ρ Q => dk ρ fun s ρ1 => dv ρ1 fun s' ρ2 => ∃ k, s.toD = .int k ∧ Q (.od [k] [s'.toD]) ρ2) :=
  d_disp1 hk hv (pe_disp (pps_cons (hk C).pe (hv C).pe pps_nil) rfl rfl (by simp) (by simp))
end
end L3

namespace L3
open PySem PySem.Spec PyProof.Rows L2
section
variable {X : Cx} {C : FC}
/-! ### k not in a dict -/
def rNotInDK : R2 := fun x y H Q => ∃ (i : Int) (a : Addr) (kvs : List (Key × V)), x = .int i ∧ y = .ref a ∧ H a = some (.dK kvs) ∧ Q (.bl (!(valV kvs (Sum.inl i)).isSome)) H
theorem op_notInDK (hu : X.A.units + 1 < cLine) : OpR X (compareOp .NotIn) rNotInDK := by
  intro pins s σ H x y v u Q I rx ry h
  obtain ⟨i, a, kvs, rfl, rfl, hd, q⟩ := h
  cases ry
  exact d_notIn hu I (DGet.k (k := Sum.inl i) hd) rx fun s' I' => ⟨.bl _, H, I', rfl, q⟩
def xNotInD : DO2 := fun x y Q => ∃ (i : Int) (ks : List Int) (ds : List D), x = .int i ∧ y = .dct ks ds ∧ Q (.fz (.bl (!decide (i ∈ ks))))
theorem getVs_some {α : Type} (k : Int) : ∀ (ks : List Int) (vs : List α), ks.length = vs.length → (getVs ks vs k).isSome = decide (k ∈ ks)
  | [], [], _ => rfl
  | a :: ks, v :: vs, h => by
    have ih := getVs_some k ks vs (by simpa using h)
    unfold getVs at ih ⊢
    rw [List.zip_cons_cons, List.find?_cons]
    by_cases e : a = k
    · subst e; simp
    · rw [decide_eq_false e]
      show (Option.map _ _).isSome = _
      rw [ih, Bool.eq_iff_iff, decide_eq_true_eq, decide_eq_true_eq, List.mem_cons]
      exact ⟨.inr, fun z => z.resolve_left fun y => e y.symm⟩
theorem o_notInDK (hu : X.A.units + 1 < cLine) : OV X C (compareOp .NotIn) rNotInDK xNotInD := ⟨op_notInDK hu, fun G H σ ρ x y dx dy QD Q R hx hy ⟨i, ks, ds, e1, e2, q⟩ k => by
  subst e1 e2
  cases (show x = _ from hx)
  obtain ⟨a, vs, rfl, h1, h2, h3⟩ := hy
  refine ⟨i, a, _, rfl, rfl, R.sub _ _ h1, ?_⟩
  rw [val_mkK, getVs_some i ks vs h2]
  exact k _ _ G H R (Same.refl G) (rvf (d := .bl _) rfl) q⟩
/-! ### dict(rows) -/
def rDictP (K : PySem.W.Frag) : List V → Hp → VK → Prop := fun xs H Q => ∃ (a : Addr) (ps : List Addr) (kvs : List (Key × V)), xs = [.ref a] ∧ SqL K H a (ps.map V.ref) ∧ Paired (fun p kv => SqT K H p [kV kv.1, kv.2]) ps kvs ∧
    ∀ p, H p = none → Q (.ref p) (upd H p (.dK (mergeK [] kvs)))
def xDictOf : DC := fun ds Q => ∃ (ks : List Int) (es : List D), ds = [.lst ((ks.zip es).map fun p => .tup [.int p.1, p.2])] ∧ ks.Nodup ∧ ks.length = es.length ∧ Q (.fz (.dct ks es))
theorem pairs_dats {K : PySem.W.Frag} {G H : Hp} (sm : Same G H) : ∀ (ks : List Int) (es : List D) (us : List V), ks.length = es.length → Dats G ((ks.zip es).map fun p => .tup [.int p.1, p.2]) us →
    ∃ (ps : List Addr) (vs : List V), us = ps.map V.ref ∧ ks.length = vs.length ∧ Dats G es vs ∧ Paired (fun p kv => SqT K H p [kV kv.1, kv.2]) ps (mkK ks vs)
  | [], [], us, _, h => by
    cases (show us = [] from h)
    exact ⟨[], [], rfl, rfl, rfl, .nil⟩
  | k :: ks, e :: es, us, hl, h => by
    obtain ⟨u, r, rfl, ⟨a, ws, rfl, h1, h2⟩, h3⟩ := h
    obtain ⟨v, w, rfl, h4, h5⟩ := h2.two
    cases (show v = _ from h4)
    obtain ⟨ps, vs, rfl, e2, e3, e4⟩ := pairs_dats sm ks es r (by simpa using hl) h3
    exact ⟨a :: ps, w :: vs, rfl, by simpa using e2, ⟨w, vs, rfl, h5, e3⟩, .cons (SqT.of (sm _ _ h1)) e4⟩
theorem merge_mkK : ∀ (ks : List Int) (vs : List V) (ks0 : List Int) (vs0 : List V), ks.length = vs.length → ks0.length = vs0.length → (ks0 ++ ks).Nodup → mergeK (mkK ks0 vs0) (mkK ks vs) = mkK (ks0 ++ ks) (vs0 ++ vs)
  | [], [], ks0, vs0, _, _, _ => by rw [List.append_nil, List.append_nil]; rfl
  | k :: ks, v :: vs, ks0, vs0, hl, h0, nd => by
    have hk : k ∉ ks0 := fun z => (List.nodup_append.mp nd).2.2 k z k (by simp) rfl
    have e : mergeK (mkK ks0 vs0) (mkK (k :: ks) (v :: vs)) = mergeK (putK (mkK ks0 vs0) (Sum.inl k) v) (mkK ks vs) := rfl
    have e2 : putKs ks0 k = ks0 ++ [k] := by unfold putKs; rw [if_neg hk]
    have e3 : putVs ks0 vs0 k v = vs0 ++ [v] := by unfold putVs; rw [if_neg hk]
    rw [e, put_mkK _ _ _ _ h0, e2, e3, merge_mkK ks vs _ _ (by simpa using hl) (by simp [h0]) (by rw [List.append_assoc]; exact nd), List.append_assoc, List.append_assoc]
    rfl
theorem c_dict (hc : X.calm = true) : CV X C (.type "dict") (rDictP X.K) xDictOf := ⟨call_dictP hc, fun G H σ ρ vs ds QD Q R hd ⟨ks, es, e, nd, hl, q⟩ k => by
  subst e
  obtain ⟨v, rfl, a, us, rfl, h1, h2⟩ := hd.one
  obtain ⟨ps, ws, rfl, e2, e3, e4⟩ := pairs_dats (K := X.K) R.sub ks es us hl h2
  refine ⟨a, ps, _, rfl, SqL.of (R.sub _ _ h1), e4, fun p hp => ?_⟩
  have em : mergeK [] (mkK ks ws) = mkK ks ws := merge_mkK ks ws [] [] e2 rfl nd
  rw [em]
  have gs : Same G (upd G p (.dK (mkK ks ws))) := Same.new (R.gn hp)
  exact k _ (.fz (.dct ks es)) _ _ (R.newFz hp) gs ⟨p, ws, rfl, upd_same, e2, Dats.mono gs _ _ e3⟩ q⟩
/-! ### lists of ints compared -/
def rGtL (K : PySem.W.Frag) : R2 := fun x y H Q => ∃ (ns ms : List Int), Dp K H x (.list (ns.map .int)) ∧ Dp K H y (.list (ms.map .int)) ∧ Q (.bl (decide (ms < ns))) H
theorem op_gtL (hu : X.A.units + 64 < cLine) : OpR X (compareOp .Gt) (rGtL X.K) := by
  intro pins s σ H x y v u Q I rx ry h
  obtain ⟨ns, ms, hd, he, q⟩ := h
  obtain ⟨as, r1⟩ := Dp.reads I _ x v hd rx
  obtain ⟨bs, r2⟩ := Dp.reads I _ y u he ry
  refine PySem.W.gt_data r1 r2 (by simp only [PySem.W.alike]; exact PySem.W.alike_ints _ _) (fun z => by cases z) ?_ ?_
  · simp only [PyData.depth, PySem.W.depth_ints]
    omega
  · have e : PySem.W.dataLt (.list (ms.map .int)) (.list (ns.map .int)) = decide (ms < ns) := PySem.W.dataLt_ints ms ns
    rw [e]
    exact ⟨.bl _, H, I, rfl, q⟩
theorem toPs_ints : ∀ ns : List Int, toPs (ns.map D.int) = ns.map PyData.int
  | [] => rfl
  | n :: ns => by rw [List.map_cons, List.map_cons, toPs, toPs_ints ns]; rfl
def xGtL : DO2 := fun x y Q => ∃ (ns ms : List Int), x = .lst (ns.map D.int) ∧ y = .lst (ms.map D.int) ∧ Q (.fz (.bl (decide (ms < ns))))
theorem okD_lst (ns : List Int) : okD 8 (.lst (ns.map D.int)) = true := okD_ints 7 _
theorem o_gtL (hu : X.A.units + 64 < cLine) : OV X C (compareOp .Gt) (rGtL X.K) xGtL := ⟨op_gtL hu, fun G H σ ρ x y dx dy QD Q R hx hy ⟨ns, ms, e1, e2, q⟩ k => by
  subst e1 e2
  have h1 := okD.dp (K := X.K) R.sub 8 _ _ (okD_lst ns) hx
  have h2 := okD.dp (K := X.K) R.sub 8 _ _ (okD_lst ms) hy
  simp only [toP, toPs_ints] at h1 h2
  exact ⟨ns, ms, h1, h2, k _ _ G H R (Same.refl G) (rvf (d := .bl _) rfl) q⟩⟩
end
section
variable {X : Cx} {C : FC} {K : PySem.W.Frag}
theorem c_dictK (K : PySem.W.Frag) (hK : X.K = K := by rfl) (hc : X.calm = true) : CV X C (.type "dict") (rDictP K) xDictOf := by
  subst hK
  exact c_dict hc
theorem o_gtLK (K : PySem.W.Frag) (hu : X.A.units + 64 < cLine) (hK : X.K = K := by rfl) : OV X C (compareOp .Gt) (rGtL K) xGtL := by
  subst hK
  exact o_gtL hu
end
end L3

namespace L3
open PySem PySem.Spec PyProof.Rows L2
/-! ### set(xs), xs a list: any invariant -/
abbrev led0 (w : World) : SetTable := .fresh 0 0 (!w.params.followText "set-order")
abbrev set0 (w : World) : Obj :=
  { cls := .type "set", dict := none,
    data := .set #[] 0 (led0 w) }
section
variable {P : Program} {w : World} {A : Around} {E : Value → Shared → Prop}
theorem loop_set {it : Addr} {fp wr : List Addr} {G : Array GenState → Array GenState → Prop} {m : Nat} {Pv : Nat → Value → Prop} {St : Nat → Shared → Prop} {R : Result → Shared → Prop} (W : WalksS P w A.in1 it fp wr G m Pv St) (a : Addr) (ha : a ∉ fp) (Pi : Nat → Heap → Prop)
    (keep : ∀ i h h', Pi i h → (∀ b o, b ∉ wr → h.get? b = some o → h'.get? b = some o) → Pi i h')
    (turn : ∀ i v (s : Shared) (Q : Bool → Shared → Prop) E', i < m → Pv i v → Pi i s.heap → (∀ b h' tk, s.toks ≤ tk → Heap.SameBut a s.heap h' → Pi (i + 1) h' → Q b { s with heap := h', toks := tk }) → wpAny (model P w) A.in1 (setAdd a v) Q E' s) :
    ∀ (k i : Nat) (s : Shared), m - i = k → i ≤ m → St i s → Pi i s.heap → (∀ s', Moved (a :: wr) G s s' → Pi m s'.heap → R (.ok (.ret .none)) s') →
      codeAny (model P w) A (.builtin "set.update.loop" ⟨[.ref a, .ref it], []⟩) R s := by
  have sub : ∀ b ∈ wr, b ∈ a :: wr := fun b h => List.mem_cons_of_mem _ h
  have an : a ∉ wr := fun h => ha (W.sub _ h)
  intro k
  induction k with
  | zero =>
    intro i s e1 e2 st pi q
    obtain rfl : i = m := by omega
    refine codeAny_builtin F.entry_set_update_loop ?_
    rw [Around.under_plainId F.plain_set_update_loop _]
    show wpAny _ A.in1 (pyNext (.ref it) >>= _) _ _ s
    refine wpAny_bind (W.done s _ _ st fun s1 mv => ?_)
    show wpAny _ A.in1 (ret Value.none) _ _ s1
    exact wpAny_pure (q s1 (mv.mono sub) (keep _ _ _ pi fun b o hb => mv.heap b o hb))
  | succ k ih =>
    intro i s e1 e2 st pi q
    have lt : i < m := by omega
    refine codeAny_builtin F.entry_set_update_loop ?_
    rw [Around.under_plainId F.plain_set_update_loop _]
    show wpAny _ A.in1 (pyNext (.ref it) >>= _) _ _ s
    refine wpAny_bind (W.item i s _ _ lt st fun v s1 pv st1 mv => ?_)
    show wpAny _ A.in1 (holding [v] (setAdd a v) >>= _) _ _ s1
    refine wpAny_bind (wpAny_holding (turn i v s1 _ _ lt pv (keep _ _ _ pi fun b o hb => mv.heap b o hb) fun r h' tk le sb pi2 => ?_))
    refine wpAny_pure ⟨plainId_quiet F.plain_set_update_loop _, ih (i + 1) _ (by omega) lt (W.frame _ s1 _ _ st1 le fun b hb o e => ?_) pi2 fun s2 mv2 pi3 => ?_⟩
    · exact (sb.2 b fun z => ha (z ▸ hb)).trans e
    · refine q s2 (Moved.trans W.gtrans ((mv.mono sub).then_heap le fun b o hb e => ?_) mv2) pi3
      exact (sb.2 b fun z => hb (z ▸ List.mem_cons_self)).trans e
end
section
variable {P : Program} {w : World} {A : Around} {E : Value → Shared → Prop} {s : Shared}
theorem set_of_list {l : Addr} {items : Array Value} {Q : Value → Shared → Prop} (hh : A.handled = none) (hl : s.heap.IsList l items) (Pi : Nat → Heap → Prop)
    (zero : ∀ h, h.get? s.heap.objs.size = some (set0 w) → (∀ b o, s.heap.get? b = some o → h.get? b = some o) → Pi 0 h)
    (keep : ∀ i h h', Pi i h → (∀ b o, b ≤ s.heap.objs.size → h.get? b = some o → h'.get? b = some o) → Pi i h')
    (turn : ∀ A' i v (s' : Shared) (R : Bool → Shared → Prop) E', A'.units ≤ A.units + 8 → items[i]? = some v → Pi i s'.heap →
      (∀ b h' tk, s'.toks ≤ tk → Heap.SameBut s.heap.objs.size s'.heap h' → Pi (i + 1) h' → R b { s' with heap := h', toks := tk }) → wpAny (model P w) A' (setAdd s.heap.objs.size v) R E' s')
    (q : ∀ h' tk, Pi items.size h' → (∀ b o, s.heap.get? b = some o → h'.get? b = some o) → Q (.ref s.heap.objs.size) { s with heap := h', toks := tk }) :
    wpAny (model P w) A (call (.type "set") [.ref l]) Q E s := by
  obtain ⟨c, tl, mro⟩ := F.called_set.mro
  have g1 := F.called_set.made
  have g2 := F.called_set.sub
  refine wpAny_call (codeAny_of_tree ?_)
  show wpAny _ _ (callAny (.type "set") _) _ _ _
  refine wpAny_pure ⟨Code.quiet_builtin _ (by decide +kernel), codeAny_builtin F.entry_type_call ?_⟩
  rw [Around.under_plain (weight_type_call_type "set" [.ref l] []) rfl]
  have g3 := F.called_set.notType
  have g4 := F.called_set.canCreate
  have g5 := F.typeCall_set_1 (.ref l)
  repeat (any_goals (first | assumption | wp_step))
  obtain ⟨a, ea⟩ : ∃ a, a = s.heap.objs.size := ⟨_, rfl⟩
  refine codeAny_mono (code_set_led1 (w := w) (.ref l) (E := E) (Q₁ := fun o t => o = .ref a ∧ t = { s with heap := s.heap.push (set0 w) }) ⟨by rw [ea], rfl⟩) fun r s1 hr => ?_
  cases r with
  | error e => exact hr
  | ok fl =>
    cases fl with
    | ret obj =>
      obtain ⟨rfl, rfl⟩ := hr
      have hS : (s.heap.push (set0 w)).get? a = some (set0 w) := by
        rw [ea]
        exact Heap.get?_push_size _ rfl
      have hT : Shared.TypeIs { s with heap := s.heap.push (set0 w) } (.ref a) "set" := ⟨_, hS, rfl⟩
      have i1 := F.called_set.init.lookup
      have i2 := F.called_set.init.bind (.ref a)
      repeat (any_goals (first | assumption | wp_step))
      refine codeAny_mono (codeAny_call_builtin (R := wants (fun r t => r = .none ∧ ∃ h' tk, t = { s with heap := h', toks := tk } ∧ Pi items.size h' ∧ ∀ b o, s.heap.get? b = some o → h'.get? b = some o) E) F.called_set.init.plain F.entry_set_init (check_set_init_1 hT ?_)) fun r2 s2 hr2 => ?_
      · obtain ⟨⟨oc, od, oa, os⟩, ho, hc, nl, hd⟩ := hl
        simp only at hc hd
        subst hc
        subst hd
        have ho1 : (s.heap.push (set0 w)).get? l = some { cls := .type "list", dict := od, data := .seq items nl, slots := os } := Heap.get?_push_of_some _ ho
        have b1 := F.sub_list_set
        have b2 := F.sub_list_frozenset
        have b3 : (Value.type "list" == Value.type "dict") = false := by decide
        have hl1 : (s.heap.push (set0 w)).IsList l items := ⟨_, ho1, rfl, nl, rfl⟩
        unfold Builtin.«set.__init__» noKeywords Builtin.Frozenset.updateFrom
        generalize hPI : pyIter = PI
        wp_walk
        subst hPI
        refine wpAny_pyIter_list hl1 ?_
        refine wpAny_bind (wpAny_runValue ?_)
        have la : l < a := by rw [ea]; exact Heap.lt_size ho
        have h3 : A.in1.in1.in1.handled = none := by simp [hh]
        have sz : (s.heap.push (set0 w)).objs.size = a + 1 := by rw [ea]; exact Heap.size_push ..
        have n1 : l ≠ (s.heap.push (set0 w)).objs.size := by rw [sz]; exact Nat.ne_of_lt (Nat.lt_succ_of_lt la)
        have n2 : a ∉ [(s.heap.push (set0 w)).objs.size, l] := by
          rw [sz]
          simp only [List.mem_cons, List.not_mem_nil, or_false, not_or]
          exact ⟨Nat.ne_of_lt (Nat.lt_succ_self _), Nat.ne_of_gt la⟩
        have up : ∀ b o, s.heap.get? b = some o → ((s.heap.push (set0 w)).push { cls := .type "list_iterator", data := .fields #[.ref l, .int 0 0] }).get? b = some o := fun b o e => Heap.get?_push_of_some _ (Heap.get?_push_of_some _ e)
        refine loop_set (P := P) (w := w) (A := A.in1.in1) ((Walks.list h3 _ l n1 items).toS) a n2 Pi (fun i h h' pi kp => ?_) (fun i v s' R E' hi hv pi k => ?_) (items.size - 0) 0 _ (by omega) (Nat.zero_le _)
          ⟨⟨_, Heap.get?_push_size _ rfl, rfl, rfl⟩, hl1.push _⟩ ?zer ?fin
        case zer =>
          refine zero _ ?_ up
          rw [← ea]
          exact Heap.get?_push_of_some _ hS
        case fin =>
          intro s' mv pi
          obtain ⟨h', g2, d', tk', os'⟩ := s'
          have e1 : g2 = s.gens := mv.gens
          have e2 : d' = s.drawn := mv.drawn
          have e3 : os' = s.os := mv.os
          subst e1; subst e2; subst e3
          show wpAny _ _ _ _ _ _
          refine wpAny_pure ?_
          show wpAny _ _ (ret Value.none) _ _ _
          refine wpAny_pure ⟨rfl, h', tk', rfl, pi, fun b o e => ?_⟩
          have lb : b < a := by rw [ea]; exact Heap.lt_size e
          refine mv.heap b o ?_ (up b o e)
          rw [sz]
          simp only [List.mem_cons, List.not_mem_nil, or_false, not_or]
          exact ⟨Nat.ne_of_lt lb, Nat.ne_of_lt (Nat.lt_succ_of_lt lb)⟩
        · refine keep i h h' pi fun b o hb e => kp b o ?_ e
          rw [sz, ea]
          simp only [List.mem_cons, List.not_mem_nil, or_false]
          exact Nat.ne_of_lt (Nat.lt_succ_of_le hb)
        · rw [ea] at k ⊢
          exact turn _ i v s' R E' (by show A.units + 3 ≤ A.units + 8; omega) hv pi k
      · cases r2 with
        | error e => exact hr2
        | ok fl2 =>
          cases fl2 with
          | ret r =>
            obtain ⟨rfl, h', tk, rfl, pi, kp⟩ := hr2
            repeat (any_goals (first | assumption | wp_step))
            rw [ea]
            exact q _ _ pi kp
          | _ => exact hr2.elim
    | _ => exact hr.elim
end
/-! ### a list of ints, few unlike ones -/
theorem nodup_le {l : List Int} {lo : Int} {m : Nat} (nd : l.Nodup) (h : ∀ x ∈ l, lo ≤ x ∧ x < lo + (m : Int)) : l.length ≤ m := by
  have := nat_nodup_len (l.map fun x => (x - lo).toNat) (List.range m) ?_ ?_
  · simpa using this
  · refine List.Pairwise.map _ (fun a b hab => ?_) (List.Pairwise.and_mem.mp nd)
    have h1 := h a hab.1
    have h2 := h b hab.2.1
    have h3 := hab.2.2
    show (a - lo).toNat ≠ (b - lo).toNat
    omega
  · intro x hx
    obtain ⟨y, hy, rfl⟩ := List.mem_map.mp hx
    have := h y hy
    exact List.mem_range.mpr (by omega)
/-- the set so far: its members, and a row of them each once -/
def SetI (w : World) (a : Addr) (ns : List Int) (i : Nat) (h : Heap) : Prop := ∃ ms : List Int, ms.Nodup ∧ (∀ x, x ∈ ms ↔ x ∈ ns.take i) ∧ SetR w h a (fun j => decide (j ∈ ns.take i)) ms.length
def rSetLI (K : PySem.W.Frag) (w : World) : List V → Hp → VK → Prop := fun xs H Q => ∃ (l : Addr) (ns : List Int), xs = [.ref l] ∧ SqL K H l (ns.map V.int) ∧ (∃ lo : Int, ∀ x ∈ ns, lo ≤ x ∧ x < lo + 60) ∧
  ∀ p c, H p = none → c < 64 → Q (.ref p) (upd H p (SetO w p (fun j => decide (j ∈ ns)) c))
theorem cr_setLI {X : Cx} (hc : X.calm = true) : CallR X (.type "set") (rSetLI X.K X.w) := by
  intro pins s σ H xs us Q I r h
  obtain ⟨l, ns, rfl, hl, ⟨lo, hlo⟩, q⟩ := h
  rw [Vals.ref1 r]
  obtain ⟨its, rv, pl, hz⟩ := I.list hl
  have hi : IntsAre its ns := ints_of_vals rv
  have hn : H s.heap.objs.size = none := I.hok.fresh (Nat.le_refl _)
  have few : ∀ (i : Nat) (ms : List Int), ms.Nodup → (∀ x, x ∈ ms ↔ x ∈ ns.take i) → ms.length ≤ 60 := fun i ms nd hm =>
    nodup_le (lo := lo) nd fun x hx => hlo x (List.mem_of_mem_take ((hm x).mp hx))
  refine set_of_list (P := X.prog) (w := X.w) (I.ok.hd hc) pl.isList (SetI X.w s.heap.objs.size ns) (fun h e _ => ⟨[], List.nodup_nil, fun x => by simp, setR_new_at e⟩) (fun i h h' ⟨ms, nd, hm, S⟩ kp => ⟨ms, nd, hm, S.at fun o e => kp _ _ (Nat.le_refl _) e⟩) (fun A' i v s' R E' _ hv ⟨ms, nd, hm, S⟩ k => ?_) (fun h' tk ⟨ms, nd, hm, S⟩ kp => ?_)
  · obtain ⟨z, t, ez, rfl⟩ : ∃ z t, ns[i]? = some z ∧ v = .int z t := by
      have hil : i < ns.length := by
        rw [← hi.length]
        have := (Array.getElem?_eq_some_iff.mp hv).1
        simpa using this
      obtain ⟨t, e⟩ := PyProof.Rows.IntsAre.int_at hi i v (by simpa using hv)
      refine ⟨ns[i], t, List.getElem?_eq_getElem hil, ?_⟩
      rw [e, List.getD_eq_getElem?_getD, List.getElem?_eq_getElem hil]
      rfl
    unfold setAdd
    refine wpAny_holding ?_
    refine wpAny_bind ((intKind X.prog X.w).pyHash (k := z) (intKind_is _ _ _ _) ?_)
    have l60 := few i ms nd hm
    refine setR_add_hashed (s := { s' with toks := s'.toks + 1 }) S (by show ms.length + 1 < 4096; omega) fun h' sb S2 => ?_
    refine k _ h' _ (Nat.le_succ _) sb ?_
    have et : ns.take (i + 1) = ns.take i ++ [z] := by rw [List.take_add_one, ez]; rfl
    by_cases hz' : z ∈ ns.take i
    · refine ⟨ms, nd, fun x => by rw [hm, et]; simp only [List.mem_append, List.mem_singleton]; exact ⟨.inl, fun y => y.elim id fun e => e ▸ hz'⟩, ?_⟩
      rw [if_pos (decide_eq_true hz')] at S2
      refine S2.congr fun j => ?_
      rw [et]
      simp [List.mem_append]
    · refine ⟨ms ++ [z], List.nodup_append.mpr ⟨nd, by simp, fun x hx y hy e => hz' ((hm z).mp (by rw [← List.mem_singleton.mp hy, ← e]; exact hx))⟩, fun x => by rw [et]; simp only [List.mem_append, hm], ?_⟩
      rw [if_neg (by rw [decide_eq_false hz']; exact Bool.false_ne_true)] at S2
      rw [List.length_append]
      refine S2.congr fun j => ?_
      rw [et]
      simp [List.mem_append]
  · have e : ns.take its.toArray.size = ns := List.take_of_length_le (by rw [List.size_toArray, hi.length]; exact Nat.le_refl _)
    have l60 := few _ ms nd hm
    rw [e] at S
    exact ⟨.ref s.heap.objs.size, _, I.laid (t' := tk) kp (Nat.le_refl _) (setO_new S), rfl, q _ ms.length hn (by omega)⟩
section
variable {X : Cx} {C : FC}
/-- sorted(set(l)), l a list of ints -/
def xSortedSetL (t : DA) : DE := fun ρ Q => t ρ fun ds ρ1 => ∃ ns : List Int, ds = [.lst (ns.map D.int)] ∧ (∃ lo : Int, ∀ x ∈ ns, lo ≤ x ∧ x < lo + 60) ∧ ∀ ys : List Int, ys.Pairwise (· < ·) → (∀ k, k ∈ ys ↔ k ∈ ns) → Q (.ow (ys.map D.int)) ρ1
theorem d_sortedSetL {e : Expr} {ta : TA} {t : DA} {p p2 pos pos2 : Pos} (hc : X.calm = true) (hg : Gl X "sorted") (hm : X.mg "sorted" = none) (hg2 : Gl X "set") (hm2 : X.mg "set" = none) (ha : PAV X C [e] ta t)
    (he : starEach [e] X.env = (false, eval e X.env) :: starEach [] X.env := by rfl) (hpl : (backTo pos2 (starEach [] X.env)).any (·.1) = false := by rfl)
    (he2 : starEach [.Call (.Name "set" p2) [e] [] pos2] X.env = (false, eval (.Call (.Name "set" p2) [e] [] pos2) X.env) :: starEach [] X.env := by rfl) (hpl2 : (backTo pos (starEach [] X.env)).any (·.1) = false := by rfl) :
    PV X C (.Call (.Name "sorted" p) [.Call (.Name "set" p2) [e] [] pos2] [] pos) (tCB (rSortedSet X.w) (tCons (tCB (rSetLI X.K X.w) ta) tNil)) (xSortedSetL t) := by
  refine ⟨pe_callB (cr_sortedSet hc) hg hm (by decide +kernel) (pa_cons (pe_callTy (cr_setLI hc) hg2 hm2 (by decide +kernel) ha.pe (by decide) (by decide) he hpl) pa_nil he2) (by decide) (by decide) he2 hpl2, fun G H σ ρ QD Q R q k => ?_⟩
  refine ha.rf G H σ ρ _ _ R q fun vs ds G1 H1 ρ1 R1 s1 hd ⟨ns, e, hl, q1⟩ => ?_
  subst e
  obtain ⟨v, rfl, a, us, rfl, h1, h2⟩ := hd.one
  cases h2.ints
  refine ⟨a, ns, rfl, SqL.of (R1.sub _ _ h1), hl, fun sp c hp hcl => ⟨sp, _, c, rfl, upd_same, hcl, fun ys p pw mem _ hp2 => ?_⟩⟩
  obtain ⟨R2, rv⟩ := (R1.newOw (o := SetO X.w sp (fun j => decide (j ∈ ns)) c) hp).resL hp2 (Dats.of_ints ys)
  exact k _ _ _ _ _ R2 s1 rv (q1 ys pw fun z => (mem z).trans decide_eq_true_iff)
end
end L3

namespace L3
open PySem PySem.Spec PyProof.Rows L2
section
variable {X : Cx} {C : FC}
/-! ### l.count(k) -/
def xCount (a b : DE) : DE := fun ρ Q => a ρ fun s ρ1 => ∃ ns : List Int, s.toD = .lst (ns.map D.int) ∧ b ρ1 fun s' ρ2 => ∃ k : Int, s'.toD = .int k ∧ Q (.fz (.int (ns.count k : Nat))) ρ2
theorem d_count {o e : Expr} {to te : TE} {a b : DE} {apos pos : Pos} (ho : PV X C o to a) (h : PV X C e te b)
    (hbase : attributeBase o "count" X.env (eval o X.env) = eval o X.env := by rfl)
    (hfew : ((backTo pos (starEach [e] X.env)).all (fun x => !x.1) && (backToKw pos (keywordEach [] X.env)).all (fun x => x.1.isSome)
      && decide ([e].length + ([] : List Keyword).length + (if ([] : List Keyword).isEmpty then 0 else 1) < 30)) = true := by rfl)
    (hline : (apos.endLine == pos.line) = true := by rfl) (hs : starEach [e] X.env = (false, eval e X.env) :: starEach [] X.env := by rfl) (hpl : (backTo pos (starEach [] X.env)).any (·.1) = false := by rfl) :
    PV X C (.Call (.Attribute o "count" apos) [e] [] pos) (tBM X.K "list" (rCntI X.K) to (tCons te tNil)) (xCount a b) := by
  refine ⟨pe_bm PySem.F.plainAttrs_list PySem.F.slot_list_count PySem.F.type_list_count mt_lcount ho.pe (pa_cons h.pe pa_nil hs) hbase hfew hline hs hpl, fun G H σ ρ QD Q R q k => ?_⟩
  refine ho.rf.go (QD := fun d ρ1 => ∃ ns : List Int, d = .lst (ns.map D.int) ∧ b ρ1 fun s' ρ2 => ∃ k : Int, s'.toD = .int k ∧ QD (.fz (.int (ns.count k : Nat))) ρ2) R q fun v d G1 H1 ρ1 R1 s1 hd ⟨ns, e1, q1⟩ => ?_
  subst e1
  obtain ⟨p, vs, rfl, h1, h2⟩ := hd
  cases h2.ints
  refine ⟨.inl ⟨rfl, _, SqL.of (R1.sub _ _ h1)⟩, ?_⟩
  refine h.rf.go (QD := fun d ρ2 => ∃ k : Int, d = .int k ∧ QD (.fz (.int (ns.count k : Nat))) ρ2) R1 q1 fun v' d' G2 H2 ρ2 R2 s2 hd' ⟨z, e2, q2⟩ => ?_
  subst e2
  cases (show v' = _ from hd')
  exact ⟨p, ns, z, rfl, rfl, SqL.of (R2.sub _ _ (s2 _ _ h1)), k _ _ G2 H2 ρ2 R2 (s1.trans s2) (rvf (d := .int _) rfl) q2⟩
/-! ### an own list lent to a call that answers by a truth value -/
theorem Rep.grow {G H H' : Hp} {σ : L2.St} {ρ : En} (R : Rep C G H σ ρ) (e : Same H H') : Rep C G H' σ ρ := by
  refine ⟨R.len, R.sub.trans e, R.g0, fun p o h z => e _ _ (R.keep p o h z), R.new, fun p h => ?_, R.fz, fun i s h os => ?_, R.ap⟩
  · obtain ⟨a, b, c⟩ := R.bl p h
    refine ⟨a, b, fun z => ?_⟩
    cases y : H p with
    | none => exact c y
    | some o => rw [e _ _ y] at z; cases z
  · obtain ⟨p, a, b, c, d⟩ := R.ow i s h os
    obtain ⟨o, ho⟩ := b.some
    exact ⟨p, a, b.mono (Same.refl G) ((e _ _ ho).trans ho.symm), c, d⟩
def xLend (i : Nat) (dp : DP) (b : DE) : DE := fun ρ Q => (∃ ds, ρ[i]? = some (some (.ow ds))) ∧ b ρ fun s' ρ1 => ∃ ds, ρ1[i]? = some (some (.ow ds)) ∧ dp [.lst ds, s'.toD] (fun s => ∃ t, s = .fz (.bl t) ∧ Q s ρ1) fun _ => False
theorem d_lend (i : Nat) {k : Nat} {dp : DP} {x y : Str} {p p2 pos : Pos} {e : Expr} {te : TE} {b : DE} (F : Fn X.prog X.w X.K X.mg X.base x k 2 dp) (hr : Room k X.A) (h : PV X C e te b) (hg : Gl X x := by rfl)
    (hN : X.N[i]? = some y := by rfl) (hv : Vis X.env.scope y := by first | exact Or.inl rfl | exact Or.inr (Or.inl rfl) | exact Or.inr (Or.inr rfl)) (hd : (y == ("__debug__" : Str)) = false := by decide) (hcd : (y == ("__classdict__" : Str)) = false := by decide)
    (hdb : (x == ("__debug__" : Str)) = false := by decide) (he : starEach (.Name y p2 :: [e]) X.env = (false, eval (.Name y p2) X.env) :: starEach [e] X.env := by rfl) (he2 : starEach [e] X.env = (false, eval e X.env) :: starEach [] X.env := by rfl) (hpl : (backTo pos (starEach [e] X.env)).any (·.1) = false := by rfl) :
    PV X C (.Call (.Name x p) (.Name y p2 :: [e]) [] pos) (tCall (spD X.mg 2 dp) [] E0 (tCons (tVar i) (tCons te tNil))) (xLend i dp b) := by
  obtain ⟨f, fd, ps, hF, hm, hk, hb⟩ := F
  refine ⟨pe_call hF hr hg hm hk hb .nil pass0 (pa_cons (pe_var hN hv hd hcd) (pa_cons h.pe pa_nil he2) he) hdb he hpl, fun G H σ ρ QD Q R ⟨⟨ds0, e0⟩, q⟩ kk => ?_⟩
  obtain ⟨a, ha, _⟩ := R.ow i _ e0 rfl
  refine ⟨.ref a, ha, h.rf.go (QD := fun d ρ1 => ∃ ds, ρ1[i]? = some (some (.ow ds)) ∧ dp [.lst ds, d] (fun s => ∃ t, s = .fz (.bl t) ∧ QD s ρ1) fun _ => False) R q fun v d G1 H1 ρ1 R1 s1 hd1 q1 => ?_⟩
  obtain ⟨ds, e1, q1⟩ := q1
  obtain ⟨a', ha', ⟨vs, h2, h3⟩, h4, h5⟩ := R1.ow i _ e1 rfl
  rw [ha] at ha'; cases ha'
  show spD X.mg 2 dp [V.ref a, v] H1 Q E0
  have gs : Same G1 (upd G1 a (.lst vs)) := Same.new h4
  refine ⟨upd G1 a (.lst vs), [.lst ds, d], _, fun _ => False, fun b o z => ?_, ⟨.ref a, [v], rfl, ⟨a, vs, rfl, upd_same, Dats.mono gs _ _ h3⟩, v, [], rfl, Dat.mono gs _ _ hd1, rfl⟩, rfl, q1, fun v' s G' H' ⟨t, es, q2⟩ P => ?_, fun _ _ _ z => z.elim⟩
  · by_cases hb' : b = a
    · subst hb'; rw [upd_same] at z; cases z; exact h2
    · rw [upd_ne hb'] at z; exact R1.sub _ _ z
  · subst es
    have ev : v' = .bl t := P.ret
    subst ev
    exact kk _ _ G1 H' ρ1 (R1.grow P.h) s1 (rvf (d := .bl t) rfl) q2
end
section
variable {X : Cx} {C : FC}
theorem d_countK (K : PySem.W.Frag) {o e : Expr} {to te : TE} {a b : DE} {apos pos : Pos} (ho : PV X C o to a) (h : PV X C e te b) (hK : X.K = K := by rfl)
    (hbase : attributeBase o "count" X.env (eval o X.env) = eval o X.env := by rfl)
    (hfew : ((backTo pos (starEach [e] X.env)).all (fun x => !x.1) && (backToKw pos (keywordEach [] X.env)).all (fun x => x.1.isSome)
      && decide ([e].length + ([] : List Keyword).length + (if ([] : List Keyword).isEmpty then 0 else 1) < 30)) = true := by rfl)
    (hline : (apos.endLine == pos.line) = true := by rfl) (hs : starEach [e] X.env = (false, eval e X.env) :: starEach [] X.env := by rfl) (hpl : (backTo pos (starEach [] X.env)).any (·.1) = false := by rfl) :
    PV X C (.Call (.Attribute o "count" apos) [e] [] pos) (tBM K "list" (rCntI K) to (tCons te tNil)) (xCount a b) := by
  subst hK
  exact d_count ho h hbase hfew hline hs hpl
theorem d_sortedSetLK (K : PySem.W.Frag) {e : Expr} {ta : TA} {t : DA} {p p2 pos pos2 : Pos} (hc : X.calm = true) (hg : Gl X "sorted") (hm : X.mg "sorted" = none) (hg2 : Gl X "set") (hm2 : X.mg "set" = none) (ha : PAV X C [e] ta t) (hK : X.K = K := by rfl)
    (he : starEach [e] X.env = (false, eval e X.env) :: starEach [] X.env := by rfl) (hpl : (backTo pos2 (starEach [] X.env)).any (·.1) = false := by rfl)
    (he2 : starEach [.Call (.Name "set" p2) [e] [] pos2] X.env = (false, eval (.Call (.Name "set" p2) [e] [] pos2) X.env) :: starEach [] X.env := by rfl) (hpl2 : (backTo pos (starEach [] X.env)).any (·.1) = false := by rfl) :
    PV X C (.Call (.Name "sorted" p) [.Call (.Name "set" p2) [e] [] pos2] [] pos) (tCB (rSortedSet X.w) (tCons (tCB (rSetLI K X.w) ta) tNil)) (xSortedSetL t) := by
  subst hK
  exact d_sortedSetL hc hg hm hg2 hm2 ha he hpl he2 hpl2
end
end L3

namespace L3
open PySem PySem.Spec PyProof.Rows L2
section
variable {X : Cx} {C : FC}
/-! ### range(i, j, -1) -/
def rngN (i : Int) (n : Nat) : List D := (List.range n).map fun k : Nat => D.int (i - k)
theorem rngN_len (i : Int) (n : Nat) : (rngN i n).length = n := by simp [rngN]
theorem rngN_get {i : Int} {n k : Nat} {d : D} (h : (rngN i n)[k]? = some d) : k < n ∧ d = .int (i - k) := by
  have hk : k < n := by
    have := (List.getElem?_eq_some_iff.mp h).1
    rwa [rngN_len] at this
  refine ⟨hk, ?_⟩
  unfold rngN at h
  rw [List.getElem?_map, List.getElem?_range hk] at h
  exact (Option.some.inj h).symm
theorem jr_rangeN {G : Hp} {lo : Int} {n : Nat} : JR G (Itc lo (-1) n) (rngN lo n) := fun G1 H1 s1 s2 => by
  refine ⟨by rw [rngN_len]; exact Nat.le_refl n, fun i d e => ?_⟩
  obtain ⟨hi, rfl⟩ := rngN_get e
  exact ⟨hi, fun x H2 ⟨e2, e3⟩ => ⟨G1, .inl ⟨rfl, e2⟩, by rw [e3]; show V.int _ = V.int _; congr 1; omega⟩⟩
def onR3 (ds : List D) (k : List D → Prop) : Prop := match ds with
  | [.int i, .int j, .int c] => c = -1 ∧ (-1000000000000 < i ∧ i < 1000000000000 ∧ -1000000000000 < j ∧ j < 1000000000000) ∧ k (rngN i (i - j).toNat)
  | _ => False
def xRng3 (t : DA) : DI := fun ρ Q => t ρ fun ds ρ1 => onR3 ds fun l => Q l ρ1
theorem di_range3 {tg a b c : Expr} {ta : TA} {t : DA} {p pos : Pos} (hg : Gl X "range") (hm : X.mg "range" = none) (ha : PAV X C [a, b, c] ta t) (hs : starEach [a, b, c] X.env = (false, eval a X.env) :: starEach [b, c] X.env := by rfl) (hpl : (backTo pos (starEach [b, c] X.env)).any (·.1) = false := by rfl) :
    PIV X C tg (.Call (.Name "range" p) [a, b, c] [] pos) (iRng3 ta) (xRng3 t) :=
  ⟨pi_range3 hg hm ha.pe hs hpl, fun G H σ ρ QD R' R q k => ha.rf G H σ ρ _ _ R q fun vs ds G1 H1 ρ1 R1 s1 hd q1 => by
    unfold onR3 at q1
    split at q1
    · rename_i i j c
      obtain ⟨v, u, w, rfl, h1, h2, h3⟩ := hd.three
      cases (show v = _ from h1)
      cases (show u = _ from h2)
      cases (show w = _ from h3)
      obtain ⟨rfl, ⟨b1, b2, b3, b4⟩, q1⟩ := q1
      exact ⟨i, j, -1, _, rfl, RgC.neg (by omega) (by omega) (by omega) (by omega), k _ _ G1 H1 ρ1 R1 s1 jr_rangeN q1⟩
    · exact q1.elim⟩
end
/-! ### one value alone can be sorted -/
theorem sorts_one {prog : Program} {w : World} {A : Around} {s : Shared} {v : Value} {d : PyData} {as : List Addr} (r : Reads s.heap v d as) (ne : d ≠ .none) (al : PySem.W.alike d d = true) (hu : A.units + d.depth < cLine) : PySem.W.SortsAt prog w A s (PySem.W.dataKind s.heap [d]) [v] := by
  have hal : PySem.W.AllAlike [d] := fun a ha b hb => by
    rw [List.mem_singleton.mp ha, List.mem_singleton.mp hb]
    exact al
  refine ⟨fun u hu' => ?_, general', ?_, fun h2 => absurd h2 (by simp)⟩
  · rw [List.mem_singleton.mp hu']
    exact ⟨_, PySem.W.dataKind_some hal (List.mem_singleton.mpr rfl) r⟩
  · intro E x y a b Q ha hb hq
    obtain ⟨d1, as1, hd1, ra, rfl⟩ := PySem.W.dataKind_inv ha
    obtain ⟨d2, as2, hd2, rb, rfl⟩ := PySem.W.dataKind_inv hb
    rw [List.mem_singleton.mp hd1] at ra hq
    rw [List.mem_singleton.mp hd2] at rb hq
    have e : keyLt' general' x y = oneLt' false x y := rfl
    rw [e]
    exact PySem.W.oneLt_alike (fun z => by cases z) ra rb al ne (Nat.lt_of_le_of_lt (Nat.add_le_add_left (Nat.min_le_left _ _) _) hu) hq
end L3

namespace L3
open PySem PySem.Spec PyProof.Rows L2
theorem nodup_in {α : Type} [DecidableEq α] : ∀ (l D : List α), l.Nodup → (∀ x ∈ l, x ∈ D) → l.length ≤ D.length
  | [], _, _, _ => Nat.zero_le _
  | x :: l, D, nd, h => by
    obtain ⟨n1, n2⟩ := List.nodup_cons.mp nd
    have hx := h x (by simp)
    have ih := nodup_in l (D.erase x) n2 fun y hy => (List.mem_erase_of_ne fun e => n1 (by rw [← e]; exact hy)).mpr (h y (by simp [hy]))
    rw [List.length_erase_of_mem hx] at ih
    have : 0 < D.length := List.length_pos_of_mem hx
    rw [List.length_cons]
    omega
theorem perm_lift {α β : Type} (f : α → β) : ∀ {xs ys : List β}, xs.Perm ys → ∀ L : List α, xs = L.map f → ∃ L1 : List α, ys = L1.map f ∧ L1.Perm L := by
  intro xs ys p
  induction p with
  | nil => exact fun L e => ⟨L, e, List.Perm.refl L⟩
  | cons x h ih =>
    intro L e
    cases L with
    | nil => cases e
    | cons a L =>
      obtain ⟨rfl, e2⟩ := List.cons.inj e
      obtain ⟨L1, e3, e4⟩ := ih L e2
      exact ⟨a :: L1, by rw [e3]; rfl, e4.cons a⟩
  | swap x y l =>
    intro L e
    cases L with
    | nil => cases e
    | cons a L =>
      cases L with
      | nil => cases e
      | cons b L =>
        obtain ⟨rfl, e2⟩ := List.cons.inj e
        obtain ⟨rfl, e3⟩ := List.cons.inj e2
        exact ⟨b :: a :: L, by rw [e3]; rfl, List.Perm.swap a b L⟩
  | trans _ _ h1 h2 =>
    intro L e
    obtain ⟨L1, e1, p1⟩ := h1 L e
    obtain ⟨L2, e2, p2⟩ := h2 L1 e1
    exact ⟨L2, e2, p2.trans p1⟩
/-! ### set(l), l a list of tuples of ints with few unlike ones -/
abbrev AL := List (Addr × List Int)
def rSetLT (K : PySem.W.Frag) (P : Program) (w : World) : List V → Hp → VK → Prop := fun xs H Q => ∃ (l : Addr) (ks : AL) (D : List (List Int)), xs = [V.ref l] ∧ SqL K H l (ks.map fun p => V.ref p.1) ∧ (∀ p ∈ ks, SqT K H p.1 (p.2.map V.int)) ∧ D.length < 60 ∧ (∀ p ∈ ks, p.2 ∈ D) ∧
  ∀ a L, H a = none → (∀ p ∈ L, p ∈ ks) → (∀ p ∈ ks, p.2 ∈ L.map (·.2)) → Q (.ref a) (upd H a (SetTO P w a L))
def SetV (P : Program) (w : World) (a : Addr) (h0 : Heap) (ks : AL) (i : Nat) (h : Heap) : Prop := (∀ b o, h0.get? b = some o → h.get? b = some o) ∧ ∃ (L : AL) (es : Array (Int × Value)) (ep : Nat) (t : SetTable), SetTR P w h a L es ep t ∧ Got ks i L
theorem cr_setLT {X : Cx} (hc : X.calm = true) (hu : X.A.units + 64 < cLine) : CallR X (.type "set") (rSetLT X.K X.prog X.w) := by
  intro pins s σ H xs us Q I r h
  obtain ⟨l, ks, D, rfl, hl, hk, hD, hin, q⟩ := h
  rw [Vals.ref1 r]
  obtain ⟨its, rv, pl, hz⟩ := I.list hl
  have hr : its = ks.map fun p => Value.ref p.1 := refs_of_vals rv
  have hn : H s.heap.objs.size = none := I.hok.fresh (Nat.le_refl _)
  have hT : ∀ p ∈ ks, IsT X.prog X.w s.heap p.2 p.1 := fun p hp => I.isT (hk p hp)
  have hns : s.heap.get? s.heap.objs.size = none := by
    cases e : s.heap.get? s.heap.objs.size with
    | none => rfl
    | some o => exact absurd (Heap.lt_size e) (Nat.lt_irrefl _)
  refine set_of_list (P := X.prog) (w := X.w) (I.ok.hd hc) pl.isList (SetV X.prog X.w s.heap.objs.size s.heap ks) (fun h e up => ⟨up, [], #[], 0, _, setTR_fresh e, Got.zero ks⟩) (fun i h h' ⟨up, L, es, ep, t, S, g⟩ kp => ?_) (fun A' i v s' R E' hA hv ⟨up, L, es, ep, t, S, g⟩ k => ?_) (fun h' tk ⟨up, L, es, ep, t, S, g⟩ kp => ?_)
  · have up2 : ∀ b o, s.heap.get? b = some o → h'.get? b = some o := fun b o e => kp b o (Nat.le_of_lt (Heap.lt_size e)) (up b o e)
    exact ⟨up2, L, es, ep, t, S.keep (fun o e => kp _ _ (Nat.le_refl _) e) fun p hp => isT_keep (hT p (List.mem_of_mem_take (g.sub p hp))) up2, g⟩
  · obtain ⟨p, hp, rfl⟩ : ∃ p, ks[i]? = some p ∧ v = .ref p.1 := by
      have e : its[i]? = some v := by simpa using hv
      rw [hr, List.getElem?_map] at e
      obtain ⟨p, hp, e2⟩ := Option.map_eq_some_iff.mp e
      exact ⟨p, hp, e2.symm⟩
    have hx : IsT X.prog X.w s'.heap p.2 p.1 := isT_keep (hT p (List.mem_of_getElem? hp)) up
    have hu2 : A'.units < cLine := by omega
    have few : L.length ≤ D.length := by
      have := nodup_in (L.map (·.2)) D S.nd fun x hx => by
        obtain ⟨y, hy, rfl⟩ := List.mem_map.mp hx
        exact hin y (List.mem_of_mem_take (g.sub y hy))
      simpa using this
    unfold setAdd
    refine wpAny_holding ?_
    refine wpAny_bind (wpAny_pyHash_tuple hu2 hx ?_)
    refine add_at (s := { s' with toks := s'.toks + (p.2.length + 1) }) S hx hu2 (by omega) fun b h' L' es' ep' t' sb S2 c1 c2 => ?_
    refine k b h' _ (Nat.le_add_right _ _) sb ⟨fun b o e => (sb.2 b fun z => by rw [z, hns] at e; cases e).trans (up b o e), L', es', ep', t', S2, ?_⟩
    rcases Classical.em (p.2 ∈ L.map (·.2)) with c | c
    · rw [c1 c]; exact g.same hp c
    · exact g.more hp (c2 c)
  · have e : its.toArray.size = ks.length := by rw [List.size_toArray, hr, List.length_map]
    rw [e] at g
    exact ⟨.ref s.heap.objs.size, _, I.laid (t' := tk) kp (Nat.le_refl _) (setTO_new S.t0), rfl, q _ L hn (fun p hp => List.mem_of_mem_take (g.sub p hp)) fun p hp => g.all p (by rw [List.take_length]; exact hp)⟩
/-! ### sorted(set) of tuples of ints of any length -/
theorem each_refs {R : Value → Addr × List Int → Prop} (hR : ∀ v p, R v p → v = .ref p.1) : ∀ {vs : List Value} {L : AL}, PySem.W.EachIs R vs L → vs = L.map fun p => Value.ref p.1
  | _, _, .nil => rfl
  | _, _, .cons h t => by rw [hR _ _ h, each_refs hR t]; rfl
theorem each_of {R : Value → Addr × List Int → Prop} : ∀ {L : AL}, (∀ p ∈ L, R (.ref p.1) p) → PySem.W.EachIs R (L.map fun p => Value.ref p.1) L
  | [], _ => .nil
  | p :: L, h => .cons (h p (by simp)) (each_of fun q hq => h q (by simp [hq]))
def encT (p : Addr × List Int) : PyData := .tuple (p.2.map .int)
theorem encT_alike (p q : Addr × List Int) : PySem.W.alike (encT p) (encT q) = true := by
  unfold encT
  simp only [PySem.W.alike]
  exact PySem.W.alike_ints _ _
theorem encT_depth (p : Addr × List Int) : (encT p).depth ≤ 1 := by
  unfold encT
  simp only [PyData.depth, PySem.W.depth_ints]
  omega
theorem reads_isT {P : Program} {w : World} {h : Heap} {p : Addr × List Int} (x : IsT P w h p.2 p.1) : ∃ as, Reads h (.ref p.1) (encT p) as := by
  obtain ⟨o, items, n, ho, hc, hd, hi⟩ := x
  exact ⟨_, Reads.tuple ho hc hd ((ints_of_items hi).reads h)⟩
section
variable {P : Program} {w : World} {A : Around} {E : Value → Shared → Prop} {s : Shared}
theorem sorted_setV {a : Addr} {L : AL} {es : Array (Int × Value)} {ep : Nat} {t : SetTable} {Q : Value → Shared → Prop} (R : SetTR P w s.heap a L es ep t) (hh : A.handled = none) (hne : (∀ p ∈ L, p.2 ≠ []) ∨ L.length ≤ 1) (hu : A.units + 64 < cLine)
    (q : ∀ s' p (out : Array Value) (c : Nat) (L' : AL), (∀ b o, s.heap.get? b = some o → s'.heap.get? b = some o) → s'.gens = s.gens → s'.os = s.os → s.heap.objs.size ≤ p → s'.heap.get? p = some (seqObj "list" out c) → out.toList = L'.map (fun q => Value.ref q.1) → L'.Perm L → Q (.ref p) s') :
    wpAny (model P w) A (call (.builtin "sorted") [.ref a]) Q E s := by
  obtain ⟨o, ho, hex, hd⟩ := R.ob
  have esz := R.size
  have few := R.few
  refine Calls.call_function_entry kind_sorted plain_sorted entry_sorted (args_sorted1 _) ?_
  unfold Builtin.«sorted»
  refine wpAny_bind (m := checkCount "sorted" 1 1 _) (wpAny_pure ?_)
  refine wpAny_bind (collect_set (A := A.in1) hh ⟨o, ho, hex.1, hd⟩ R.fits (by unfold scanBound; omega) R.tab.ris R.led fun s1 vs k1 z1 g1 o1 pm => ?_)
  have ev : es.toList.map (·.2) = L.map fun p => Value.ref p.1 := by
    rw [R.rows]
    unfold rowsOf
    rw [List.map_map]
    rfl
  rw [ev] at pm
  obtain ⟨L1, rfl, pL⟩ : ∃ L1 : AL, vs = L1.map (fun p => Value.ref p.1) ∧ L1.Perm L := by
    obtain ⟨L1, e1, e2⟩ := perm_lift _ pm.symm L rfl
    exact ⟨L1, e1, e2⟩
  have inL : ∀ p ∈ L1, p ∈ L := fun p hp => pL.mem_iff.mp hp
  have len1 : L1.length < 64 := by rw [pL.length_eq]; exact few
  refine wpAny_bind (wpAny_newList ?_ (by rw [sizeLine_eq, List.length_map]; omega))
  obtain ⟨D, eD⟩ : ∃ D, D = s1.heap.objs.size := ⟨_, rfl⟩
  obtain ⟨vs, evs⟩ : ∃ vs, vs = L1.map fun p => Value.ref p.1 := ⟨_, rfl⟩
  rw [← evs]
  have hoD : (s1.heap.push (seqObj "list" vs.toArray 0)).get? D = some (seqObj "list" vs.toArray 0) := by rw [eD]; exact Heap.get?_push_size _ rfl
  have tk : ∀ p ∈ L1, IsT P w (PySem.W.sortingHeap (s1.heap.push (seqObj "list" vs.toArray 0)) D vs) p.2 p.1 := fun p hp => isT_keep (R.tup p (inL p hp)) fun b u e => PySem.W.sortingHeap_old (by rw [eD]; exact Nat.ne_of_lt (Heap.lt_size (k1 b u e))) (Heap.get?_push_of_some _ (k1 b u e))
  have eR : PySem.W.EachIs (fun v p => v = Value.ref p.1) vs L1 := by rw [evs]; exact each_of fun p _ => rfl
  have er : PySem.W.EachIs (fun v p => ∃ as, Reads (PySem.W.sortingHeap (s1.heap.push (seqObj "list" vs.toArray 0)) D vs) v (encT p) as) vs L1 := by
    rw [evs]
    rw [evs] at tk
    exact each_of fun p hp => reads_isT (tk p hp)
  have hal : PySem.W.AllAlike (L1.map encT) := fun d hd d' hd' => by
    obtain ⟨p, _, rfl⟩ := List.mem_map.mp hd
    obtain ⟨p', _, rfl⟩ := List.mem_map.mp hd'
    exact encT_alike p p'
  have S : ∀ A' : Around, A'.units ≤ A.units + 10 → PySem.W.SortsAt P w A' { s1 with heap := PySem.W.sortingHeap (s1.heap.push (seqObj "list" vs.toArray 0)) D vs } (PySem.W.dataKind (PySem.W.sortingHeap (s1.heap.push (seqObj "list" vs.toArray 0)) D vs) (L1.map encT)) vs := fun A' hA => by
    have room : ∀ d ∈ L1.map encT, A'.units + d.depth < cLine := fun d hd => by
      obtain ⟨p, _, rfl⟩ := List.mem_map.mp hd
      have := encT_depth p
      omega
    have many : (∀ d ∈ L1.map encT, ∃ x r, d = .tuple (x :: r)) → PySem.W.SortsAt P w A' { s1 with heap := PySem.W.sortingHeap (s1.heap.push (seqObj "list" vs.toArray 0)) D vs } (PySem.W.dataKind (PySem.W.sortingHeap (s1.heap.push (seqObj "list" vs.toArray 0)) D vs) (L1.map encT)) vs := fun hs =>
      PySem.W.SortsAt.data (s := { s1 with heap := PySem.W.sortingHeap (s1.heap.push (seqObj "list" vs.toArray 0)) D vs }) (PySem.W.each_map (R := fun v d => ∃ as, Reads (PySem.W.sortingHeap (s1.heap.push (seqObj "list" vs.toArray 0)) D vs) v d as) encT er) hal (.inl hs) room
    rcases hne with hne | hne
    · refine many fun d hd => ?_
      obtain ⟨p, hp, rfl⟩ := List.mem_map.mp hd
      have := hne p (inL p hp)
      unfold encT
      cases e : p.2 with
      | nil => exact absurd e this
      | cons y r => exact ⟨_, _, rfl⟩
    · have l1 : L1.length ≤ 1 := by rw [pL.length_eq]; exact hne
      cases L1 with
      | nil => exact many fun d hd => by cases hd
      | cons p r =>
        have hr : r = [] := by
          cases r with
          | nil => rfl
          | cons _ _ => simp at l1
        subst hr
        obtain ⟨as, rd⟩ := reads_isT (tk p (by simp))
        have e1 : vs = [Value.ref p.1] := by rw [evs]; rfl
        rw [e1] at rd ⊢
        refine sorts_one rd (fun z => by cases z) (encT_alike p p) ?_
        have := encT_depth p
        omega
  have eo := PySem.W.sortVals_data (h' := PySem.W.sortingHeap (s1.heap.push (seqObj "list" vs.toArray 0)) D vs) (enc := encT) false eR er hal
  obtain ⟨out, eout⟩ : ∃ out, out = PySem.W.sortVals (PySem.W.dataKind (PySem.W.sortingHeap (s1.heap.push (seqObj "list" vs.toArray 0)) D vs) (L1.map encT)) false vs vs := ⟨_, rfl⟩
  rw [← eout] at eo
  have ol := each_refs (fun _ _ h => h) eo
  have hv : vs.length ≤ sizeLine := by rw [evs, List.length_map, sizeLine_eq]; omega
  rw [← eD]
  refine wpAny_bind (wpAny_holding (wpAny_call_entry slot_list_sort ⟨_, hoD, rfl⟩ entry_list_sort (PySem.W.list_sort_vals (s := { s1 with heap := s1.heap.push (seqObj "list" vs.toArray 0) }) hoD (S _ (by show A.units + 2 ≤ _; omega)) hv ⟨.none, rfl, ?_⟩) (args_list_sort _)))
  rw [← eout]
  obtain ⟨c, hc⟩ := sortedHeap_at (vs := vs) (out := out.toArray) hoD
  refine wpAny_pure ⟨_, rfl, q _ D out.toArray c (L1.mergeSort (PySem.W.dataLe false encT)) (fun b u e => ?_) g1 o1 (by rw [eD]; exact z1) hc (by rw [List.toList_toArray]; exact ol) ((List.mergeSort_perm _ _).trans pL)⟩
  have z := k1 b u e
  have hlt := Heap.lt_size z
  show (sortedHeap (s1.heap.push (seqObj "list" vs.toArray 0)) D vs out.toArray).get? b = some u
  rw [sortedHeap_old (by rw [eD]; exact Nat.ne_of_lt hlt) (by rw [size_push']; exact Nat.lt_succ_of_lt hlt)]
  exact Heap.get?_push_of_some _ z
end
def rSortedV (K : PySem.W.Frag) (P : Program) (w : World) : List V → Hp → VK → Prop := fun vs H Q => ∃ (a : Addr) (L : AL), vs = [V.ref a] ∧ H a = some (SetTO P w a L) ∧ (∀ p ∈ L, SqT K H p.1 (p.2.map V.int)) ∧ ((∀ p ∈ L, p.2 ≠ []) ∨ ∃ l0, ∀ p ∈ L, p.2 = l0) ∧
  ∀ (L' : AL) (p : Addr), L'.Perm L → (L'.map (·.2)).Nodup → H p = none → Q (.ref p) (upd H p (.lst (L'.map fun q => V.ref q.1)))
theorem cr_sortedV {X : Cx} (hc : X.calm = true) (hu : X.A.units + 64 < cLine) : CallR X (.builtin "sorted") (rSortedV X.K X.prog X.w) := by
  intro pins s σ H vs us Q I r h
  obtain ⟨a, L, rfl, ha, hk, hne, q⟩ := h
  have R0 : SetT0 X.prog X.w s.heap a L := (I.hok a _ ha).1
  obtain ⟨es, ep, t, R⟩ := R0.full fun p hp => I.isT (hk p hp)
  rw [Vals.ref1 r]
  have few := R.few
  have hne2 : (∀ p ∈ L, p.2 ≠ []) ∨ L.length ≤ 1 := by
    refine hne.imp id fun ⟨l0, h0⟩ => ?_
    have := nodup_in (L.map (·.2)) [l0] R.nd fun x hx => by
      obtain ⟨y, hy, rfl⟩ := List.mem_map.mp hx
      rw [h0 y hy]
      simp
    simpa using this
  refine sorted_setV R (I.ok.hd hc) hne2 hu fun s' p out c L' k g o hp hg hout pm => ?_
  have hlen : (L'.map fun q => V.ref q.1).length ≤ sizeLine := by rw [List.length_map, sizeLine_eq, pm.length_eq]; omega
  have hn : H p = none := I.hok.fresh hp
  have hv : Vals (L'.map fun q => V.ref q.1) out.toList := by rw [hout]; exact vals_of_refs L'
  have J : Inv X pins σ (upd H p (.lst (L'.map fun q => V.ref q.1))) { s with heap := s'.heap, gens := s'.gens, drawn := s'.drawn, toks := s'.toks } :=
    I.call (ch := []) (Un.laid k hp hn) (I.hok.laid k hp ⟨hlen, out.toList, c, hv, hg⟩) (by rw [g]; exact I.bare) (fun _ z => nomatch z)
  have e : s' = { s with heap := s'.heap, gens := s'.gens, drawn := s'.drawn, toks := s'.toks } := by
    cases s'
    cases s
    cases o
    rfl
  rw [e]
  exact ⟨.ref p, _, J, rfl, q L' p pm ((pm.map (·.2)).nodup_iff.mpr R.nd) hn⟩
def tupI (r : List Int) : D := .tup (r.map D.int)
theorem dats_tups {G : Hp} : ∀ {rows : List (List Int)} {us : List V}, Dats G (rows.map tupI) us → ∃ ks : AL, us = ks.map (fun p => V.ref p.1) ∧ rows = ks.map (·.2) ∧ ∀ p ∈ ks, G p.1 = some (.tup (p.2.map V.int))
  | [], us, h => by
    cases (show us = [] from h)
    exact ⟨[], rfl, rfl, fun p hp => by cases hp⟩
  | r :: rows, us, h => by
    obtain ⟨u, us', rfl, ⟨a, vs, rfl, h1, h2⟩, h3⟩ := h
    cases h2.ints
    obtain ⟨ks, rfl, rfl, h4⟩ := dats_tups h3
    refine ⟨(a, r) :: ks, rfl, rfl, fun p hp => ?_⟩
    rcases List.mem_cons.mp hp with rfl | hp
    · exact h1
    · exact h4 p hp
theorem tups_dats {G : Hp} : ∀ {L : AL}, (∀ p ∈ L, G p.1 = some (.tup (p.2.map V.int))) → Dats G ((L.map (·.2)).map tupI) (L.map fun p => V.ref p.1)
  | [], _ => rfl
  | p :: L, h => ⟨.ref p.1, _, rfl, ⟨p.1, _, rfl, h p (by simp), Dats.of_ints p.2⟩, tups_dats fun q hq => h q (by simp [hq])⟩
section
variable {X : Cx} {C : FC}
/-- sorted(set(l)), l a list of tuples of ints: each of them once, in some order -/
def xSortedSetT (t : DA) : DE := fun ρ Q => t ρ fun ds ρ1 => ∃ (rows : List (List Int)) (D : List (List Int)), ds = [.lst (rows.map tupI)] ∧ D.length < 60 ∧ (∀ r ∈ rows, r ∈ D) ∧ ((∀ r ∈ rows, r ≠ []) ∨ ∃ l0, ∀ r ∈ rows, r = l0) ∧
  ∀ ys : List (List Int), ys.Nodup → (∀ r, r ∈ ys ↔ r ∈ rows) → Q (.ow (ys.map tupI)) ρ1
theorem d_sortedSetT {e : Expr} {ta : TA} {t : DA} {p p2 pos pos2 : Pos} (hc : X.calm = true) (hu : X.A.units + 64 < cLine) (hg : Gl X "sorted") (hm : X.mg "sorted" = none) (hg2 : Gl X "set") (hm2 : X.mg "set" = none) (ha : PAV X C [e] ta t)
    (he : starEach [e] X.env = (false, eval e X.env) :: starEach [] X.env := by rfl) (hpl : (backTo pos2 (starEach [] X.env)).any (·.1) = false := by rfl)
    (he2 : starEach [.Call (.Name "set" p2) [e] [] pos2] X.env = (false, eval (.Call (.Name "set" p2) [e] [] pos2) X.env) :: starEach [] X.env := by rfl) (hpl2 : (backTo pos (starEach [] X.env)).any (·.1) = false := by rfl) :
    PV X C (.Call (.Name "sorted" p) [.Call (.Name "set" p2) [e] [] pos2] [] pos) (tCB (rSortedV X.K X.prog X.w) (tCons (tCB (rSetLT X.K X.prog X.w) ta) tNil)) (xSortedSetT t) := by
  refine ⟨pe_callB (cr_sortedV hc hu) hg hm (by decide +kernel) (pa_cons (pe_callTy (cr_setLT hc hu) hg2 hm2 (by decide +kernel) ha.pe (by decide) (by decide) he hpl) pa_nil he2) (by decide) (by decide) he2 hpl2, fun G H σ ρ QD Q R q k => ?_⟩
  refine ha.rf G H σ ρ _ _ R q fun vs ds G1 H1 ρ1 R1 s1 hd ⟨rows, D, e, hD, hin, hne, q1⟩ => ?_
  subst e
  obtain ⟨v, rfl, a, us, rfl, h1, h2⟩ := hd.one
  obtain ⟨ks, rfl, rfl, h3⟩ := dats_tups h2
  refine ⟨a, ks, D, rfl, SqL.of (R1.sub _ _ h1), fun p hp => SqT.of (R1.sub _ _ (h3 p hp)), hD, fun p hp => hin _ (List.mem_map.mpr ⟨p, hp, rfl⟩), fun sp L hp hL1 hL2 => ?_⟩
  have gL : ∀ p ∈ L, G1 p.1 = some (.tup (p.2.map V.int)) := fun p hp => h3 p (hL1 p hp)
  have R2 := R1.newOw (o := SetTO X.prog X.w sp L) hp
  refine ⟨sp, L, rfl, upd_same, fun p hp => SqT.of (R2.sub _ _ (gL p hp)), ?_, fun L' p pm nd hp2 => ?_⟩
  · refine hne.imp (fun h p hp => h _ (List.mem_map.mpr ⟨p, hL1 p hp, rfl⟩)) fun ⟨l0, h⟩ => ⟨l0, fun p hp => h _ (List.mem_map.mpr ⟨p, hL1 p hp, rfl⟩)⟩
  · obtain ⟨R3, rv⟩ := R2.resL hp2 (tups_dats (L := L') fun p hp => gL p (pm.mem_iff.mp hp))
    refine k _ _ _ _ _ R3 s1 rv (q1 _ nd fun r => ?_)
    rw [List.mem_map, List.mem_map]
    constructor
    · rintro ⟨p, hp, rfl⟩
      exact ⟨p, hL1 p (pm.mem_iff.mp hp), rfl⟩
    · rintro ⟨p, hp, rfl⟩
      obtain ⟨p', hp', e⟩ := List.mem_map.mp (hL2 p hp)
      exact ⟨p', pm.mem_iff.mpr hp', e⟩
end
section
variable {X : Cx} {C : FC}
theorem d_sortedSetTK (K : PySem.W.Frag) (P : Program) (w : World) {e : Expr} {ta : TA} {t : DA} {p p2 pos pos2 : Pos} (hc : X.calm = true) (hu : X.A.units + 64 < cLine) (hg : Gl X "sorted") (hm : X.mg "sorted" = none) (hg2 : Gl X "set") (hm2 : X.mg "set" = none) (ha : PAV X C [e] ta t) (hK : X.K = K := by rfl) (hP : X.prog = P := by rfl) (hw : X.w = w := by rfl)
    (he : starEach [e] X.env = (false, eval e X.env) :: starEach [] X.env := by rfl) (hpl : (backTo pos2 (starEach [] X.env)).any (·.1) = false := by rfl)
    (he2 : starEach [.Call (.Name "set" p2) [e] [] pos2] X.env = (false, eval (.Call (.Name "set" p2) [e] [] pos2) X.env) :: starEach [] X.env := by rfl) (hpl2 : (backTo pos (starEach [] X.env)).any (·.1) = false := by rfl) :
    PV X C (.Call (.Name "sorted" p) [.Call (.Name "set" p2) [e] [] pos2] [] pos) (tCB (rSortedV K P w) (tCons (tCB (rSetLT K P w) ta) tNil)) (xSortedSetT t) := by
  subst hK hP hw
  exact d_sortedSetT hc hu hg hm hg2 hm2 ha he hpl he2 hpl2
end
end L3

set_option Elab.async false
set_option linter.all false
set_option maxRecDepth 100000
set_option maxHeartbeats 4000000
namespace FM
open PySem PySem.Spec PyProof.Rows L2 L3
def topS (i : Nat) : Stmt := PySem.Challenge.pw_floodmarks_k07_whole_all_ways_together.main.body.getD i (.Pass ⟨0, 0, 0, 0⟩)
structure Bt (mg : Str → Option Value) : Prop where
  isinstance : mg "isinstance" = none
  int : mg "int" = none
  bool : mg "bool" = none
  list : mg "list" = none
  tuple : mg "tuple" = none
  str : mg "str" = none
  len : mg "len" = none
  all : mg "all" = none
  zip : mg "zip" = none
  range : mg "range" = none
  enumerate : mg "enumerate" = none
  sum : mg "sum" = none
  min : mg "min" = none
  sorted : mg "sorted" = none
  set : mg "set" = none
  MOST_TOP : ∃ t, mg "MOST_TOP" = some (.int 40 t)
  MOST_MARKS : ∃ t, mg "MOST_MARKS" = some (.int 8 t)
  MOST_FLOODS : ∃ t, mg "MOST_FLOODS" = some (.int 40 t)
  MOST_FAR : ∃ t, mg "MOST_FAR" = some (.int 1000000000000000000 t)
  MOST_BY : ∃ t, mg "MOST_BY" = some (.int 1000000000 t)

def isW : D → Bool
  | .int _ => true
  | _ => false
def dp_is_whole : DP := fun ds Q _ => ∃ d, ds = [d] ∧ Q (.fz (.bl (isW d)))

abbrev s_is_whole : Stmt := topS 11
theorem sc_is_whole : FnScope ["thing"] ["thing"] (defScope s_is_whole) := ⟨rfl, rfl, rfl, by decide +kernel, rfl, by decide +kernel, by decide +kernel⟩
theorem ok_is_whole {P : Program} {w : World} {K : PySem.W.Frag} {mg : Str → Option Value} {base : Heap} (B : Bt mg) (d : Df K mg "is_whole" s_is_whole ["thing"])  : Fn P w K mg base "is_whole" (0 + 1) 1 dp_is_whole := by
  refine fn_mk d sc_is_whole rfl (by decide) fun f cdv A outer s H E C hr => ⟨_, _, (ds_one (ds_ret (d_and (d_isi_int (by rfl) B.isinstance B.int (dv 0)) (d_one (d_not (d_isi_bool (by rfl) B.isinstance B.bool (dv 0))))))), fun ds QD ED hl0 h => ?_⟩
  obtain ⟨a0, rfl⟩ : ∃ a0, ds = [a0] := by
    match ds, hl0 with
    | [a0], _ => exact ⟨a0, rfl⟩
  clear hl0
  obtain ⟨d, e, q⟩ := h
  cases e
  simp only [xSeq, xSet, xRet, xIf, xExpr, xNext, xNever, xC, xNil, xCons, xTup, xLst, xOp, xEq, xNe, xUn, xNot, xAnd, xOr, xIfE, xCB, xCall, xCallB, xName, xAsg, xIsi3, toD_fz, toD_ow, toD_od, toD_bg, rd_var, rd_getv1, rd_getv2, rd_getv3, rd_test, rd_onB, rd_onI, rd_onSB, rd_andV, rd_orV, rd_notV, rd_chain, rd_II, rd_II0, rd_add1, rd_add2, rd_add3, rd_mul1, rd_mul2, rd_mul3, rd_isN, rd_notN, rd_isN1, rd_isN2, rd_isN3, rd_neg, rd_ix1, rd_ix2, rd_part, rd_sl, rd_onSl1, rd_onSl2, rd_rev, rd_onRv, rd_len1, rd_len2, rd_max2, rd_min2, rd_int1, rd_int2, rd_lst1, rd_lst2, rd_tup1, rd_tup2, rd_dm, rd_seqI, rd_onSq1, rd_onSq2, rd_rng1, rd_onR1, rd_rng2, rd_onR2, xEnumT, rd_onEt, rd_zip, rd_onZ1, rd_onZ2, rd_par, rd_onP, xPar3, rd_onP3, rd_gtup, rd_gnil, rd_gcons, rd_isi, ini, iniB, wipeD, unw, kf, List.map_cons, List.map_nil, List.replicate_succ, List.replicate_zero, List.cons_append, List.nil_append, List.length_cons, List.length_nil, List.getElem?_cons_zero, List.getElem?_cons_succ, List.set_cons_zero, List.set_cons_succ, decide_eq_true_eq, Nat.zero_add, Nat.reduceAdd, Nat.reduceSub, Nat.reduceLeDiff, true_and, Bool.false_eq_true, if_false, if_true, isi_int_non, isi_int_bl, isi_int_int, isi_int_str, isi_int_lst, isi_int_tup, isi_bool_non, isi_bool_bl, isi_bool_int, isi_bool_str, isi_bool_lst, isi_bool_tup, isi_list_non, isi_list_bl, isi_list_int, isi_list_str, isi_list_lst, isi_list_tup, isi_tuple_non, isi_tuple_bl, isi_tuple_int, isi_tuple_str, isi_tuple_lst, isi_tuple_tup, isi_str_non, isi_str_bl, isi_str_int, isi_str_str, isi_str_lst, isi_str_tup, Bool.not_true, Bool.not_false, Bool.or_false, Bool.or_true, Bool.false_or, Bool.true_or, ite_true, ite_false, Option.some.injEq, true_or, false_or, or_false, and_true]
  cases a0 <;> simp [isiD, isiN, tyN] <;> exact q

def inR : D → Int → Int → Bool
  | .int i, lo, hi => decide (lo ≤ i) && decide (i ≤ hi)
  | _, _, _ => false
def dp_is_within : DP := fun ds Q _ => ∃ d lo hi, ds = [d, .int lo, .int hi] ∧ Q (.fz (.bl (inR d lo hi)))

abbrev s_is_within : Stmt := topS 12
theorem sc_is_within : FnScope ["thing", "low", "high"] ["thing", "low", "high"] (defScope s_is_within) := ⟨rfl, rfl, rfl, by decide +kernel, rfl, by decide +kernel, by decide +kernel⟩
theorem ok_is_within {P : Program} {w : World} {K : PySem.W.Frag} {mg : Str → Option Value} {base : Heap} (B : Bt mg) (d : Df K mg "is_within" s_is_within ["thing", "low", "high"]) (h_is_whole : Fn P w K mg base "is_whole" 1 1 dp_is_whole) : Fn P w K mg base "is_within" (1 + 1) 3 dp_is_within := by
  refine fn_mk d sc_is_within rfl (by decide) fun f cdv A outer s H E C hr => ⟨_, _, (ds_one (ds_ret (d_and (d_fnK h_is_whole (hr.mono (by decide)) (da_cons (dv 0) da_nil)) (d_one (d_chain o_le o_le (dv 1) (dv 0) (dv 2)))))), fun ds QD ED hl0 h => ?_⟩
  obtain ⟨a0, a1, a2, rfl⟩ : ∃ a0 a1 a2, ds = [a0, a1, a2] := by
    match ds, hl0 with
    | [a0, a1, a2], _ => exact ⟨a0, a1, a2, rfl⟩
  clear hl0
  obtain ⟨d, lo, hi, e, q⟩ := h
  cases e
  simp only [xSeq, xSet, xRet, xIf, xExpr, xNext, xNever, xC, xNil, xCons, xTup, xLst, xOp, xEq, xNe, xUn, xNot, xAnd, xOr, xIfE, xCB, xCall, xCallB, xName, xAsg, xIsi3, toD_fz, toD_ow, toD_od, toD_bg, rd_var, rd_getv1, rd_getv2, rd_getv3, rd_test, rd_onB, rd_onI, rd_onSB, rd_andV, rd_orV, rd_notV, rd_chain, rd_II, rd_II0, rd_add1, rd_add2, rd_add3, rd_mul1, rd_mul2, rd_mul3, rd_isN, rd_notN, rd_isN1, rd_isN2, rd_isN3, rd_neg, rd_ix1, rd_ix2, rd_part, rd_sl, rd_onSl1, rd_onSl2, rd_rev, rd_onRv, rd_len1, rd_len2, rd_max2, rd_min2, rd_int1, rd_int2, rd_lst1, rd_lst2, rd_tup1, rd_tup2, rd_dm, rd_seqI, rd_onSq1, rd_onSq2, rd_rng1, rd_onR1, rd_rng2, rd_onR2, xEnumT, rd_onEt, rd_zip, rd_onZ1, rd_onZ2, rd_par, rd_onP, xPar3, rd_onP3, rd_gtup, rd_gnil, rd_gcons, rd_isi, ini, iniB, wipeD, unw, kf, List.map_cons, List.map_nil, List.replicate_succ, List.replicate_zero, List.cons_append, List.nil_append, List.length_cons, List.length_nil, List.getElem?_cons_zero, List.getElem?_cons_succ, List.set_cons_zero, List.set_cons_succ, decide_eq_true_eq, Nat.zero_add, Nat.reduceAdd, Nat.reduceSub, Nat.reduceLeDiff, true_and, Bool.false_eq_true, if_false, if_true, isi_int_non, isi_int_bl, isi_int_int, isi_int_str, isi_int_lst, isi_int_tup, isi_bool_non, isi_bool_bl, isi_bool_int, isi_bool_str, isi_bool_lst, isi_bool_tup, isi_list_non, isi_list_bl, isi_list_int, isi_list_str, isi_list_lst, isi_list_tup, isi_tuple_non, isi_tuple_bl, isi_tuple_int, isi_tuple_str, isi_tuple_lst, isi_tuple_tup, isi_str_non, isi_str_bl, isi_str_int, isi_str_str, isi_str_lst, isi_str_tup, Bool.not_true, Bool.not_false, Bool.or_false, Bool.or_true, Bool.false_or, Bool.true_or, ite_true, ite_false, Option.some.injEq, true_or, false_or, or_false, and_true]
  refine ⟨a0, rfl, ?_⟩
  cases a0 with
  | int i =>
    simp only [xSeq, xSet, xRet, xIf, xExpr, xNext, xNever, xC, xNil, xCons, xTup, xLst, xOp, xEq, xNe, xUn, xNot, xAnd, xOr, xIfE, xCB, xCall, xCallB, xName, xAsg, xIsi3, toD_fz, toD_ow, toD_od, toD_bg, rd_var, rd_getv1, rd_getv2, rd_getv3, rd_test, rd_onB, rd_onI, rd_onSB, rd_andV, rd_orV, rd_notV, rd_chain, rd_II, rd_II0, rd_add1, rd_add2, rd_add3, rd_mul1, rd_mul2, rd_mul3, rd_isN, rd_notN, rd_isN1, rd_isN2, rd_isN3, rd_neg, rd_ix1, rd_ix2, rd_part, rd_sl, rd_onSl1, rd_onSl2, rd_rev, rd_onRv, rd_len1, rd_len2, rd_max2, rd_min2, rd_int1, rd_int2, rd_lst1, rd_lst2, rd_tup1, rd_tup2, rd_dm, rd_seqI, rd_onSq1, rd_onSq2, rd_rng1, rd_onR1, rd_rng2, rd_onR2, xEnumT, rd_onEt, rd_zip, rd_onZ1, rd_onZ2, rd_par, rd_onP, xPar3, rd_onP3, rd_gtup, rd_gnil, rd_gcons, rd_isi, ini, iniB, wipeD, unw, kf, List.map_cons, List.map_nil, List.replicate_succ, List.replicate_zero, List.cons_append, List.nil_append, List.length_cons, List.length_nil, List.getElem?_cons_zero, List.getElem?_cons_succ, List.set_cons_zero, List.set_cons_succ, decide_eq_true_eq, Nat.zero_add, Nat.reduceAdd, Nat.reduceSub, Nat.reduceLeDiff, true_and, Bool.false_eq_true, if_false, if_true, isi_int_non, isi_int_bl, isi_int_int, isi_int_str, isi_int_lst, isi_int_tup, isi_bool_non, isi_bool_bl, isi_bool_int, isi_bool_str, isi_bool_lst, isi_bool_tup, isi_list_non, isi_list_bl, isi_list_int, isi_list_str, isi_list_lst, isi_list_tup, isi_tuple_non, isi_tuple_bl, isi_tuple_int, isi_tuple_str, isi_tuple_lst, isi_tuple_tup, isi_str_non, isi_str_bl, isi_str_int, isi_str_str, isi_str_lst, isi_str_tup, Bool.not_true, Bool.not_false, Bool.or_false, Bool.or_true, Bool.false_or, Bool.true_or, ite_true, ite_false, Option.some.injEq, true_or, false_or, or_false, and_true, isW]
    by_cases h1 : lo ≤ i
    · simpa [inR, h1] using q
    · simpa [inR, h1] using q
  | _ => exact q

def dp_look_at_top : DP := fun ds Q _ => ∃ top : Int, ds = [.int top] ∧ 1 ≤ top ∧ top ≤ 40 ∧ Q (.fz .non)

abbrev s_look_at_top : Stmt := topS 13
theorem sc_look_at_top : FnScope ["top"] ["top"] (defScope s_look_at_top) := ⟨rfl, rfl, rfl, by decide +kernel, rfl, by decide +kernel, by decide +kernel⟩
theorem ok_look_at_top {P : Program} {w : World} {K : PySem.W.Frag} {mg : Str → Option Value} {base : Heap} (B : Bt mg) (d : Df K mg "look_at_top" s_look_at_top ["top"]) (h_is_within : Fn P w K mg base "is_within" 2 3 dp_is_within) : Fn P w K mg base "look_at_top" (2 + 1) 1 dp_look_at_top := by
  refine fn_mk d sc_look_at_top rfl (by decide) fun f cdv A outer s H E C hr => ⟨_, _, (ds_one (ds_if (dt_not (dt_val (d_fnK h_is_within (hr.mono (by decide)) (da_cons (dv 0) (da_cons d_int (da_cons (d_globI (by rfl) B.MOST_TOP) da_nil)))))) (ds_one ds_never) ds_nil)), fun ds QD ED hl0 h => ?_⟩
  obtain ⟨a0, rfl⟩ : ∃ a0, ds = [a0] := by
    match ds, hl0 with
    | [a0], _ => exact ⟨a0, rfl⟩
  clear hl0
  obtain ⟨top, e, h1, h2, q⟩ := h
  cases e
  simp only [xSeq, xSet, xRet, xIf, xExpr, xNext, xNever, xC, xNil, xCons, xTup, xLst, xOp, xEq, xNe, xUn, xNot, xAnd, xOr, xIfE, xCB, xCall, xCallB, xName, xAsg, xIsi3, toD_fz, toD_ow, toD_od, toD_bg, rd_var, rd_getv1, rd_getv2, rd_getv3, rd_test, rd_onB, rd_onI, rd_onSB, rd_andV, rd_orV, rd_notV, rd_chain, rd_II, rd_II0, rd_add1, rd_add2, rd_add3, rd_mul1, rd_mul2, rd_mul3, rd_isN, rd_notN, rd_isN1, rd_isN2, rd_isN3, rd_neg, rd_ix1, rd_ix2, rd_part, rd_sl, rd_onSl1, rd_onSl2, rd_rev, rd_onRv, rd_len1, rd_len2, rd_max2, rd_min2, rd_int1, rd_int2, rd_lst1, rd_lst2, rd_tup1, rd_tup2, rd_dm, rd_seqI, rd_onSq1, rd_onSq2, rd_rng1, rd_onR1, rd_rng2, rd_onR2, xEnumT, rd_onEt, rd_zip, rd_onZ1, rd_onZ2, rd_par, rd_onP, xPar3, rd_onP3, rd_gtup, rd_gnil, rd_gcons, rd_isi, ini, iniB, wipeD, unw, kf, List.map_cons, List.map_nil, List.replicate_succ, List.replicate_zero, List.cons_append, List.nil_append, List.length_cons, List.length_nil, List.getElem?_cons_zero, List.getElem?_cons_succ, List.set_cons_zero, List.set_cons_succ, decide_eq_true_eq, Nat.zero_add, Nat.reduceAdd, Nat.reduceSub, Nat.reduceLeDiff, true_and, Bool.false_eq_true, if_false, if_true, isi_int_non, isi_int_bl, isi_int_int, isi_int_str, isi_int_lst, isi_int_tup, isi_bool_non, isi_bool_bl, isi_bool_int, isi_bool_str, isi_bool_lst, isi_bool_tup, isi_list_non, isi_list_bl, isi_list_int, isi_list_str, isi_list_lst, isi_list_tup, isi_tuple_non, isi_tuple_bl, isi_tuple_int, isi_tuple_str, isi_tuple_lst, isi_tuple_tup, isi_str_non, isi_str_bl, isi_str_int, isi_str_str, isi_str_lst, isi_str_tup, Bool.not_true, Bool.not_false, Bool.or_false, Bool.or_true, Bool.false_or, Bool.true_or, ite_true, ite_false, Option.some.injEq, true_or, false_or, or_false, and_true]
  refine ⟨.int top, 1, 40, rfl, ?_⟩
  simp only [toD_fz, rd_onB, inR, decide_eq_true h1, decide_eq_true h2]
  exact q

def falling : List Int → Bool
  | x :: y :: r => decide (y < x) && falling (y :: r)
  | _ => true
def pairsOf (ns : List Int) : List (Int × Int) := ns.zip (ns.drop 1)
theorem falling_pairs : ∀ ns : List Int, ((pairsOf ns).map fun p => decide (p.2 < p.1)).all id = falling ns
  | [] => rfl
  | [_] => rfl
  | x :: y :: r => by
    have ih := falling_pairs (y :: r)
    simp only [pairsOf, List.drop_succ_cons, List.drop_zero, List.zip_cons_cons, List.map_cons, List.all_cons, id, falling] at ih ⊢
    rw [ih]
theorem cut1 (ns : List Int) : L3.cutD (ns.map D.int) (some 1) none = (ns.drop 1).map D.int := by
  unfold L3.cutD
  rw [show HT.sIx (ns.map D.int).length 0 (some 1) = min 1 (ns.map D.int).length from HT.sIx_nat (ns.map D.int).length 0 1, HT.sIx_none]
  cases ns with
  | nil => rfl
  | cons x r =>
    rw [show min 1 ((x :: r).map D.int).length = 1 by
      rw [List.map_cons, List.length_cons]
      omega]
    simp [List.take_of_length_le]
theorem zipD_ints : ∀ (ns ms : List Int), zipD (ns.map D.int) (ms.map D.int) = (ns.zip ms).map fun p => D.tup [.int p.1, .int p.2]
  | [], _ => by simp [zipD]
  | _ :: _, [] => by simp [zipD]
  | x :: ns, y :: ms => by
    have ih := zipD_ints ns ms
    simp only [zipD, List.map_cons, List.zip_cons_cons] at ih ⊢
    rw [ih]
def dp_falls : DP := fun ds Q _ => ∃ ns : List Int, ds = [.tup (ns.map D.int)] ∧ ns.length ≤ 100000 ∧ Q (.fz (.bl (falling ns)))

abbrev s_falls : Stmt := topS 14
theorem sc_falls : FnScope ["things", "one", "other"] ["things"] (defScope s_falls) := ⟨rfl, rfl, rfl, by decide +kernel, rfl, by decide +kernel, by decide +kernel⟩
theorem ok_falls {P : Program} {w : World} {K : PySem.W.Frag} {mg : Str → Option Value} {base : Heap} (B : Bt mg) (d : Df K mg "falls" s_falls ["things"])  : Fn P w K mg base "falls" (0 + 1) 1 dp_falls := by
  refine fn_mk d sc_falls rfl (by decide) fun f cdv A outer s H E C hr => ⟨_, _, (ds_one (ds_ret (d_callB (c_allK K rfl) (by rfl) B.all (by decide +kernel) (da_cons (d_lc [("one", 1), ("other", 2)] rfl sc_falls.nd (di_zipK K (by rfl) B.zip (da_cons (dv 0) (da_cons (d_slK K (dv 0) (do_some d_int) do_none) da_nil))) (blkOk_by (by show blkC ["things", "one", "other"] (defScope s_falls) _ [("one", 1), ("other", 2)] = true; decide +kernel)) (fun _ _ _ _ _ _ => (dg_tupK K (n := 2) rfl (dgs_cons (dg_name 1 sc_falls.nd) (dgs_cons (dg_name 2 sc_falls.nd) dgs_nil)))) (fun _ _ _ _ _ _ => dts_nil) (fun _ _ _ _ _ _ => (d_cmp o_gt (dv 1) (dv 2)))) da_nil)))), fun ds QD ED hl0 h => ?_⟩
  obtain ⟨a0, rfl⟩ : ∃ a0, ds = [a0] := by
    match ds, hl0 with
    | [a0], _ => exact ⟨a0, rfl⟩
  clear hl0
  obtain ⟨ns, e, hl, q⟩ := h
  cases e
  simp only [xSeq, xSet, xRet, xIf, xExpr, xNext, xNever, xC, xNil, xCons, xTup, xLst, xOp, xEq, xNe, xUn, xNot, xAnd, xOr, xIfE, xCB, xCall, xCallB, xName, xAsg, xIsi3, toD_fz, toD_ow, toD_od, toD_bg, rd_var, rd_getv1, rd_getv2, rd_getv3, rd_test, rd_onB, rd_onI, rd_onSB, rd_andV, rd_orV, rd_notV, rd_chain, rd_II, rd_II0, rd_add1, rd_add2, rd_add3, rd_mul1, rd_mul2, rd_mul3, rd_isN, rd_notN, rd_isN1, rd_isN2, rd_isN3, rd_neg, rd_ix1, rd_ix2, rd_part, rd_sl, rd_onSl1, rd_onSl2, rd_rev, rd_onRv, rd_len1, rd_len2, rd_max2, rd_min2, rd_int1, rd_int2, rd_lst1, rd_lst2, rd_tup1, rd_tup2, rd_dm, rd_seqI, rd_onSq1, rd_onSq2, rd_rng1, rd_onR1, rd_rng2, rd_onR2, xEnumT, rd_onEt, rd_zip, rd_onZ1, rd_onZ2, rd_par, rd_onP, xPar3, rd_onP3, rd_gtup, rd_gnil, rd_gcons, rd_isi, ini, iniB, wipeD, unw, kf, List.map_cons, List.map_nil, List.replicate_succ, List.replicate_zero, List.cons_append, List.nil_append, List.length_cons, List.length_nil, List.getElem?_cons_zero, List.getElem?_cons_succ, List.set_cons_zero, List.set_cons_succ, decide_eq_true_eq, Nat.zero_add, Nat.reduceAdd, Nat.reduceSub, Nat.reduceLeDiff, true_and, Bool.false_eq_true, if_false, if_true, isi_int_non, isi_int_bl, isi_int_int, isi_int_str, isi_int_lst, isi_int_tup, isi_bool_non, isi_bool_bl, isi_bool_int, isi_bool_str, isi_bool_lst, isi_bool_tup, isi_list_non, isi_list_bl, isi_list_int, isi_list_str, isi_list_lst, isi_list_tup, isi_tuple_non, isi_tuple_bl, isi_tuple_int, isi_tuple_str, isi_tuple_lst, isi_tuple_tup, isi_str_non, isi_str_bl, isi_str_int, isi_str_str, isi_str_lst, isi_str_tup, Bool.not_true, Bool.not_false, Bool.or_false, Bool.or_true, Bool.false_or, Bool.true_or, ite_true, ite_false, Option.some.injEq, true_or, false_or, or_false, and_true]
  refine lc_pure (pairsOf ns) (fun p => D.tup [.int p.1, .int p.2]) (fun _ => true) (fun p => .bl (decide (p.2 < p.1))) [some (.fz (.tup (ns.map D.int))), none, none] (fun QL hq => ?_) ?_ (fun a ha QD QN h1 h2 => ?_) ?_
  · simp only [xSeq, xSet, xRet, xIf, xExpr, xNext, xNever, xC, xNil, xCons, xTup, xLst, xOp, xEq, xNe, xUn, xNot, xAnd, xOr, xIfE, xCB, xCall, xCallB, xName, xAsg, xIsi3, toD_fz, toD_ow, toD_od, toD_bg, rd_var, rd_getv1, rd_getv2, rd_getv3, rd_test, rd_onB, rd_onI, rd_onSB, rd_andV, rd_orV, rd_notV, rd_chain, rd_II, rd_II0, rd_add1, rd_add2, rd_add3, rd_mul1, rd_mul2, rd_mul3, rd_isN, rd_notN, rd_isN1, rd_isN2, rd_isN3, rd_neg, rd_ix1, rd_ix2, rd_part, rd_sl, rd_onSl1, rd_onSl2, rd_rev, rd_onRv, rd_len1, rd_len2, rd_max2, rd_min2, rd_int1, rd_int2, rd_lst1, rd_lst2, rd_tup1, rd_tup2, rd_dm, rd_seqI, rd_onSq1, rd_onSq2, rd_rng1, rd_onR1, rd_rng2, rd_onR2, xEnumT, rd_onEt, rd_zip, rd_onZ1, rd_onZ2, rd_par, rd_onP, xPar3, rd_onP3, rd_gtup, rd_gnil, rd_gcons, rd_isi, ini, iniB, wipeD, unw, kf, List.map_cons, List.map_nil, List.replicate_succ, List.replicate_zero, List.cons_append, List.nil_append, List.length_cons, List.length_nil, List.getElem?_cons_zero, List.getElem?_cons_succ, List.set_cons_zero, List.set_cons_succ, decide_eq_true_eq, Nat.zero_add, Nat.reduceAdd, Nat.reduceSub, Nat.reduceLeDiff, true_and, Bool.false_eq_true, if_false, if_true, isi_int_non, isi_int_bl, isi_int_int, isi_int_str, isi_int_lst, isi_int_tup, isi_bool_non, isi_bool_bl, isi_bool_int, isi_bool_str, isi_bool_lst, isi_bool_tup, isi_list_non, isi_list_bl, isi_list_int, isi_list_str, isi_list_lst, isi_list_tup, isi_tuple_non, isi_tuple_bl, isi_tuple_int, isi_tuple_str, isi_tuple_lst, isi_tuple_tup, isi_str_non, isi_str_bl, isi_str_int, isi_str_str, isi_str_lst, isi_str_tup, Bool.not_true, Bool.not_false, Bool.or_false, Bool.or_true, Bool.false_or, Bool.true_or, ite_true, ite_false, Option.some.injEq, true_or, false_or, or_false, and_true]
    rw [cut1, zipD_ints]
    exact hq
  · simp only [pairsOf, List.length_zip, List.length_drop]
    omega
  · simp only [xSeq, xSet, xRet, xIf, xExpr, xNext, xNever, xC, xNil, xCons, xTup, xLst, xOp, xEq, xNe, xUn, xNot, xAnd, xOr, xIfE, xCB, xCall, xCallB, xName, xAsg, xIsi3, toD_fz, toD_ow, toD_od, toD_bg, rd_var, rd_getv1, rd_getv2, rd_getv3, rd_test, rd_onB, rd_onI, rd_onSB, rd_andV, rd_orV, rd_notV, rd_chain, rd_II, rd_II0, rd_add1, rd_add2, rd_add3, rd_mul1, rd_mul2, rd_mul3, rd_isN, rd_notN, rd_isN1, rd_isN2, rd_isN3, rd_neg, rd_ix1, rd_ix2, rd_part, rd_sl, rd_onSl1, rd_onSl2, rd_rev, rd_onRv, rd_len1, rd_len2, rd_max2, rd_min2, rd_int1, rd_int2, rd_lst1, rd_lst2, rd_tup1, rd_tup2, rd_dm, rd_seqI, rd_onSq1, rd_onSq2, rd_rng1, rd_onR1, rd_rng2, rd_onR2, xEnumT, rd_onEt, rd_zip, rd_onZ1, rd_onZ2, rd_par, rd_onP, xPar3, rd_onP3, rd_gtup, rd_gnil, rd_gcons, rd_isi, ini, iniB, wipeD, unw, kf, List.map_cons, List.map_nil, List.replicate_succ, List.replicate_zero, List.cons_append, List.nil_append, List.length_cons, List.length_nil, List.getElem?_cons_zero, List.getElem?_cons_succ, List.set_cons_zero, List.set_cons_succ, decide_eq_true_eq, Nat.zero_add, Nat.reduceAdd, Nat.reduceSub, Nat.reduceLeDiff, true_and, Bool.false_eq_true, if_false, if_true, isi_int_non, isi_int_bl, isi_int_int, isi_int_str, isi_int_lst, isi_int_tup, isi_bool_non, isi_bool_bl, isi_bool_int, isi_bool_str, isi_bool_lst, isi_bool_tup, isi_list_non, isi_list_bl, isi_list_int, isi_list_str, isi_list_lst, isi_list_tup, isi_tuple_non, isi_tuple_bl, isi_tuple_int, isi_tuple_str, isi_tuple_lst, isi_tuple_tup, isi_str_non, isi_str_bl, isi_str_int, isi_str_str, isi_str_lst, isi_str_tup, Bool.not_true, Bool.not_false, Bool.or_false, Bool.or_true, Bool.false_or, Bool.true_or, ite_true, ite_false, Option.some.injEq, true_or, false_or, or_false, and_true]
    exact h1 rfl
  · simp only [xSeq, xSet, xRet, xIf, xExpr, xNext, xNever, xC, xNil, xCons, xTup, xLst, xOp, xEq, xNe, xUn, xNot, xAnd, xOr, xIfE, xCB, xCall, xCallB, xName, xAsg, xIsi3, toD_fz, toD_ow, toD_od, toD_bg, rd_var, rd_getv1, rd_getv2, rd_getv3, rd_test, rd_onB, rd_onI, rd_onSB, rd_andV, rd_orV, rd_notV, rd_chain, rd_II, rd_II0, rd_add1, rd_add2, rd_add3, rd_mul1, rd_mul2, rd_mul3, rd_isN, rd_notN, rd_isN1, rd_isN2, rd_isN3, rd_neg, rd_ix1, rd_ix2, rd_part, rd_sl, rd_onSl1, rd_onSl2, rd_rev, rd_onRv, rd_len1, rd_len2, rd_max2, rd_min2, rd_int1, rd_int2, rd_lst1, rd_lst2, rd_tup1, rd_tup2, rd_dm, rd_seqI, rd_onSq1, rd_onSq2, rd_rng1, rd_onR1, rd_rng2, rd_onR2, xEnumT, rd_onEt, rd_zip, rd_onZ1, rd_onZ2, rd_par, rd_onP, xPar3, rd_onP3, rd_gtup, rd_gnil, rd_gcons, rd_isi, ini, iniB, wipeD, unw, kf, List.map_cons, List.map_nil, List.replicate_succ, List.replicate_zero, List.cons_append, List.nil_append, List.length_cons, List.length_nil, List.getElem?_cons_zero, List.getElem?_cons_succ, List.set_cons_zero, List.set_cons_succ, decide_eq_true_eq, Nat.zero_add, Nat.reduceAdd, Nat.reduceSub, Nat.reduceLeDiff, true_and, Bool.false_eq_true, if_false, if_true, isi_int_non, isi_int_bl, isi_int_int, isi_int_str, isi_int_lst, isi_int_tup, isi_bool_non, isi_bool_bl, isi_bool_int, isi_bool_str, isi_bool_lst, isi_bool_tup, isi_list_non, isi_list_bl, isi_list_int, isi_list_str, isi_list_lst, isi_list_tup, isi_tuple_non, isi_tuple_bl, isi_tuple_int, isi_tuple_str, isi_tuple_lst, isi_tuple_tup, isi_str_non, isi_str_bl, isi_str_int, isi_str_str, isi_str_lst, isi_str_tup, Bool.not_true, Bool.not_false, Bool.or_false, Bool.or_true, Bool.false_or, Bool.true_or, ite_true, ite_false, Option.some.injEq, true_or, false_or, or_false, and_true]
    refine ⟨(pairsOf ns).map fun p => decide (p.2 < p.1), by simp [List.filter_eq_self.mpr], ?_⟩
    rw [falling_pairs]
    exact q

def okAll (top : Int) (ns : List Int) : Bool := (ns.map fun x => decide (1 ≤ x) && decide (x ≤ top)).all id
def isMarks (top : Int) (ns : List Int) : Bool := decide (ns.length ≤ 8) && (okAll top ns && falling ns)
def dp_are_marks_of : DP := fun ds Q _ => ∃ (top : Int) (ns : List Int), ds = [.int top, .tup (ns.map D.int)] ∧ ns.length ≤ 100000 ∧ Q (.fz (.bl (isMarks top ns)))

abbrev s_are_marks_of : Stmt := topS 15
theorem sc_are_marks_of : FnScope ["top", "thing", "one"] ["top", "thing"] (defScope s_are_marks_of) := ⟨rfl, rfl, rfl, by decide +kernel, rfl, by decide +kernel, by decide +kernel⟩
theorem ok_are_marks_of {P : Program} {w : World} {K : PySem.W.Frag} {mg : Str → Option Value} {base : Heap} (B : Bt mg) (d : Df K mg "are_marks_of" s_are_marks_of ["top", "thing"]) (h_falls : Fn P w K mg base "falls" 1 1 dp_falls) (h_is_within : Fn P w K mg base "is_within" 2 3 dp_is_within) : Fn P w K mg base "are_marks_of" (2 + 1) 2 dp_are_marks_of := by
  refine fn_mk d sc_are_marks_of rfl (by decide) fun f cdv A outer s H E C hr => ⟨_, _, (ds_cons (ds_if (PWV.pt (dw_or (dt_not (dt_val (d_isi_tuple (by rfl) B.isinstance B.tuple (dv 1)))) (dw_or1 (dt_cmp o_gt (d_callB (c_lenK K) (by rfl) B.len PySem.boot_len (da_cons (dv 1) da_nil)) (d_globI (by rfl) B.MOST_MARKS))))) (ds_one (ds_ret d_bl)) ds_nil)
      (ds_one (ds_ret (d_and (d_callB (c_allK K rfl) (by rfl) B.all (by decide +kernel) (da_cons (d_lc [("one", 2)] rfl sc_are_marks_of.nd (di_seqK K (dv 1)) (blkOk_by (by show blkC ["top", "thing", "one"] (defScope s_are_marks_of) _ [("one", 2)] = true; decide +kernel)) (fun _ _ _ _ _ _ => (dg_name 2 sc_are_marks_of.nd)) (fun _ _ _ _ _ _ => dts_nil) (fun _ _ _ _ _ _ => (d_fnK h_is_within (hr.mono (by decide)) (da_cons (dv 2) (da_cons d_int (da_cons (dv 0) da_nil)))))) da_nil)) (d_one (d_fnK h_falls (hr.mono (by decide)) (da_cons (dv 1) da_nil))))))), fun ds QD ED hl0 h => ?_⟩
  obtain ⟨a0, a1, rfl⟩ : ∃ a0 a1, ds = [a0, a1] := by
    match ds, hl0 with
    | [a0, a1], _ => exact ⟨a0, a1, rfl⟩
  clear hl0
  obtain ⟨top, ns, e, hl, q⟩ := h
  cases e
  simp only [xSeq, xSet, xRet, xIf, xExpr, xNext, xNever, xC, xNil, xCons, xTup, xLst, xOp, xEq, xNe, xUn, xNot, xAnd, xOr, xIfE, xCB, xCall, xCallB, xName, xAsg, xIsi3, toD_fz, toD_ow, toD_od, toD_bg, rd_var, rd_getv1, rd_getv2, rd_getv3, rd_test, rd_onB, rd_onI, rd_onSB, rd_andV, rd_orV, rd_notV, rd_chain, rd_II, rd_II0, rd_add1, rd_add2, rd_add3, rd_mul1, rd_mul2, rd_mul3, rd_isN, rd_notN, rd_isN1, rd_isN2, rd_isN3, rd_neg, rd_ix1, rd_ix2, rd_part, rd_sl, rd_onSl1, rd_onSl2, rd_rev, rd_onRv, rd_len1, rd_len2, rd_max2, rd_min2, rd_int1, rd_int2, rd_lst1, rd_lst2, rd_tup1, rd_tup2, rd_dm, rd_seqI, rd_onSq1, rd_onSq2, rd_rng1, rd_onR1, rd_rng2, rd_onR2, xEnumT, rd_onEt, rd_zip, rd_onZ1, rd_onZ2, rd_par, rd_onP, xPar3, rd_onP3, rd_gtup, rd_gnil, rd_gcons, rd_isi, ini, iniB, wipeD, unw, kf, List.map_cons, List.map_nil, List.replicate_succ, List.replicate_zero, List.cons_append, List.nil_append, List.length_cons, List.length_nil, List.getElem?_cons_zero, List.getElem?_cons_succ, List.set_cons_zero, List.set_cons_succ, decide_eq_true_eq, Nat.zero_add, Nat.reduceAdd, Nat.reduceSub, Nat.reduceLeDiff, true_and, Bool.false_eq_true, if_false, if_true, isi_int_non, isi_int_bl, isi_int_int, isi_int_str, isi_int_lst, isi_int_tup, isi_bool_non, isi_bool_bl, isi_bool_int, isi_bool_str, isi_bool_lst, isi_bool_tup, isi_list_non, isi_list_bl, isi_list_int, isi_list_str, isi_list_lst, isi_list_tup, isi_tuple_non, isi_tuple_bl, isi_tuple_int, isi_tuple_str, isi_tuple_lst, isi_tuple_tup, isi_str_non, isi_str_bl, isi_str_int, isi_str_str, isi_str_lst, isi_str_tup, Bool.not_true, Bool.not_false, Bool.or_false, Bool.or_true, Bool.false_or, Bool.true_or, ite_true, ite_false, Option.some.injEq, true_or, false_or, or_false, and_true]
  simp only [List.length_map]
  refine ite2 (fun h8 => ?_) (fun h8 => ?_)
  · unfold isMarks at q
    rw [decide_eq_false (show ¬ ns.length ≤ 8 by omega), Bool.false_and] at q
    exact q
  · refine lc_pure ns D.int (fun _ => true) (fun x => .bl (decide (1 ≤ x) && decide (x ≤ top))) [some (.fz (.int top)), some (.fz (.tup (ns.map D.int))), none] (fun QL hq => ?_) hl (fun a ha QD QN h1 h2 => ?_) ?_
    · simp only [xSeq, xSet, xRet, xIf, xExpr, xNext, xNever, xC, xNil, xCons, xTup, xLst, xOp, xEq, xNe, xUn, xNot, xAnd, xOr, xIfE, xCB, xCall, xCallB, xName, xAsg, xIsi3, toD_fz, toD_ow, toD_od, toD_bg, rd_var, rd_getv1, rd_getv2, rd_getv3, rd_test, rd_onB, rd_onI, rd_onSB, rd_andV, rd_orV, rd_notV, rd_chain, rd_II, rd_II0, rd_add1, rd_add2, rd_add3, rd_mul1, rd_mul2, rd_mul3, rd_isN, rd_notN, rd_isN1, rd_isN2, rd_isN3, rd_neg, rd_ix1, rd_ix2, rd_part, rd_sl, rd_onSl1, rd_onSl2, rd_rev, rd_onRv, rd_len1, rd_len2, rd_max2, rd_min2, rd_int1, rd_int2, rd_lst1, rd_lst2, rd_tup1, rd_tup2, rd_dm, rd_seqI, rd_onSq1, rd_onSq2, rd_rng1, rd_onR1, rd_rng2, rd_onR2, xEnumT, rd_onEt, rd_zip, rd_onZ1, rd_onZ2, rd_par, rd_onP, xPar3, rd_onP3, rd_gtup, rd_gnil, rd_gcons, rd_isi, ini, iniB, wipeD, unw, kf, List.map_cons, List.map_nil, List.replicate_succ, List.replicate_zero, List.cons_append, List.nil_append, List.length_cons, List.length_nil, List.getElem?_cons_zero, List.getElem?_cons_succ, List.set_cons_zero, List.set_cons_succ, decide_eq_true_eq, Nat.zero_add, Nat.reduceAdd, Nat.reduceSub, Nat.reduceLeDiff, true_and, Bool.false_eq_true, if_false, if_true, isi_int_non, isi_int_bl, isi_int_int, isi_int_str, isi_int_lst, isi_int_tup, isi_bool_non, isi_bool_bl, isi_bool_int, isi_bool_str, isi_bool_lst, isi_bool_tup, isi_list_non, isi_list_bl, isi_list_int, isi_list_str, isi_list_lst, isi_list_tup, isi_tuple_non, isi_tuple_bl, isi_tuple_int, isi_tuple_str, isi_tuple_lst, isi_tuple_tup, isi_str_non, isi_str_bl, isi_str_int, isi_str_str, isi_str_lst, isi_str_tup, Bool.not_true, Bool.not_false, Bool.or_false, Bool.or_true, Bool.false_or, Bool.true_or, ite_true, ite_false, Option.some.injEq, true_or, false_or, or_false, and_true]
      exact hq
    · simp only [xSeq, xSet, xRet, xIf, xExpr, xNext, xNever, xC, xNil, xCons, xTup, xLst, xOp, xEq, xNe, xUn, xNot, xAnd, xOr, xIfE, xCB, xCall, xCallB, xName, xAsg, xIsi3, toD_fz, toD_ow, toD_od, toD_bg, rd_var, rd_getv1, rd_getv2, rd_getv3, rd_test, rd_onB, rd_onI, rd_onSB, rd_andV, rd_orV, rd_notV, rd_chain, rd_II, rd_II0, rd_add1, rd_add2, rd_add3, rd_mul1, rd_mul2, rd_mul3, rd_isN, rd_notN, rd_isN1, rd_isN2, rd_isN3, rd_neg, rd_ix1, rd_ix2, rd_part, rd_sl, rd_onSl1, rd_onSl2, rd_rev, rd_onRv, rd_len1, rd_len2, rd_max2, rd_min2, rd_int1, rd_int2, rd_lst1, rd_lst2, rd_tup1, rd_tup2, rd_dm, rd_seqI, rd_onSq1, rd_onSq2, rd_rng1, rd_onR1, rd_rng2, rd_onR2, xEnumT, rd_onEt, rd_zip, rd_onZ1, rd_onZ2, rd_par, rd_onP, xPar3, rd_onP3, rd_gtup, rd_gnil, rd_gcons, rd_isi, ini, iniB, wipeD, unw, kf, List.map_cons, List.map_nil, List.replicate_succ, List.replicate_zero, List.cons_append, List.nil_append, List.length_cons, List.length_nil, List.getElem?_cons_zero, List.getElem?_cons_succ, List.set_cons_zero, List.set_cons_succ, decide_eq_true_eq, Nat.zero_add, Nat.reduceAdd, Nat.reduceSub, Nat.reduceLeDiff, true_and, Bool.false_eq_true, if_false, if_true, isi_int_non, isi_int_bl, isi_int_int, isi_int_str, isi_int_lst, isi_int_tup, isi_bool_non, isi_bool_bl, isi_bool_int, isi_bool_str, isi_bool_lst, isi_bool_tup, isi_list_non, isi_list_bl, isi_list_int, isi_list_str, isi_list_lst, isi_list_tup, isi_tuple_non, isi_tuple_bl, isi_tuple_int, isi_tuple_str, isi_tuple_lst, isi_tuple_tup, isi_str_non, isi_str_bl, isi_str_int, isi_str_str, isi_str_lst, isi_str_tup, Bool.not_true, Bool.not_false, Bool.or_false, Bool.or_true, Bool.false_or, Bool.true_or, ite_true, ite_false, Option.some.injEq, true_or, false_or, or_false, and_true]
      exact ⟨.int a, 1, top, rfl, h1 rfl⟩
    · simp only [xSeq, xSet, xRet, xIf, xExpr, xNext, xNever, xC, xNil, xCons, xTup, xLst, xOp, xEq, xNe, xUn, xNot, xAnd, xOr, xIfE, xCB, xCall, xCallB, xName, xAsg, xIsi3, toD_fz, toD_ow, toD_od, toD_bg, rd_var, rd_getv1, rd_getv2, rd_getv3, rd_test, rd_onB, rd_onI, rd_onSB, rd_andV, rd_orV, rd_notV, rd_chain, rd_II, rd_II0, rd_add1, rd_add2, rd_add3, rd_mul1, rd_mul2, rd_mul3, rd_isN, rd_notN, rd_isN1, rd_isN2, rd_isN3, rd_neg, rd_ix1, rd_ix2, rd_part, rd_sl, rd_onSl1, rd_onSl2, rd_rev, rd_onRv, rd_len1, rd_len2, rd_max2, rd_min2, rd_int1, rd_int2, rd_lst1, rd_lst2, rd_tup1, rd_tup2, rd_dm, rd_seqI, rd_onSq1, rd_onSq2, rd_rng1, rd_onR1, rd_rng2, rd_onR2, xEnumT, rd_onEt, rd_zip, rd_onZ1, rd_onZ2, rd_par, rd_onP, xPar3, rd_onP3, rd_gtup, rd_gnil, rd_gcons, rd_isi, ini, iniB, wipeD, unw, kf, List.map_cons, List.map_nil, List.replicate_succ, List.replicate_zero, List.cons_append, List.nil_append, List.length_cons, List.length_nil, List.getElem?_cons_zero, List.getElem?_cons_succ, List.set_cons_zero, List.set_cons_succ, decide_eq_true_eq, Nat.zero_add, Nat.reduceAdd, Nat.reduceSub, Nat.reduceLeDiff, true_and, Bool.false_eq_true, if_false, if_true, isi_int_non, isi_int_bl, isi_int_int, isi_int_str, isi_int_lst, isi_int_tup, isi_bool_non, isi_bool_bl, isi_bool_int, isi_bool_str, isi_bool_lst, isi_bool_tup, isi_list_non, isi_list_bl, isi_list_int, isi_list_str, isi_list_lst, isi_list_tup, isi_tuple_non, isi_tuple_bl, isi_tuple_int, isi_tuple_str, isi_tuple_lst, isi_tuple_tup, isi_str_non, isi_str_bl, isi_str_int, isi_str_str, isi_str_lst, isi_str_tup, Bool.not_true, Bool.not_false, Bool.or_false, Bool.or_true, Bool.false_or, Bool.true_or, ite_true, ite_false, Option.some.injEq, true_or, false_or, or_false, and_true]
      refine ⟨ns.map fun x => decide (1 ≤ x) && decide (x ≤ top), by simp [List.filter_eq_self.mpr], ?_⟩
      unfold isMarks at q
      rw [decide_eq_true (show ns.length ≤ 8 by omega), Bool.true_and] at q
      simp only [xSeq, xSet, xRet, xIf, xExpr, xNext, xNever, xC, xNil, xCons, xTup, xLst, xOp, xEq, xNe, xUn, xNot, xAnd, xOr, xIfE, xCB, xCall, xCallB, xName, xAsg, xIsi3, toD_fz, toD_ow, toD_od, toD_bg, rd_var, rd_getv1, rd_getv2, rd_getv3, rd_test, rd_onB, rd_onI, rd_onSB, rd_andV, rd_orV, rd_notV, rd_chain, rd_II, rd_II0, rd_add1, rd_add2, rd_add3, rd_mul1, rd_mul2, rd_mul3, rd_isN, rd_notN, rd_isN1, rd_isN2, rd_isN3, rd_neg, rd_ix1, rd_ix2, rd_part, rd_sl, rd_onSl1, rd_onSl2, rd_rev, rd_onRv, rd_len1, rd_len2, rd_max2, rd_min2, rd_int1, rd_int2, rd_lst1, rd_lst2, rd_tup1, rd_tup2, rd_dm, rd_seqI, rd_onSq1, rd_onSq2, rd_rng1, rd_onR1, rd_rng2, rd_onR2, xEnumT, rd_onEt, rd_zip, rd_onZ1, rd_onZ2, rd_par, rd_onP, xPar3, rd_onP3, rd_gtup, rd_gnil, rd_gcons, rd_isi, ini, iniB, wipeD, unw, kf, List.map_cons, List.map_nil, List.replicate_succ, List.replicate_zero, List.cons_append, List.nil_append, List.length_cons, List.length_nil, List.getElem?_cons_zero, List.getElem?_cons_succ, List.set_cons_zero, List.set_cons_succ, decide_eq_true_eq, Nat.zero_add, Nat.reduceAdd, Nat.reduceSub, Nat.reduceLeDiff, true_and, Bool.false_eq_true, if_false, if_true, isi_int_non, isi_int_bl, isi_int_int, isi_int_str, isi_int_lst, isi_int_tup, isi_bool_non, isi_bool_bl, isi_bool_int, isi_bool_str, isi_bool_lst, isi_bool_tup, isi_list_non, isi_list_bl, isi_list_int, isi_list_str, isi_list_lst, isi_list_tup, isi_tuple_non, isi_tuple_bl, isi_tuple_int, isi_tuple_str, isi_tuple_lst, isi_tuple_tup, isi_str_non, isi_str_bl, isi_str_int, isi_str_str, isi_str_lst, isi_str_tup, Bool.not_true, Bool.not_false, Bool.or_false, Bool.or_true, Bool.false_or, Bool.true_or, ite_true, ite_false, Option.some.injEq, true_or, false_or, or_false, and_true]
      refine ite2 (fun h1 => ?_) (fun h1 => ?_)
      · refine ⟨ns, rfl, hl, ?_⟩
        rw [show okAll top ns = true from h1, Bool.true_and] at q
        exact q
      · rw [show okAll top ns = false from Bool.eq_false_iff.mpr h1, Bool.false_and] at q
        exact q

theorem isMarks_len {top : Int} {ns : List Int} (h : isMarks top ns = true) : ns.length ≤ 8 := by
  unfold isMarks at h
  simp only [Bool.and_eq_true, decide_eq_true_eq] at h
  exact h.1
def dp_look_at_marks : DP := fun ds Q _ => ∃ (top : Int) (ns : List Int), ds = [.int top, .tup (ns.map D.int)] ∧ 1 ≤ top ∧ top ≤ 40 ∧ isMarks top ns = true ∧ Q (.fz .non)

abbrev s_look_at_marks : Stmt := topS 16
theorem sc_look_at_marks : FnScope ["top", "marks"] ["top", "marks"] (defScope s_look_at_marks) := ⟨rfl, rfl, rfl, by decide +kernel, rfl, by decide +kernel, by decide +kernel⟩
theorem ok_look_at_marks {P : Program} {w : World} {K : PySem.W.Frag} {mg : Str → Option Value} {base : Heap} (B : Bt mg) (d : Df K mg "look_at_marks" s_look_at_marks ["top", "marks"]) (h_are_marks_of : Fn P w K mg base "are_marks_of" 3 2 dp_are_marks_of) (h_look_at_top : Fn P w K mg base "look_at_top" 3 1 dp_look_at_top) : Fn P w K mg base "look_at_marks" (3 + 1) 2 dp_look_at_marks := by
  refine fn_mk d sc_look_at_marks rfl (by decide) fun f cdv A outer s H E C hr => ⟨_, _, (ds_cons (ds_expr (d_fnK h_look_at_top (hr.mono (by decide)) (da_cons (dv 0) da_nil)))
      (ds_one (ds_if (dt_not (dt_val (d_fnK h_are_marks_of (hr.mono (by decide)) (da_cons (dv 0) (da_cons (dv 1) da_nil))))) (ds_one ds_never) ds_nil))), fun ds QD ED hl0 h => ?_⟩
  obtain ⟨a0, a1, rfl⟩ : ∃ a0 a1, ds = [a0, a1] := by
    match ds, hl0 with
    | [a0, a1], _ => exact ⟨a0, a1, rfl⟩
  clear hl0
  obtain ⟨top, ns, e, t1, t2, hm, q⟩ := h
  cases e
  simp only [xSeq, xSet, xRet, xIf, xExpr, xNext, xNever, xC, xNil, xCons, xTup, xLst, xOp, xEq, xNe, xUn, xNot, xAnd, xOr, xIfE, xCB, xCall, xCallB, xName, xAsg, xIsi3, toD_fz, toD_ow, toD_od, toD_bg, rd_var, rd_getv1, rd_getv2, rd_getv3, rd_test, rd_onB, rd_onI, rd_onSB, rd_andV, rd_orV, rd_notV, rd_chain, rd_II, rd_II0, rd_add1, rd_add2, rd_add3, rd_mul1, rd_mul2, rd_mul3, rd_isN, rd_notN, rd_isN1, rd_isN2, rd_isN3, rd_neg, rd_ix1, rd_ix2, rd_part, rd_sl, rd_onSl1, rd_onSl2, rd_rev, rd_onRv, rd_len1, rd_len2, rd_max2, rd_min2, rd_int1, rd_int2, rd_lst1, rd_lst2, rd_tup1, rd_tup2, rd_dm, rd_seqI, rd_onSq1, rd_onSq2, rd_rng1, rd_onR1, rd_rng2, rd_onR2, xEnumT, rd_onEt, rd_zip, rd_onZ1, rd_onZ2, rd_par, rd_onP, xPar3, rd_onP3, rd_gtup, rd_gnil, rd_gcons, rd_isi, ini, iniB, wipeD, unw, kf, List.map_cons, List.map_nil, List.replicate_succ, List.replicate_zero, List.cons_append, List.nil_append, List.length_cons, List.length_nil, List.getElem?_cons_zero, List.getElem?_cons_succ, List.set_cons_zero, List.set_cons_succ, decide_eq_true_eq, Nat.zero_add, Nat.reduceAdd, Nat.reduceSub, Nat.reduceLeDiff, true_and, Bool.false_eq_true, if_false, if_true, isi_int_non, isi_int_bl, isi_int_int, isi_int_str, isi_int_lst, isi_int_tup, isi_bool_non, isi_bool_bl, isi_bool_int, isi_bool_str, isi_bool_lst, isi_bool_tup, isi_list_non, isi_list_bl, isi_list_int, isi_list_str, isi_list_lst, isi_list_tup, isi_tuple_non, isi_tuple_bl, isi_tuple_int, isi_tuple_str, isi_tuple_lst, isi_tuple_tup, isi_str_non, isi_str_bl, isi_str_int, isi_str_str, isi_str_lst, isi_str_tup, Bool.not_true, Bool.not_false, Bool.or_false, Bool.or_true, Bool.false_or, Bool.true_or, ite_true, ite_false, Option.some.injEq, true_or, false_or, or_false, and_true]
  refine ⟨top, rfl, t1, t2, top, ns, rfl, by have := isMarks_len hm; omega, ?_⟩
  rw [hm]
  exact q

def dp_look_at_many : DP := fun ds Q _ => ∃ many most : Int, ds = [.int many, .int most] ∧ 0 ≤ many ∧ many ≤ most ∧ Q (.fz .non)

abbrev s_look_at_many : Stmt := topS 17
theorem sc_look_at_many : FnScope ["many", "most"] ["many", "most"] (defScope s_look_at_many) := ⟨rfl, rfl, rfl, by decide +kernel, rfl, by decide +kernel, by decide +kernel⟩
theorem ok_look_at_many {P : Program} {w : World} {K : PySem.W.Frag} {mg : Str → Option Value} {base : Heap} (B : Bt mg) (d : Df K mg "look_at_many" s_look_at_many ["many", "most"]) (h_is_within : Fn P w K mg base "is_within" 2 3 dp_is_within) : Fn P w K mg base "look_at_many" (2 + 1) 2 dp_look_at_many := by
  refine fn_mk d sc_look_at_many rfl (by decide) fun f cdv A outer s H E C hr => ⟨_, _, (ds_one (ds_if (dt_not (dt_val (d_fnK h_is_within (hr.mono (by decide)) (da_cons (dv 0) (da_cons d_int (da_cons (dv 1) da_nil)))))) (ds_one ds_never) ds_nil)), fun ds QD ED hl0 h => ?_⟩
  obtain ⟨a0, a1, rfl⟩ : ∃ a0 a1, ds = [a0, a1] := by
    match ds, hl0 with
    | [a0, a1], _ => exact ⟨a0, a1, rfl⟩
  clear hl0
  obtain ⟨many, most, e, h1, h2, q⟩ := h
  cases e
  simp only [xSeq, xSet, xRet, xIf, xExpr, xNext, xNever, xC, xNil, xCons, xTup, xLst, xOp, xEq, xNe, xUn, xNot, xAnd, xOr, xIfE, xCB, xCall, xCallB, xName, xAsg, xIsi3, toD_fz, toD_ow, toD_od, toD_bg, rd_var, rd_getv1, rd_getv2, rd_getv3, rd_test, rd_onB, rd_onI, rd_onSB, rd_andV, rd_orV, rd_notV, rd_chain, rd_II, rd_II0, rd_add1, rd_add2, rd_add3, rd_mul1, rd_mul2, rd_mul3, rd_isN, rd_notN, rd_isN1, rd_isN2, rd_isN3, rd_neg, rd_ix1, rd_ix2, rd_part, rd_sl, rd_onSl1, rd_onSl2, rd_rev, rd_onRv, rd_len1, rd_len2, rd_max2, rd_min2, rd_int1, rd_int2, rd_lst1, rd_lst2, rd_tup1, rd_tup2, rd_dm, rd_seqI, rd_onSq1, rd_onSq2, rd_rng1, rd_onR1, rd_rng2, rd_onR2, xEnumT, rd_onEt, rd_zip, rd_onZ1, rd_onZ2, rd_par, rd_onP, xPar3, rd_onP3, rd_gtup, rd_gnil, rd_gcons, rd_isi, ini, iniB, wipeD, unw, kf, List.map_cons, List.map_nil, List.replicate_succ, List.replicate_zero, List.cons_append, List.nil_append, List.length_cons, List.length_nil, List.getElem?_cons_zero, List.getElem?_cons_succ, List.set_cons_zero, List.set_cons_succ, decide_eq_true_eq, Nat.zero_add, Nat.reduceAdd, Nat.reduceSub, Nat.reduceLeDiff, true_and, Bool.false_eq_true, if_false, if_true, isi_int_non, isi_int_bl, isi_int_int, isi_int_str, isi_int_lst, isi_int_tup, isi_bool_non, isi_bool_bl, isi_bool_int, isi_bool_str, isi_bool_lst, isi_bool_tup, isi_list_non, isi_list_bl, isi_list_int, isi_list_str, isi_list_lst, isi_list_tup, isi_tuple_non, isi_tuple_bl, isi_tuple_int, isi_tuple_str, isi_tuple_lst, isi_tuple_tup, isi_str_non, isi_str_bl, isi_str_int, isi_str_str, isi_str_lst, isi_str_tup, Bool.not_true, Bool.not_false, Bool.or_false, Bool.or_true, Bool.false_or, Bool.true_or, ite_true, ite_false, Option.some.injEq, true_or, false_or, or_false, and_true]
  refine ⟨.int many, 0, most, rfl, ?_⟩
  simp only [toD_fz, rd_onB, inR, decide_eq_true h1, decide_eq_true h2]
  exact q

/-! ### sums of products, mathematics -/
def hstep (f : Nat → Int) (x : Int) : Nat → Int
  | 0 => 1
  | n + 1 => f (n + 1) + x * hstep f x n
def hh : List Int → Nat → Int
  | [] => fun n => if n = 0 then 1 else 0
  | x :: r => hstep (hh r) x
theorem hh_zero : ∀ l : List Int, hh l 0 = 1
  | [] => rfl
  | _ :: _ => rfl
theorem hh_succ (x : Int) (r : List Int) (n : Nat) : hh (x :: r) (n + 1) = hh r (n + 1) + x * hh (x :: r) n := rfl
theorem hstep_swap (f : Nat → Int) (x y : Int) : ∀ n, hstep (hstep f y) x n = hstep (hstep f x) y n ∧ hstep (hstep f y) x (n + 1) = hstep (hstep f x) y (n + 1)
  | 0 => by
    refine ⟨rfl, ?_⟩
    show f 1 + y * 1 + x * 1 = f 1 + x * 1 + y * 1
    omega
  | n + 1 => by
    obtain ⟨h1, h2⟩ := hstep_swap f x y n
    refine ⟨h2, ?_⟩
    have a1 : hstep (hstep f y) x (n + 1 + 1) = f (n + 1 + 1) + y * hstep f y (n + 1) + x * hstep (hstep f y) x (n + 1) := rfl
    have a2 : hstep (hstep f x) y (n + 1 + 1) = f (n + 1 + 1) + x * hstep f x (n + 1) + y * hstep (hstep f x) y (n + 1) := rfl
    have b1 : hstep (hstep f y) x (n + 1) = hstep f y (n + 1) + x * hstep (hstep f y) x n := rfl
    have b2 : hstep (hstep f x) y (n + 1) = hstep f x (n + 1) + y * hstep (hstep f x) y n := rfl
    have c1 : hstep f y (n + 1) = hstep (hstep f y) x (n + 1) - x * hstep (hstep f y) x n := by rw [b1]; omega
    have c2 : hstep f x (n + 1) = hstep (hstep f y) x (n + 1) - y * hstep (hstep f y) x n := by rw [h2, h1, b2]; omega
    rw [a1, a2, ← h2, c1, c2, Int.mul_sub, Int.mul_sub, ← Int.mul_assoc, ← Int.mul_assoc, Int.mul_comm y x]
    omega
theorem hh_perm {l m : List Int} (p : l.Perm m) : hh l = hh m := by
  induction p with
  | nil => rfl
  | cons x _ ih => show hstep _ x = hstep _ x; rw [ih]
  | swap x y l => funext n; exact (hstep_swap (hh l) y x n).1
  | trans _ _ h1 h2 => exact h1.trans h2
theorem hh_single (x : Int) : ∀ n : Nat, hh [x] n = x ^ n
  | 0 => (Int.pow_zero x).symm
  | n + 1 => by
    rw [hh_succ, hh_single x n, Int.pow_succ]
    show (if n + 1 = 0 then (1 : Int) else 0) + x * x ^ n = _
    rw [if_neg (by omega), Int.zero_add, Int.mul_comm]
def bnd (k n : Nat) : Nat := 2 ^ k * 80 ^ n
theorem bnd_pos (k n : Nat) : 1 ≤ bnd k n := Nat.mul_pos (Nat.pow_pos (by decide)) (Nat.pow_pos (by decide))
theorem bnd_step (k n : Nat) : bnd (k + 1) (n + 1) = bnd k (n + 1) + 40 * bnd (k + 1) n := by
  unfold bnd
  rw [Nat.pow_succ, Nat.pow_succ, Nat.mul_mul_mul_comm, ← Nat.mul_assoc (2 ^ k) (80 ^ n) 80, Nat.mul_right_comm (2 ^ k) 2 (80 ^ n)]
  omega
theorem bnd_mono {k k' n n' : Nat} (h1 : k ≤ k') (h2 : n ≤ n') : bnd k n ≤ bnd k' n' := Nat.mul_le_mul (Nat.pow_le_pow_right (by decide) h1) (Nat.pow_le_pow_right (by decide) h2)
def low40 (l : List Int) : Prop := ∀ x ∈ l, 1 ≤ x ∧ x ≤ 40
theorem hh_bnd : ∀ (l : List Int), low40 l → ∀ n, 0 ≤ hh l n ∧ hh l n ≤ (bnd l.length n : Nat)
  | [], _, n => by
    show 0 ≤ (if n = 0 then (1 : Int) else 0) ∧ (if n = 0 then (1 : Int) else 0) ≤ (bnd 0 n : Nat)
    have := bnd_pos 0 n
    split <;> omega
  | x :: r, h, 0 => by
    have := bnd_pos (x :: r).length 0
    rw [hh_zero]
    omega
  | x :: r, h, n + 1 => by
    have h1 := hh_bnd r (fun y hy => h y (by simp [hy])) (n + 1)
    have h2 := hh_bnd (x :: r) h n
    have hx := h x (by simp)
    rw [hh_succ]
    have e := bnd_step r.length n
    have m0 : 0 ≤ x * hh (x :: r) n := Int.mul_nonneg (by omega) h2.1
    have m1 : x * hh (x :: r) n ≤ 40 * hh (x :: r) n := Int.mul_le_mul_of_nonneg_right hx.2 h2.1
    have l : (x :: r).length = r.length + 1 := rfl
    rw [l] at h2 ⊢
    rw [e]
    omega
theorem hh_small {l : List Int} {n : Nat} (h : low40 l) (hl : l.length ≤ 8) (hn : n ≤ 40) : (hh l n).natAbs < 2 ^ 300 := by
  have h1 := hh_bnd l h n
  have h2 := bnd_mono hl hn
  have h3 : bnd 8 40 < 2 ^ 300 := by decide +kernel
  omega
/-- with the sign of the number told -/
def hz (l : List Int) (n : Int) : Int := if 0 ≤ n then hh l n.toNat else 0
theorem hz_rec (x : Int) (r : List Int) (j : Int) : hz (x :: r) j = hz r j + x * hz (x :: r) (j - 1) := by
  unfold hz
  rcases Int.lt_or_le j 0 with h | h
  · rw [if_neg (by omega), if_neg (by omega), if_neg (by omega), Int.mul_zero]; rfl
  · by_cases h0 : j = 0
    · subst h0
      rw [if_pos (by decide), if_pos (by decide), if_neg (by decide), Int.mul_zero]
      show hh (x :: r) 0 = hh r 0 + 0
      rw [hh_zero, hh_zero]; rfl
    · obtain ⟨n, rfl⟩ : ∃ n : Nat, j = (n : Int) + 1 := ⟨(j - 1).toNat, by omega⟩
      rw [if_pos (by omega), if_pos (by omega), if_pos (by omega), show ((n : Int) + 1).toNat = n + 1 from by omega, show ((n : Int) + 1 - 1).toNat = n from by omega]
      exact hh_succ x r n
/-! ### sums over the first so many -/
def sg (k : Nat) (f : Nat → Int) : Int := ((List.range k).map f).sum
theorem sg_zero (f : Nat → Int) : sg 0 f = 0 := rfl
theorem sg_succ (k : Nat) (f : Nat → Int) : sg (k + 1) f = sg k f + f k := by
  unfold sg
  rw [List.range_succ, List.map_append, List.sum_append]
  simp
theorem sg_cong {k : Nat} {f g : Nat → Int} (h : ∀ t, t < k → f t = g t) : sg k f = sg k g := by
  unfold sg
  congr 1
  exact List.map_congr_left fun t ht => h t (List.mem_range.mp ht)
theorem sg_add (k : Nat) (f g : Nat → Int) : sg k (fun t => f t + g t) = sg k f + sg k g := by
  induction k with
  | zero => rfl
  | succ k ih => rw [sg_succ, sg_succ, sg_succ, ih]; omega
theorem sg_mulr (k : Nat) (f : Nat → Int) (c : Int) : sg k (fun t => f t * c) = sg k f * c := by
  induction k with
  | zero => rw [sg_zero, sg_zero, Int.zero_mul]
  | succ k ih => rw [sg_succ, sg_succ, ih, Int.add_mul]
theorem sg_mull (k : Nat) (f : Nat → Int) (c : Int) : sg k (fun t => c * f t) = c * sg k f := by
  induction k with
  | zero => rw [sg_zero, sg_zero, Int.mul_zero]
  | succ k ih => rw [sg_succ, sg_succ, ih, Int.mul_add]
theorem sg_none (k : Nat) : sg k (fun _ => 0) = 0 := by
  induction k with
  | zero => rfl
  | succ k ih => rw [sg_succ, ih]; rfl
theorem sg_swap (a b : Nat) (f : Nat → Nat → Int) : sg a (fun t => sg b (fun s => f t s)) = sg b (fun s => sg a (fun t => f t s)) := by
  induction a with
  | zero => simp only [sg_zero]; rw [sg_none]
  | succ a ih =>
    rw [sg_succ, ih, ← sg_add]
    exact sg_cong fun s _ => (sg_succ a (fun t => f t s)).symm
theorem sg_mod {k : Nat} {f g : Nat → Int} {m : Int} (h : ∀ t, t < k → f t % m = g t % m) : sg k f % m = sg k g % m := by
  induction k with
  | zero => rfl
  | succ k ih => rw [sg_succ, sg_succ, Int.add_emod, ih (fun t ht => h t (by omega)), h k (by omega), ← Int.add_emod]
theorem sg_trunc (k j : Nat) (hj : j < k) (f : Nat → Int) : sg k (fun t => if t ≤ j then f t else 0) = sg (j + 1) f := by
  induction k with
  | zero => omega
  | succ k ih =>
    rw [sg_succ]
    by_cases h : j < k
    · rw [ih h, if_neg (by omega)]; omega
    · have e : j = k := by omega
      subst e
      rw [if_pos (Nat.le_refl _), sg_succ]
      congr 1
      exact sg_cong fun t ht => if_pos (by omega)
theorem sg_nonneg {k : Nat} {f : Nat → Int} (h : ∀ t, t < k → 0 ≤ f t) : 0 ≤ sg k f := by
  induction k with
  | zero => exact Int.le_refl 0
  | succ k ih => rw [sg_succ]; have := ih (fun t ht => h t (by omega)); have := h k (by omega); omega
/-! ### rows by square tables -/
def vact (k : Nat) (B : Nat → Nat → Int) (u : Nat → Int) : Nat → Int := fun j => sg k fun t => u t * B t j
def mm (k : Nat) (A B : Nat → Nat → Int) : Nat → Nat → Int := fun i j => sg k fun t => A i t * B t j
def acts (k : Nat) (B : Nat → Nat → Int) : Nat → (Nat → Int) → Nat → Int
  | 0, u => u
  | n + 1, u => acts k B n (vact k B u)
theorem vact_mm (k : Nat) (B : Nat → Nat → Int) (u : Nat → Int) : vact k (mm k B B) u = vact k B (vact k B u) := by
  funext j
  show sg k (fun t => u t * sg k fun s => B t s * B s j) = sg k fun s => (sg k fun t => u t * B t s) * B s j
  have e1 : (fun t => u t * sg k fun s => B t s * B s j) = fun t => sg k fun s => u t * B t s * B s j := by
    funext t
    rw [← sg_mull]
    exact sg_cong fun s _ => (Int.mul_assoc _ _ _).symm
  rw [e1, sg_swap]
  exact sg_cong fun s _ => sg_mulr k (fun t => u t * B t s) (B s j)
theorem acts_two (k : Nat) (B : Nat → Nat → Int) : ∀ (n : Nat) (u : Nat → Int), acts k B (2 * n) u = acts k (mm k B B) n u
  | 0, _ => rfl
  | n + 1, u => by
    show acts k B (2 * n + 1 + 1) u = _
    show acts k B (2 * n) (vact k B (vact k B u)) = acts k (mm k B B) n (vact k (mm k B B) u)
    rw [vact_mm, acts_two k B n]
theorem acts_last (k : Nat) (B : Nat → Nat → Int) : ∀ (n : Nat) (u : Nat → Int), acts k B (n + 1) u = vact k B (acts k B n u)
  | 0, _ => rfl
  | n + 1, u => by
    show acts k B (n + 1) (vact k B u) = vact k B (acts k B n (vact k B u))
    exact acts_last k B n (vact k B u)
def eqm (k : Nat) (m : Int) (u v : Nat → Int) : Prop := ∀ j, j < k → u j % m = v j % m
theorem vact_cong {k : Nat} {m : Int} {B B' : Nat → Nat → Int} {u v : Nat → Int} (hu : eqm k m u v) (hB : ∀ t, t < k → eqm k m (B t) (B' t)) : eqm k m (vact k B u) (vact k B' v) := fun j hj =>
  sg_mod fun t ht => by rw [Int.mul_emod, hu t ht, hB t ht j hj, ← Int.mul_emod]
theorem acts_cong {k : Nat} {m : Int} {B B' : Nat → Nat → Int} (hB : ∀ t, t < k → eqm k m (B t) (B' t)) : ∀ (n : Nat) {u v : Nat → Int}, eqm k m u v → eqm k m (acts k B n u) (acts k B' n v)
  | 0, _, _, h => h
  | n + 1, _, _, h => acts_cong hB n (vact_cong h hB)
def upT (h : Nat → Int) : Nat → Nat → Int := fun t j => if t ≤ j then h j else 0
def row0 : Nat → Int := fun t => if t = 0 then 1 else 0
def gT (hs : List Int) (n : Nat) : Nat → Int := acts hs.length (upT fun j => hs.getD j 0) n row0
theorem sg_row0 : ∀ j, sg (j + 1) row0 = 1
  | 0 => rfl
  | j + 1 => by rw [sg_succ, sg_row0 j]; rfl
theorem gT_sum (hs : List Int) : ∀ (n j : Nat), j ≤ hs.length → (1 ≤ j ∨ 1 ≤ n) → sg j (gT hs n) = hh (hs.take j).reverse n
  | 0, 0, _, h => by omega
  | 0, j + 1, _, _ => by rw [hh_zero]; exact sg_row0 j
  | n + 1, 0, _, _ => rfl
  | n + 1, j + 1, hj, _ => by
    have ih1 := gT_sum hs (n + 1) j (by omega) (by omega)
    have ih2 := gT_sum hs n (j + 1) hj (by omega)
    have e : gT hs (n + 1) j = hs.getD j 0 * sg (j + 1) (gT hs n) := by
      show acts _ _ (n + 1) _ j = _
      rw [acts_last]
      show sg hs.length (fun t => gT hs n t * (if t ≤ j then hs.getD j 0 else 0)) = _
      rw [← sg_mull, ← sg_trunc hs.length j (by omega)]
      refine sg_cong fun t _ => ?_
      split
      · exact Int.mul_comm _ _
      · exact Int.mul_zero _
    have et : (hs.take (j + 1)).reverse = hs.getD j 0 :: (hs.take j).reverse := by
      rw [List.take_add_one, List.getElem?_eq_getElem (by omega), List.reverse_append, List.getD_eq_getElem?_getD, List.getElem?_eq_getElem (by omega)]
      rfl
    rw [sg_succ, ih1, e, ih2, et, hh_succ]
theorem gT_all (hs : List Int) (n : Nat) (h : 1 ≤ hs.length) : sg hs.length (gT hs n) = hh hs n := by
  rw [gT_sum hs n hs.length (Nat.le_refl _) (.inl h), List.take_length, hh_perm (List.reverse_perm hs)]

theorem atI_rng {m i : Nat} {z : Int} {f : Nat → D} (e : z = (i : Int)) (h : i < m) : atI ((List.range m).map f) z = some (f i) := by
  subst e
  exact atI_nat (by rw [List.getElem?_map, List.getElem?_range h]; rfl)
theorem set_rng {m i : Nat} {f : Nat → D} {d : D} : ((List.range m).map f).set i d = (List.range m).map fun j => if j = i then d else f j := by
  refine List.ext_getElem? fun j => ?_
  rw [List.getElem?_set, List.getElem?_map]
  simp only [List.length_map, List.length_range]
  by_cases hj : j < m
  · rw [List.getElem?_map, List.getElem?_range hj]
    by_cases e : i = j
    · subst e; simp [hj]
    · rw [if_neg e]; simp [Ne.symm e]
  · rw [List.getElem?_map, List.getElem?_eq_none (by rw [List.length_range]; omega)]
    by_cases e : i = j
    · subst e; simp [hj]
    · rw [if_neg e]; rfl
theorem lc_all {α : Type} (as : List α) (ι : α → D) (f : α → D) {ti : DI} {g : DG} {tt : DT} {te : DE} {vs : List Nat} {ρ : En} {Q : S → En → Prop}
    (hi : ∀ QL : List D → En → Prop, QL (as.map ι) ρ → ti ρ QL) (hl : as.length ≤ 100000)
    (hs : ∀ a ∈ as, ∀ QD : D → En → Prop, ∀ QN : En → Prop, QD (f a) (wipeD ρ vs) → g (ι a) (wipeD ρ vs) fun ρ2 => tt ρ2 fun b ρ3 => if b = true then te ρ3 fun s ρ4 => QD s.toD (wipeD ρ4 vs) else QN (wipeD ρ3 vs))
    (q : Q (.ow (as.map f)) (unw ρ (wipeD ρ vs) vs)) : xLc ti g tt te vs ρ Q :=
  lc_pure0 as ι (fun _ => true) f hi hl (fun a ha QD QN h1 _ => hs a ha QD QN (h1 rfl)) (by rw [List.filter_eq_self.mpr fun _ _ => rfl]; exact q)
def dp_sums_to : DP := fun ds Q _ => ∃ (l : List Int) (n : Nat), ds = [.tup (l.map D.int), .int n] ∧ l.length ≤ 8 ∧ low40 l ∧ n ≤ 40 ∧ Q (.fz (.lst ((List.range (n + 1)).map fun j => .int (hh l j))))

abbrev s_sums_to : Stmt := topS 19
theorem sc_sums_to : FnScope ["heights", "most", "found", "height", "many"] ["heights", "most"] (defScope s_sums_to) := ⟨rfl, rfl, rfl, by decide +kernel, rfl, by decide +kernel, by decide +kernel⟩
theorem ok_sums_to {P : Program} {w : World} {K : PySem.W.Frag} {mg : Str → Option Value} {base : Heap} (B : Bt mg) (d : Df K mg "sums_to" s_sums_to ["heights", "most"])  : Fn P w K mg base "sums_to" (0 + 1) 2 dp_sums_to := by
  refine fn_mk d sc_sums_to rfl (by decide) fun f cdv A outer s H E C hr => ⟨_, _, (ds_cons (ds_set 2 sc_sums_to.nd (d_op (o_addK K) (d_lst (da_cons d_int da_nil)) (d_op (o_mulK K) (d_lst (da_cons d_int da_nil)) (dv 1))))
      (ds_cons (ds_for PassesOwn.never rfl (di_seqK K (dv 0)) (dg_name 3 sc_sums_to.nd) (ds_one (ds_for PassesOwn.never rfl (di_range2 (by rfl) B.range (da_cons d_int (da_cons (d_op (o_addK K) (dv 1) d_int) da_nil))) (dg_name 4 sc_sums_to.nd) (ds_one (ds_store 2 (d_op (o_addK K) (d_ixOK K 2 (dv 4)) (d_op (o_mulK K) (dv 3) (d_ixOK K 2 (d_op o_sub (dv 4) d_int)))) (dv 4))))))
      (ds_one (ds_ret (dv 2))))), fun ds QD ED hl0 h => ?_⟩
  obtain ⟨a0, a1, rfl⟩ : ∃ a0 a1, ds = [a0, a1] := by
    match ds, hl0 with
    | [a0, a1], _ => exact ⟨a0, a1, rfl⟩
  clear hl0
  obtain ⟨l, n, e, hl, hlo, hn, q⟩ := h
  cases e
  simp only [xSeq, xSet, xRet, xIf, xExpr, xNext, xNever, xC, xNil, xCons, xTup, xLst, xOp, xEq, xNe, xUn, xNot, xAnd, xOr, xIfE, xCB, xCall, xCallB, xName, xAsg, xIsi3, toD_fz, toD_ow, toD_od, toD_bg, rd_var, rd_getv1, rd_getv2, rd_getv3, rd_test, rd_onB, rd_onI, rd_onSB, rd_andV, rd_orV, rd_notV, rd_chain, rd_II, rd_II0, rd_add1, rd_add2, rd_add3, rd_mul1, rd_mul2, rd_mul3, rd_isN, rd_notN, rd_isN1, rd_isN2, rd_isN3, rd_neg, rd_ix1, rd_ix2, rd_part, rd_sl, rd_onSl1, rd_onSl2, rd_rev, rd_onRv, rd_len1, rd_len2, rd_max2, rd_min2, rd_int1, rd_int2, rd_lst1, rd_lst2, rd_tup1, rd_tup2, rd_dm, rd_seqI, rd_onSq1, rd_onSq2, rd_rng1, rd_onR1, rd_rng2, rd_onR2, xEnumT, rd_onEt, rd_zip, rd_onZ1, rd_onZ2, rd_par, rd_onP, xPar3, rd_onP3, rd_gtup, rd_gnil, rd_gcons, rd_isi, ini, iniB, wipeD, unw, kf, List.map_cons, List.map_nil, List.replicate_succ, List.replicate_zero, List.cons_append, List.nil_append, List.length_cons, List.length_nil, List.getElem?_cons_zero, List.getElem?_cons_succ, List.set_cons_zero, List.set_cons_succ, decide_eq_true_eq, Nat.zero_add, Nat.reduceAdd, Nat.reduceSub, Nat.reduceLeDiff, true_and, Bool.false_eq_true, if_false, if_true, isi_int_non, isi_int_bl, isi_int_int, isi_int_str, isi_int_lst, isi_int_tup, isi_bool_non, isi_bool_bl, isi_bool_int, isi_bool_str, isi_bool_lst, isi_bool_tup, isi_list_non, isi_list_bl, isi_list_int, isi_list_str, isi_list_lst, isi_list_tup, isi_tuple_non, isi_tuple_bl, isi_tuple_int, isi_tuple_str, isi_tuple_lst, isi_tuple_tup, isi_str_non, isi_str_bl, isi_str_int, isi_str_str, isi_str_lst, isi_str_tup, Bool.not_true, Bool.not_false, Bool.or_false, Bool.or_true, Bool.false_or, Bool.true_or, ite_true, ite_false, Option.some.injEq, true_or, false_or, or_false, and_true, rd_isOwn, rd_own1, rd_own2, rd_own3, rd_ixO, rd_onIx1, rd_onIx2, rd_store, rd_onStore1, rd_onStore2, ex_eq, xApp, xDput, S.ow.injEq, S.bg.injEq, S.od.injEq, reduceCtorEq, exists_eq_left', exists_eq_left, exists_eq', D.int.injEq, atI_c0, atI_c1, atI_c2, ixN3_0, ixN3_1, ixN3_2, false_and, and_self]
  have er : (List.replicate (Int.toNat (n : Int)) [D.int 0]).flatten = List.replicate n (D.int 0) := by rw [Int.toNat_natCast, List.flatten_replicate_singleton]
  have e0 : D.int 1 :: List.replicate n (D.int 0) = (List.range (n + 1)).map fun j => .int (hh [] j) := by
    rw [List.range_succ_eq_map, List.map_cons, List.map_map]
    congr 1
    refine (List.eq_replicate_iff.mpr ⟨by simp, fun b hb => ?_⟩).symm
    obtain ⟨a, _, rfl⟩ := List.mem_map.mp hb
    rfl
  rw [er, e0]
  refine ⟨by omega, by omega, by omega, by simp only [List.length_replicate]; omega, ?_⟩
  simp only [xSeq, xSet, xRet, xIf, xExpr, xNext, xNever, xC, xNil, xCons, xTup, xLst, xOp, xEq, xNe, xUn, xNot, xAnd, xOr, xIfE, xCB, xCall, xCallB, xName, xAsg, xIsi3, toD_fz, toD_ow, toD_od, toD_bg, rd_var, rd_getv1, rd_getv2, rd_getv3, rd_test, rd_onB, rd_onI, rd_onSB, rd_andV, rd_orV, rd_notV, rd_chain, rd_II, rd_II0, rd_add1, rd_add2, rd_add3, rd_mul1, rd_mul2, rd_mul3, rd_isN, rd_notN, rd_isN1, rd_isN2, rd_isN3, rd_neg, rd_ix1, rd_ix2, rd_part, rd_sl, rd_onSl1, rd_onSl2, rd_rev, rd_onRv, rd_len1, rd_len2, rd_max2, rd_min2, rd_int1, rd_int2, rd_lst1, rd_lst2, rd_tup1, rd_tup2, rd_dm, rd_seqI, rd_onSq1, rd_onSq2, rd_rng1, rd_onR1, rd_rng2, rd_onR2, xEnumT, rd_onEt, rd_zip, rd_onZ1, rd_onZ2, rd_par, rd_onP, xPar3, rd_onP3, rd_gtup, rd_gnil, rd_gcons, rd_isi, ini, iniB, wipeD, unw, kf, List.map_cons, List.map_nil, List.replicate_succ, List.replicate_zero, List.cons_append, List.nil_append, List.length_cons, List.length_nil, List.getElem?_cons_zero, List.getElem?_cons_succ, List.set_cons_zero, List.set_cons_succ, decide_eq_true_eq, Nat.zero_add, Nat.reduceAdd, Nat.reduceSub, Nat.reduceLeDiff, true_and, Bool.false_eq_true, if_false, if_true, isi_int_non, isi_int_bl, isi_int_int, isi_int_str, isi_int_lst, isi_int_tup, isi_bool_non, isi_bool_bl, isi_bool_int, isi_bool_str, isi_bool_lst, isi_bool_tup, isi_list_non, isi_list_bl, isi_list_int, isi_list_str, isi_list_lst, isi_list_tup, isi_tuple_non, isi_tuple_bl, isi_tuple_int, isi_tuple_str, isi_tuple_lst, isi_tuple_tup, isi_str_non, isi_str_bl, isi_str_int, isi_str_str, isi_str_lst, isi_str_tup, Bool.not_true, Bool.not_false, Bool.or_false, Bool.or_true, Bool.false_or, Bool.true_or, ite_true, ite_false, Option.some.injEq, true_or, false_or, or_false, and_true, rd_isOwn, rd_own1, rd_own2, rd_own3, rd_ixO, rd_onIx1, rd_onIx2, rd_store, rd_onStore1, rd_onStore2, ex_eq, xApp, xDput, S.ow.injEq, S.bg.injEq, S.od.injEq, reduceCtorEq, exists_eq_left', exists_eq_left, exists_eq', D.int.injEq, atI_c0, atI_c1, atI_c2, ixN3_0, ixN3_1, ixN3_2, false_and, and_self, xFor]
  refine ⟨fun i ρ => ∃ x3 x4, ρ = [some (.fz (.tup (l.map D.int))), some (.fz (.int n)), some (.ow ((List.range (n + 1)).map fun j => .int (hh (l.take i).reverse j))), x3, x4], ⟨none, none, rfl⟩, fun i d ρ hd hI => ?_, fun ρ hI => ?_⟩
  · obtain ⟨x3, x4, rfl⟩ := hI
    rw [List.getElem?_map] at hd
    obtain ⟨x, hx, rfl⟩ := Option.map_eq_some_iff.mp hd
    obtain ⟨L, eL⟩ : ∃ L, L = (l.take i).reverse := ⟨_, rfl⟩
    have eL1 : (l.take (i + 1)).reverse = x :: L := by
      rw [List.take_add_one, hx, List.reverse_append, eL]
      rfl
    have hxl : x ∈ l := List.mem_of_getElem? hx
    have lowx : low40 (x :: L) := fun y hy => by
      rcases List.mem_cons.mp hy with e | e
      · rw [e]; exact hlo x hxl
      · rw [eL] at e
        exact hlo y (List.mem_of_mem_take (List.mem_reverse.mp e))
    have lenx : (x :: L).length ≤ 8 := by
      rw [← eL1, List.length_reverse, List.length_take]
      omega
    have lowL : low40 L := fun y hy => lowx y (by simp [hy])
    have lenL : L.length ≤ 8 := by rw [List.length_cons] at lenx; omega
    have x40 := hlo x hxl
    simp only [xSeq, xSet, xRet, xIf, xExpr, xNext, xNever, xC, xNil, xCons, xTup, xLst, xOp, xEq, xNe, xUn, xNot, xAnd, xOr, xIfE, xCB, xCall, xCallB, xName, xAsg, xIsi3, toD_fz, toD_ow, toD_od, toD_bg, rd_var, rd_getv1, rd_getv2, rd_getv3, rd_test, rd_onB, rd_onI, rd_onSB, rd_andV, rd_orV, rd_notV, rd_chain, rd_II, rd_II0, rd_add1, rd_add2, rd_add3, rd_mul1, rd_mul2, rd_mul3, rd_isN, rd_notN, rd_isN1, rd_isN2, rd_isN3, rd_neg, rd_ix1, rd_ix2, rd_part, rd_sl, rd_onSl1, rd_onSl2, rd_rev, rd_onRv, rd_len1, rd_len2, rd_max2, rd_min2, rd_int1, rd_int2, rd_lst1, rd_lst2, rd_tup1, rd_tup2, rd_dm, rd_seqI, rd_onSq1, rd_onSq2, rd_rng1, rd_onR1, rd_rng2, rd_onR2, xEnumT, rd_onEt, rd_zip, rd_onZ1, rd_onZ2, rd_par, rd_onP, xPar3, rd_onP3, rd_gtup, rd_gnil, rd_gcons, rd_isi, ini, iniB, wipeD, unw, kf, List.map_cons, List.map_nil, List.replicate_succ, List.replicate_zero, List.cons_append, List.nil_append, List.length_cons, List.length_nil, List.getElem?_cons_zero, List.getElem?_cons_succ, List.set_cons_zero, List.set_cons_succ, decide_eq_true_eq, Nat.zero_add, Nat.reduceAdd, Nat.reduceSub, Nat.reduceLeDiff, true_and, Bool.false_eq_true, if_false, if_true, isi_int_non, isi_int_bl, isi_int_int, isi_int_str, isi_int_lst, isi_int_tup, isi_bool_non, isi_bool_bl, isi_bool_int, isi_bool_str, isi_bool_lst, isi_bool_tup, isi_list_non, isi_list_bl, isi_list_int, isi_list_str, isi_list_lst, isi_list_tup, isi_tuple_non, isi_tuple_bl, isi_tuple_int, isi_tuple_str, isi_tuple_lst, isi_tuple_tup, isi_str_non, isi_str_bl, isi_str_int, isi_str_str, isi_str_lst, isi_str_tup, Bool.not_true, Bool.not_false, Bool.or_false, Bool.or_true, Bool.false_or, Bool.true_or, ite_true, ite_false, Option.some.injEq, true_or, false_or, or_false, and_true, rd_isOwn, rd_own1, rd_own2, rd_own3, rd_ixO, rd_onIx1, rd_onIx2, rd_store, rd_onStore1, rd_onStore2, ex_eq, xApp, xDput, S.ow.injEq, S.bg.injEq, S.od.injEq, reduceCtorEq, exists_eq_left', exists_eq_left, exists_eq', D.int.injEq, atI_c0, atI_c1, atI_c2, ixN3_0, ixN3_1, ixN3_2, false_and, and_self]
    simp only [eL1, ← eL]
    refine ⟨⟨by decide, by decide, by omega, by omega⟩, fun k ρ => ∃ x4, ρ = [some (.fz (.tup (l.map D.int))), some (.fz (.int n)), some (.ow ((List.range (n + 1)).map fun j => .int (if j ≤ k then hh (x :: L) j else hh L j))), some (.fz (.int x)), x4],
      ⟨x4, ?_⟩, fun k d ρ hd hI => ?_, fun ρ hI => ?_⟩
    · have : ((List.range (n + 1)).map fun j => D.int (hh L j)) = (List.range (n + 1)).map fun j => .int (if j ≤ 0 then hh (x :: L) j else hh L j) := by
        refine List.map_congr_left fun j _ => ?_
        by_cases hj : j ≤ 0
        · rw [if_pos hj, show j = 0 by omega, hh_zero, hh_zero]
        · rw [if_neg hj]
      rw [this]
    · obtain ⟨y4, rfl⟩ := hI
      obtain ⟨hk, rfl⟩ := rngD_get hd
      simp only [xSeq, xSet, xRet, xIf, xExpr, xNext, xNever, xC, xNil, xCons, xTup, xLst, xOp, xEq, xNe, xUn, xNot, xAnd, xOr, xIfE, xCB, xCall, xCallB, xName, xAsg, xIsi3, toD_fz, toD_ow, toD_od, toD_bg, rd_var, rd_getv1, rd_getv2, rd_getv3, rd_test, rd_onB, rd_onI, rd_onSB, rd_andV, rd_orV, rd_notV, rd_chain, rd_II, rd_II0, rd_add1, rd_add2, rd_add3, rd_mul1, rd_mul2, rd_mul3, rd_isN, rd_notN, rd_isN1, rd_isN2, rd_isN3, rd_neg, rd_ix1, rd_ix2, rd_part, rd_sl, rd_onSl1, rd_onSl2, rd_rev, rd_onRv, rd_len1, rd_len2, rd_max2, rd_min2, rd_int1, rd_int2, rd_lst1, rd_lst2, rd_tup1, rd_tup2, rd_dm, rd_seqI, rd_onSq1, rd_onSq2, rd_rng1, rd_onR1, rd_rng2, rd_onR2, xEnumT, rd_onEt, rd_zip, rd_onZ1, rd_onZ2, rd_par, rd_onP, xPar3, rd_onP3, rd_gtup, rd_gnil, rd_gcons, rd_isi, ini, iniB, wipeD, unw, kf, List.map_cons, List.map_nil, List.replicate_succ, List.replicate_zero, List.cons_append, List.nil_append, List.length_cons, List.length_nil, List.getElem?_cons_zero, List.getElem?_cons_succ, List.set_cons_zero, List.set_cons_succ, decide_eq_true_eq, Nat.zero_add, Nat.reduceAdd, Nat.reduceSub, Nat.reduceLeDiff, true_and, Bool.false_eq_true, if_false, if_true, isi_int_non, isi_int_bl, isi_int_int, isi_int_str, isi_int_lst, isi_int_tup, isi_bool_non, isi_bool_bl, isi_bool_int, isi_bool_str, isi_bool_lst, isi_bool_tup, isi_list_non, isi_list_bl, isi_list_int, isi_list_str, isi_list_lst, isi_list_tup, isi_tuple_non, isi_tuple_bl, isi_tuple_int, isi_tuple_str, isi_tuple_lst, isi_tuple_tup, isi_str_non, isi_str_bl, isi_str_int, isi_str_str, isi_str_lst, isi_str_tup, Bool.not_true, Bool.not_false, Bool.or_false, Bool.or_true, Bool.false_or, Bool.true_or, ite_true, ite_false, Option.some.injEq, true_or, false_or, or_false, and_true, rd_isOwn, rd_own1, rd_own2, rd_own3, rd_ixO, rd_onIx1, rd_onIx2, rd_store, rd_onStore1, rd_onStore2, ex_eq, xApp, xDput, S.ow.injEq, S.bg.injEq, S.od.injEq, reduceCtorEq, exists_eq_left', exists_eq_left, exists_eq', D.int.injEq, atI_c0, atI_c1, atI_c2, ixN3_0, ixN3_1, ixN3_2, false_and, and_self]
      refine ⟨_, atI_rng (i := k + 1) (by omega) (by omega), _, atI_rng (i := k) (by omega) (by omega), ?_⟩
      simp only [xSeq, xSet, xRet, xIf, xExpr, xNext, xNever, xC, xNil, xCons, xTup, xLst, xOp, xEq, xNe, xUn, xNot, xAnd, xOr, xIfE, xCB, xCall, xCallB, xName, xAsg, xIsi3, toD_fz, toD_ow, toD_od, toD_bg, rd_var, rd_getv1, rd_getv2, rd_getv3, rd_test, rd_onB, rd_onI, rd_onSB, rd_andV, rd_orV, rd_notV, rd_chain, rd_II, rd_II0, rd_add1, rd_add2, rd_add3, rd_mul1, rd_mul2, rd_mul3, rd_isN, rd_notN, rd_isN1, rd_isN2, rd_isN3, rd_neg, rd_ix1, rd_ix2, rd_part, rd_sl, rd_onSl1, rd_onSl2, rd_rev, rd_onRv, rd_len1, rd_len2, rd_max2, rd_min2, rd_int1, rd_int2, rd_lst1, rd_lst2, rd_tup1, rd_tup2, rd_dm, rd_seqI, rd_onSq1, rd_onSq2, rd_rng1, rd_onR1, rd_rng2, rd_onR2, xEnumT, rd_onEt, rd_zip, rd_onZ1, rd_onZ2, rd_par, rd_onP, xPar3, rd_onP3, rd_gtup, rd_gnil, rd_gcons, rd_isi, ini, iniB, wipeD, unw, kf, List.map_cons, List.map_nil, List.replicate_succ, List.replicate_zero, List.cons_append, List.nil_append, List.length_cons, List.length_nil, List.getElem?_cons_zero, List.getElem?_cons_succ, List.set_cons_zero, List.set_cons_succ, decide_eq_true_eq, Nat.zero_add, Nat.reduceAdd, Nat.reduceSub, Nat.reduceLeDiff, true_and, Bool.false_eq_true, if_false, if_true, isi_int_non, isi_int_bl, isi_int_int, isi_int_str, isi_int_lst, isi_int_tup, isi_bool_non, isi_bool_bl, isi_bool_int, isi_bool_str, isi_bool_lst, isi_bool_tup, isi_list_non, isi_list_bl, isi_list_int, isi_list_str, isi_list_lst, isi_list_tup, isi_tuple_non, isi_tuple_bl, isi_tuple_int, isi_tuple_str, isi_tuple_lst, isi_tuple_tup, isi_str_non, isi_str_bl, isi_str_int, isi_str_str, isi_str_lst, isi_str_tup, Bool.not_true, Bool.not_false, Bool.or_false, Bool.or_true, Bool.false_or, Bool.true_or, ite_true, ite_false, Option.some.injEq, true_or, false_or, or_false, and_true, rd_isOwn, rd_own1, rd_own2, rd_own3, rd_ixO, rd_onIx1, rd_onIx2, rd_store, rd_onStore1, rd_onStore2, ex_eq, xApp, xDput, S.ow.injEq, S.bg.injEq, S.od.injEq, reduceCtorEq, exists_eq_left', exists_eq_left, exists_eq', D.int.injEq, atI_c0, atI_c1, atI_c2, ixN3_0, ixN3_1, ixN3_2, false_and, and_self]
      have hij : ixN (List.map (fun j => D.int (if j ≤ k then hh (x :: L) j else hh L j)) (List.range (n + 1))).length (1 + (k : Int)) = some (k + 1) := by
        rw [List.length_map, List.length_range]
        exact ixN_n (by omega) (by omega)
      rw [if_pos (Nat.le_refl k), if_neg (by omega)]
      refine ⟨wide_mul (a := 64) (b := 300) (by show x.natAbs < 18446744073709551616; omega) (hh_small lowx lenx (by omega)) (by decide) (by decide) (by decide), k + 1, hij, some (.fz (.int (1 + (k : Int)))), ?_⟩
      rw [set_rng]
      have : ((List.range (n + 1)).map fun j => if j = k + 1 then D.int (hh L (k + 1) + x * hh (x :: L) k) else D.int (if j ≤ k then hh (x :: L) j else hh L j)) = (List.range (n + 1)).map fun j => .int (if j ≤ k + 1 then hh (x :: L) j else hh L j) := by
        refine List.map_congr_left fun j _ => ?_
        by_cases h1 : j = k + 1
        · subst h1
          rw [if_pos rfl, if_pos (Nat.le_refl _), hh_succ]
        · rw [if_neg h1]
          by_cases h2 : j ≤ k
          · rw [if_pos h2, if_pos (by omega)]
          · rw [if_neg h2, if_neg (by omega)]
      rw [this]
    · obtain ⟨y4, rfl⟩ := hI
      rw [rngD_len]
      refine ⟨some (.fz (.int x)), y4, ?_⟩
      have : ((List.range (n + 1)).map fun j => D.int (if j ≤ ((n : Int) + 1 - 1).toNat then hh (x :: L) j else hh L j)) = (List.range (n + 1)).map fun j => .int (hh (x :: L) j) := by
        refine List.map_congr_left fun j hj => ?_
        have := List.mem_range.mp hj
        rw [if_pos (by omega)]
      rw [this]
  · obtain ⟨x3, x4, rfl⟩ := hI
    rw [List.length_map, List.take_length, hh_perm (List.reverse_perm l)]
    simp only [xSeq, xSet, xRet, xIf, xExpr, xNext, xNever, xC, xNil, xCons, xTup, xLst, xOp, xEq, xNe, xUn, xNot, xAnd, xOr, xIfE, xCB, xCall, xCallB, xName, xAsg, xIsi3, toD_fz, toD_ow, toD_od, toD_bg, rd_var, rd_getv1, rd_getv2, rd_getv3, rd_test, rd_onB, rd_onI, rd_onSB, rd_andV, rd_orV, rd_notV, rd_chain, rd_II, rd_II0, rd_add1, rd_add2, rd_add3, rd_mul1, rd_mul2, rd_mul3, rd_isN, rd_notN, rd_isN1, rd_isN2, rd_isN3, rd_neg, rd_ix1, rd_ix2, rd_part, rd_sl, rd_onSl1, rd_onSl2, rd_rev, rd_onRv, rd_len1, rd_len2, rd_max2, rd_min2, rd_int1, rd_int2, rd_lst1, rd_lst2, rd_tup1, rd_tup2, rd_dm, rd_seqI, rd_onSq1, rd_onSq2, rd_rng1, rd_onR1, rd_rng2, rd_onR2, xEnumT, rd_onEt, rd_zip, rd_onZ1, rd_onZ2, rd_par, rd_onP, xPar3, rd_onP3, rd_gtup, rd_gnil, rd_gcons, rd_isi, ini, iniB, wipeD, unw, kf, List.map_cons, List.map_nil, List.replicate_succ, List.replicate_zero, List.cons_append, List.nil_append, List.length_cons, List.length_nil, List.getElem?_cons_zero, List.getElem?_cons_succ, List.set_cons_zero, List.set_cons_succ, decide_eq_true_eq, Nat.zero_add, Nat.reduceAdd, Nat.reduceSub, Nat.reduceLeDiff, true_and, Bool.false_eq_true, if_false, if_true, isi_int_non, isi_int_bl, isi_int_int, isi_int_str, isi_int_lst, isi_int_tup, isi_bool_non, isi_bool_bl, isi_bool_int, isi_bool_str, isi_bool_lst, isi_bool_tup, isi_list_non, isi_list_bl, isi_list_int, isi_list_str, isi_list_lst, isi_list_tup, isi_tuple_non, isi_tuple_bl, isi_tuple_int, isi_tuple_str, isi_tuple_lst, isi_tuple_tup, isi_str_non, isi_str_bl, isi_str_int, isi_str_str, isi_str_lst, isi_str_tup, Bool.not_true, Bool.not_false, Bool.or_false, Bool.or_true, Bool.false_or, Bool.true_or, ite_true, ite_false, Option.some.injEq, true_or, false_or, or_false, and_true, rd_isOwn, rd_own1, rd_own2, rd_own3, rd_ixO, rd_onIx1, rd_onIx2, rd_store, rd_onStore1, rd_onStore2, ex_eq, xApp, xDput, S.ow.injEq, S.bg.injEq, S.od.injEq, reduceCtorEq, exists_eq_left', exists_eq_left, exists_eq', D.int.injEq, atI_c0, atI_c1, atI_c2, ixN3_0, ixN3_1, ixN3_2, false_and, and_self]
    exact q

def dp_sum_of : DP := fun ds Q _ => ∃ (l : List Int) (n : Int), ds = [.tup (l.map D.int), .int n] ∧ l.length ≤ 8 ∧ low40 l ∧ n ≤ 40 ∧ Q (.fz (.int (hz l n)))

abbrev s_sum_of : Stmt := topS 20
theorem sc_sum_of : FnScope ["heights", "many"] ["heights", "many"] (defScope s_sum_of) := ⟨rfl, rfl, rfl, by decide +kernel, rfl, by decide +kernel, by decide +kernel⟩
theorem ok_sum_of {P : Program} {w : World} {K : PySem.W.Frag} {mg : Str → Option Value} {base : Heap} (B : Bt mg) (d : Df K mg "sum_of" s_sum_of ["heights", "many"]) (h_sums_to : Fn P w K mg base "sums_to" 1 2 dp_sums_to) : Fn P w K mg base "sum_of" (1 + 1) 2 dp_sum_of := by
  refine fn_mk d sc_sum_of rfl (by decide) fun f cdv A outer s H E C hr => ⟨_, _, (ds_one (ds_ret (d_if (dt_cmp o_ge (dv 1) d_int) (d_ixK K (d_fnK h_sums_to (hr.mono (by decide)) (da_cons (dv 0) (da_cons (dv 1) da_nil))) (dv 1)) d_int))), fun ds QD ED hl0 h => ?_⟩
  obtain ⟨a0, a1, rfl⟩ : ∃ a0 a1, ds = [a0, a1] := by
    match ds, hl0 with
    | [a0, a1], _ => exact ⟨a0, a1, rfl⟩
  clear hl0
  obtain ⟨l, n, e, hl, hlo, hn, q⟩ := h
  cases e
  unfold hz at q
  simp only [xSeq, xSet, xRet, xIf, xExpr, xNext, xNever, xC, xNil, xCons, xTup, xLst, xOp, xEq, xNe, xUn, xNot, xAnd, xOr, xIfE, xCB, xCall, xCallB, xName, xAsg, xIsi3, toD_fz, toD_ow, toD_od, toD_bg, rd_var, rd_getv1, rd_getv2, rd_getv3, rd_test, rd_onB, rd_onI, rd_onSB, rd_andV, rd_orV, rd_notV, rd_chain, rd_II, rd_II0, rd_add1, rd_add2, rd_add3, rd_mul1, rd_mul2, rd_mul3, rd_isN, rd_notN, rd_isN1, rd_isN2, rd_isN3, rd_neg, rd_ix1, rd_ix2, rd_part, rd_sl, rd_onSl1, rd_onSl2, rd_rev, rd_onRv, rd_len1, rd_len2, rd_max2, rd_min2, rd_int1, rd_int2, rd_lst1, rd_lst2, rd_tup1, rd_tup2, rd_dm, rd_seqI, rd_onSq1, rd_onSq2, rd_rng1, rd_onR1, rd_rng2, rd_onR2, xEnumT, rd_onEt, rd_zip, rd_onZ1, rd_onZ2, rd_par, rd_onP, xPar3, rd_onP3, rd_gtup, rd_gnil, rd_gcons, rd_isi, ini, iniB, wipeD, unw, kf, List.map_cons, List.map_nil, List.replicate_succ, List.replicate_zero, List.cons_append, List.nil_append, List.length_cons, List.length_nil, List.getElem?_cons_zero, List.getElem?_cons_succ, List.set_cons_zero, List.set_cons_succ, decide_eq_true_eq, Nat.zero_add, Nat.reduceAdd, Nat.reduceSub, Nat.reduceLeDiff, true_and, Bool.false_eq_true, if_false, if_true, isi_int_non, isi_int_bl, isi_int_int, isi_int_str, isi_int_lst, isi_int_tup, isi_bool_non, isi_bool_bl, isi_bool_int, isi_bool_str, isi_bool_lst, isi_bool_tup, isi_list_non, isi_list_bl, isi_list_int, isi_list_str, isi_list_lst, isi_list_tup, isi_tuple_non, isi_tuple_bl, isi_tuple_int, isi_tuple_str, isi_tuple_lst, isi_tuple_tup, isi_str_non, isi_str_bl, isi_str_int, isi_str_str, isi_str_lst, isi_str_tup, Bool.not_true, Bool.not_false, Bool.or_false, Bool.or_true, Bool.false_or, Bool.true_or, ite_true, ite_false, Option.some.injEq, true_or, false_or, or_false, and_true, rd_isOwn, rd_own1, rd_own2, rd_own3, rd_ixO, rd_onIx1, rd_onIx2, rd_store, rd_onStore1, rd_onStore2, ex_eq, xApp, xDput, S.ow.injEq, S.bg.injEq, S.od.injEq, reduceCtorEq, exists_eq_left', exists_eq_left, exists_eq', D.int.injEq, atI_c0, atI_c1, atI_c2, ixN3_0, ixN3_1, ixN3_2, false_and, and_self]
  refine ite2 (fun h0 => ?_) fun h0 => ?_
  · rw [if_pos h0] at q
    obtain ⟨m, rfl⟩ : ∃ m : Nat, n = m := ⟨n.toNat, by omega⟩
    refine ⟨l, m, rfl, hl, hlo, by omega, ?_⟩
    simp only [xSeq, xSet, xRet, xIf, xExpr, xNext, xNever, xC, xNil, xCons, xTup, xLst, xOp, xEq, xNe, xUn, xNot, xAnd, xOr, xIfE, xCB, xCall, xCallB, xName, xAsg, xIsi3, toD_fz, toD_ow, toD_od, toD_bg, rd_var, rd_getv1, rd_getv2, rd_getv3, rd_test, rd_onB, rd_onI, rd_onSB, rd_andV, rd_orV, rd_notV, rd_chain, rd_II, rd_II0, rd_add1, rd_add2, rd_add3, rd_mul1, rd_mul2, rd_mul3, rd_isN, rd_notN, rd_isN1, rd_isN2, rd_isN3, rd_neg, rd_ix1, rd_ix2, rd_part, rd_sl, rd_onSl1, rd_onSl2, rd_rev, rd_onRv, rd_len1, rd_len2, rd_max2, rd_min2, rd_int1, rd_int2, rd_lst1, rd_lst2, rd_tup1, rd_tup2, rd_dm, rd_seqI, rd_onSq1, rd_onSq2, rd_rng1, rd_onR1, rd_rng2, rd_onR2, xEnumT, rd_onEt, rd_zip, rd_onZ1, rd_onZ2, rd_par, rd_onP, xPar3, rd_onP3, rd_gtup, rd_gnil, rd_gcons, rd_isi, ini, iniB, wipeD, unw, kf, List.map_cons, List.map_nil, List.replicate_succ, List.replicate_zero, List.cons_append, List.nil_append, List.length_cons, List.length_nil, List.getElem?_cons_zero, List.getElem?_cons_succ, List.set_cons_zero, List.set_cons_succ, decide_eq_true_eq, Nat.zero_add, Nat.reduceAdd, Nat.reduceSub, Nat.reduceLeDiff, true_and, Bool.false_eq_true, if_false, if_true, isi_int_non, isi_int_bl, isi_int_int, isi_int_str, isi_int_lst, isi_int_tup, isi_bool_non, isi_bool_bl, isi_bool_int, isi_bool_str, isi_bool_lst, isi_bool_tup, isi_list_non, isi_list_bl, isi_list_int, isi_list_str, isi_list_lst, isi_list_tup, isi_tuple_non, isi_tuple_bl, isi_tuple_int, isi_tuple_str, isi_tuple_lst, isi_tuple_tup, isi_str_non, isi_str_bl, isi_str_int, isi_str_str, isi_str_lst, isi_str_tup, Bool.not_true, Bool.not_false, Bool.or_false, Bool.or_true, Bool.false_or, Bool.true_or, ite_true, ite_false, Option.some.injEq, true_or, false_or, or_false, and_true, rd_isOwn, rd_own1, rd_own2, rd_own3, rd_ixO, rd_onIx1, rd_onIx2, rd_store, rd_onStore1, rd_onStore2, ex_eq, xApp, xDput, S.ow.injEq, S.bg.injEq, S.od.injEq, reduceCtorEq, exists_eq_left', exists_eq_left, exists_eq', D.int.injEq, atI_c0, atI_c1, atI_c2, ixN3_0, ixN3_1, ixN3_2, false_and, and_self]
    exact ⟨_, atI_rng rfl (by omega), q⟩
  · rw [if_neg h0] at q
    exact q

def rowD (k : Nat) (u : Nat → Int) : D := .lst ((List.range k).map fun j => .int (u j))
def matD (k : Nat) (A : Nat → Nat → Int) : D := .lst ((List.range k).map fun i => rowD k (A i))
def bndM (k : Nat) (A : Nat → Nat → Int) : Prop := ∀ i j, i < k → j < k → 0 ≤ A i j ∧ A i j ≤ 1000000000
def dp_times : DP := fun ds Q _ => ∃ (k : Nat) (A B : Nat → Nat → Int) (by' : Int), ds = [matD k A, matD k B, .int by'] ∧ 1 ≤ k ∧ k ≤ 8 ∧ bndM k A ∧ bndM k B ∧ 2 ≤ by' ∧ by' ≤ 1000000000 ∧ Q (.fz (matD k fun i j => mm k A B i j % by'))

abbrev s_times : Stmt := topS 21
theorem sc_times : FnScope ["one", "other", "by", "size", "found", "row", "at", "to"] ["one", "other", "by"] (defScope s_times) := ⟨rfl, rfl, rfl, by decide +kernel, rfl, by decide +kernel, by decide +kernel⟩
theorem ok_times {P : Program} {w : World} {K : PySem.W.Frag} {mg : Str → Option Value} {base : Heap} (B : Bt mg) (d : Df K mg "times" s_times ["one", "other", "by"])  : Fn P w K mg base "times" (0 + 1) 3 dp_times := by
  refine fn_mk d sc_times rfl (by decide) fun f cdv A outer s H E C hr => ⟨_, _, (ds_cons (ds_set 3 sc_times.nd (d_callB (c_lenK K) (by rfl) B.len PySem.boot_len (da_cons (dv 0) da_nil)))
      (ds_cons (ds_set 4 sc_times.nd (d_lst da_nil))
      (ds_cons (ds_for PassesOwn.never rfl (di_seqK K (dv 0)) (dg_name 5 sc_times.nd) (ds_one (ds_expr (d_app 4 (d_lc [("to", 7)] rfl sc_times.nd (di_range1 (by rfl) B.range (da_cons (dv 3) da_nil)) (blkOk_by (by show blkC ["one", "other", "by", "size", "found", "row", "at", "to"] (defScope s_times) _ [("to", 7)] = true; decide +kernel)) (fun _ _ _ _ _ _ => (dg_name 7 sc_times.nd)) (fun _ _ _ _ _ _ => dts_nil) (fun _ _ _ _ _ _ => (d_op o_mod (d_callB (c_sumK K rfl) (by rfl) B.sum (by decide +kernel) (da_cons (d_lc [("at", 6)] rfl sc_times.nd (di_range1 (by rfl) B.range (da_cons (dv 3) da_nil)) (blkOk_by (by show blkC ["one", "other", "by", "size", "found", "row", "at", "to"] (relS _ (defScope s_times)) _ [("at", 6)] = true; decide +kernel)) (fun _ _ _ _ _ _ => (dg_name 6 sc_times.nd)) (fun _ _ _ _ _ _ => dts_nil) (fun _ _ _ _ _ _ => (d_op (o_mulK K) (d_ixK K (dv 5) (dv 6)) (d_ixK K (d_ixK K (dv 1) (dv 6)) (dv 7))))) da_nil)) (dv 2))))))))
      (ds_one (ds_ret (dv 4)))))), fun ds QD ED hl0 h => ?_⟩
  obtain ⟨a0, a1, a2, rfl⟩ : ∃ a0 a1 a2, ds = [a0, a1, a2] := by
    match ds, hl0 with
    | [a0, a1, a2], _ => exact ⟨a0, a1, a2, rfl⟩
  clear hl0
  obtain ⟨k, A, B, m, e, k1, k8, hA, hB, m1, m2, q⟩ := h
  cases e
  unfold matD
  simp only [xSeq, xSet, xRet, xIf, xExpr, xNext, xNever, xC, xNil, xCons, xTup, xLst, xOp, xEq, xNe, xUn, xNot, xAnd, xOr, xIfE, xCB, xCall, xCallB, xName, xAsg, xIsi3, toD_fz, toD_ow, toD_od, toD_bg, rd_var, rd_getv1, rd_getv2, rd_getv3, rd_test, rd_onB, rd_onI, rd_onSB, rd_andV, rd_orV, rd_notV, rd_chain, rd_II, rd_II0, rd_add1, rd_add2, rd_add3, rd_mul1, rd_mul2, rd_mul3, rd_isN, rd_notN, rd_isN1, rd_isN2, rd_isN3, rd_neg, rd_ix1, rd_ix2, rd_part, rd_sl, rd_onSl1, rd_onSl2, rd_rev, rd_onRv, rd_len1, rd_len2, rd_max2, rd_min2, rd_int1, rd_int2, rd_lst1, rd_lst2, rd_tup1, rd_tup2, rd_dm, rd_seqI, rd_onSq1, rd_onSq2, rd_rng1, rd_onR1, rd_rng2, rd_onR2, xEnumT, rd_onEt, rd_zip, rd_onZ1, rd_onZ2, rd_par, rd_onP, xPar3, rd_onP3, rd_gtup, rd_gnil, rd_gcons, rd_isi, ini, iniB, wipeD, unw, kf, List.map_cons, List.map_nil, List.replicate_succ, List.replicate_zero, List.cons_append, List.nil_append, List.length_cons, List.length_nil, List.getElem?_cons_zero, List.getElem?_cons_succ, List.set_cons_zero, List.set_cons_succ, decide_eq_true_eq, Nat.zero_add, Nat.reduceAdd, Nat.reduceSub, Nat.reduceLeDiff, true_and, Bool.false_eq_true, if_false, if_true, isi_int_non, isi_int_bl, isi_int_int, isi_int_str, isi_int_lst, isi_int_tup, isi_bool_non, isi_bool_bl, isi_bool_int, isi_bool_str, isi_bool_lst, isi_bool_tup, isi_list_non, isi_list_bl, isi_list_int, isi_list_str, isi_list_lst, isi_list_tup, isi_tuple_non, isi_tuple_bl, isi_tuple_int, isi_tuple_str, isi_tuple_lst, isi_tuple_tup, isi_str_non, isi_str_bl, isi_str_int, isi_str_str, isi_str_lst, isi_str_tup, Bool.not_true, Bool.not_false, Bool.or_false, Bool.or_true, Bool.false_or, Bool.true_or, ite_true, ite_false, Option.some.injEq, true_or, false_or, or_false, and_true, rd_isOwn, rd_own1, rd_own2, rd_own3, rd_ixO, rd_onIx1, rd_onIx2, rd_store, rd_onStore1, rd_onStore2, ex_eq, xApp, xDput, S.ow.injEq, S.bg.injEq, S.od.injEq, reduceCtorEq, exists_eq_left', exists_eq_left, exists_eq', D.int.injEq, atI_c0, atI_c1, atI_c2, ixN3_0, ixN3_1, ixN3_2, false_and, and_self, xFor]
  simp only [List.length_map, List.length_range]
  refine ⟨fun i ρ => ∃ x5, ρ = [some (.fz (matD k A)), some (.fz (matD k B)), some (.fz (.int m)), some (.fz (.int k)), some (.ow ((List.range i).map fun i => rowD k fun j => mm k A B i j % m)), x5, none, none], ⟨none, rfl⟩, fun i d ρ hd hI => ?_, fun ρ hI => ?_⟩
  · obtain ⟨x5, rfl⟩ := hI
    rw [List.getElem?_map] at hd
    obtain ⟨i', hi, rfl⟩ := Option.map_eq_some_iff.mp hd
    obtain ⟨hik, rfl⟩ := rng_get hi
    simp only [xSeq, xSet, xRet, xIf, xExpr, xNext, xNever, xC, xNil, xCons, xTup, xLst, xOp, xEq, xNe, xUn, xNot, xAnd, xOr, xIfE, xCB, xCall, xCallB, xName, xAsg, xIsi3, toD_fz, toD_ow, toD_od, toD_bg, rd_var, rd_getv1, rd_getv2, rd_getv3, rd_test, rd_onB, rd_onI, rd_onSB, rd_andV, rd_orV, rd_notV, rd_chain, rd_II, rd_II0, rd_add1, rd_add2, rd_add3, rd_mul1, rd_mul2, rd_mul3, rd_isN, rd_notN, rd_isN1, rd_isN2, rd_isN3, rd_neg, rd_ix1, rd_ix2, rd_part, rd_sl, rd_onSl1, rd_onSl2, rd_rev, rd_onRv, rd_len1, rd_len2, rd_max2, rd_min2, rd_int1, rd_int2, rd_lst1, rd_lst2, rd_tup1, rd_tup2, rd_dm, rd_seqI, rd_onSq1, rd_onSq2, rd_rng1, rd_onR1, rd_rng2, rd_onR2, xEnumT, rd_onEt, rd_zip, rd_onZ1, rd_onZ2, rd_par, rd_onP, xPar3, rd_onP3, rd_gtup, rd_gnil, rd_gcons, rd_isi, ini, iniB, wipeD, unw, kf, List.map_cons, List.map_nil, List.replicate_succ, List.replicate_zero, List.cons_append, List.nil_append, List.length_cons, List.length_nil, List.getElem?_cons_zero, List.getElem?_cons_succ, List.set_cons_zero, List.set_cons_succ, decide_eq_true_eq, Nat.zero_add, Nat.reduceAdd, Nat.reduceSub, Nat.reduceLeDiff, true_and, Bool.false_eq_true, if_false, if_true, isi_int_non, isi_int_bl, isi_int_int, isi_int_str, isi_int_lst, isi_int_tup, isi_bool_non, isi_bool_bl, isi_bool_int, isi_bool_str, isi_bool_lst, isi_bool_tup, isi_list_non, isi_list_bl, isi_list_int, isi_list_str, isi_list_lst, isi_list_tup, isi_tuple_non, isi_tuple_bl, isi_tuple_int, isi_tuple_str, isi_tuple_lst, isi_tuple_tup, isi_str_non, isi_str_bl, isi_str_int, isi_str_str, isi_str_lst, isi_str_tup, Bool.not_true, Bool.not_false, Bool.or_false, Bool.or_true, Bool.false_or, Bool.true_or, ite_true, ite_false, Option.some.injEq, true_or, false_or, or_false, and_true, rd_isOwn, rd_own1, rd_own2, rd_own3, rd_ixO, rd_onIx1, rd_onIx2, rd_store, rd_onStore1, rd_onStore2, ex_eq, xApp, xDput, S.ow.injEq, S.bg.injEq, S.od.injEq, reduceCtorEq, exists_eq_left', exists_eq_left, exists_eq', D.int.injEq, atI_c0, atI_c1, atI_c2, ixN3_0, ixN3_1, ixN3_2, false_and, and_self, rowD, matD]
    refine lc_all (List.range k) (fun j : Nat => D.int (0 + (j : Int))) (fun j => D.int (mm k A B i' j % m)) (fun QL hq => ?_) (by rw [List.length_range]; omega) (fun j hj QD QN h1 => ?_) ?_
    · simp only [xSeq, xSet, xRet, xIf, xExpr, xNext, xNever, xC, xNil, xCons, xTup, xLst, xOp, xEq, xNe, xUn, xNot, xAnd, xOr, xIfE, xCB, xCall, xCallB, xName, xAsg, xIsi3, toD_fz, toD_ow, toD_od, toD_bg, rd_var, rd_getv1, rd_getv2, rd_getv3, rd_test, rd_onB, rd_onI, rd_onSB, rd_andV, rd_orV, rd_notV, rd_chain, rd_II, rd_II0, rd_add1, rd_add2, rd_add3, rd_mul1, rd_mul2, rd_mul3, rd_isN, rd_notN, rd_isN1, rd_isN2, rd_isN3, rd_neg, rd_ix1, rd_ix2, rd_part, rd_sl, rd_onSl1, rd_onSl2, rd_rev, rd_onRv, rd_len1, rd_len2, rd_max2, rd_min2, rd_int1, rd_int2, rd_lst1, rd_lst2, rd_tup1, rd_tup2, rd_dm, rd_seqI, rd_onSq1, rd_onSq2, rd_rng1, rd_onR1, rd_rng2, rd_onR2, xEnumT, rd_onEt, rd_zip, rd_onZ1, rd_onZ2, rd_par, rd_onP, xPar3, rd_onP3, rd_gtup, rd_gnil, rd_gcons, rd_isi, ini, iniB, wipeD, unw, kf, List.map_cons, List.map_nil, List.replicate_succ, List.replicate_zero, List.cons_append, List.nil_append, List.length_cons, List.length_nil, List.getElem?_cons_zero, List.getElem?_cons_succ, List.set_cons_zero, List.set_cons_succ, decide_eq_true_eq, Nat.zero_add, Nat.reduceAdd, Nat.reduceSub, Nat.reduceLeDiff, true_and, Bool.false_eq_true, if_false, if_true, isi_int_non, isi_int_bl, isi_int_int, isi_int_str, isi_int_lst, isi_int_tup, isi_bool_non, isi_bool_bl, isi_bool_int, isi_bool_str, isi_bool_lst, isi_bool_tup, isi_list_non, isi_list_bl, isi_list_int, isi_list_str, isi_list_lst, isi_list_tup, isi_tuple_non, isi_tuple_bl, isi_tuple_int, isi_tuple_str, isi_tuple_lst, isi_tuple_tup, isi_str_non, isi_str_bl, isi_str_int, isi_str_str, isi_str_lst, isi_str_tup, Bool.not_true, Bool.not_false, Bool.or_false, Bool.or_true, Bool.false_or, Bool.true_or, ite_true, ite_false, Option.some.injEq, true_or, false_or, or_false, and_true, rd_isOwn, rd_own1, rd_own2, rd_own3, rd_ixO, rd_onIx1, rd_onIx2, rd_store, rd_onStore1, rd_onStore2, ex_eq, xApp, xDput, S.ow.injEq, S.bg.injEq, S.od.injEq, reduceCtorEq, exists_eq_left', exists_eq_left, exists_eq', D.int.injEq, atI_c0, atI_c1, atI_c2, ixN3_0, ixN3_1, ixN3_2, false_and, and_self]
      exact ⟨by omega, by omega, by rw [Int.toNat_natCast]; exact hq⟩
    · have hj' := List.mem_range.mp hj
      simp only [xSeq, xSet, xRet, xIf, xExpr, xNext, xNever, xC, xNil, xCons, xTup, xLst, xOp, xEq, xNe, xUn, xNot, xAnd, xOr, xIfE, xCB, xCall, xCallB, xName, xAsg, xIsi3, toD_fz, toD_ow, toD_od, toD_bg, rd_var, rd_getv1, rd_getv2, rd_getv3, rd_test, rd_onB, rd_onI, rd_onSB, rd_andV, rd_orV, rd_notV, rd_chain, rd_II, rd_II0, rd_add1, rd_add2, rd_add3, rd_mul1, rd_mul2, rd_mul3, rd_isN, rd_notN, rd_isN1, rd_isN2, rd_isN3, rd_neg, rd_ix1, rd_ix2, rd_part, rd_sl, rd_onSl1, rd_onSl2, rd_rev, rd_onRv, rd_len1, rd_len2, rd_max2, rd_min2, rd_int1, rd_int2, rd_lst1, rd_lst2, rd_tup1, rd_tup2, rd_dm, rd_seqI, rd_onSq1, rd_onSq2, rd_rng1, rd_onR1, rd_rng2, rd_onR2, xEnumT, rd_onEt, rd_zip, rd_onZ1, rd_onZ2, rd_par, rd_onP, xPar3, rd_onP3, rd_gtup, rd_gnil, rd_gcons, rd_isi, ini, iniB, wipeD, unw, kf, List.map_cons, List.map_nil, List.replicate_succ, List.replicate_zero, List.cons_append, List.nil_append, List.length_cons, List.length_nil, List.getElem?_cons_zero, List.getElem?_cons_succ, List.set_cons_zero, List.set_cons_succ, decide_eq_true_eq, Nat.zero_add, Nat.reduceAdd, Nat.reduceSub, Nat.reduceLeDiff, true_and, Bool.false_eq_true, if_false, if_true, isi_int_non, isi_int_bl, isi_int_int, isi_int_str, isi_int_lst, isi_int_tup, isi_bool_non, isi_bool_bl, isi_bool_int, isi_bool_str, isi_bool_lst, isi_bool_tup, isi_list_non, isi_list_bl, isi_list_int, isi_list_str, isi_list_lst, isi_list_tup, isi_tuple_non, isi_tuple_bl, isi_tuple_int, isi_tuple_str, isi_tuple_lst, isi_tuple_tup, isi_str_non, isi_str_bl, isi_str_int, isi_str_str, isi_str_lst, isi_str_tup, Bool.not_true, Bool.not_false, Bool.or_false, Bool.or_true, Bool.false_or, Bool.true_or, ite_true, ite_false, Option.some.injEq, true_or, false_or, or_false, and_true, rd_isOwn, rd_own1, rd_own2, rd_own3, rd_ixO, rd_onIx1, rd_onIx2, rd_store, rd_onStore1, rd_onStore2, ex_eq, xApp, xDput, S.ow.injEq, S.bg.injEq, S.od.injEq, reduceCtorEq, exists_eq_left', exists_eq_left, exists_eq', D.int.injEq, atI_c0, atI_c1, atI_c2, ixN3_0, ixN3_1, ixN3_2, false_and, and_self]
      refine lc_all (List.range k) (fun t : Nat => D.int (0 + (t : Int))) (fun t => D.int (A i' t * B t j)) (fun QL hq => ?_) (by rw [List.length_range]; omega) (fun t ht QD QN h2 => ?_) ?_
      · simp only [xSeq, xSet, xRet, xIf, xExpr, xNext, xNever, xC, xNil, xCons, xTup, xLst, xOp, xEq, xNe, xUn, xNot, xAnd, xOr, xIfE, xCB, xCall, xCallB, xName, xAsg, xIsi3, toD_fz, toD_ow, toD_od, toD_bg, rd_var, rd_getv1, rd_getv2, rd_getv3, rd_test, rd_onB, rd_onI, rd_onSB, rd_andV, rd_orV, rd_notV, rd_chain, rd_II, rd_II0, rd_add1, rd_add2, rd_add3, rd_mul1, rd_mul2, rd_mul3, rd_isN, rd_notN, rd_isN1, rd_isN2, rd_isN3, rd_neg, rd_ix1, rd_ix2, rd_part, rd_sl, rd_onSl1, rd_onSl2, rd_rev, rd_onRv, rd_len1, rd_len2, rd_max2, rd_min2, rd_int1, rd_int2, rd_lst1, rd_lst2, rd_tup1, rd_tup2, rd_dm, rd_seqI, rd_onSq1, rd_onSq2, rd_rng1, rd_onR1, rd_rng2, rd_onR2, xEnumT, rd_onEt, rd_zip, rd_onZ1, rd_onZ2, rd_par, rd_onP, xPar3, rd_onP3, rd_gtup, rd_gnil, rd_gcons, rd_isi, ini, iniB, wipeD, unw, kf, List.map_cons, List.map_nil, List.replicate_succ, List.replicate_zero, List.cons_append, List.nil_append, List.length_cons, List.length_nil, List.getElem?_cons_zero, List.getElem?_cons_succ, List.set_cons_zero, List.set_cons_succ, decide_eq_true_eq, Nat.zero_add, Nat.reduceAdd, Nat.reduceSub, Nat.reduceLeDiff, true_and, Bool.false_eq_true, if_false, if_true, isi_int_non, isi_int_bl, isi_int_int, isi_int_str, isi_int_lst, isi_int_tup, isi_bool_non, isi_bool_bl, isi_bool_int, isi_bool_str, isi_bool_lst, isi_bool_tup, isi_list_non, isi_list_bl, isi_list_int, isi_list_str, isi_list_lst, isi_list_tup, isi_tuple_non, isi_tuple_bl, isi_tuple_int, isi_tuple_str, isi_tuple_lst, isi_tuple_tup, isi_str_non, isi_str_bl, isi_str_int, isi_str_str, isi_str_lst, isi_str_tup, Bool.not_true, Bool.not_false, Bool.or_false, Bool.or_true, Bool.false_or, Bool.true_or, ite_true, ite_false, Option.some.injEq, true_or, false_or, or_false, and_true, rd_isOwn, rd_own1, rd_own2, rd_own3, rd_ixO, rd_onIx1, rd_onIx2, rd_store, rd_onStore1, rd_onStore2, ex_eq, xApp, xDput, S.ow.injEq, S.bg.injEq, S.od.injEq, reduceCtorEq, exists_eq_left', exists_eq_left, exists_eq', D.int.injEq, atI_c0, atI_c1, atI_c2, ixN3_0, ixN3_1, ixN3_2, false_and, and_self]
        exact ⟨by omega, by omega, by rw [Int.toNat_natCast]; exact hq⟩
      · have ht' := List.mem_range.mp ht
        simp only [xSeq, xSet, xRet, xIf, xExpr, xNext, xNever, xC, xNil, xCons, xTup, xLst, xOp, xEq, xNe, xUn, xNot, xAnd, xOr, xIfE, xCB, xCall, xCallB, xName, xAsg, xIsi3, toD_fz, toD_ow, toD_od, toD_bg, rd_var, rd_getv1, rd_getv2, rd_getv3, rd_test, rd_onB, rd_onI, rd_onSB, rd_andV, rd_orV, rd_notV, rd_chain, rd_II, rd_II0, rd_add1, rd_add2, rd_add3, rd_mul1, rd_mul2, rd_mul3, rd_isN, rd_notN, rd_isN1, rd_isN2, rd_isN3, rd_neg, rd_ix1, rd_ix2, rd_part, rd_sl, rd_onSl1, rd_onSl2, rd_rev, rd_onRv, rd_len1, rd_len2, rd_max2, rd_min2, rd_int1, rd_int2, rd_lst1, rd_lst2, rd_tup1, rd_tup2, rd_dm, rd_seqI, rd_onSq1, rd_onSq2, rd_rng1, rd_onR1, rd_rng2, rd_onR2, xEnumT, rd_onEt, rd_zip, rd_onZ1, rd_onZ2, rd_par, rd_onP, xPar3, rd_onP3, rd_gtup, rd_gnil, rd_gcons, rd_isi, ini, iniB, wipeD, unw, kf, List.map_cons, List.map_nil, List.replicate_succ, List.replicate_zero, List.cons_append, List.nil_append, List.length_cons, List.length_nil, List.getElem?_cons_zero, List.getElem?_cons_succ, List.set_cons_zero, List.set_cons_succ, decide_eq_true_eq, Nat.zero_add, Nat.reduceAdd, Nat.reduceSub, Nat.reduceLeDiff, true_and, Bool.false_eq_true, if_false, if_true, isi_int_non, isi_int_bl, isi_int_int, isi_int_str, isi_int_lst, isi_int_tup, isi_bool_non, isi_bool_bl, isi_bool_int, isi_bool_str, isi_bool_lst, isi_bool_tup, isi_list_non, isi_list_bl, isi_list_int, isi_list_str, isi_list_lst, isi_list_tup, isi_tuple_non, isi_tuple_bl, isi_tuple_int, isi_tuple_str, isi_tuple_lst, isi_tuple_tup, isi_str_non, isi_str_bl, isi_str_int, isi_str_str, isi_str_lst, isi_str_tup, Bool.not_true, Bool.not_false, Bool.or_false, Bool.or_true, Bool.false_or, Bool.true_or, ite_true, ite_false, Option.some.injEq, true_or, false_or, or_false, and_true, rd_isOwn, rd_own1, rd_own2, rd_own3, rd_ixO, rd_onIx1, rd_onIx2, rd_store, rd_onStore1, rd_onStore2, ex_eq, xApp, xDput, S.ow.injEq, S.bg.injEq, S.od.injEq, reduceCtorEq, exists_eq_left', exists_eq_left, exists_eq', D.int.injEq, atI_c0, atI_c1, atI_c2, ixN3_0, ixN3_1, ixN3_2, false_and, and_self]
        refine ⟨_, atI_rng (i := t) (by omega) ht', ?_⟩
        try simp only [xSeq, xSet, xRet, xIf, xExpr, xNext, xNever, xC, xNil, xCons, xTup, xLst, xOp, xEq, xNe, xUn, xNot, xAnd, xOr, xIfE, xCB, xCall, xCallB, xName, xAsg, xIsi3, toD_fz, toD_ow, toD_od, toD_bg, rd_var, rd_getv1, rd_getv2, rd_getv3, rd_test, rd_onB, rd_onI, rd_onSB, rd_andV, rd_orV, rd_notV, rd_chain, rd_II, rd_II0, rd_add1, rd_add2, rd_add3, rd_mul1, rd_mul2, rd_mul3, rd_isN, rd_notN, rd_isN1, rd_isN2, rd_isN3, rd_neg, rd_ix1, rd_ix2, rd_part, rd_sl, rd_onSl1, rd_onSl2, rd_rev, rd_onRv, rd_len1, rd_len2, rd_max2, rd_min2, rd_int1, rd_int2, rd_lst1, rd_lst2, rd_tup1, rd_tup2, rd_dm, rd_seqI, rd_onSq1, rd_onSq2, rd_rng1, rd_onR1, rd_rng2, rd_onR2, xEnumT, rd_onEt, rd_zip, rd_onZ1, rd_onZ2, rd_par, rd_onP, xPar3, rd_onP3, rd_gtup, rd_gnil, rd_gcons, rd_isi, ini, iniB, wipeD, unw, kf, List.map_cons, List.map_nil, List.replicate_succ, List.replicate_zero, List.cons_append, List.nil_append, List.length_cons, List.length_nil, List.getElem?_cons_zero, List.getElem?_cons_succ, List.set_cons_zero, List.set_cons_succ, decide_eq_true_eq, Nat.zero_add, Nat.reduceAdd, Nat.reduceSub, Nat.reduceLeDiff, true_and, Bool.false_eq_true, if_false, if_true, isi_int_non, isi_int_bl, isi_int_int, isi_int_str, isi_int_lst, isi_int_tup, isi_bool_non, isi_bool_bl, isi_bool_int, isi_bool_str, isi_bool_lst, isi_bool_tup, isi_list_non, isi_list_bl, isi_list_int, isi_list_str, isi_list_lst, isi_list_tup, isi_tuple_non, isi_tuple_bl, isi_tuple_int, isi_tuple_str, isi_tuple_lst, isi_tuple_tup, isi_str_non, isi_str_bl, isi_str_int, isi_str_str, isi_str_lst, isi_str_tup, Bool.not_true, Bool.not_false, Bool.or_false, Bool.or_true, Bool.false_or, Bool.true_or, ite_true, ite_false, Option.some.injEq, true_or, false_or, or_false, and_true, rd_isOwn, rd_own1, rd_own2, rd_own3, rd_ixO, rd_onIx1, rd_onIx2, rd_store, rd_onStore1, rd_onStore2, ex_eq, xApp, xDput, S.ow.injEq, S.bg.injEq, S.od.injEq, reduceCtorEq, exists_eq_left', exists_eq_left, exists_eq', D.int.injEq, atI_c0, atI_c1, atI_c2, ixN3_0, ixN3_1, ixN3_2, false_and, and_self]
        refine ⟨_, atI_rng (i := t) (by omega) ht', ?_⟩
        try simp only [xSeq, xSet, xRet, xIf, xExpr, xNext, xNever, xC, xNil, xCons, xTup, xLst, xOp, xEq, xNe, xUn, xNot, xAnd, xOr, xIfE, xCB, xCall, xCallB, xName, xAsg, xIsi3, toD_fz, toD_ow, toD_od, toD_bg, rd_var, rd_getv1, rd_getv2, rd_getv3, rd_test, rd_onB, rd_onI, rd_onSB, rd_andV, rd_orV, rd_notV, rd_chain, rd_II, rd_II0, rd_add1, rd_add2, rd_add3, rd_mul1, rd_mul2, rd_mul3, rd_isN, rd_notN, rd_isN1, rd_isN2, rd_isN3, rd_neg, rd_ix1, rd_ix2, rd_part, rd_sl, rd_onSl1, rd_onSl2, rd_rev, rd_onRv, rd_len1, rd_len2, rd_max2, rd_min2, rd_int1, rd_int2, rd_lst1, rd_lst2, rd_tup1, rd_tup2, rd_dm, rd_seqI, rd_onSq1, rd_onSq2, rd_rng1, rd_onR1, rd_rng2, rd_onR2, xEnumT, rd_onEt, rd_zip, rd_onZ1, rd_onZ2, rd_par, rd_onP, xPar3, rd_onP3, rd_gtup, rd_gnil, rd_gcons, rd_isi, ini, iniB, wipeD, unw, kf, List.map_cons, List.map_nil, List.replicate_succ, List.replicate_zero, List.cons_append, List.nil_append, List.length_cons, List.length_nil, List.getElem?_cons_zero, List.getElem?_cons_succ, List.set_cons_zero, List.set_cons_succ, decide_eq_true_eq, Nat.zero_add, Nat.reduceAdd, Nat.reduceSub, Nat.reduceLeDiff, true_and, Bool.false_eq_true, if_false, if_true, isi_int_non, isi_int_bl, isi_int_int, isi_int_str, isi_int_lst, isi_int_tup, isi_bool_non, isi_bool_bl, isi_bool_int, isi_bool_str, isi_bool_lst, isi_bool_tup, isi_list_non, isi_list_bl, isi_list_int, isi_list_str, isi_list_lst, isi_list_tup, isi_tuple_non, isi_tuple_bl, isi_tuple_int, isi_tuple_str, isi_tuple_lst, isi_tuple_tup, isi_str_non, isi_str_bl, isi_str_int, isi_str_str, isi_str_lst, isi_str_tup, Bool.not_true, Bool.not_false, Bool.or_false, Bool.or_true, Bool.false_or, Bool.true_or, ite_true, ite_false, Option.some.injEq, true_or, false_or, or_false, and_true, rd_isOwn, rd_own1, rd_own2, rd_own3, rd_ixO, rd_onIx1, rd_onIx2, rd_store, rd_onStore1, rd_onStore2, ex_eq, xApp, xDput, S.ow.injEq, S.bg.injEq, S.od.injEq, reduceCtorEq, exists_eq_left', exists_eq_left, exists_eq', D.int.injEq, atI_c0, atI_c1, atI_c2, ixN3_0, ixN3_1, ixN3_2, false_and, and_self]
        refine ⟨_, atI_rng (i := j) (by omega) hj', ?_⟩
        try simp only [xSeq, xSet, xRet, xIf, xExpr, xNext, xNever, xC, xNil, xCons, xTup, xLst, xOp, xEq, xNe, xUn, xNot, xAnd, xOr, xIfE, xCB, xCall, xCallB, xName, xAsg, xIsi3, toD_fz, toD_ow, toD_od, toD_bg, rd_var, rd_getv1, rd_getv2, rd_getv3, rd_test, rd_onB, rd_onI, rd_onSB, rd_andV, rd_orV, rd_notV, rd_chain, rd_II, rd_II0, rd_add1, rd_add2, rd_add3, rd_mul1, rd_mul2, rd_mul3, rd_isN, rd_notN, rd_isN1, rd_isN2, rd_isN3, rd_neg, rd_ix1, rd_ix2, rd_part, rd_sl, rd_onSl1, rd_onSl2, rd_rev, rd_onRv, rd_len1, rd_len2, rd_max2, rd_min2, rd_int1, rd_int2, rd_lst1, rd_lst2, rd_tup1, rd_tup2, rd_dm, rd_seqI, rd_onSq1, rd_onSq2, rd_rng1, rd_onR1, rd_rng2, rd_onR2, xEnumT, rd_onEt, rd_zip, rd_onZ1, rd_onZ2, rd_par, rd_onP, xPar3, rd_onP3, rd_gtup, rd_gnil, rd_gcons, rd_isi, ini, iniB, wipeD, unw, kf, List.map_cons, List.map_nil, List.replicate_succ, List.replicate_zero, List.cons_append, List.nil_append, List.length_cons, List.length_nil, List.getElem?_cons_zero, List.getElem?_cons_succ, List.set_cons_zero, List.set_cons_succ, decide_eq_true_eq, Nat.zero_add, Nat.reduceAdd, Nat.reduceSub, Nat.reduceLeDiff, true_and, Bool.false_eq_true, if_false, if_true, isi_int_non, isi_int_bl, isi_int_int, isi_int_str, isi_int_lst, isi_int_tup, isi_bool_non, isi_bool_bl, isi_bool_int, isi_bool_str, isi_bool_lst, isi_bool_tup, isi_list_non, isi_list_bl, isi_list_int, isi_list_str, isi_list_lst, isi_list_tup, isi_tuple_non, isi_tuple_bl, isi_tuple_int, isi_tuple_str, isi_tuple_lst, isi_tuple_tup, isi_str_non, isi_str_bl, isi_str_int, isi_str_str, isi_str_lst, isi_str_tup, Bool.not_true, Bool.not_false, Bool.or_false, Bool.or_true, Bool.false_or, Bool.true_or, ite_true, ite_false, Option.some.injEq, true_or, false_or, or_false, and_true, rd_isOwn, rd_own1, rd_own2, rd_own3, rd_ixO, rd_onIx1, rd_onIx2, rd_store, rd_onStore1, rd_onStore2, ex_eq, xApp, xDput, S.ow.injEq, S.bg.injEq, S.od.injEq, reduceCtorEq, exists_eq_left', exists_eq_left, exists_eq', D.int.injEq, atI_c0, atI_c1, atI_c2, ixN3_0, ixN3_1, ixN3_2, false_and, and_self]
        have a1 := hA i' t hik ht'
        have a2 := hB t j ht' hj'
        exact ⟨cm64 (by omega) (by omega) (by omega) (by omega), h2⟩
      · simp only [xSeq, xSet, xRet, xIf, xExpr, xNext, xNever, xC, xNil, xCons, xTup, xLst, xOp, xEq, xNe, xUn, xNot, xAnd, xOr, xIfE, xCB, xCall, xCallB, xName, xAsg, xIsi3, toD_fz, toD_ow, toD_od, toD_bg, rd_var, rd_getv1, rd_getv2, rd_getv3, rd_test, rd_onB, rd_onI, rd_onSB, rd_andV, rd_orV, rd_notV, rd_chain, rd_II, rd_II0, rd_add1, rd_add2, rd_add3, rd_mul1, rd_mul2, rd_mul3, rd_isN, rd_notN, rd_isN1, rd_isN2, rd_isN3, rd_neg, rd_ix1, rd_ix2, rd_part, rd_sl, rd_onSl1, rd_onSl2, rd_rev, rd_onRv, rd_len1, rd_len2, rd_max2, rd_min2, rd_int1, rd_int2, rd_lst1, rd_lst2, rd_tup1, rd_tup2, rd_dm, rd_seqI, rd_onSq1, rd_onSq2, rd_rng1, rd_onR1, rd_rng2, rd_onR2, xEnumT, rd_onEt, rd_zip, rd_onZ1, rd_onZ2, rd_par, rd_onP, xPar3, rd_onP3, rd_gtup, rd_gnil, rd_gcons, rd_isi, ini, iniB, wipeD, unw, kf, List.map_cons, List.map_nil, List.replicate_succ, List.replicate_zero, List.cons_append, List.nil_append, List.length_cons, List.length_nil, List.getElem?_cons_zero, List.getElem?_cons_succ, List.set_cons_zero, List.set_cons_succ, decide_eq_true_eq, Nat.zero_add, Nat.reduceAdd, Nat.reduceSub, Nat.reduceLeDiff, true_and, Bool.false_eq_true, if_false, if_true, isi_int_non, isi_int_bl, isi_int_int, isi_int_str, isi_int_lst, isi_int_tup, isi_bool_non, isi_bool_bl, isi_bool_int, isi_bool_str, isi_bool_lst, isi_bool_tup, isi_list_non, isi_list_bl, isi_list_int, isi_list_str, isi_list_lst, isi_list_tup, isi_tuple_non, isi_tuple_bl, isi_tuple_int, isi_tuple_str, isi_tuple_lst, isi_tuple_tup, isi_str_non, isi_str_bl, isi_str_int, isi_str_str, isi_str_lst, isi_str_tup, Bool.not_true, Bool.not_false, Bool.or_false, Bool.or_true, Bool.false_or, Bool.true_or, ite_true, ite_false, Option.some.injEq, true_or, false_or, or_false, and_true, rd_isOwn, rd_own1, rd_own2, rd_own3, rd_ixO, rd_onIx1, rd_onIx2, rd_store, rd_onStore1, rd_onStore2, ex_eq, xApp, xDput, S.ow.injEq, S.bg.injEq, S.od.injEq, reduceCtorEq, exists_eq_left', exists_eq_left, exists_eq', D.int.injEq, atI_c0, atI_c1, atI_c2, ixN3_0, ixN3_1, ixN3_2, false_and, and_self]
        refine ⟨(List.range k).map fun t => A i' t * B t j, by rw [List.map_map]; rfl, ?_⟩
        simp only [xSeq, xSet, xRet, xIf, xExpr, xNext, xNever, xC, xNil, xCons, xTup, xLst, xOp, xEq, xNe, xUn, xNot, xAnd, xOr, xIfE, xCB, xCall, xCallB, xName, xAsg, xIsi3, toD_fz, toD_ow, toD_od, toD_bg, rd_var, rd_getv1, rd_getv2, rd_getv3, rd_test, rd_onB, rd_onI, rd_onSB, rd_andV, rd_orV, rd_notV, rd_chain, rd_II, rd_II0, rd_add1, rd_add2, rd_add3, rd_mul1, rd_mul2, rd_mul3, rd_isN, rd_notN, rd_isN1, rd_isN2, rd_isN3, rd_neg, rd_ix1, rd_ix2, rd_part, rd_sl, rd_onSl1, rd_onSl2, rd_rev, rd_onRv, rd_len1, rd_len2, rd_max2, rd_min2, rd_int1, rd_int2, rd_lst1, rd_lst2, rd_tup1, rd_tup2, rd_dm, rd_seqI, rd_onSq1, rd_onSq2, rd_rng1, rd_onR1, rd_rng2, rd_onR2, xEnumT, rd_onEt, rd_zip, rd_onZ1, rd_onZ2, rd_par, rd_onP, xPar3, rd_onP3, rd_gtup, rd_gnil, rd_gcons, rd_isi, ini, iniB, wipeD, unw, kf, List.map_cons, List.map_nil, List.replicate_succ, List.replicate_zero, List.cons_append, List.nil_append, List.length_cons, List.length_nil, List.getElem?_cons_zero, List.getElem?_cons_succ, List.set_cons_zero, List.set_cons_succ, decide_eq_true_eq, Nat.zero_add, Nat.reduceAdd, Nat.reduceSub, Nat.reduceLeDiff, true_and, Bool.false_eq_true, if_false, if_true, isi_int_non, isi_int_bl, isi_int_int, isi_int_str, isi_int_lst, isi_int_tup, isi_bool_non, isi_bool_bl, isi_bool_int, isi_bool_str, isi_bool_lst, isi_bool_tup, isi_list_non, isi_list_bl, isi_list_int, isi_list_str, isi_list_lst, isi_list_tup, isi_tuple_non, isi_tuple_bl, isi_tuple_int, isi_tuple_str, isi_tuple_lst, isi_tuple_tup, isi_str_non, isi_str_bl, isi_str_int, isi_str_str, isi_str_lst, isi_str_tup, Bool.not_true, Bool.not_false, Bool.or_false, Bool.or_true, Bool.false_or, Bool.true_or, ite_true, ite_false, Option.some.injEq, true_or, false_or, or_false, and_true, rd_isOwn, rd_own1, rd_own2, rd_own3, rd_ixO, rd_onIx1, rd_onIx2, rd_store, rd_onStore1, rd_onStore2, ex_eq, xApp, xDput, S.ow.injEq, S.bg.injEq, S.od.injEq, reduceCtorEq, exists_eq_left', exists_eq_left, exists_eq', D.int.injEq, atI_c0, atI_c1, atI_c2, ixN3_0, ixN3_1, ixN3_2, false_and, and_self]
        exact ⟨by omega, h1⟩
    · simp only [xSeq, xSet, xRet, xIf, xExpr, xNext, xNever, xC, xNil, xCons, xTup, xLst, xOp, xEq, xNe, xUn, xNot, xAnd, xOr, xIfE, xCB, xCall, xCallB, xName, xAsg, xIsi3, toD_fz, toD_ow, toD_od, toD_bg, rd_var, rd_getv1, rd_getv2, rd_getv3, rd_test, rd_onB, rd_onI, rd_onSB, rd_andV, rd_orV, rd_notV, rd_chain, rd_II, rd_II0, rd_add1, rd_add2, rd_add3, rd_mul1, rd_mul2, rd_mul3, rd_isN, rd_notN, rd_isN1, rd_isN2, rd_isN3, rd_neg, rd_ix1, rd_ix2, rd_part, rd_sl, rd_onSl1, rd_onSl2, rd_rev, rd_onRv, rd_len1, rd_len2, rd_max2, rd_min2, rd_int1, rd_int2, rd_lst1, rd_lst2, rd_tup1, rd_tup2, rd_dm, rd_seqI, rd_onSq1, rd_onSq2, rd_rng1, rd_onR1, rd_rng2, rd_onR2, xEnumT, rd_onEt, rd_zip, rd_onZ1, rd_onZ2, rd_par, rd_onP, xPar3, rd_onP3, rd_gtup, rd_gnil, rd_gcons, rd_isi, ini, iniB, wipeD, unw, kf, List.map_cons, List.map_nil, List.replicate_succ, List.replicate_zero, List.cons_append, List.nil_append, List.length_cons, List.length_nil, List.getElem?_cons_zero, List.getElem?_cons_succ, List.set_cons_zero, List.set_cons_succ, decide_eq_true_eq, Nat.zero_add, Nat.reduceAdd, Nat.reduceSub, Nat.reduceLeDiff, true_and, Bool.false_eq_true, if_false, if_true, isi_int_non, isi_int_bl, isi_int_int, isi_int_str, isi_int_lst, isi_int_tup, isi_bool_non, isi_bool_bl, isi_bool_int, isi_bool_str, isi_bool_lst, isi_bool_tup, isi_list_non, isi_list_bl, isi_list_int, isi_list_str, isi_list_lst, isi_list_tup, isi_tuple_non, isi_tuple_bl, isi_tuple_int, isi_tuple_str, isi_tuple_lst, isi_tuple_tup, isi_str_non, isi_str_bl, isi_str_int, isi_str_str, isi_str_lst, isi_str_tup, Bool.not_true, Bool.not_false, Bool.or_false, Bool.or_true, Bool.false_or, Bool.true_or, ite_true, ite_false, Option.some.injEq, true_or, false_or, or_false, and_true, rd_isOwn, rd_own1, rd_own2, rd_own3, rd_ixO, rd_onIx1, rd_onIx2, rd_store, rd_onStore1, rd_onStore2, ex_eq, xApp, xDput, S.ow.injEq, S.bg.injEq, S.od.injEq, reduceCtorEq, exists_eq_left', exists_eq_left, exists_eq', D.int.injEq, atI_c0, atI_c1, atI_c2, ixN3_0, ixN3_1, ixN3_2, false_and, and_self]
      refine ⟨by simp only [List.length_map, List.length_range]; omega, some (.fz (rowD k (A i'))), ?_⟩
      rw [List.range_succ, List.map_append]
      rfl
  · obtain ⟨x5, rfl⟩ := hI
    simp only [xSeq, xSet, xRet, xIf, xExpr, xNext, xNever, xC, xNil, xCons, xTup, xLst, xOp, xEq, xNe, xUn, xNot, xAnd, xOr, xIfE, xCB, xCall, xCallB, xName, xAsg, xIsi3, toD_fz, toD_ow, toD_od, toD_bg, rd_var, rd_getv1, rd_getv2, rd_getv3, rd_test, rd_onB, rd_onI, rd_onSB, rd_andV, rd_orV, rd_notV, rd_chain, rd_II, rd_II0, rd_add1, rd_add2, rd_add3, rd_mul1, rd_mul2, rd_mul3, rd_isN, rd_notN, rd_isN1, rd_isN2, rd_isN3, rd_neg, rd_ix1, rd_ix2, rd_part, rd_sl, rd_onSl1, rd_onSl2, rd_rev, rd_onRv, rd_len1, rd_len2, rd_max2, rd_min2, rd_int1, rd_int2, rd_lst1, rd_lst2, rd_tup1, rd_tup2, rd_dm, rd_seqI, rd_onSq1, rd_onSq2, rd_rng1, rd_onR1, rd_rng2, rd_onR2, xEnumT, rd_onEt, rd_zip, rd_onZ1, rd_onZ2, rd_par, rd_onP, xPar3, rd_onP3, rd_gtup, rd_gnil, rd_gcons, rd_isi, ini, iniB, wipeD, unw, kf, List.map_cons, List.map_nil, List.replicate_succ, List.replicate_zero, List.cons_append, List.nil_append, List.length_cons, List.length_nil, List.getElem?_cons_zero, List.getElem?_cons_succ, List.set_cons_zero, List.set_cons_succ, decide_eq_true_eq, Nat.zero_add, Nat.reduceAdd, Nat.reduceSub, Nat.reduceLeDiff, true_and, Bool.false_eq_true, if_false, if_true, isi_int_non, isi_int_bl, isi_int_int, isi_int_str, isi_int_lst, isi_int_tup, isi_bool_non, isi_bool_bl, isi_bool_int, isi_bool_str, isi_bool_lst, isi_bool_tup, isi_list_non, isi_list_bl, isi_list_int, isi_list_str, isi_list_lst, isi_list_tup, isi_tuple_non, isi_tuple_bl, isi_tuple_int, isi_tuple_str, isi_tuple_lst, isi_tuple_tup, isi_str_non, isi_str_bl, isi_str_int, isi_str_str, isi_str_lst, isi_str_tup, Bool.not_true, Bool.not_false, Bool.or_false, Bool.or_true, Bool.false_or, Bool.true_or, ite_true, ite_false, Option.some.injEq, true_or, false_or, or_false, and_true, rd_isOwn, rd_own1, rd_own2, rd_own3, rd_ixO, rd_onIx1, rd_onIx2, rd_store, rd_onStore1, rd_onStore2, ex_eq, xApp, xDput, S.ow.injEq, S.bg.injEq, S.od.injEq, reduceCtorEq, exists_eq_left', exists_eq_left, exists_eq', D.int.injEq, atI_c0, atI_c1, atI_c2, ixN3_0, ixN3_1, ixN3_2, false_and, and_self]
    exact q

theorem atI_map {l : List Int} {i : Nat} {z : Int} (e : z = (i : Int)) (h : i < l.length) : atI (l.map D.int) z = some (D.int (l.getD i 0)) := by
  subst e
  exact atI_nat (by rw [List.getElem?_map, List.getD_eq_getElem?_getD, List.getElem?_eq_getElem h]; rfl)
theorem mm_bnd {k : Nat} {A B : Nat → Nat → Int} {m : Int} (h : 2 ≤ m) (h2 : m ≤ 1000000000) : bndM k fun i j => mm k A B i j % m := fun i j _ _ => by
  have := Int.emod_nonneg (mm k A B i j) (show m ≠ 0 by omega)
  have := Int.emod_lt_of_pos (mm k A B i j) (show 0 < m by omega)
  show 0 ≤ mm k A B i j % m ∧ mm k A B i j % m ≤ 1000000000
  omega
theorem lc_allE {α : Type} (as : List α) (ι : α → D) (f : α → D) (E : En → Prop) {ti : DI} {g : DG} {tt : DT} {te : DE} {vs : List Nat} {ρ : En} {Q : S → En → Prop}
    (hi : ∀ QL : List D → En → Prop, QL (as.map ι) ρ → ti ρ QL) (hl : as.length ≤ 100000) (h0 : E (wipeD ρ vs))
    (hs : ∀ a ∈ as, ∀ ρw, E ρw → ∀ QD : D → En → Prop, ∀ QN : En → Prop, (∀ ρ', E ρ' → QD (f a) ρ') → g (ι a) ρw fun ρ2 => tt ρ2 fun b ρ3 => if b = true then te ρ3 fun s ρ4 => QD s.toD (wipeD ρ4 vs) else QN (wipeD ρ3 vs))
    (q : ∀ ρw, E ρw → Q (.ow (as.map f)) (unw ρ ρw vs)) : xLc ti g tt te vs ρ Q := by
  refine hi _ ⟨by simpa using hl, fun i acc ρb => acc = (as.take i).map f ∧ E ρb, ⟨by simp, h0⟩, fun i d acc ρb hd hI => ?_, fun acc ρb hI => ?_⟩
  · obtain ⟨rfl, hE⟩ := hI
    rw [List.getElem?_map] at hd
    obtain ⟨a, ha, rfl⟩ := Option.map_eq_some_iff.mp hd
    refine hs a (List.mem_of_getElem? ha) ρb hE (fun d ρ4 => (as.take i).map f ++ [d] = (as.take (i + 1)).map f ∧ E ρ4) (fun ρ3 => (as.take i).map f = (as.take (i + 1)).map f ∧ E ρ3) fun ρ' h' => ⟨?_, h'⟩
    rw [List.take_add_one, ha, List.map_append]
    rfl
  · obtain ⟨rfl, hE⟩ := hI
    rw [List.length_map, List.take_length]
    exact q ρb hE
def dp_rest_of : DP := fun ds Q _ => ∃ (l : List Int) (n m : Int), ds = [.tup (l.map D.int), .int n, .int m] ∧ l.length ≤ 8 ∧ low40 l ∧ 2 ≤ m ∧ m ≤ 1000000000 ∧ n ≤ 1000000000000000000 ∧ Q (.fz (.int (hz l n % m)))

abbrev s_rest_of : Stmt := topS 22
theorem sc_rest_of : FnScope ["heights", "many", "by", "size", "step", "to", "at", "power"] ["heights", "many", "by"] (defScope s_rest_of) := ⟨rfl, rfl, rfl, by decide +kernel, rfl, by decide +kernel, by decide +kernel⟩
theorem ok_rest_of {P : Program} {w : World} {K : PySem.W.Frag} {mg : Str → Option Value} {base : Heap} (B : Bt mg) (d : Df K mg "rest_of" s_rest_of ["heights", "many", "by"]) (h_times : Fn P w K mg base "times" 1 3 dp_times) : Fn P w K mg base "rest_of" (1 + 1) 3 dp_rest_of := by
  refine fn_mk d sc_rest_of rfl (by decide) fun f cdv A outer s H E C hr => ⟨_, _, (ds_cons (ds_if (dt_cmp o_lt (dv 1) d_int) (ds_one (ds_ret d_int)) ds_nil)
      (ds_cons (ds_set 3 sc_rest_of.nd (d_callB (c_lenK K) (by rfl) B.len PySem.boot_len (da_cons (dv 0) da_nil)))
      (ds_cons (ds_if (dt_cmp (o_eqK K hr.units) (dv 3) d_int) (ds_one (ds_ret (d_op o_mod (d_callTy c_int (by rfl) B.int (by decide +kernel) (da_cons (d_cmp (o_eqK K hr.units) (dv 1) d_int) da_nil)) (dv 2)))) ds_nil)
      (ds_cons (ds_setLc 4 [("at", 6)] rfl sc_rest_of.nd (di_range1 (by rfl) B.range (da_cons (dv 3) da_nil)) (blkOk_by (by show blkC ["heights", "many", "by", "size", "step", "to", "at", "power"] (defScope s_rest_of) _ [("at", 6)] = true; decide +kernel)) (fun _ _ _ _ _ _ => (dg_name 6 sc_rest_of.nd)) (fun _ _ _ _ _ _ => dts_nil) (fun _ _ _ _ _ _ => (d_lc [("to", 5)] rfl sc_rest_of.nd (di_range1 (by rfl) B.range (da_cons (dv 3) da_nil)) (blkOk_by (by show blkC ["heights", "many", "by", "size", "step", "to", "at", "power"] (relS _ (defScope s_rest_of)) _ [("to", 5)] = true; decide +kernel)) (fun _ _ _ _ _ _ => (dg_name 5 sc_rest_of.nd)) (fun _ _ _ _ _ _ => dts_nil) (fun _ _ _ _ _ _ => (d_op (o_mulK K) (d_ixK K (dv 0) (dv 5)) (d_callTy c_int (by rfl) B.int (by decide +kernel) (da_cons (d_cmp o_le (dv 6) (dv 5)) da_nil)))))) (sw_true rfl rfl rfl (by decide +kernel)))
      (ds_cons (ds_set 7 sc_rest_of.nd (d_lc [("at", 6)] rfl sc_rest_of.nd (di_range1 (by rfl) B.range (da_cons (dv 3) da_nil)) (blkOk_by (by show blkC ["heights", "many", "by", "size", "step", "to", "at", "power"] (defScope s_rest_of) _ [("at", 6)] = true; decide +kernel)) (fun _ _ _ _ _ _ => (dg_name 6 sc_rest_of.nd)) (fun _ _ _ _ _ _ => dts_nil) (fun _ _ _ _ _ _ => (d_lc [("to", 5)] rfl sc_rest_of.nd (di_range1 (by rfl) B.range (da_cons (dv 3) da_nil)) (blkOk_by (by show blkC ["heights", "many", "by", "size", "step", "to", "at", "power"] (relS _ (defScope s_rest_of)) _ [("to", 5)] = true; decide +kernel)) (fun _ _ _ _ _ _ => (dg_name 5 sc_rest_of.nd)) (fun _ _ _ _ _ _ => dts_nil) (fun _ _ _ _ _ _ => (d_callTy c_int (by rfl) B.int (by decide +kernel) (da_cons (d_cmp (o_eqK K hr.units) (dv 6) (dv 5)) da_nil)))))))
      (ds_cons (ds_while PassesOwn.never (dt_cmp o_gt (dv 1) d_int) (ds_cons (ds_if (dt_cmp (o_eqK K hr.units) (d_op o_mod (dv 1) d_int) d_int) (ds_one (ds_set 7 sc_rest_of.nd (d_fnK h_times (hr.mono (by decide)) (da_cons (dv 7) (da_cons (dv 4) (da_cons (dv 2) da_nil)))))) ds_nil)
      (ds_cons (ds_set 4 sc_rest_of.nd (d_fnK h_times (hr.mono (by decide)) (da_cons (dv 4) (da_cons (dv 4) (da_cons (dv 2) da_nil)))))
      (ds_one (ds_set 1 sc_rest_of.nd (d_op o_div (dv 1) d_int))))))
      (ds_one (ds_ret (d_op o_mod (d_callB (c_sumK K rfl) (by rfl) B.sum (by decide +kernel) (da_cons (d_lc [("to", 5)] rfl sc_rest_of.nd (di_range1 (by rfl) B.range (da_cons (dv 3) da_nil)) (blkOk_by (by show blkC ["heights", "many", "by", "size", "step", "to", "at", "power"] (defScope s_rest_of) _ [("to", 5)] = true; decide +kernel)) (fun _ _ _ _ _ _ => (dg_name 5 sc_rest_of.nd)) (fun _ _ _ _ _ _ => dts_nil) (fun _ _ _ _ _ _ => (d_ixK K (d_ixK K (dv 7) d_int) (dv 5)))) da_nil)) (dv 2)))))))))), fun ds QD ED hl0 h => ?_⟩
  obtain ⟨a0, a1, a2, rfl⟩ : ∃ a0 a1 a2, ds = [a0, a1, a2] := by
    match ds, hl0 with
    | [a0, a1, a2], _ => exact ⟨a0, a1, a2, rfl⟩
  clear hl0
  obtain ⟨l, n, m, e, hl, hlo, m1, m2, hn, q⟩ := h
  cases e
  unfold hz at q
  simp only [xSeq, xSet, xRet, xIf, xExpr, xNext, xNever, xC, xNil, xCons, xTup, xLst, xOp, xEq, xNe, xUn, xNot, xAnd, xOr, xIfE, xCB, xCall, xCallB, xName, xAsg, xIsi3, toD_fz, toD_ow, toD_od, toD_bg, rd_var, rd_getv1, rd_getv2, rd_getv3, rd_test, rd_onB, rd_onI, rd_onSB, rd_andV, rd_orV, rd_notV, rd_chain, rd_II, rd_II0, rd_add1, rd_add2, rd_add3, rd_mul1, rd_mul2, rd_mul3, rd_isN, rd_notN, rd_isN1, rd_isN2, rd_isN3, rd_neg, rd_ix1, rd_ix2, rd_part, rd_sl, rd_onSl1, rd_onSl2, rd_rev, rd_onRv, rd_len1, rd_len2, rd_max2, rd_min2, rd_int1, rd_int2, rd_lst1, rd_lst2, rd_tup1, rd_tup2, rd_dm, rd_seqI, rd_onSq1, rd_onSq2, rd_rng1, rd_onR1, rd_rng2, rd_onR2, xEnumT, rd_onEt, rd_zip, rd_onZ1, rd_onZ2, rd_par, rd_onP, xPar3, rd_onP3, rd_gtup, rd_gnil, rd_gcons, rd_isi, ini, iniB, wipeD, unw, kf, List.map_cons, List.map_nil, List.replicate_succ, List.replicate_zero, List.cons_append, List.nil_append, List.length_cons, List.length_nil, List.getElem?_cons_zero, List.getElem?_cons_succ, List.set_cons_zero, List.set_cons_succ, decide_eq_true_eq, Nat.zero_add, Nat.reduceAdd, Nat.reduceSub, Nat.reduceLeDiff, true_and, Bool.false_eq_true, if_false, if_true, isi_int_non, isi_int_bl, isi_int_int, isi_int_str, isi_int_lst, isi_int_tup, isi_bool_non, isi_bool_bl, isi_bool_int, isi_bool_str, isi_bool_lst, isi_bool_tup, isi_list_non, isi_list_bl, isi_list_int, isi_list_str, isi_list_lst, isi_list_tup, isi_tuple_non, isi_tuple_bl, isi_tuple_int, isi_tuple_str, isi_tuple_lst, isi_tuple_tup, isi_str_non, isi_str_bl, isi_str_int, isi_str_str, isi_str_lst, isi_str_tup, Bool.not_true, Bool.not_false, Bool.or_false, Bool.or_true, Bool.false_or, Bool.true_or, ite_true, ite_false, Option.some.injEq, true_or, false_or, or_false, and_true, eqD_int]
  refine ite2 (fun h0 => ?_) fun h0 => ?_
  · rw [if_neg (by omega), Int.zero_emod] at q
    exact q
  rw [if_pos (by omega)] at q
  obtain ⟨N, rfl⟩ : ∃ N : Nat, n = N := ⟨n.toNat, by omega⟩
  rw [Int.toNat_natCast] at q
  simp only [List.length_map]
  obtain ⟨k, ek⟩ : ∃ k, k = l.length := ⟨_, rfl⟩
  rw [← ek]
  refine ⟨rfl, rfl, ite2 (fun hk => ?_) fun hk => ?_⟩
  · have el : l = [] := List.length_eq_zero_iff.mp (by omega)
    subst el
    refine ⟨rfl, rfl, by omega, ?_⟩
    have e1 : hh [] N = if (N : Int) = 0 then 1 else 0 := by
      show (if N = 0 then (1 : Int) else 0) = _
      by_cases z : N = 0
      · rw [if_pos z, if_pos (by omega)]
      · rw [if_neg z, if_neg (by omega)]
    rw [e1] at q
    exact q
  have k1 : 1 ≤ k := by omega
  have k8 : k ≤ 8 := by omega
  obtain ⟨h, eh⟩ : ∃ h : Nat → Int, h = fun j => l.getD j 0 := ⟨_, rfl⟩
  have hh40 : ∀ j, j < k → 1 ≤ h j ∧ h j ≤ 40 := fun j hj => by
    rw [eh]
    show 1 ≤ l.getD j 0 ∧ l.getD j 0 ≤ 40
    rw [List.getD_eq_getElem?_getD, List.getElem?_eq_getElem (by omega)]
    exact hlo _ (List.getElem_mem _)
  refine lc_all (List.range k) (fun i : Nat => D.int (0 + (i : Int))) (fun i => rowD k (upT h i)) (fun QL hq => ?_) (by rw [List.length_range]; omega) (fun i hi QD QN h1 => ?_) ?_
  · simp only [xSeq, xSet, xRet, xIf, xExpr, xNext, xNever, xC, xNil, xCons, xTup, xLst, xOp, xEq, xNe, xUn, xNot, xAnd, xOr, xIfE, xCB, xCall, xCallB, xName, xAsg, xIsi3, toD_fz, toD_ow, toD_od, toD_bg, rd_var, rd_getv1, rd_getv2, rd_getv3, rd_test, rd_onB, rd_onI, rd_onSB, rd_andV, rd_orV, rd_notV, rd_chain, rd_II, rd_II0, rd_add1, rd_add2, rd_add3, rd_mul1, rd_mul2, rd_mul3, rd_isN, rd_notN, rd_isN1, rd_isN2, rd_isN3, rd_neg, rd_ix1, rd_ix2, rd_part, rd_sl, rd_onSl1, rd_onSl2, rd_rev, rd_onRv, rd_len1, rd_len2, rd_max2, rd_min2, rd_int1, rd_int2, rd_lst1, rd_lst2, rd_tup1, rd_tup2, rd_dm, rd_seqI, rd_onSq1, rd_onSq2, rd_rng1, rd_onR1, rd_rng2, rd_onR2, xEnumT, rd_onEt, rd_zip, rd_onZ1, rd_onZ2, rd_par, rd_onP, xPar3, rd_onP3, rd_gtup, rd_gnil, rd_gcons, rd_isi, ini, iniB, wipeD, unw, kf, List.map_cons, List.map_nil, List.replicate_succ, List.replicate_zero, List.cons_append, List.nil_append, List.length_cons, List.length_nil, List.getElem?_cons_zero, List.getElem?_cons_succ, List.set_cons_zero, List.set_cons_succ, decide_eq_true_eq, Nat.zero_add, Nat.reduceAdd, Nat.reduceSub, Nat.reduceLeDiff, true_and, Bool.false_eq_true, if_false, if_true, isi_int_non, isi_int_bl, isi_int_int, isi_int_str, isi_int_lst, isi_int_tup, isi_bool_non, isi_bool_bl, isi_bool_int, isi_bool_str, isi_bool_lst, isi_bool_tup, isi_list_non, isi_list_bl, isi_list_int, isi_list_str, isi_list_lst, isi_list_tup, isi_tuple_non, isi_tuple_bl, isi_tuple_int, isi_tuple_str, isi_tuple_lst, isi_tuple_tup, isi_str_non, isi_str_bl, isi_str_int, isi_str_str, isi_str_lst, isi_str_tup, Bool.not_true, Bool.not_false, Bool.or_false, Bool.or_true, Bool.false_or, Bool.true_or, ite_true, ite_false, Option.some.injEq, true_or, false_or, or_false, and_true, rd_isOwn, rd_own1, rd_own2, rd_own3, rd_ixO, rd_onIx1, rd_onIx2, rd_store, rd_onStore1, rd_onStore2, ex_eq, xApp, xDput, S.ow.injEq, S.bg.injEq, S.od.injEq, reduceCtorEq, exists_eq_left', exists_eq_left, exists_eq', D.int.injEq, atI_c0, atI_c1, atI_c2, ixN3_0, ixN3_1, ixN3_2, false_and, and_self]
    exact ⟨by omega, by omega, by rw [Int.toNat_natCast]; exact hq⟩
  · simp only [xSeq, xSet, xRet, xIf, xExpr, xNext, xNever, xC, xNil, xCons, xTup, xLst, xOp, xEq, xNe, xUn, xNot, xAnd, xOr, xIfE, xCB, xCall, xCallB, xName, xAsg, xIsi3, toD_fz, toD_ow, toD_od, toD_bg, rd_var, rd_getv1, rd_getv2, rd_getv3, rd_test, rd_onB, rd_onI, rd_onSB, rd_andV, rd_orV, rd_notV, rd_chain, rd_II, rd_II0, rd_add1, rd_add2, rd_add3, rd_mul1, rd_mul2, rd_mul3, rd_isN, rd_notN, rd_isN1, rd_isN2, rd_isN3, rd_neg, rd_ix1, rd_ix2, rd_part, rd_sl, rd_onSl1, rd_onSl2, rd_rev, rd_onRv, rd_len1, rd_len2, rd_max2, rd_min2, rd_int1, rd_int2, rd_lst1, rd_lst2, rd_tup1, rd_tup2, rd_dm, rd_seqI, rd_onSq1, rd_onSq2, rd_rng1, rd_onR1, rd_rng2, rd_onR2, xEnumT, rd_onEt, rd_zip, rd_onZ1, rd_onZ2, rd_par, rd_onP, xPar3, rd_onP3, rd_gtup, rd_gnil, rd_gcons, rd_isi, ini, iniB, wipeD, unw, kf, List.map_cons, List.map_nil, List.replicate_succ, List.replicate_zero, List.cons_append, List.nil_append, List.length_cons, List.length_nil, List.getElem?_cons_zero, List.getElem?_cons_succ, List.set_cons_zero, List.set_cons_succ, decide_eq_true_eq, Nat.zero_add, Nat.reduceAdd, Nat.reduceSub, Nat.reduceLeDiff, true_and, Bool.false_eq_true, if_false, if_true, isi_int_non, isi_int_bl, isi_int_int, isi_int_str, isi_int_lst, isi_int_tup, isi_bool_non, isi_bool_bl, isi_bool_int, isi_bool_str, isi_bool_lst, isi_bool_tup, isi_list_non, isi_list_bl, isi_list_int, isi_list_str, isi_list_lst, isi_list_tup, isi_tuple_non, isi_tuple_bl, isi_tuple_int, isi_tuple_str, isi_tuple_lst, isi_tuple_tup, isi_str_non, isi_str_bl, isi_str_int, isi_str_str, isi_str_lst, isi_str_tup, Bool.not_true, Bool.not_false, Bool.or_false, Bool.or_true, Bool.false_or, Bool.true_or, ite_true, ite_false, Option.some.injEq, true_or, false_or, or_false, and_true, rd_isOwn, rd_own1, rd_own2, rd_own3, rd_ixO, rd_onIx1, rd_onIx2, rd_store, rd_onStore1, rd_onStore2, ex_eq, xApp, xDput, S.ow.injEq, S.bg.injEq, S.od.injEq, reduceCtorEq, exists_eq_left', exists_eq_left, exists_eq', D.int.injEq, atI_c0, atI_c1, atI_c2, ixN3_0, ixN3_1, ixN3_2, false_and, and_self]
    refine lc_all (List.range k) (fun j : Nat => D.int (0 + (j : Int))) (fun j => D.int (upT h i j)) (fun QL hq => ?_) (by rw [List.length_range]; omega) (fun j hj QD QN h2 => ?_) ?_
    · simp only [xSeq, xSet, xRet, xIf, xExpr, xNext, xNever, xC, xNil, xCons, xTup, xLst, xOp, xEq, xNe, xUn, xNot, xAnd, xOr, xIfE, xCB, xCall, xCallB, xName, xAsg, xIsi3, toD_fz, toD_ow, toD_od, toD_bg, rd_var, rd_getv1, rd_getv2, rd_getv3, rd_test, rd_onB, rd_onI, rd_onSB, rd_andV, rd_orV, rd_notV, rd_chain, rd_II, rd_II0, rd_add1, rd_add2, rd_add3, rd_mul1, rd_mul2, rd_mul3, rd_isN, rd_notN, rd_isN1, rd_isN2, rd_isN3, rd_neg, rd_ix1, rd_ix2, rd_part, rd_sl, rd_onSl1, rd_onSl2, rd_rev, rd_onRv, rd_len1, rd_len2, rd_max2, rd_min2, rd_int1, rd_int2, rd_lst1, rd_lst2, rd_tup1, rd_tup2, rd_dm, rd_seqI, rd_onSq1, rd_onSq2, rd_rng1, rd_onR1, rd_rng2, rd_onR2, xEnumT, rd_onEt, rd_zip, rd_onZ1, rd_onZ2, rd_par, rd_onP, xPar3, rd_onP3, rd_gtup, rd_gnil, rd_gcons, rd_isi, ini, iniB, wipeD, unw, kf, List.map_cons, List.map_nil, List.replicate_succ, List.replicate_zero, List.cons_append, List.nil_append, List.length_cons, List.length_nil, List.getElem?_cons_zero, List.getElem?_cons_succ, List.set_cons_zero, List.set_cons_succ, decide_eq_true_eq, Nat.zero_add, Nat.reduceAdd, Nat.reduceSub, Nat.reduceLeDiff, true_and, Bool.false_eq_true, if_false, if_true, isi_int_non, isi_int_bl, isi_int_int, isi_int_str, isi_int_lst, isi_int_tup, isi_bool_non, isi_bool_bl, isi_bool_int, isi_bool_str, isi_bool_lst, isi_bool_tup, isi_list_non, isi_list_bl, isi_list_int, isi_list_str, isi_list_lst, isi_list_tup, isi_tuple_non, isi_tuple_bl, isi_tuple_int, isi_tuple_str, isi_tuple_lst, isi_tuple_tup, isi_str_non, isi_str_bl, isi_str_int, isi_str_str, isi_str_lst, isi_str_tup, Bool.not_true, Bool.not_false, Bool.or_false, Bool.or_true, Bool.false_or, Bool.true_or, ite_true, ite_false, Option.some.injEq, true_or, false_or, or_false, and_true, rd_isOwn, rd_own1, rd_own2, rd_own3, rd_ixO, rd_onIx1, rd_onIx2, rd_store, rd_onStore1, rd_onStore2, ex_eq, xApp, xDput, S.ow.injEq, S.bg.injEq, S.od.injEq, reduceCtorEq, exists_eq_left', exists_eq_left, exists_eq', D.int.injEq, atI_c0, atI_c1, atI_c2, ixN3_0, ixN3_1, ixN3_2, false_and, and_self]
      exact ⟨by omega, by omega, by rw [Int.toNat_natCast]; exact hq⟩
    · have hj' := List.mem_range.mp hj
      have hx := hh40 j hj'
      have ej : l.getD j 0 = h j := by rw [eh]
      simp only [xSeq, xSet, xRet, xIf, xExpr, xNext, xNever, xC, xNil, xCons, xTup, xLst, xOp, xEq, xNe, xUn, xNot, xAnd, xOr, xIfE, xCB, xCall, xCallB, xName, xAsg, xIsi3, toD_fz, toD_ow, toD_od, toD_bg, rd_var, rd_getv1, rd_getv2, rd_getv3, rd_test, rd_onB, rd_onI, rd_onSB, rd_andV, rd_orV, rd_notV, rd_chain, rd_II, rd_II0, rd_add1, rd_add2, rd_add3, rd_mul1, rd_mul2, rd_mul3, rd_isN, rd_notN, rd_isN1, rd_isN2, rd_isN3, rd_neg, rd_ix1, rd_ix2, rd_part, rd_sl, rd_onSl1, rd_onSl2, rd_rev, rd_onRv, rd_len1, rd_len2, rd_max2, rd_min2, rd_int1, rd_int2, rd_lst1, rd_lst2, rd_tup1, rd_tup2, rd_dm, rd_seqI, rd_onSq1, rd_onSq2, rd_rng1, rd_onR1, rd_rng2, rd_onR2, xEnumT, rd_onEt, rd_zip, rd_onZ1, rd_onZ2, rd_par, rd_onP, xPar3, rd_onP3, rd_gtup, rd_gnil, rd_gcons, rd_isi, ini, iniB, wipeD, unw, kf, List.map_cons, List.map_nil, List.replicate_succ, List.replicate_zero, List.cons_append, List.nil_append, List.length_cons, List.length_nil, List.getElem?_cons_zero, List.getElem?_cons_succ, List.set_cons_zero, List.set_cons_succ, decide_eq_true_eq, Nat.zero_add, Nat.reduceAdd, Nat.reduceSub, Nat.reduceLeDiff, true_and, Bool.false_eq_true, if_false, if_true, isi_int_non, isi_int_bl, isi_int_int, isi_int_str, isi_int_lst, isi_int_tup, isi_bool_non, isi_bool_bl, isi_bool_int, isi_bool_str, isi_bool_lst, isi_bool_tup, isi_list_non, isi_list_bl, isi_list_int, isi_list_str, isi_list_lst, isi_list_tup, isi_tuple_non, isi_tuple_bl, isi_tuple_int, isi_tuple_str, isi_tuple_lst, isi_tuple_tup, isi_str_non, isi_str_bl, isi_str_int, isi_str_str, isi_str_lst, isi_str_tup, Bool.not_true, Bool.not_false, Bool.or_false, Bool.or_true, Bool.false_or, Bool.true_or, ite_true, ite_false, Option.some.injEq, true_or, false_or, or_false, and_true, rd_isOwn, rd_own1, rd_own2, rd_own3, rd_ixO, rd_onIx1, rd_onIx2, rd_store, rd_onStore1, rd_onStore2, ex_eq, xApp, xDput, S.ow.injEq, S.bg.injEq, S.od.injEq, reduceCtorEq, exists_eq_left', exists_eq_left, exists_eq', D.int.injEq, atI_c0, atI_c1, atI_c2, ixN3_0, ixN3_1, ixN3_2, false_and, and_self]
      refine ⟨_, atI_map (i := j) (by omega) (by omega), ?_⟩
      rw [ej]
      try simp only [xSeq, xSet, xRet, xIf, xExpr, xNext, xNever, xC, xNil, xCons, xTup, xLst, xOp, xEq, xNe, xUn, xNot, xAnd, xOr, xIfE, xCB, xCall, xCallB, xName, xAsg, xIsi3, toD_fz, toD_ow, toD_od, toD_bg, rd_var, rd_getv1, rd_getv2, rd_getv3, rd_test, rd_onB, rd_onI, rd_onSB, rd_andV, rd_orV, rd_notV, rd_chain, rd_II, rd_II0, rd_add1, rd_add2, rd_add3, rd_mul1, rd_mul2, rd_mul3, rd_isN, rd_notN, rd_isN1, rd_isN2, rd_isN3, rd_neg, rd_ix1, rd_ix2, rd_part, rd_sl, rd_onSl1, rd_onSl2, rd_rev, rd_onRv, rd_len1, rd_len2, rd_max2, rd_min2, rd_int1, rd_int2, rd_lst1, rd_lst2, rd_tup1, rd_tup2, rd_dm, rd_seqI, rd_onSq1, rd_onSq2, rd_rng1, rd_onR1, rd_rng2, rd_onR2, xEnumT, rd_onEt, rd_zip, rd_onZ1, rd_onZ2, rd_par, rd_onP, xPar3, rd_onP3, rd_gtup, rd_gnil, rd_gcons, rd_isi, ini, iniB, wipeD, unw, kf, List.map_cons, List.map_nil, List.replicate_succ, List.replicate_zero, List.cons_append, List.nil_append, List.length_cons, List.length_nil, List.getElem?_cons_zero, List.getElem?_cons_succ, List.set_cons_zero, List.set_cons_succ, decide_eq_true_eq, Nat.zero_add, Nat.reduceAdd, Nat.reduceSub, Nat.reduceLeDiff, true_and, Bool.false_eq_true, if_false, if_true, isi_int_non, isi_int_bl, isi_int_int, isi_int_str, isi_int_lst, isi_int_tup, isi_bool_non, isi_bool_bl, isi_bool_int, isi_bool_str, isi_bool_lst, isi_bool_tup, isi_list_non, isi_list_bl, isi_list_int, isi_list_str, isi_list_lst, isi_list_tup, isi_tuple_non, isi_tuple_bl, isi_tuple_int, isi_tuple_str, isi_tuple_lst, isi_tuple_tup, isi_str_non, isi_str_bl, isi_str_int, isi_str_str, isi_str_lst, isi_str_tup, Bool.not_true, Bool.not_false, Bool.or_false, Bool.or_true, Bool.false_or, Bool.true_or, ite_true, ite_false, Option.some.injEq, true_or, false_or, or_false, and_true, rd_isOwn, rd_own1, rd_own2, rd_own3, rd_ixO, rd_onIx1, rd_onIx2, rd_store, rd_onStore1, rd_onStore2, ex_eq, xApp, xDput, S.ow.injEq, S.bg.injEq, S.od.injEq, reduceCtorEq, exists_eq_left', exists_eq_left, exists_eq', D.int.injEq, atI_c0, atI_c1, atI_c2, ixN3_0, ixN3_1, ixN3_2, false_and, and_self]
      have ev : h j * (if (0 : Int) + (i : Int) ≤ 0 + (j : Int) then 1 else 0) = upT h i j := by
        unfold upT
        by_cases z : i ≤ j
        · rw [if_pos (by omega), if_pos z, Int.mul_one]
        · rw [if_neg (by omega), if_neg z, Int.mul_zero]
      rw [← ev] at h2
      refine ⟨cm64 (by omega) (by omega) (by split <;> omega) (by split <;> omega), h2⟩
    · simp only [xSeq, xSet, xRet, xIf, xExpr, xNext, xNever, xC, xNil, xCons, xTup, xLst, xOp, xEq, xNe, xUn, xNot, xAnd, xOr, xIfE, xCB, xCall, xCallB, xName, xAsg, xIsi3, toD_fz, toD_ow, toD_od, toD_bg, rd_var, rd_getv1, rd_getv2, rd_getv3, rd_test, rd_onB, rd_onI, rd_onSB, rd_andV, rd_orV, rd_notV, rd_chain, rd_II, rd_II0, rd_add1, rd_add2, rd_add3, rd_mul1, rd_mul2, rd_mul3, rd_isN, rd_notN, rd_isN1, rd_isN2, rd_isN3, rd_neg, rd_ix1, rd_ix2, rd_part, rd_sl, rd_onSl1, rd_onSl2, rd_rev, rd_onRv, rd_len1, rd_len2, rd_max2, rd_min2, rd_int1, rd_int2, rd_lst1, rd_lst2, rd_tup1, rd_tup2, rd_dm, rd_seqI, rd_onSq1, rd_onSq2, rd_rng1, rd_onR1, rd_rng2, rd_onR2, xEnumT, rd_onEt, rd_zip, rd_onZ1, rd_onZ2, rd_par, rd_onP, xPar3, rd_onP3, rd_gtup, rd_gnil, rd_gcons, rd_isi, ini, iniB, wipeD, unw, kf, List.map_cons, List.map_nil, List.replicate_succ, List.replicate_zero, List.cons_append, List.nil_append, List.length_cons, List.length_nil, List.getElem?_cons_zero, List.getElem?_cons_succ, List.set_cons_zero, List.set_cons_succ, decide_eq_true_eq, Nat.zero_add, Nat.reduceAdd, Nat.reduceSub, Nat.reduceLeDiff, true_and, Bool.false_eq_true, if_false, if_true, isi_int_non, isi_int_bl, isi_int_int, isi_int_str, isi_int_lst, isi_int_tup, isi_bool_non, isi_bool_bl, isi_bool_int, isi_bool_str, isi_bool_lst, isi_bool_tup, isi_list_non, isi_list_bl, isi_list_int, isi_list_str, isi_list_lst, isi_list_tup, isi_tuple_non, isi_tuple_bl, isi_tuple_int, isi_tuple_str, isi_tuple_lst, isi_tuple_tup, isi_str_non, isi_str_bl, isi_str_int, isi_str_str, isi_str_lst, isi_str_tup, Bool.not_true, Bool.not_false, Bool.or_false, Bool.or_true, Bool.false_or, Bool.true_or, ite_true, ite_false, Option.some.injEq, true_or, false_or, or_false, and_true, rd_isOwn, rd_own1, rd_own2, rd_own3, rd_ixO, rd_onIx1, rd_onIx2, rd_store, rd_onStore1, rd_onStore2, ex_eq, xApp, xDput, S.ow.injEq, S.bg.injEq, S.od.injEq, reduceCtorEq, exists_eq_left', exists_eq_left, exists_eq', D.int.injEq, atI_c0, atI_c1, atI_c2, ixN3_0, ixN3_1, ixN3_2, false_and, and_self]
      exact h1
  simp only [xSeq, xSet, xRet, xIf, xExpr, xNext, xNever, xC, xNil, xCons, xTup, xLst, xOp, xEq, xNe, xUn, xNot, xAnd, xOr, xIfE, xCB, xCall, xCallB, xName, xAsg, xIsi3, toD_fz, toD_ow, toD_od, toD_bg, rd_var, rd_getv1, rd_getv2, rd_getv3, rd_test, rd_onB, rd_onI, rd_onSB, rd_andV, rd_orV, rd_notV, rd_chain, rd_II, rd_II0, rd_add1, rd_add2, rd_add3, rd_mul1, rd_mul2, rd_mul3, rd_isN, rd_notN, rd_isN1, rd_isN2, rd_isN3, rd_neg, rd_ix1, rd_ix2, rd_part, rd_sl, rd_onSl1, rd_onSl2, rd_rev, rd_onRv, rd_len1, rd_len2, rd_max2, rd_min2, rd_int1, rd_int2, rd_lst1, rd_lst2, rd_tup1, rd_tup2, rd_dm, rd_seqI, rd_onSq1, rd_onSq2, rd_rng1, rd_onR1, rd_rng2, rd_onR2, xEnumT, rd_onEt, rd_zip, rd_onZ1, rd_onZ2, rd_par, rd_onP, xPar3, rd_onP3, rd_gtup, rd_gnil, rd_gcons, rd_isi, ini, iniB, wipeD, unw, kf, List.map_cons, List.map_nil, List.replicate_succ, List.replicate_zero, List.cons_append, List.nil_append, List.length_cons, List.length_nil, List.getElem?_cons_zero, List.getElem?_cons_succ, List.set_cons_zero, List.set_cons_succ, decide_eq_true_eq, Nat.zero_add, Nat.reduceAdd, Nat.reduceSub, Nat.reduceLeDiff, true_and, Bool.false_eq_true, if_false, if_true, isi_int_non, isi_int_bl, isi_int_int, isi_int_str, isi_int_lst, isi_int_tup, isi_bool_non, isi_bool_bl, isi_bool_int, isi_bool_str, isi_bool_lst, isi_bool_tup, isi_list_non, isi_list_bl, isi_list_int, isi_list_str, isi_list_lst, isi_list_tup, isi_tuple_non, isi_tuple_bl, isi_tuple_int, isi_tuple_str, isi_tuple_lst, isi_tuple_tup, isi_str_non, isi_str_bl, isi_str_int, isi_str_str, isi_str_lst, isi_str_tup, Bool.not_true, Bool.not_false, Bool.or_false, Bool.or_true, Bool.false_or, Bool.true_or, ite_true, ite_false, Option.some.injEq, true_or, false_or, or_false, and_true, rd_isOwn, rd_own1, rd_own2, rd_own3, rd_ixO, rd_onIx1, rd_onIx2, rd_store, rd_onStore1, rd_onStore2, ex_eq, xApp, xDput, S.ow.injEq, S.bg.injEq, S.od.injEq, reduceCtorEq, exists_eq_left', exists_eq_left, exists_eq', D.int.injEq, atI_c0, atI_c1, atI_c2, ixN3_0, ixN3_1, ixN3_2, false_and, and_self]
  refine lc_all (List.range k) (fun i : Nat => D.int (0 + (i : Int))) (fun i => rowD k fun j => if i = j then 1 else 0) (fun QL hq => ?_) (by rw [List.length_range]; omega) (fun i hi QD QN h1 => ?_) ?_
  · simp only [xSeq, xSet, xRet, xIf, xExpr, xNext, xNever, xC, xNil, xCons, xTup, xLst, xOp, xEq, xNe, xUn, xNot, xAnd, xOr, xIfE, xCB, xCall, xCallB, xName, xAsg, xIsi3, toD_fz, toD_ow, toD_od, toD_bg, rd_var, rd_getv1, rd_getv2, rd_getv3, rd_test, rd_onB, rd_onI, rd_onSB, rd_andV, rd_orV, rd_notV, rd_chain, rd_II, rd_II0, rd_add1, rd_add2, rd_add3, rd_mul1, rd_mul2, rd_mul3, rd_isN, rd_notN, rd_isN1, rd_isN2, rd_isN3, rd_neg, rd_ix1, rd_ix2, rd_part, rd_sl, rd_onSl1, rd_onSl2, rd_rev, rd_onRv, rd_len1, rd_len2, rd_max2, rd_min2, rd_int1, rd_int2, rd_lst1, rd_lst2, rd_tup1, rd_tup2, rd_dm, rd_seqI, rd_onSq1, rd_onSq2, rd_rng1, rd_onR1, rd_rng2, rd_onR2, xEnumT, rd_onEt, rd_zip, rd_onZ1, rd_onZ2, rd_par, rd_onP, xPar3, rd_onP3, rd_gtup, rd_gnil, rd_gcons, rd_isi, ini, iniB, wipeD, unw, kf, List.map_cons, List.map_nil, List.replicate_succ, List.replicate_zero, List.cons_append, List.nil_append, List.length_cons, List.length_nil, List.getElem?_cons_zero, List.getElem?_cons_succ, List.set_cons_zero, List.set_cons_succ, decide_eq_true_eq, Nat.zero_add, Nat.reduceAdd, Nat.reduceSub, Nat.reduceLeDiff, true_and, Bool.false_eq_true, if_false, if_true, isi_int_non, isi_int_bl, isi_int_int, isi_int_str, isi_int_lst, isi_int_tup, isi_bool_non, isi_bool_bl, isi_bool_int, isi_bool_str, isi_bool_lst, isi_bool_tup, isi_list_non, isi_list_bl, isi_list_int, isi_list_str, isi_list_lst, isi_list_tup, isi_tuple_non, isi_tuple_bl, isi_tuple_int, isi_tuple_str, isi_tuple_lst, isi_tuple_tup, isi_str_non, isi_str_bl, isi_str_int, isi_str_str, isi_str_lst, isi_str_tup, Bool.not_true, Bool.not_false, Bool.or_false, Bool.or_true, Bool.false_or, Bool.true_or, ite_true, ite_false, Option.some.injEq, true_or, false_or, or_false, and_true, rd_isOwn, rd_own1, rd_own2, rd_own3, rd_ixO, rd_onIx1, rd_onIx2, rd_store, rd_onStore1, rd_onStore2, ex_eq, xApp, xDput, S.ow.injEq, S.bg.injEq, S.od.injEq, reduceCtorEq, exists_eq_left', exists_eq_left, exists_eq', D.int.injEq, atI_c0, atI_c1, atI_c2, ixN3_0, ixN3_1, ixN3_2, false_and, and_self]
    exact ⟨by omega, by omega, by rw [Int.toNat_natCast]; exact hq⟩
  · simp only [xSeq, xSet, xRet, xIf, xExpr, xNext, xNever, xC, xNil, xCons, xTup, xLst, xOp, xEq, xNe, xUn, xNot, xAnd, xOr, xIfE, xCB, xCall, xCallB, xName, xAsg, xIsi3, toD_fz, toD_ow, toD_od, toD_bg, rd_var, rd_getv1, rd_getv2, rd_getv3, rd_test, rd_onB, rd_onI, rd_onSB, rd_andV, rd_orV, rd_notV, rd_chain, rd_II, rd_II0, rd_add1, rd_add2, rd_add3, rd_mul1, rd_mul2, rd_mul3, rd_isN, rd_notN, rd_isN1, rd_isN2, rd_isN3, rd_neg, rd_ix1, rd_ix2, rd_part, rd_sl, rd_onSl1, rd_onSl2, rd_rev, rd_onRv, rd_len1, rd_len2, rd_max2, rd_min2, rd_int1, rd_int2, rd_lst1, rd_lst2, rd_tup1, rd_tup2, rd_dm, rd_seqI, rd_onSq1, rd_onSq2, rd_rng1, rd_onR1, rd_rng2, rd_onR2, xEnumT, rd_onEt, rd_zip, rd_onZ1, rd_onZ2, rd_par, rd_onP, xPar3, rd_onP3, rd_gtup, rd_gnil, rd_gcons, rd_isi, ini, iniB, wipeD, unw, kf, List.map_cons, List.map_nil, List.replicate_succ, List.replicate_zero, List.cons_append, List.nil_append, List.length_cons, List.length_nil, List.getElem?_cons_zero, List.getElem?_cons_succ, List.set_cons_zero, List.set_cons_succ, decide_eq_true_eq, Nat.zero_add, Nat.reduceAdd, Nat.reduceSub, Nat.reduceLeDiff, true_and, Bool.false_eq_true, if_false, if_true, isi_int_non, isi_int_bl, isi_int_int, isi_int_str, isi_int_lst, isi_int_tup, isi_bool_non, isi_bool_bl, isi_bool_int, isi_bool_str, isi_bool_lst, isi_bool_tup, isi_list_non, isi_list_bl, isi_list_int, isi_list_str, isi_list_lst, isi_list_tup, isi_tuple_non, isi_tuple_bl, isi_tuple_int, isi_tuple_str, isi_tuple_lst, isi_tuple_tup, isi_str_non, isi_str_bl, isi_str_int, isi_str_str, isi_str_lst, isi_str_tup, Bool.not_true, Bool.not_false, Bool.or_false, Bool.or_true, Bool.false_or, Bool.true_or, ite_true, ite_false, Option.some.injEq, true_or, false_or, or_false, and_true, rd_isOwn, rd_own1, rd_own2, rd_own3, rd_ixO, rd_onIx1, rd_onIx2, rd_store, rd_onStore1, rd_onStore2, ex_eq, xApp, xDput, S.ow.injEq, S.bg.injEq, S.od.injEq, reduceCtorEq, exists_eq_left', exists_eq_left, exists_eq', D.int.injEq, atI_c0, atI_c1, atI_c2, ixN3_0, ixN3_1, ixN3_2, false_and, and_self]
    refine lc_all (List.range k) (fun j : Nat => D.int (0 + (j : Int))) (fun j => D.int (if i = j then 1 else 0)) (fun QL hq => ?_) (by rw [List.length_range]; omega) (fun j hj QD QN h2 => ?_) ?_
    · simp only [xSeq, xSet, xRet, xIf, xExpr, xNext, xNever, xC, xNil, xCons, xTup, xLst, xOp, xEq, xNe, xUn, xNot, xAnd, xOr, xIfE, xCB, xCall, xCallB, xName, xAsg, xIsi3, toD_fz, toD_ow, toD_od, toD_bg, rd_var, rd_getv1, rd_getv2, rd_getv3, rd_test, rd_onB, rd_onI, rd_onSB, rd_andV, rd_orV, rd_notV, rd_chain, rd_II, rd_II0, rd_add1, rd_add2, rd_add3, rd_mul1, rd_mul2, rd_mul3, rd_isN, rd_notN, rd_isN1, rd_isN2, rd_isN3, rd_neg, rd_ix1, rd_ix2, rd_part, rd_sl, rd_onSl1, rd_onSl2, rd_rev, rd_onRv, rd_len1, rd_len2, rd_max2, rd_min2, rd_int1, rd_int2, rd_lst1, rd_lst2, rd_tup1, rd_tup2, rd_dm, rd_seqI, rd_onSq1, rd_onSq2, rd_rng1, rd_onR1, rd_rng2, rd_onR2, xEnumT, rd_onEt, rd_zip, rd_onZ1, rd_onZ2, rd_par, rd_onP, xPar3, rd_onP3, rd_gtup, rd_gnil, rd_gcons, rd_isi, ini, iniB, wipeD, unw, kf, List.map_cons, List.map_nil, List.replicate_succ, List.replicate_zero, List.cons_append, List.nil_append, List.length_cons, List.length_nil, List.getElem?_cons_zero, List.getElem?_cons_succ, List.set_cons_zero, List.set_cons_succ, decide_eq_true_eq, Nat.zero_add, Nat.reduceAdd, Nat.reduceSub, Nat.reduceLeDiff, true_and, Bool.false_eq_true, if_false, if_true, isi_int_non, isi_int_bl, isi_int_int, isi_int_str, isi_int_lst, isi_int_tup, isi_bool_non, isi_bool_bl, isi_bool_int, isi_bool_str, isi_bool_lst, isi_bool_tup, isi_list_non, isi_list_bl, isi_list_int, isi_list_str, isi_list_lst, isi_list_tup, isi_tuple_non, isi_tuple_bl, isi_tuple_int, isi_tuple_str, isi_tuple_lst, isi_tuple_tup, isi_str_non, isi_str_bl, isi_str_int, isi_str_str, isi_str_lst, isi_str_tup, Bool.not_true, Bool.not_false, Bool.or_false, Bool.or_true, Bool.false_or, Bool.true_or, ite_true, ite_false, Option.some.injEq, true_or, false_or, or_false, and_true, rd_isOwn, rd_own1, rd_own2, rd_own3, rd_ixO, rd_onIx1, rd_onIx2, rd_store, rd_onStore1, rd_onStore2, ex_eq, xApp, xDput, S.ow.injEq, S.bg.injEq, S.od.injEq, reduceCtorEq, exists_eq_left', exists_eq_left, exists_eq', D.int.injEq, atI_c0, atI_c1, atI_c2, ixN3_0, ixN3_1, ixN3_2, false_and, and_self]
      exact ⟨by omega, by omega, by rw [Int.toNat_natCast]; exact hq⟩
    · simp only [xSeq, xSet, xRet, xIf, xExpr, xNext, xNever, xC, xNil, xCons, xTup, xLst, xOp, xEq, xNe, xUn, xNot, xAnd, xOr, xIfE, xCB, xCall, xCallB, xName, xAsg, xIsi3, toD_fz, toD_ow, toD_od, toD_bg, rd_var, rd_getv1, rd_getv2, rd_getv3, rd_test, rd_onB, rd_onI, rd_onSB, rd_andV, rd_orV, rd_notV, rd_chain, rd_II, rd_II0, rd_add1, rd_add2, rd_add3, rd_mul1, rd_mul2, rd_mul3, rd_isN, rd_notN, rd_isN1, rd_isN2, rd_isN3, rd_neg, rd_ix1, rd_ix2, rd_part, rd_sl, rd_onSl1, rd_onSl2, rd_rev, rd_onRv, rd_len1, rd_len2, rd_max2, rd_min2, rd_int1, rd_int2, rd_lst1, rd_lst2, rd_tup1, rd_tup2, rd_dm, rd_seqI, rd_onSq1, rd_onSq2, rd_rng1, rd_onR1, rd_rng2, rd_onR2, xEnumT, rd_onEt, rd_zip, rd_onZ1, rd_onZ2, rd_par, rd_onP, xPar3, rd_onP3, rd_gtup, rd_gnil, rd_gcons, rd_isi, ini, iniB, wipeD, unw, kf, List.map_cons, List.map_nil, List.replicate_succ, List.replicate_zero, List.cons_append, List.nil_append, List.length_cons, List.length_nil, List.getElem?_cons_zero, List.getElem?_cons_succ, List.set_cons_zero, List.set_cons_succ, decide_eq_true_eq, Nat.zero_add, Nat.reduceAdd, Nat.reduceSub, Nat.reduceLeDiff, true_and, Bool.false_eq_true, if_false, if_true, isi_int_non, isi_int_bl, isi_int_int, isi_int_str, isi_int_lst, isi_int_tup, isi_bool_non, isi_bool_bl, isi_bool_int, isi_bool_str, isi_bool_lst, isi_bool_tup, isi_list_non, isi_list_bl, isi_list_int, isi_list_str, isi_list_lst, isi_list_tup, isi_tuple_non, isi_tuple_bl, isi_tuple_int, isi_tuple_str, isi_tuple_lst, isi_tuple_tup, isi_str_non, isi_str_bl, isi_str_int, isi_str_str, isi_str_lst, isi_str_tup, Bool.not_true, Bool.not_false, Bool.or_false, Bool.or_true, Bool.false_or, Bool.true_or, ite_true, ite_false, Option.some.injEq, true_or, false_or, or_false, and_true, rd_isOwn, rd_own1, rd_own2, rd_own3, rd_ixO, rd_onIx1, rd_onIx2, rd_store, rd_onStore1, rd_onStore2, ex_eq, xApp, xDput, S.ow.injEq, S.bg.injEq, S.od.injEq, reduceCtorEq, exists_eq_left', exists_eq_left, exists_eq', D.int.injEq, atI_c0, atI_c1, atI_c2, ixN3_0, ixN3_1, ixN3_2, false_and, and_self, eqD_int]
      have ev : (if (0 : Int) + (i : Int) = 0 + (j : Int) then (1 : Int) else 0) = if i = j then 1 else 0 := by
        by_cases z : i = j
        · rw [if_pos (by omega), if_pos z]
        · rw [if_neg (by omega), if_neg z]
      rw [ev]
      exact ⟨rfl, rfl, h2⟩
    · simp only [xSeq, xSet, xRet, xIf, xExpr, xNext, xNever, xC, xNil, xCons, xTup, xLst, xOp, xEq, xNe, xUn, xNot, xAnd, xOr, xIfE, xCB, xCall, xCallB, xName, xAsg, xIsi3, toD_fz, toD_ow, toD_od, toD_bg, rd_var, rd_getv1, rd_getv2, rd_getv3, rd_test, rd_onB, rd_onI, rd_onSB, rd_andV, rd_orV, rd_notV, rd_chain, rd_II, rd_II0, rd_add1, rd_add2, rd_add3, rd_mul1, rd_mul2, rd_mul3, rd_isN, rd_notN, rd_isN1, rd_isN2, rd_isN3, rd_neg, rd_ix1, rd_ix2, rd_part, rd_sl, rd_onSl1, rd_onSl2, rd_rev, rd_onRv, rd_len1, rd_len2, rd_max2, rd_min2, rd_int1, rd_int2, rd_lst1, rd_lst2, rd_tup1, rd_tup2, rd_dm, rd_seqI, rd_onSq1, rd_onSq2, rd_rng1, rd_onR1, rd_rng2, rd_onR2, xEnumT, rd_onEt, rd_zip, rd_onZ1, rd_onZ2, rd_par, rd_onP, xPar3, rd_onP3, rd_gtup, rd_gnil, rd_gcons, rd_isi, ini, iniB, wipeD, unw, kf, List.map_cons, List.map_nil, List.replicate_succ, List.replicate_zero, List.cons_append, List.nil_append, List.length_cons, List.length_nil, List.getElem?_cons_zero, List.getElem?_cons_succ, List.set_cons_zero, List.set_cons_succ, decide_eq_true_eq, Nat.zero_add, Nat.reduceAdd, Nat.reduceSub, Nat.reduceLeDiff, true_and, Bool.false_eq_true, if_false, if_true, isi_int_non, isi_int_bl, isi_int_int, isi_int_str, isi_int_lst, isi_int_tup, isi_bool_non, isi_bool_bl, isi_bool_int, isi_bool_str, isi_bool_lst, isi_bool_tup, isi_list_non, isi_list_bl, isi_list_int, isi_list_str, isi_list_lst, isi_list_tup, isi_tuple_non, isi_tuple_bl, isi_tuple_int, isi_tuple_str, isi_tuple_lst, isi_tuple_tup, isi_str_non, isi_str_bl, isi_str_int, isi_str_str, isi_str_lst, isi_str_tup, Bool.not_true, Bool.not_false, Bool.or_false, Bool.or_true, Bool.false_or, Bool.true_or, ite_true, ite_false, Option.some.injEq, true_or, false_or, or_false, and_true, rd_isOwn, rd_own1, rd_own2, rd_own3, rd_ixO, rd_onIx1, rd_onIx2, rd_store, rd_onStore1, rd_onStore2, ex_eq, xApp, xDput, S.ow.injEq, S.bg.injEq, S.od.injEq, reduceCtorEq, exists_eq_left', exists_eq_left, exists_eq', D.int.injEq, atI_c0, atI_c1, atI_c2, ixN3_0, ixN3_1, ixN3_2, false_and, and_self]
      exact h1
  simp only [xSeq, xSet, xRet, xIf, xExpr, xNext, xNever, xC, xNil, xCons, xTup, xLst, xOp, xEq, xNe, xUn, xNot, xAnd, xOr, xIfE, xCB, xCall, xCallB, xName, xAsg, xIsi3, toD_fz, toD_ow, toD_od, toD_bg, rd_var, rd_getv1, rd_getv2, rd_getv3, rd_test, rd_onB, rd_onI, rd_onSB, rd_andV, rd_orV, rd_notV, rd_chain, rd_II, rd_II0, rd_add1, rd_add2, rd_add3, rd_mul1, rd_mul2, rd_mul3, rd_isN, rd_notN, rd_isN1, rd_isN2, rd_isN3, rd_neg, rd_ix1, rd_ix2, rd_part, rd_sl, rd_onSl1, rd_onSl2, rd_rev, rd_onRv, rd_len1, rd_len2, rd_max2, rd_min2, rd_int1, rd_int2, rd_lst1, rd_lst2, rd_tup1, rd_tup2, rd_dm, rd_seqI, rd_onSq1, rd_onSq2, rd_rng1, rd_onR1, rd_rng2, rd_onR2, xEnumT, rd_onEt, rd_zip, rd_onZ1, rd_onZ2, rd_par, rd_onP, xPar3, rd_onP3, rd_gtup, rd_gnil, rd_gcons, rd_isi, ini, iniB, wipeD, unw, kf, List.map_cons, List.map_nil, List.replicate_succ, List.replicate_zero, List.cons_append, List.nil_append, List.length_cons, List.length_nil, List.getElem?_cons_zero, List.getElem?_cons_succ, List.set_cons_zero, List.set_cons_succ, decide_eq_true_eq, Nat.zero_add, Nat.reduceAdd, Nat.reduceSub, Nat.reduceLeDiff, true_and, Bool.false_eq_true, if_false, if_true, isi_int_non, isi_int_bl, isi_int_int, isi_int_str, isi_int_lst, isi_int_tup, isi_bool_non, isi_bool_bl, isi_bool_int, isi_bool_str, isi_bool_lst, isi_bool_tup, isi_list_non, isi_list_bl, isi_list_int, isi_list_str, isi_list_lst, isi_list_tup, isi_tuple_non, isi_tuple_bl, isi_tuple_int, isi_tuple_str, isi_tuple_lst, isi_tuple_tup, isi_str_non, isi_str_bl, isi_str_int, isi_str_str, isi_str_lst, isi_str_tup, Bool.not_true, Bool.not_false, Bool.or_false, Bool.or_true, Bool.false_or, Bool.true_or, ite_true, ite_false, Option.some.injEq, true_or, false_or, or_false, and_true, rd_isOwn, rd_own1, rd_own2, rd_own3, rd_ixO, rd_onIx1, rd_onIx2, rd_store, rd_onStore1, rd_onStore2, ex_eq, xApp, xDput, S.ow.injEq, S.bg.injEq, S.od.injEq, reduceCtorEq, exists_eq_left', exists_eq_left, exists_eq', D.int.injEq, atI_c0, atI_c1, atI_c2, ixN3_0, ixN3_1, ixN3_2, false_and, and_self, xWhile]
  have bT : bndM k (upT h) := fun i j _ hj => by
    unfold upT
    have := hh40 j hj
    split <;> omega
  have bI : bndM k fun i j => if i = j then 1 else 0 := fun i j _ _ => by
    show 0 ≤ (if i = j then (1 : Int) else 0) ∧ (if i = j then (1 : Int) else 0) ≤ 1000000000
    split <;> omega
  have eT : gT l N = acts k (upT h) N row0 := by
    unfold gT
    rw [ek, eh]
  have e0 : (fun j => if 0 = j then (1 : Int) else 0) = row0 := by
    funext j
    unfold row0
    by_cases z : j = 0
    · rw [if_pos z, if_pos z.symm]
    · rw [if_neg z, if_neg (Ne.symm z)]
  refine ⟨fun μ ρ => ∃ (A B : Nat → Nat → Int) (y4 y7 : S), ρ = [some (.fz (.tup (l.map D.int))), some (.fz (.int (μ : Nat))), some (.fz (.int m)), some (.fz (.int k)), some y4, none, none, some y7] ∧
    (y4 = .fz (matD k B) ∨ y4 = .ow ((List.range k).map fun i => rowD k (B i))) ∧ (y7 = .fz (matD k A) ∨ y7 = .ow ((List.range k).map fun i => rowD k (A i))) ∧ bndM k A ∧ bndM k B ∧ (μ : Int) ≤ 1000000000000000000 ∧ eqm k m (acts k B μ (A 0)) (gT l N),
    ⟨N, _, _, _, _, rfl, .inr rfl, .inr rfl, bI, bT, hn, by rw [eT, e0]; exact fun _ _ => rfl⟩, fun μ ρ hI => ?_⟩
  obtain ⟨A, B, y4, y7, rfl, h4, h7, hA, hB, hμ, inv⟩ := hI
  have hd : ((μ : Int) / 2) = ((μ / 2 : Nat) : Int) := by omega
  have hBB : ∀ t, t < k → eqm k m ((fun i j => mm k B B i j % m) t) (mm k B B t) := fun t _ j _ => Int.emod_emod _ _
  obtain ⟨w, ew⟩ : ∃ w, w = μ / 2 := ⟨_, rfl⟩
  have odd : μ = 2 * w + 1 → eqm k m (acts k (fun i j => mm k B B i j % m) w ((fun i j => mm k A B i j % m) 0)) (gT l N) := fun em j hj => by
    rw [← inv j hj, em]
    show _ = acts k B (2 * w) (vact k B (A 0)) j % m
    rw [acts_two]
    exact acts_cong hBB w (fun j _ => Int.emod_emod _ _) j hj
  have even : μ = 2 * w → eqm k m (acts k (fun i j => mm k B B i j % m) w (A 0)) (gT l N) := fun em j hj => by
    rw [← inv j hj, em, acts_two]
    exact acts_cong hBB w (fun j _ => rfl) j hj
  rcases h4 with rfl | rfl <;> rcases h7 with rfl | rfl
  all_goals
    simp only [xSeq, xSet, xRet, xIf, xExpr, xNext, xNever, xC, xNil, xCons, xTup, xLst, xOp, xEq, xNe, xUn, xNot, xAnd, xOr, xIfE, xCB, xCall, xCallB, xName, xAsg, xIsi3, toD_fz, toD_ow, toD_od, toD_bg, rd_var, rd_getv1, rd_getv2, rd_getv3, rd_test, rd_onB, rd_onI, rd_onSB, rd_andV, rd_orV, rd_notV, rd_chain, rd_II, rd_II0, rd_add1, rd_add2, rd_add3, rd_mul1, rd_mul2, rd_mul3, rd_isN, rd_notN, rd_isN1, rd_isN2, rd_isN3, rd_neg, rd_ix1, rd_ix2, rd_part, rd_sl, rd_onSl1, rd_onSl2, rd_rev, rd_onRv, rd_len1, rd_len2, rd_max2, rd_min2, rd_int1, rd_int2, rd_lst1, rd_lst2, rd_tup1, rd_tup2, rd_dm, rd_seqI, rd_onSq1, rd_onSq2, rd_rng1, rd_onR1, rd_rng2, rd_onR2, xEnumT, rd_onEt, rd_zip, rd_onZ1, rd_onZ2, rd_par, rd_onP, xPar3, rd_onP3, rd_gtup, rd_gnil, rd_gcons, rd_isi, ini, iniB, wipeD, unw, kf, List.map_cons, List.map_nil, List.replicate_succ, List.replicate_zero, List.cons_append, List.nil_append, List.length_cons, List.length_nil, List.getElem?_cons_zero, List.getElem?_cons_succ, List.set_cons_zero, List.set_cons_succ, decide_eq_true_eq, Nat.zero_add, Nat.reduceAdd, Nat.reduceSub, Nat.reduceLeDiff, true_and, Bool.false_eq_true, if_false, if_true, isi_int_non, isi_int_bl, isi_int_int, isi_int_str, isi_int_lst, isi_int_tup, isi_bool_non, isi_bool_bl, isi_bool_int, isi_bool_str, isi_bool_lst, isi_bool_tup, isi_list_non, isi_list_bl, isi_list_int, isi_list_str, isi_list_lst, isi_list_tup, isi_tuple_non, isi_tuple_bl, isi_tuple_int, isi_tuple_str, isi_tuple_lst, isi_tuple_tup, isi_str_non, isi_str_bl, isi_str_int, isi_str_str, isi_str_lst, isi_str_tup, Bool.not_true, Bool.not_false, Bool.or_false, Bool.or_true, Bool.false_or, Bool.true_or, ite_true, ite_false, Option.some.injEq, true_or, false_or, or_false, and_true, rd_isOwn, rd_own1, rd_own2, rd_own3, rd_ixO, rd_onIx1, rd_onIx2, rd_store, rd_onStore1, rd_onStore2, ex_eq, xApp, xDput, S.ow.injEq, S.bg.injEq, S.od.injEq, reduceCtorEq, exists_eq_left', exists_eq_left, exists_eq', D.int.injEq, atI_c0, atI_c1, atI_c2, ixN3_0, ixN3_1, ixN3_2, false_and, and_self, eqD_int, hd]
    refine ite2 (fun h => ?_) fun h => ?_
    · refine ⟨by decide, rfl, rfl, ite2 (fun ho => ?_) fun ho => ?_⟩
      · refine ⟨k, A, B, m, rfl, k1, k8, hA, hB, m1, m2, ?_⟩
        simp only [xSeq, xSet, xRet, xIf, xExpr, xNext, xNever, xC, xNil, xCons, xTup, xLst, xOp, xEq, xNe, xUn, xNot, xAnd, xOr, xIfE, xCB, xCall, xCallB, xName, xAsg, xIsi3, toD_fz, toD_ow, toD_od, toD_bg, rd_var, rd_getv1, rd_getv2, rd_getv3, rd_test, rd_onB, rd_onI, rd_onSB, rd_andV, rd_orV, rd_notV, rd_chain, rd_II, rd_II0, rd_add1, rd_add2, rd_add3, rd_mul1, rd_mul2, rd_mul3, rd_isN, rd_notN, rd_isN1, rd_isN2, rd_isN3, rd_neg, rd_ix1, rd_ix2, rd_part, rd_sl, rd_onSl1, rd_onSl2, rd_rev, rd_onRv, rd_len1, rd_len2, rd_max2, rd_min2, rd_int1, rd_int2, rd_lst1, rd_lst2, rd_tup1, rd_tup2, rd_dm, rd_seqI, rd_onSq1, rd_onSq2, rd_rng1, rd_onR1, rd_rng2, rd_onR2, xEnumT, rd_onEt, rd_zip, rd_onZ1, rd_onZ2, rd_par, rd_onP, xPar3, rd_onP3, rd_gtup, rd_gnil, rd_gcons, rd_isi, ini, iniB, wipeD, unw, kf, List.map_cons, List.map_nil, List.replicate_succ, List.replicate_zero, List.cons_append, List.nil_append, List.length_cons, List.length_nil, List.getElem?_cons_zero, List.getElem?_cons_succ, List.set_cons_zero, List.set_cons_succ, decide_eq_true_eq, Nat.zero_add, Nat.reduceAdd, Nat.reduceSub, Nat.reduceLeDiff, true_and, Bool.false_eq_true, if_false, if_true, isi_int_non, isi_int_bl, isi_int_int, isi_int_str, isi_int_lst, isi_int_tup, isi_bool_non, isi_bool_bl, isi_bool_int, isi_bool_str, isi_bool_lst, isi_bool_tup, isi_list_non, isi_list_bl, isi_list_int, isi_list_str, isi_list_lst, isi_list_tup, isi_tuple_non, isi_tuple_bl, isi_tuple_int, isi_tuple_str, isi_tuple_lst, isi_tuple_tup, isi_str_non, isi_str_bl, isi_str_int, isi_str_str, isi_str_lst, isi_str_tup, Bool.not_true, Bool.not_false, Bool.or_false, Bool.or_true, Bool.false_or, Bool.true_or, ite_true, ite_false, Option.some.injEq, true_or, false_or, or_false, and_true, rd_isOwn, rd_own1, rd_own2, rd_own3, rd_ixO, rd_onIx1, rd_onIx2, rd_store, rd_onStore1, rd_onStore2, ex_eq, xApp, xDput, S.ow.injEq, S.bg.injEq, S.od.injEq, reduceCtorEq, exists_eq_left', exists_eq_left, exists_eq', D.int.injEq, atI_c0, atI_c1, atI_c2, ixN3_0, ixN3_1, ixN3_2, false_and, and_self]
        refine ⟨k, B, B, m, rfl, k1, k8, hB, hB, m1, m2, ?_⟩
        simp only [xSeq, xSet, xRet, xIf, xExpr, xNext, xNever, xC, xNil, xCons, xTup, xLst, xOp, xEq, xNe, xUn, xNot, xAnd, xOr, xIfE, xCB, xCall, xCallB, xName, xAsg, xIsi3, toD_fz, toD_ow, toD_od, toD_bg, rd_var, rd_getv1, rd_getv2, rd_getv3, rd_test, rd_onB, rd_onI, rd_onSB, rd_andV, rd_orV, rd_notV, rd_chain, rd_II, rd_II0, rd_add1, rd_add2, rd_add3, rd_mul1, rd_mul2, rd_mul3, rd_isN, rd_notN, rd_isN1, rd_isN2, rd_isN3, rd_neg, rd_ix1, rd_ix2, rd_part, rd_sl, rd_onSl1, rd_onSl2, rd_rev, rd_onRv, rd_len1, rd_len2, rd_max2, rd_min2, rd_int1, rd_int2, rd_lst1, rd_lst2, rd_tup1, rd_tup2, rd_dm, rd_seqI, rd_onSq1, rd_onSq2, rd_rng1, rd_onR1, rd_rng2, rd_onR2, xEnumT, rd_onEt, rd_zip, rd_onZ1, rd_onZ2, rd_par, rd_onP, xPar3, rd_onP3, rd_gtup, rd_gnil, rd_gcons, rd_isi, ini, iniB, wipeD, unw, kf, List.map_cons, List.map_nil, List.replicate_succ, List.replicate_zero, List.cons_append, List.nil_append, List.length_cons, List.length_nil, List.getElem?_cons_zero, List.getElem?_cons_succ, List.set_cons_zero, List.set_cons_succ, decide_eq_true_eq, Nat.zero_add, Nat.reduceAdd, Nat.reduceSub, Nat.reduceLeDiff, true_and, Bool.false_eq_true, if_false, if_true, isi_int_non, isi_int_bl, isi_int_int, isi_int_str, isi_int_lst, isi_int_tup, isi_bool_non, isi_bool_bl, isi_bool_int, isi_bool_str, isi_bool_lst, isi_bool_tup, isi_list_non, isi_list_bl, isi_list_int, isi_list_str, isi_list_lst, isi_list_tup, isi_tuple_non, isi_tuple_bl, isi_tuple_int, isi_tuple_str, isi_tuple_lst, isi_tuple_tup, isi_str_non, isi_str_bl, isi_str_int, isi_str_str, isi_str_lst, isi_str_tup, Bool.not_true, Bool.not_false, Bool.or_false, Bool.or_true, Bool.false_or, Bool.true_or, ite_true, ite_false, Option.some.injEq, true_or, false_or, or_false, and_true, rd_isOwn, rd_own1, rd_own2, rd_own3, rd_ixO, rd_onIx1, rd_onIx2, rd_store, rd_onStore1, rd_onStore2, ex_eq, xApp, xDput, S.ow.injEq, S.bg.injEq, S.od.injEq, reduceCtorEq, exists_eq_left', exists_eq_left, exists_eq', D.int.injEq, atI_c0, atI_c1, atI_c2, ixN3_0, ixN3_1, ixN3_2, false_and, and_self, hd]
        exact ⟨cdW (by decide) (by decide), μ / 2, by omega, _, _, _, _, rfl, .inl rfl, .inl rfl, mm_bnd m1 m2, mm_bnd m1 m2, by omega, by rw [← ew]; exact odd (by omega)⟩
      · refine ⟨k, B, B, m, rfl, k1, k8, hB, hB, m1, m2, ?_⟩
        simp only [xSeq, xSet, xRet, xIf, xExpr, xNext, xNever, xC, xNil, xCons, xTup, xLst, xOp, xEq, xNe, xUn, xNot, xAnd, xOr, xIfE, xCB, xCall, xCallB, xName, xAsg, xIsi3, toD_fz, toD_ow, toD_od, toD_bg, rd_var, rd_getv1, rd_getv2, rd_getv3, rd_test, rd_onB, rd_onI, rd_onSB, rd_andV, rd_orV, rd_notV, rd_chain, rd_II, rd_II0, rd_add1, rd_add2, rd_add3, rd_mul1, rd_mul2, rd_mul3, rd_isN, rd_notN, rd_isN1, rd_isN2, rd_isN3, rd_neg, rd_ix1, rd_ix2, rd_part, rd_sl, rd_onSl1, rd_onSl2, rd_rev, rd_onRv, rd_len1, rd_len2, rd_max2, rd_min2, rd_int1, rd_int2, rd_lst1, rd_lst2, rd_tup1, rd_tup2, rd_dm, rd_seqI, rd_onSq1, rd_onSq2, rd_rng1, rd_onR1, rd_rng2, rd_onR2, xEnumT, rd_onEt, rd_zip, rd_onZ1, rd_onZ2, rd_par, rd_onP, xPar3, rd_onP3, rd_gtup, rd_gnil, rd_gcons, rd_isi, ini, iniB, wipeD, unw, kf, List.map_cons, List.map_nil, List.replicate_succ, List.replicate_zero, List.cons_append, List.nil_append, List.length_cons, List.length_nil, List.getElem?_cons_zero, List.getElem?_cons_succ, List.set_cons_zero, List.set_cons_succ, decide_eq_true_eq, Nat.zero_add, Nat.reduceAdd, Nat.reduceSub, Nat.reduceLeDiff, true_and, Bool.false_eq_true, if_false, if_true, isi_int_non, isi_int_bl, isi_int_int, isi_int_str, isi_int_lst, isi_int_tup, isi_bool_non, isi_bool_bl, isi_bool_int, isi_bool_str, isi_bool_lst, isi_bool_tup, isi_list_non, isi_list_bl, isi_list_int, isi_list_str, isi_list_lst, isi_list_tup, isi_tuple_non, isi_tuple_bl, isi_tuple_int, isi_tuple_str, isi_tuple_lst, isi_tuple_tup, isi_str_non, isi_str_bl, isi_str_int, isi_str_str, isi_str_lst, isi_str_tup, Bool.not_true, Bool.not_false, Bool.or_false, Bool.or_true, Bool.false_or, Bool.true_or, ite_true, ite_false, Option.some.injEq, true_or, false_or, or_false, and_true, rd_isOwn, rd_own1, rd_own2, rd_own3, rd_ixO, rd_onIx1, rd_onIx2, rd_store, rd_onStore1, rd_onStore2, ex_eq, xApp, xDput, S.ow.injEq, S.bg.injEq, S.od.injEq, reduceCtorEq, exists_eq_left', exists_eq_left, exists_eq', D.int.injEq, atI_c0, atI_c1, atI_c2, ixN3_0, ixN3_1, ixN3_2, false_and, and_self, hd]
        exact ⟨cdW (by decide) (by decide), μ / 2, by omega, A, _, _, _, rfl, .inl rfl, by first | exact .inl rfl | exact .inr rfl, hA, mm_bnd m1 m2, by omega, by rw [← ew]; exact even (by omega)⟩
    · have e0 : μ = 0 := by omega
      subst e0
      refine lc_allE (List.range k) (fun i : Nat => D.int (0 + (i : Int))) (fun i => D.int (A 0 i)) (fun ρ => ∃ y : S, ρ = [some (.fz (.tup (l.map D.int))), some (.fz (.int ((0 : Nat) : Int))), some (.fz (.int m)), some (.fz (.int k)), _, none, none, some y] ∧ (y = .fz (matD k A) ∨ y = .ow ((List.range k).map fun i => rowD k (A i)))) (fun QL hq => ?_) (by rw [List.length_range]; omega) ⟨_, rfl, by first | exact .inl rfl | exact .inr rfl⟩ (fun i hi ρw hw QD QN h1 => ?_) fun ρw hw => ?_
      · simp only [xSeq, xSet, xRet, xIf, xExpr, xNext, xNever, xC, xNil, xCons, xTup, xLst, xOp, xEq, xNe, xUn, xNot, xAnd, xOr, xIfE, xCB, xCall, xCallB, xName, xAsg, xIsi3, toD_fz, toD_ow, toD_od, toD_bg, rd_var, rd_getv1, rd_getv2, rd_getv3, rd_test, rd_onB, rd_onI, rd_onSB, rd_andV, rd_orV, rd_notV, rd_chain, rd_II, rd_II0, rd_add1, rd_add2, rd_add3, rd_mul1, rd_mul2, rd_mul3, rd_isN, rd_notN, rd_isN1, rd_isN2, rd_isN3, rd_neg, rd_ix1, rd_ix2, rd_part, rd_sl, rd_onSl1, rd_onSl2, rd_rev, rd_onRv, rd_len1, rd_len2, rd_max2, rd_min2, rd_int1, rd_int2, rd_lst1, rd_lst2, rd_tup1, rd_tup2, rd_dm, rd_seqI, rd_onSq1, rd_onSq2, rd_rng1, rd_onR1, rd_rng2, rd_onR2, xEnumT, rd_onEt, rd_zip, rd_onZ1, rd_onZ2, rd_par, rd_onP, xPar3, rd_onP3, rd_gtup, rd_gnil, rd_gcons, rd_isi, ini, iniB, wipeD, unw, kf, List.map_cons, List.map_nil, List.replicate_succ, List.replicate_zero, List.cons_append, List.nil_append, List.length_cons, List.length_nil, List.getElem?_cons_zero, List.getElem?_cons_succ, List.set_cons_zero, List.set_cons_succ, decide_eq_true_eq, Nat.zero_add, Nat.reduceAdd, Nat.reduceSub, Nat.reduceLeDiff, true_and, Bool.false_eq_true, if_false, if_true, isi_int_non, isi_int_bl, isi_int_int, isi_int_str, isi_int_lst, isi_int_tup, isi_bool_non, isi_bool_bl, isi_bool_int, isi_bool_str, isi_bool_lst, isi_bool_tup, isi_list_non, isi_list_bl, isi_list_int, isi_list_str, isi_list_lst, isi_list_tup, isi_tuple_non, isi_tuple_bl, isi_tuple_int, isi_tuple_str, isi_tuple_lst, isi_tuple_tup, isi_str_non, isi_str_bl, isi_str_int, isi_str_str, isi_str_lst, isi_str_tup, Bool.not_true, Bool.not_false, Bool.or_false, Bool.or_true, Bool.false_or, Bool.true_or, ite_true, ite_false, Option.some.injEq, true_or, false_or, or_false, and_true, rd_isOwn, rd_own1, rd_own2, rd_own3, rd_ixO, rd_onIx1, rd_onIx2, rd_store, rd_onStore1, rd_onStore2, ex_eq, xApp, xDput, S.ow.injEq, S.bg.injEq, S.od.injEq, reduceCtorEq, exists_eq_left', exists_eq_left, exists_eq', D.int.injEq, atI_c0, atI_c1, atI_c2, ixN3_0, ixN3_1, ixN3_2, false_and, and_self]
        exact ⟨by omega, by omega, by rw [Int.toNat_natCast]; exact hq⟩
      · obtain ⟨y, rfl, hy⟩ := hw
        rcases hy with rfl | rfl
        all_goals
          simp only [xSeq, xSet, xRet, xIf, xExpr, xNext, xNever, xC, xNil, xCons, xTup, xLst, xOp, xEq, xNe, xUn, xNot, xAnd, xOr, xIfE, xCB, xCall, xCallB, xName, xAsg, xIsi3, toD_fz, toD_ow, toD_od, toD_bg, rd_var, rd_getv1, rd_getv2, rd_getv3, rd_test, rd_onB, rd_onI, rd_onSB, rd_andV, rd_orV, rd_notV, rd_chain, rd_II, rd_II0, rd_add1, rd_add2, rd_add3, rd_mul1, rd_mul2, rd_mul3, rd_isN, rd_notN, rd_isN1, rd_isN2, rd_isN3, rd_neg, rd_ix1, rd_ix2, rd_part, rd_sl, rd_onSl1, rd_onSl2, rd_rev, rd_onRv, rd_len1, rd_len2, rd_max2, rd_min2, rd_int1, rd_int2, rd_lst1, rd_lst2, rd_tup1, rd_tup2, rd_dm, rd_seqI, rd_onSq1, rd_onSq2, rd_rng1, rd_onR1, rd_rng2, rd_onR2, xEnumT, rd_onEt, rd_zip, rd_onZ1, rd_onZ2, rd_par, rd_onP, xPar3, rd_onP3, rd_gtup, rd_gnil, rd_gcons, rd_isi, ini, iniB, wipeD, unw, kf, List.map_cons, List.map_nil, List.replicate_succ, List.replicate_zero, List.cons_append, List.nil_append, List.length_cons, List.length_nil, List.getElem?_cons_zero, List.getElem?_cons_succ, List.set_cons_zero, List.set_cons_succ, decide_eq_true_eq, Nat.zero_add, Nat.reduceAdd, Nat.reduceSub, Nat.reduceLeDiff, true_and, Bool.false_eq_true, if_false, if_true, isi_int_non, isi_int_bl, isi_int_int, isi_int_str, isi_int_lst, isi_int_tup, isi_bool_non, isi_bool_bl, isi_bool_int, isi_bool_str, isi_bool_lst, isi_bool_tup, isi_list_non, isi_list_bl, isi_list_int, isi_list_str, isi_list_lst, isi_list_tup, isi_tuple_non, isi_tuple_bl, isi_tuple_int, isi_tuple_str, isi_tuple_lst, isi_tuple_tup, isi_str_non, isi_str_bl, isi_str_int, isi_str_str, isi_str_lst, isi_str_tup, Bool.not_true, Bool.not_false, Bool.or_false, Bool.or_true, Bool.false_or, Bool.true_or, ite_true, ite_false, Option.some.injEq, true_or, false_or, or_false, and_true, rd_isOwn, rd_own1, rd_own2, rd_own3, rd_ixO, rd_onIx1, rd_onIx2, rd_store, rd_onStore1, rd_onStore2, ex_eq, xApp, xDput, S.ow.injEq, S.bg.injEq, S.od.injEq, reduceCtorEq, exists_eq_left', exists_eq_left, exists_eq', D.int.injEq, atI_c0, atI_c1, atI_c2, ixN3_0, ixN3_1, ixN3_2, false_and, and_self, matD]
          refine ⟨_, atI_rng (i := 0) rfl (by omega), ?_⟩
          simp only [xSeq, xSet, xRet, xIf, xExpr, xNext, xNever, xC, xNil, xCons, xTup, xLst, xOp, xEq, xNe, xUn, xNot, xAnd, xOr, xIfE, xCB, xCall, xCallB, xName, xAsg, xIsi3, toD_fz, toD_ow, toD_od, toD_bg, rd_var, rd_getv1, rd_getv2, rd_getv3, rd_test, rd_onB, rd_onI, rd_onSB, rd_andV, rd_orV, rd_notV, rd_chain, rd_II, rd_II0, rd_add1, rd_add2, rd_add3, rd_mul1, rd_mul2, rd_mul3, rd_isN, rd_notN, rd_isN1, rd_isN2, rd_isN3, rd_neg, rd_ix1, rd_ix2, rd_part, rd_sl, rd_onSl1, rd_onSl2, rd_rev, rd_onRv, rd_len1, rd_len2, rd_max2, rd_min2, rd_int1, rd_int2, rd_lst1, rd_lst2, rd_tup1, rd_tup2, rd_dm, rd_seqI, rd_onSq1, rd_onSq2, rd_rng1, rd_onR1, rd_rng2, rd_onR2, xEnumT, rd_onEt, rd_zip, rd_onZ1, rd_onZ2, rd_par, rd_onP, xPar3, rd_onP3, rd_gtup, rd_gnil, rd_gcons, rd_isi, ini, iniB, wipeD, unw, kf, List.map_cons, List.map_nil, List.replicate_succ, List.replicate_zero, List.cons_append, List.nil_append, List.length_cons, List.length_nil, List.getElem?_cons_zero, List.getElem?_cons_succ, List.set_cons_zero, List.set_cons_succ, decide_eq_true_eq, Nat.zero_add, Nat.reduceAdd, Nat.reduceSub, Nat.reduceLeDiff, true_and, Bool.false_eq_true, if_false, if_true, isi_int_non, isi_int_bl, isi_int_int, isi_int_str, isi_int_lst, isi_int_tup, isi_bool_non, isi_bool_bl, isi_bool_int, isi_bool_str, isi_bool_lst, isi_bool_tup, isi_list_non, isi_list_bl, isi_list_int, isi_list_str, isi_list_lst, isi_list_tup, isi_tuple_non, isi_tuple_bl, isi_tuple_int, isi_tuple_str, isi_tuple_lst, isi_tuple_tup, isi_str_non, isi_str_bl, isi_str_int, isi_str_str, isi_str_lst, isi_str_tup, Bool.not_true, Bool.not_false, Bool.or_false, Bool.or_true, Bool.false_or, Bool.true_or, ite_true, ite_false, Option.some.injEq, true_or, false_or, or_false, and_true, rd_isOwn, rd_own1, rd_own2, rd_own3, rd_ixO, rd_onIx1, rd_onIx2, rd_store, rd_onStore1, rd_onStore2, ex_eq, xApp, xDput, S.ow.injEq, S.bg.injEq, S.od.injEq, reduceCtorEq, exists_eq_left', exists_eq_left, exists_eq', D.int.injEq, atI_c0, atI_c1, atI_c2, ixN3_0, ixN3_1, ixN3_2, false_and, and_self, rowD]
          exact ⟨_, atI_rng (i := i) (by omega) (List.mem_range.mp hi), h1 _ ⟨_, rfl, .inl rfl⟩⟩
      · obtain ⟨y, rfl, hy⟩ := hw
        simp only [xSeq, xSet, xRet, xIf, xExpr, xNext, xNever, xC, xNil, xCons, xTup, xLst, xOp, xEq, xNe, xUn, xNot, xAnd, xOr, xIfE, xCB, xCall, xCallB, xName, xAsg, xIsi3, toD_fz, toD_ow, toD_od, toD_bg, rd_var, rd_getv1, rd_getv2, rd_getv3, rd_test, rd_onB, rd_onI, rd_onSB, rd_andV, rd_orV, rd_notV, rd_chain, rd_II, rd_II0, rd_add1, rd_add2, rd_add3, rd_mul1, rd_mul2, rd_mul3, rd_isN, rd_notN, rd_isN1, rd_isN2, rd_isN3, rd_neg, rd_ix1, rd_ix2, rd_part, rd_sl, rd_onSl1, rd_onSl2, rd_rev, rd_onRv, rd_len1, rd_len2, rd_max2, rd_min2, rd_int1, rd_int2, rd_lst1, rd_lst2, rd_tup1, rd_tup2, rd_dm, rd_seqI, rd_onSq1, rd_onSq2, rd_rng1, rd_onR1, rd_rng2, rd_onR2, xEnumT, rd_onEt, rd_zip, rd_onZ1, rd_onZ2, rd_par, rd_onP, xPar3, rd_onP3, rd_gtup, rd_gnil, rd_gcons, rd_isi, ini, iniB, wipeD, unw, kf, List.map_cons, List.map_nil, List.replicate_succ, List.replicate_zero, List.cons_append, List.nil_append, List.length_cons, List.length_nil, List.getElem?_cons_zero, List.getElem?_cons_succ, List.set_cons_zero, List.set_cons_succ, decide_eq_true_eq, Nat.zero_add, Nat.reduceAdd, Nat.reduceSub, Nat.reduceLeDiff, true_and, Bool.false_eq_true, if_false, if_true, isi_int_non, isi_int_bl, isi_int_int, isi_int_str, isi_int_lst, isi_int_tup, isi_bool_non, isi_bool_bl, isi_bool_int, isi_bool_str, isi_bool_lst, isi_bool_tup, isi_list_non, isi_list_bl, isi_list_int, isi_list_str, isi_list_lst, isi_list_tup, isi_tuple_non, isi_tuple_bl, isi_tuple_int, isi_tuple_str, isi_tuple_lst, isi_tuple_tup, isi_str_non, isi_str_bl, isi_str_int, isi_str_str, isi_str_lst, isi_str_tup, Bool.not_true, Bool.not_false, Bool.or_false, Bool.or_true, Bool.false_or, Bool.true_or, ite_true, ite_false, Option.some.injEq, true_or, false_or, or_false, and_true, rd_isOwn, rd_own1, rd_own2, rd_own3, rd_ixO, rd_onIx1, rd_onIx2, rd_store, rd_onStore1, rd_onStore2, ex_eq, xApp, xDput, S.ow.injEq, S.bg.injEq, S.od.injEq, reduceCtorEq, exists_eq_left', exists_eq_left, exists_eq', D.int.injEq, atI_c0, atI_c1, atI_c2, ixN3_0, ixN3_1, ixN3_2, false_and, and_self]
        refine ⟨(List.range k).map (A 0), by rw [List.map_map]; rfl, ?_⟩
        simp only [xSeq, xSet, xRet, xIf, xExpr, xNext, xNever, xC, xNil, xCons, xTup, xLst, xOp, xEq, xNe, xUn, xNot, xAnd, xOr, xIfE, xCB, xCall, xCallB, xName, xAsg, xIsi3, toD_fz, toD_ow, toD_od, toD_bg, rd_var, rd_getv1, rd_getv2, rd_getv3, rd_test, rd_onB, rd_onI, rd_onSB, rd_andV, rd_orV, rd_notV, rd_chain, rd_II, rd_II0, rd_add1, rd_add2, rd_add3, rd_mul1, rd_mul2, rd_mul3, rd_isN, rd_notN, rd_isN1, rd_isN2, rd_isN3, rd_neg, rd_ix1, rd_ix2, rd_part, rd_sl, rd_onSl1, rd_onSl2, rd_rev, rd_onRv, rd_len1, rd_len2, rd_max2, rd_min2, rd_int1, rd_int2, rd_lst1, rd_lst2, rd_tup1, rd_tup2, rd_dm, rd_seqI, rd_onSq1, rd_onSq2, rd_rng1, rd_onR1, rd_rng2, rd_onR2, xEnumT, rd_onEt, rd_zip, rd_onZ1, rd_onZ2, rd_par, rd_onP, xPar3, rd_onP3, rd_gtup, rd_gnil, rd_gcons, rd_isi, ini, iniB, wipeD, unw, kf, List.map_cons, List.map_nil, List.replicate_succ, List.replicate_zero, List.cons_append, List.nil_append, List.length_cons, List.length_nil, List.getElem?_cons_zero, List.getElem?_cons_succ, List.set_cons_zero, List.set_cons_succ, decide_eq_true_eq, Nat.zero_add, Nat.reduceAdd, Nat.reduceSub, Nat.reduceLeDiff, true_and, Bool.false_eq_true, if_false, if_true, isi_int_non, isi_int_bl, isi_int_int, isi_int_str, isi_int_lst, isi_int_tup, isi_bool_non, isi_bool_bl, isi_bool_int, isi_bool_str, isi_bool_lst, isi_bool_tup, isi_list_non, isi_list_bl, isi_list_int, isi_list_str, isi_list_lst, isi_list_tup, isi_tuple_non, isi_tuple_bl, isi_tuple_int, isi_tuple_str, isi_tuple_lst, isi_tuple_tup, isi_str_non, isi_str_bl, isi_str_int, isi_str_str, isi_str_lst, isi_str_tup, Bool.not_true, Bool.not_false, Bool.or_false, Bool.or_true, Bool.false_or, Bool.true_or, ite_true, ite_false, Option.some.injEq, true_or, false_or, or_false, and_true, rd_isOwn, rd_own1, rd_own2, rd_own3, rd_ixO, rd_onIx1, rd_onIx2, rd_store, rd_onStore1, rd_onStore2, ex_eq, xApp, xDput, S.ow.injEq, S.bg.injEq, S.od.injEq, reduceCtorEq, exists_eq_left', exists_eq_left, exists_eq', D.int.injEq, atI_c0, atI_c1, atI_c2, ixN3_0, ixN3_1, ixN3_2, false_and, and_self]
        refine ⟨by omega, ?_⟩
        have e5 : ((List.range k).map (A 0)).sum % m = hh l N % m := by
          rw [← gT_all l N (by omega), ← ek]
          exact sg_mod inv
        rw [e5]
        exact q

theorem okD_tup2 (n : Nat) (ns : List Int) : okD (n + 1) (.tup (ns.map D.int)) = true := okD_ints n ns
def isBeg (ms later : List Int) (p : Nat) : Bool := decide (later.take p = ms.filter fun x => decide (later.getD p 0 < x))
def begs (ms later : List Int) : List Nat := (List.range later.length).filter (isBeg ms later)
def dp_begins : DP := fun ds Q _ => ∃ ms later : List Int, ds = [.tup (ms.map D.int), .tup (later.map D.int)] ∧ ms.length ≤ 1000 ∧ later.length ≤ 8 ∧ Q (.fz (.lst ((begs ms later).map fun p => D.int (p : Nat))))

abbrev s_begins : Stmt := topS 25
theorem sc_begins : FnScope ["marks", "later", "found", "place", "height", "one"] ["marks", "later"] (defScope s_begins) := ⟨rfl, rfl, rfl, by decide +kernel, rfl, by decide +kernel, by decide +kernel⟩
theorem ok_begins {P : Program} {w : World} {K : PySem.W.Frag} {mg : Str → Option Value} {base : Heap} (B : Bt mg) (d : Df K mg "begins" s_begins ["marks", "later"])  : Fn P w K mg base "begins" (0 + 1) 2 dp_begins := by
  refine fn_mk d sc_begins rfl (by decide) fun f cdv A outer s H E C hr => ⟨_, _, (ds_cons (ds_set 2 sc_begins.nd (d_lst da_nil))
      (ds_cons (ds_for PassesOwn.never rfl (di_enumT K (by rfl) B.enumerate (da_cons (dv 1) da_nil)) (dg_tupK K (n := 2) rfl (dgs_cons (dg_name 3 sc_begins.nd) (dgs_cons (dg_name 4 sc_begins.nd) dgs_nil))) (ds_one (ds_if (dt_cmp (o_eqK K hr.units) (d_slK K (dv 1) do_none (do_some (dv 3))) (d_callTy (c_tupleK K) (by rfl) B.tuple (by decide +kernel) (da_cons (d_lc [("one", 5)] rfl sc_begins.nd (di_seqK K (dv 0)) (blkOk_by (by show blkC ["marks", "later", "found", "place", "height", "one"] (defScope s_begins) _ [("one", 5)] = true; decide +kernel)) (fun _ _ _ _ _ _ => (dg_name 5 sc_begins.nd)) (fun _ _ _ _ _ _ => (dts_one (dt_cmp o_gt (dv 5) (dv 4)))) (fun _ _ _ _ _ _ => (dv 5))) da_nil))) (ds_one (ds_expr (d_app 2 (dv 3)))) ds_nil)))
      (ds_one (ds_ret (dv 2))))), fun ds QD ED hl0 h => ?_⟩
  obtain ⟨a0, a1, rfl⟩ : ∃ a0 a1, ds = [a0, a1] := by
    match ds, hl0 with
    | [a0, a1], _ => exact ⟨a0, a1, rfl⟩
  clear hl0
  obtain ⟨ms, later, e, l1, l2, q⟩ := h
  cases e
  simp only [xSeq, xSet, xRet, xIf, xExpr, xNext, xNever, xC, xNil, xCons, xTup, xLst, xOp, xEq, xNe, xUn, xNot, xAnd, xOr, xIfE, xCB, xCall, xCallB, xName, xAsg, xIsi3, toD_fz, toD_ow, toD_od, toD_bg, rd_var, rd_getv1, rd_getv2, rd_getv3, rd_test, rd_onB, rd_onI, rd_onSB, rd_andV, rd_orV, rd_notV, rd_chain, rd_II, rd_II0, rd_add1, rd_add2, rd_add3, rd_mul1, rd_mul2, rd_mul3, rd_isN, rd_notN, rd_isN1, rd_isN2, rd_isN3, rd_neg, rd_ix1, rd_ix2, rd_part, rd_sl, rd_onSl1, rd_onSl2, rd_rev, rd_onRv, rd_len1, rd_len2, rd_max2, rd_min2, rd_int1, rd_int2, rd_lst1, rd_lst2, rd_tup1, rd_tup2, rd_dm, rd_seqI, rd_onSq1, rd_onSq2, rd_rng1, rd_onR1, rd_rng2, rd_onR2, xEnumT, rd_onEt, rd_zip, rd_onZ1, rd_onZ2, rd_par, rd_onP, xPar3, rd_onP3, rd_gtup, rd_gnil, rd_gcons, rd_isi, ini, iniB, wipeD, unw, kf, List.map_cons, List.map_nil, List.replicate_succ, List.replicate_zero, List.cons_append, List.nil_append, List.length_cons, List.length_nil, List.getElem?_cons_zero, List.getElem?_cons_succ, List.set_cons_zero, List.set_cons_succ, decide_eq_true_eq, Nat.zero_add, Nat.reduceAdd, Nat.reduceSub, Nat.reduceLeDiff, true_and, Bool.false_eq_true, if_false, if_true, isi_int_non, isi_int_bl, isi_int_int, isi_int_str, isi_int_lst, isi_int_tup, isi_bool_non, isi_bool_bl, isi_bool_int, isi_bool_str, isi_bool_lst, isi_bool_tup, isi_list_non, isi_list_bl, isi_list_int, isi_list_str, isi_list_lst, isi_list_tup, isi_tuple_non, isi_tuple_bl, isi_tuple_int, isi_tuple_str, isi_tuple_lst, isi_tuple_tup, isi_str_non, isi_str_bl, isi_str_int, isi_str_str, isi_str_lst, isi_str_tup, Bool.not_true, Bool.not_false, Bool.or_false, Bool.or_true, Bool.false_or, Bool.true_or, ite_true, ite_false, Option.some.injEq, true_or, false_or, or_false, and_true, rd_isOwn, rd_own1, rd_own2, rd_own3, rd_ixO, rd_onIx1, rd_onIx2, rd_store, rd_onStore1, rd_onStore2, ex_eq, xApp, xDput, S.ow.injEq, S.bg.injEq, S.od.injEq, reduceCtorEq, exists_eq_left', exists_eq_left, exists_eq', D.int.injEq, atI_c0, atI_c1, atI_c2, ixN3_0, ixN3_1, ixN3_2, false_and, and_self, xFor]
  refine ⟨fun i ρ => ∃ x3 x4, ρ = [some (.fz (.tup (ms.map D.int))), some (.fz (.tup (later.map D.int))), some (.ow (((List.range i).filter (isBeg ms later)).map fun p => D.int (p : Nat))), x3, x4, none], ⟨none, none, rfl⟩, fun i d ρ hd hI => ?_, fun ρ hI => ?_⟩
  · obtain ⟨x3, x4, rfl⟩ := hI
    obtain ⟨x, hx, rfl⟩ := enumD_get hd
    rw [List.getElem?_map] at hx
    obtain ⟨h, hh', rfl⟩ := Option.map_eq_some_iff.mp hx
    have hg : later.getD i 0 = h := by rw [List.getD_eq_getElem?_getD, hh']; rfl
    have lf := List.length_filter_le (fun x => decide (h < x)) ms
    simp only [xSeq, xSet, xRet, xIf, xExpr, xNext, xNever, xC, xNil, xCons, xTup, xLst, xOp, xEq, xNe, xUn, xNot, xAnd, xOr, xIfE, xCB, xCall, xCallB, xName, xAsg, xIsi3, toD_fz, toD_ow, toD_od, toD_bg, rd_var, rd_getv1, rd_getv2, rd_getv3, rd_test, rd_onB, rd_onI, rd_onSB, rd_andV, rd_orV, rd_notV, rd_chain, rd_II, rd_II0, rd_add1, rd_add2, rd_add3, rd_mul1, rd_mul2, rd_mul3, rd_isN, rd_notN, rd_isN1, rd_isN2, rd_isN3, rd_neg, rd_ix1, rd_ix2, rd_part, rd_sl, rd_onSl1, rd_onSl2, rd_rev, rd_onRv, rd_len1, rd_len2, rd_max2, rd_min2, rd_int1, rd_int2, rd_lst1, rd_lst2, rd_tup1, rd_tup2, rd_dm, rd_seqI, rd_onSq1, rd_onSq2, rd_rng1, rd_onR1, rd_rng2, rd_onR2, xEnumT, rd_onEt, rd_zip, rd_onZ1, rd_onZ2, rd_par, rd_onP, xPar3, rd_onP3, rd_gtup, rd_gnil, rd_gcons, rd_isi, ini, iniB, wipeD, unw, kf, List.map_cons, List.map_nil, List.replicate_succ, List.replicate_zero, List.cons_append, List.nil_append, List.length_cons, List.length_nil, List.getElem?_cons_zero, List.getElem?_cons_succ, List.set_cons_zero, List.set_cons_succ, decide_eq_true_eq, Nat.zero_add, Nat.reduceAdd, Nat.reduceSub, Nat.reduceLeDiff, true_and, Bool.false_eq_true, if_false, if_true, isi_int_non, isi_int_bl, isi_int_int, isi_int_str, isi_int_lst, isi_int_tup, isi_bool_non, isi_bool_bl, isi_bool_int, isi_bool_str, isi_bool_lst, isi_bool_tup, isi_list_non, isi_list_bl, isi_list_int, isi_list_str, isi_list_lst, isi_list_tup, isi_tuple_non, isi_tuple_bl, isi_tuple_int, isi_tuple_str, isi_tuple_lst, isi_tuple_tup, isi_str_non, isi_str_bl, isi_str_int, isi_str_str, isi_str_lst, isi_str_tup, Bool.not_true, Bool.not_false, Bool.or_false, Bool.or_true, Bool.false_or, Bool.true_or, ite_true, ite_false, Option.some.injEq, true_or, false_or, or_false, and_true, rd_isOwn, rd_own1, rd_own2, rd_own3, rd_ixO, rd_onIx1, rd_onIx2, rd_store, rd_onStore1, rd_onStore2, ex_eq, xApp, xDput, S.ow.injEq, S.bg.injEq, S.od.injEq, reduceCtorEq, exists_eq_left', exists_eq_left, exists_eq', D.int.injEq, atI_c0, atI_c1, atI_c2, ixN3_0, ixN3_1, ixN3_2, false_and, and_self]
    rw [cut_take _ _ (by omega), Int.toNat_natCast, ← List.map_take]
    refine lc_pure0 ms D.int (fun x => decide (h < x)) D.int (fun QL hq => ?_) (by omega) (fun a ha QD QN h1 h2 => ?_) ?_
    · simp only [xSeq, xSet, xRet, xIf, xExpr, xNext, xNever, xC, xNil, xCons, xTup, xLst, xOp, xEq, xNe, xUn, xNot, xAnd, xOr, xIfE, xCB, xCall, xCallB, xName, xAsg, xIsi3, toD_fz, toD_ow, toD_od, toD_bg, rd_var, rd_getv1, rd_getv2, rd_getv3, rd_test, rd_onB, rd_onI, rd_onSB, rd_andV, rd_orV, rd_notV, rd_chain, rd_II, rd_II0, rd_add1, rd_add2, rd_add3, rd_mul1, rd_mul2, rd_mul3, rd_isN, rd_notN, rd_isN1, rd_isN2, rd_isN3, rd_neg, rd_ix1, rd_ix2, rd_part, rd_sl, rd_onSl1, rd_onSl2, rd_rev, rd_onRv, rd_len1, rd_len2, rd_max2, rd_min2, rd_int1, rd_int2, rd_lst1, rd_lst2, rd_tup1, rd_tup2, rd_dm, rd_seqI, rd_onSq1, rd_onSq2, rd_rng1, rd_onR1, rd_rng2, rd_onR2, xEnumT, rd_onEt, rd_zip, rd_onZ1, rd_onZ2, rd_par, rd_onP, xPar3, rd_onP3, rd_gtup, rd_gnil, rd_gcons, rd_isi, ini, iniB, wipeD, unw, kf, List.map_cons, List.map_nil, List.replicate_succ, List.replicate_zero, List.cons_append, List.nil_append, List.length_cons, List.length_nil, List.getElem?_cons_zero, List.getElem?_cons_succ, List.set_cons_zero, List.set_cons_succ, decide_eq_true_eq, Nat.zero_add, Nat.reduceAdd, Nat.reduceSub, Nat.reduceLeDiff, true_and, Bool.false_eq_true, if_false, if_true, isi_int_non, isi_int_bl, isi_int_int, isi_int_str, isi_int_lst, isi_int_tup, isi_bool_non, isi_bool_bl, isi_bool_int, isi_bool_str, isi_bool_lst, isi_bool_tup, isi_list_non, isi_list_bl, isi_list_int, isi_list_str, isi_list_lst, isi_list_tup, isi_tuple_non, isi_tuple_bl, isi_tuple_int, isi_tuple_str, isi_tuple_lst, isi_tuple_tup, isi_str_non, isi_str_bl, isi_str_int, isi_str_str, isi_str_lst, isi_str_tup, Bool.not_true, Bool.not_false, Bool.or_false, Bool.or_true, Bool.false_or, Bool.true_or, ite_true, ite_false, Option.some.injEq, true_or, false_or, or_false, and_true, rd_isOwn, rd_own1, rd_own2, rd_own3, rd_ixO, rd_onIx1, rd_onIx2, rd_store, rd_onStore1, rd_onStore2, ex_eq, xApp, xDput, S.ow.injEq, S.bg.injEq, S.od.injEq, reduceCtorEq, exists_eq_left', exists_eq_left, exists_eq', D.int.injEq, atI_c0, atI_c1, atI_c2, ixN3_0, ixN3_1, ixN3_2, false_and, and_self]
      exact hq
    · simp only [xSeq, xSet, xRet, xIf, xExpr, xNext, xNever, xC, xNil, xCons, xTup, xLst, xOp, xEq, xNe, xUn, xNot, xAnd, xOr, xIfE, xCB, xCall, xCallB, xName, xAsg, xIsi3, toD_fz, toD_ow, toD_od, toD_bg, rd_var, rd_getv1, rd_getv2, rd_getv3, rd_test, rd_onB, rd_onI, rd_onSB, rd_andV, rd_orV, rd_notV, rd_chain, rd_II, rd_II0, rd_add1, rd_add2, rd_add3, rd_mul1, rd_mul2, rd_mul3, rd_isN, rd_notN, rd_isN1, rd_isN2, rd_isN3, rd_neg, rd_ix1, rd_ix2, rd_part, rd_sl, rd_onSl1, rd_onSl2, rd_rev, rd_onRv, rd_len1, rd_len2, rd_max2, rd_min2, rd_int1, rd_int2, rd_lst1, rd_lst2, rd_tup1, rd_tup2, rd_dm, rd_seqI, rd_onSq1, rd_onSq2, rd_rng1, rd_onR1, rd_rng2, rd_onR2, xEnumT, rd_onEt, rd_zip, rd_onZ1, rd_onZ2, rd_par, rd_onP, xPar3, rd_onP3, rd_gtup, rd_gnil, rd_gcons, rd_isi, ini, iniB, wipeD, unw, kf, List.map_cons, List.map_nil, List.replicate_succ, List.replicate_zero, List.cons_append, List.nil_append, List.length_cons, List.length_nil, List.getElem?_cons_zero, List.getElem?_cons_succ, List.set_cons_zero, List.set_cons_succ, decide_eq_true_eq, Nat.zero_add, Nat.reduceAdd, Nat.reduceSub, Nat.reduceLeDiff, true_and, Bool.false_eq_true, if_false, if_true, isi_int_non, isi_int_bl, isi_int_int, isi_int_str, isi_int_lst, isi_int_tup, isi_bool_non, isi_bool_bl, isi_bool_int, isi_bool_str, isi_bool_lst, isi_bool_tup, isi_list_non, isi_list_bl, isi_list_int, isi_list_str, isi_list_lst, isi_list_tup, isi_tuple_non, isi_tuple_bl, isi_tuple_int, isi_tuple_str, isi_tuple_lst, isi_tuple_tup, isi_str_non, isi_str_bl, isi_str_int, isi_str_str, isi_str_lst, isi_str_tup, Bool.not_true, Bool.not_false, Bool.or_false, Bool.or_true, Bool.false_or, Bool.true_or, ite_true, ite_false, Option.some.injEq, true_or, false_or, or_false, and_true, rd_isOwn, rd_own1, rd_own2, rd_own3, rd_ixO, rd_onIx1, rd_onIx2, rd_store, rd_onStore1, rd_onStore2, ex_eq, xApp, xDput, S.ow.injEq, S.bg.injEq, S.od.injEq, reduceCtorEq, exists_eq_left', exists_eq_left, exists_eq', D.int.injEq, atI_c0, atI_c1, atI_c2, ixN3_0, ixN3_1, ixN3_2, false_and, and_self]
      exact ite2 (fun h => h1 (decide_eq_true h)) fun h => h2 (decide_eq_false h)
    · simp only [xSeq, xSet, xRet, xIf, xExpr, xNext, xNever, xC, xNil, xCons, xTup, xLst, xOp, xEq, xNe, xUn, xNot, xAnd, xOr, xIfE, xCB, xCall, xCallB, xName, xAsg, xIsi3, toD_fz, toD_ow, toD_od, toD_bg, rd_var, rd_getv1, rd_getv2, rd_getv3, rd_test, rd_onB, rd_onI, rd_onSB, rd_andV, rd_orV, rd_notV, rd_chain, rd_II, rd_II0, rd_add1, rd_add2, rd_add3, rd_mul1, rd_mul2, rd_mul3, rd_isN, rd_notN, rd_isN1, rd_isN2, rd_isN3, rd_neg, rd_ix1, rd_ix2, rd_part, rd_sl, rd_onSl1, rd_onSl2, rd_rev, rd_onRv, rd_len1, rd_len2, rd_max2, rd_min2, rd_int1, rd_int2, rd_lst1, rd_lst2, rd_tup1, rd_tup2, rd_dm, rd_seqI, rd_onSq1, rd_onSq2, rd_rng1, rd_onR1, rd_rng2, rd_onR2, xEnumT, rd_onEt, rd_zip, rd_onZ1, rd_onZ2, rd_par, rd_onP, xPar3, rd_onP3, rd_gtup, rd_gnil, rd_gcons, rd_isi, ini, iniB, wipeD, unw, kf, List.map_cons, List.map_nil, List.replicate_succ, List.replicate_zero, List.cons_append, List.nil_append, List.length_cons, List.length_nil, List.getElem?_cons_zero, List.getElem?_cons_succ, List.set_cons_zero, List.set_cons_succ, decide_eq_true_eq, Nat.zero_add, Nat.reduceAdd, Nat.reduceSub, Nat.reduceLeDiff, true_and, Bool.false_eq_true, if_false, if_true, isi_int_non, isi_int_bl, isi_int_int, isi_int_str, isi_int_lst, isi_int_tup, isi_bool_non, isi_bool_bl, isi_bool_int, isi_bool_str, isi_bool_lst, isi_bool_tup, isi_list_non, isi_list_bl, isi_list_int, isi_list_str, isi_list_lst, isi_list_tup, isi_tuple_non, isi_tuple_bl, isi_tuple_int, isi_tuple_str, isi_tuple_lst, isi_tuple_tup, isi_str_non, isi_str_bl, isi_str_int, isi_str_str, isi_str_lst, isi_str_tup, Bool.not_true, Bool.not_false, Bool.or_false, Bool.or_true, Bool.false_or, Bool.true_or, ite_true, ite_false, Option.some.injEq, true_or, false_or, or_false, and_true, rd_isOwn, rd_own1, rd_own2, rd_own3, rd_ixO, rd_onIx1, rd_onIx2, rd_store, rd_onStore1, rd_onStore2, ex_eq, xApp, xDput, S.ow.injEq, S.bg.injEq, S.od.injEq, reduceCtorEq, exists_eq_left', exists_eq_left, exists_eq', D.int.injEq, atI_c0, atI_c1, atI_c2, ixN3_0, ixN3_1, ixN3_2, false_and, and_self, okD_tup2, eqD_tup_ints]
      have er : (List.range (i + 1)).filter (isBeg ms later) = if later.take i = ms.filter (fun x => decide (h < x)) then (List.range i).filter (isBeg ms later) ++ [i] else (List.range i).filter (isBeg ms later) := by
        rw [List.range_succ, List.filter_append]
        by_cases e : later.take i = ms.filter fun x => decide (h < x)
        · rw [if_pos e]
          have : isBeg ms later i = true := by unfold isBeg; rw [hg]; exact decide_eq_true e
          simp [this]
        · rw [if_neg e]
          have : isBeg ms later i = false := by unfold isBeg; rw [hg]; exact decide_eq_false e
          simp [this]
      have lr := List.length_filter_le (isBeg ms later) (List.range i)
      have hil : i < later.length := (List.getElem?_eq_some_iff.mp hh').1
      rw [List.length_range] at lr
      rw [er]
      refine ite2 (fun e => ?_) fun e => ?_
      · rw [if_pos e]
        exact ⟨by rw [List.length_map]; omega, _, _, by rw [List.map_append]; rfl⟩
      · rw [if_neg e]
        exact ⟨_, _, rfl⟩
  · obtain ⟨x3, x4, rfl⟩ := hI
    rw [enumD_len, List.length_map]
    simp only [xSeq, xSet, xRet, xIf, xExpr, xNext, xNever, xC, xNil, xCons, xTup, xLst, xOp, xEq, xNe, xUn, xNot, xAnd, xOr, xIfE, xCB, xCall, xCallB, xName, xAsg, xIsi3, toD_fz, toD_ow, toD_od, toD_bg, rd_var, rd_getv1, rd_getv2, rd_getv3, rd_test, rd_onB, rd_onI, rd_onSB, rd_andV, rd_orV, rd_notV, rd_chain, rd_II, rd_II0, rd_add1, rd_add2, rd_add3, rd_mul1, rd_mul2, rd_mul3, rd_isN, rd_notN, rd_isN1, rd_isN2, rd_isN3, rd_neg, rd_ix1, rd_ix2, rd_part, rd_sl, rd_onSl1, rd_onSl2, rd_rev, rd_onRv, rd_len1, rd_len2, rd_max2, rd_min2, rd_int1, rd_int2, rd_lst1, rd_lst2, rd_tup1, rd_tup2, rd_dm, rd_seqI, rd_onSq1, rd_onSq2, rd_rng1, rd_onR1, rd_rng2, rd_onR2, xEnumT, rd_onEt, rd_zip, rd_onZ1, rd_onZ2, rd_par, rd_onP, xPar3, rd_onP3, rd_gtup, rd_gnil, rd_gcons, rd_isi, ini, iniB, wipeD, unw, kf, List.map_cons, List.map_nil, List.replicate_succ, List.replicate_zero, List.cons_append, List.nil_append, List.length_cons, List.length_nil, List.getElem?_cons_zero, List.getElem?_cons_succ, List.set_cons_zero, List.set_cons_succ, decide_eq_true_eq, Nat.zero_add, Nat.reduceAdd, Nat.reduceSub, Nat.reduceLeDiff, true_and, Bool.false_eq_true, if_false, if_true, isi_int_non, isi_int_bl, isi_int_int, isi_int_str, isi_int_lst, isi_int_tup, isi_bool_non, isi_bool_bl, isi_bool_int, isi_bool_str, isi_bool_lst, isi_bool_tup, isi_list_non, isi_list_bl, isi_list_int, isi_list_str, isi_list_lst, isi_list_tup, isi_tuple_non, isi_tuple_bl, isi_tuple_int, isi_tuple_str, isi_tuple_lst, isi_tuple_tup, isi_str_non, isi_str_bl, isi_str_int, isi_str_str, isi_str_lst, isi_str_tup, Bool.not_true, Bool.not_false, Bool.or_false, Bool.or_true, Bool.false_or, Bool.true_or, ite_true, ite_false, Option.some.injEq, true_or, false_or, or_false, and_true, rd_isOwn, rd_own1, rd_own2, rd_own3, rd_ixO, rd_onIx1, rd_onIx2, rd_store, rd_onStore1, rd_onStore2, ex_eq, xApp, xDput, S.ow.injEq, S.bg.injEq, S.od.injEq, reduceCtorEq, exists_eq_left', exists_eq_left, exists_eq', D.int.injEq, atI_c0, atI_c1, atI_c2, ixN3_0, ixN3_1, ixN3_2, false_and, and_self]
    exact q

def waysF (ms later : List Int) (n : Int) : Int := if n = 0 then (if ms = later then 1 else 0) else ((begs ms later).map fun p => hz (later.drop p) (n - later.length + (p : Nat))).sum
theorem begs_lt {ms later : List Int} {p : Nat} (h : p ∈ begs ms later) : p < later.length := List.mem_range.mp (List.mem_filter.mp h).1
theorem low_drop {l : List Int} (h : low40 l) (p : Nat) : low40 (l.drop p) := fun x hx => h x (List.mem_of_mem_drop hx)
theorem isMarks_low {top : Int} {ns : List Int} (h : isMarks top ns = true) (t : top ≤ 40) : low40 ns := fun x hx => by
  unfold isMarks okAll at h
  simp only [Bool.and_eq_true, List.all_eq_true, List.mem_map, id] at h
  have := h.2.1 (decide (1 ≤ x) && decide (x ≤ top)) ⟨x, hx, rfl⟩
  simp only [Bool.and_eq_true, decide_eq_true_eq] at this
  omega
def dp_ways : DP := fun ds Q _ => ∃ (ms later : List Int) (n : Int), ds = [.tup (ms.map D.int), .tup (later.map D.int), .int n] ∧ ms.length ≤ 1000 ∧ later.length ≤ 8 ∧ low40 later ∧ 0 ≤ n ∧ n ≤ 40 ∧ Q (.fz (.int (waysF ms later n)))

abbrev s_ways : Stmt := topS 26
theorem sc_ways : FnScope ["marks", "later", "many", "place"] ["marks", "later", "many"] (defScope s_ways) := ⟨rfl, rfl, rfl, by decide +kernel, rfl, by decide +kernel, by decide +kernel⟩
theorem ok_ways {P : Program} {w : World} {K : PySem.W.Frag} {mg : Str → Option Value} {base : Heap} (B : Bt mg) (d : Df K mg "ways" s_ways ["marks", "later", "many"]) (h_begins : Fn P w K mg base "begins" 1 2 dp_begins) (h_sum_of : Fn P w K mg base "sum_of" 2 2 dp_sum_of) : Fn P w K mg base "ways" (2 + 1) 3 dp_ways := by
  refine fn_mk d sc_ways rfl (by decide) fun f cdv A outer s H E C hr => ⟨_, _, (ds_cons (ds_if (dt_cmp (o_eqK K hr.units) (dv 2) d_int) (ds_one (ds_ret (d_callTy c_int (by rfl) B.int (by decide +kernel) (da_cons (d_cmp (o_eqK K hr.units) (dv 0) (dv 1)) da_nil)))) ds_nil)
      (ds_one (ds_ret (d_callB (c_sumK K rfl) (by rfl) B.sum (by decide +kernel) (da_cons (d_lc [("place", 3)] rfl sc_ways.nd (di_seqK K (d_fnK h_begins (hr.mono (by decide)) (da_cons (dv 0) (da_cons (dv 1) da_nil)))) (blkOk_by (by show blkC ["marks", "later", "many", "place"] (defScope s_ways) _ [("place", 3)] = true; decide +kernel)) (fun _ _ _ _ _ _ => (dg_name 3 sc_ways.nd)) (fun _ _ _ _ _ _ => dts_nil) (fun _ _ _ _ _ _ => (d_fnK h_sum_of (hr.mono (by decide)) (da_cons (d_slK K (dv 1) (do_some (dv 3)) do_none) (da_cons (d_op (o_addK K) (d_op o_sub (dv 2) (d_callB (c_lenK K) (by rfl) B.len PySem.boot_len (da_cons (dv 1) da_nil))) (dv 3)) da_nil))))) da_nil))))), fun ds QD ED hl0 h => ?_⟩
  obtain ⟨a0, a1, a2, rfl⟩ : ∃ a0 a1 a2, ds = [a0, a1, a2] := by
    match ds, hl0 with
    | [a0, a1, a2], _ => exact ⟨a0, a1, a2, rfl⟩
  clear hl0
  obtain ⟨ms, later, n, e, l1, l2, hlo, n0, n1, q⟩ := h
  cases e
  unfold waysF at q
  simp only [xSeq, xSet, xRet, xIf, xExpr, xNext, xNever, xC, xNil, xCons, xTup, xLst, xOp, xEq, xNe, xUn, xNot, xAnd, xOr, xIfE, xCB, xCall, xCallB, xName, xAsg, xIsi3, toD_fz, toD_ow, toD_od, toD_bg, rd_var, rd_getv1, rd_getv2, rd_getv3, rd_test, rd_onB, rd_onI, rd_onSB, rd_andV, rd_orV, rd_notV, rd_chain, rd_II, rd_II0, rd_add1, rd_add2, rd_add3, rd_mul1, rd_mul2, rd_mul3, rd_isN, rd_notN, rd_isN1, rd_isN2, rd_isN3, rd_neg, rd_ix1, rd_ix2, rd_part, rd_sl, rd_onSl1, rd_onSl2, rd_rev, rd_onRv, rd_len1, rd_len2, rd_max2, rd_min2, rd_int1, rd_int2, rd_lst1, rd_lst2, rd_tup1, rd_tup2, rd_dm, rd_seqI, rd_onSq1, rd_onSq2, rd_rng1, rd_onR1, rd_rng2, rd_onR2, xEnumT, rd_onEt, rd_zip, rd_onZ1, rd_onZ2, rd_par, rd_onP, xPar3, rd_onP3, rd_gtup, rd_gnil, rd_gcons, rd_isi, ini, iniB, wipeD, unw, kf, List.map_cons, List.map_nil, List.replicate_succ, List.replicate_zero, List.cons_append, List.nil_append, List.length_cons, List.length_nil, List.getElem?_cons_zero, List.getElem?_cons_succ, List.set_cons_zero, List.set_cons_succ, decide_eq_true_eq, Nat.zero_add, Nat.reduceAdd, Nat.reduceSub, Nat.reduceLeDiff, true_and, Bool.false_eq_true, if_false, if_true, isi_int_non, isi_int_bl, isi_int_int, isi_int_str, isi_int_lst, isi_int_tup, isi_bool_non, isi_bool_bl, isi_bool_int, isi_bool_str, isi_bool_lst, isi_bool_tup, isi_list_non, isi_list_bl, isi_list_int, isi_list_str, isi_list_lst, isi_list_tup, isi_tuple_non, isi_tuple_bl, isi_tuple_int, isi_tuple_str, isi_tuple_lst, isi_tuple_tup, isi_str_non, isi_str_bl, isi_str_int, isi_str_str, isi_str_lst, isi_str_tup, Bool.not_true, Bool.not_false, Bool.or_false, Bool.or_true, Bool.false_or, Bool.true_or, ite_true, ite_false, Option.some.injEq, true_or, false_or, or_false, and_true, eqD_int, eqD_tup_ints, okD_tup2]
  refine ⟨rfl, rfl, ite2 (fun h0 => ?_) fun h0 => ?_⟩
  · rw [if_pos h0] at q
    exact q
  · rw [if_neg h0] at q
    refine lc_all (begs ms later) (fun p : Nat => D.int (p : Int)) (fun p => D.int (hz (later.drop p) (n - later.length + (p : Nat)))) (fun QL hq => ?_) ?_ (fun p hp QD QN h1 => ?_) ?_
    · simp only [xSeq, xSet, xRet, xIf, xExpr, xNext, xNever, xC, xNil, xCons, xTup, xLst, xOp, xEq, xNe, xUn, xNot, xAnd, xOr, xIfE, xCB, xCall, xCallB, xName, xAsg, xIsi3, toD_fz, toD_ow, toD_od, toD_bg, rd_var, rd_getv1, rd_getv2, rd_getv3, rd_test, rd_onB, rd_onI, rd_onSB, rd_andV, rd_orV, rd_notV, rd_chain, rd_II, rd_II0, rd_add1, rd_add2, rd_add3, rd_mul1, rd_mul2, rd_mul3, rd_isN, rd_notN, rd_isN1, rd_isN2, rd_isN3, rd_neg, rd_ix1, rd_ix2, rd_part, rd_sl, rd_onSl1, rd_onSl2, rd_rev, rd_onRv, rd_len1, rd_len2, rd_max2, rd_min2, rd_int1, rd_int2, rd_lst1, rd_lst2, rd_tup1, rd_tup2, rd_dm, rd_seqI, rd_onSq1, rd_onSq2, rd_rng1, rd_onR1, rd_rng2, rd_onR2, xEnumT, rd_onEt, rd_zip, rd_onZ1, rd_onZ2, rd_par, rd_onP, xPar3, rd_onP3, rd_gtup, rd_gnil, rd_gcons, rd_isi, ini, iniB, wipeD, unw, kf, List.map_cons, List.map_nil, List.replicate_succ, List.replicate_zero, List.cons_append, List.nil_append, List.length_cons, List.length_nil, List.getElem?_cons_zero, List.getElem?_cons_succ, List.set_cons_zero, List.set_cons_succ, decide_eq_true_eq, Nat.zero_add, Nat.reduceAdd, Nat.reduceSub, Nat.reduceLeDiff, true_and, Bool.false_eq_true, if_false, if_true, isi_int_non, isi_int_bl, isi_int_int, isi_int_str, isi_int_lst, isi_int_tup, isi_bool_non, isi_bool_bl, isi_bool_int, isi_bool_str, isi_bool_lst, isi_bool_tup, isi_list_non, isi_list_bl, isi_list_int, isi_list_str, isi_list_lst, isi_list_tup, isi_tuple_non, isi_tuple_bl, isi_tuple_int, isi_tuple_str, isi_tuple_lst, isi_tuple_tup, isi_str_non, isi_str_bl, isi_str_int, isi_str_str, isi_str_lst, isi_str_tup, Bool.not_true, Bool.not_false, Bool.or_false, Bool.or_true, Bool.false_or, Bool.true_or, ite_true, ite_false, Option.some.injEq, true_or, false_or, or_false, and_true, rd_isOwn, rd_own1, rd_own2, rd_own3, rd_ixO, rd_onIx1, rd_onIx2, rd_store, rd_onStore1, rd_onStore2, ex_eq, xApp, xDput, S.ow.injEq, S.bg.injEq, S.od.injEq, reduceCtorEq, exists_eq_left', exists_eq_left, exists_eq', D.int.injEq, atI_c0, atI_c1, atI_c2, ixN3_0, ixN3_1, ixN3_2, false_and, and_self]
      refine ⟨ms, later, rfl, l1, l2, ?_⟩
      simp only [xSeq, xSet, xRet, xIf, xExpr, xNext, xNever, xC, xNil, xCons, xTup, xLst, xOp, xEq, xNe, xUn, xNot, xAnd, xOr, xIfE, xCB, xCall, xCallB, xName, xAsg, xIsi3, toD_fz, toD_ow, toD_od, toD_bg, rd_var, rd_getv1, rd_getv2, rd_getv3, rd_test, rd_onB, rd_onI, rd_onSB, rd_andV, rd_orV, rd_notV, rd_chain, rd_II, rd_II0, rd_add1, rd_add2, rd_add3, rd_mul1, rd_mul2, rd_mul3, rd_isN, rd_notN, rd_isN1, rd_isN2, rd_isN3, rd_neg, rd_ix1, rd_ix2, rd_part, rd_sl, rd_onSl1, rd_onSl2, rd_rev, rd_onRv, rd_len1, rd_len2, rd_max2, rd_min2, rd_int1, rd_int2, rd_lst1, rd_lst2, rd_tup1, rd_tup2, rd_dm, rd_seqI, rd_onSq1, rd_onSq2, rd_rng1, rd_onR1, rd_rng2, rd_onR2, xEnumT, rd_onEt, rd_zip, rd_onZ1, rd_onZ2, rd_par, rd_onP, xPar3, rd_onP3, rd_gtup, rd_gnil, rd_gcons, rd_isi, ini, iniB, wipeD, unw, kf, List.map_cons, List.map_nil, List.replicate_succ, List.replicate_zero, List.cons_append, List.nil_append, List.length_cons, List.length_nil, List.getElem?_cons_zero, List.getElem?_cons_succ, List.set_cons_zero, List.set_cons_succ, decide_eq_true_eq, Nat.zero_add, Nat.reduceAdd, Nat.reduceSub, Nat.reduceLeDiff, true_and, Bool.false_eq_true, if_false, if_true, isi_int_non, isi_int_bl, isi_int_int, isi_int_str, isi_int_lst, isi_int_tup, isi_bool_non, isi_bool_bl, isi_bool_int, isi_bool_str, isi_bool_lst, isi_bool_tup, isi_list_non, isi_list_bl, isi_list_int, isi_list_str, isi_list_lst, isi_list_tup, isi_tuple_non, isi_tuple_bl, isi_tuple_int, isi_tuple_str, isi_tuple_lst, isi_tuple_tup, isi_str_non, isi_str_bl, isi_str_int, isi_str_str, isi_str_lst, isi_str_tup, Bool.not_true, Bool.not_false, Bool.or_false, Bool.or_true, Bool.false_or, Bool.true_or, ite_true, ite_false, Option.some.injEq, true_or, false_or, or_false, and_true, rd_isOwn, rd_own1, rd_own2, rd_own3, rd_ixO, rd_onIx1, rd_onIx2, rd_store, rd_onStore1, rd_onStore2, ex_eq, xApp, xDput, S.ow.injEq, S.bg.injEq, S.od.injEq, reduceCtorEq, exists_eq_left', exists_eq_left, exists_eq', D.int.injEq, atI_c0, atI_c1, atI_c2, ixN3_0, ixN3_1, ixN3_2, false_and, and_self]
      exact hq
    · have := List.length_filter_le (isBeg ms later) (List.range later.length)
      rw [List.length_range] at this
      unfold begs
      omega
    · have hp' := begs_lt hp
      simp only [xSeq, xSet, xRet, xIf, xExpr, xNext, xNever, xC, xNil, xCons, xTup, xLst, xOp, xEq, xNe, xUn, xNot, xAnd, xOr, xIfE, xCB, xCall, xCallB, xName, xAsg, xIsi3, toD_fz, toD_ow, toD_od, toD_bg, rd_var, rd_getv1, rd_getv2, rd_getv3, rd_test, rd_onB, rd_onI, rd_onSB, rd_andV, rd_orV, rd_notV, rd_chain, rd_II, rd_II0, rd_add1, rd_add2, rd_add3, rd_mul1, rd_mul2, rd_mul3, rd_isN, rd_notN, rd_isN1, rd_isN2, rd_isN3, rd_neg, rd_ix1, rd_ix2, rd_part, rd_sl, rd_onSl1, rd_onSl2, rd_rev, rd_onRv, rd_len1, rd_len2, rd_max2, rd_min2, rd_int1, rd_int2, rd_lst1, rd_lst2, rd_tup1, rd_tup2, rd_dm, rd_seqI, rd_onSq1, rd_onSq2, rd_rng1, rd_onR1, rd_rng2, rd_onR2, xEnumT, rd_onEt, rd_zip, rd_onZ1, rd_onZ2, rd_par, rd_onP, xPar3, rd_onP3, rd_gtup, rd_gnil, rd_gcons, rd_isi, ini, iniB, wipeD, unw, kf, List.map_cons, List.map_nil, List.replicate_succ, List.replicate_zero, List.cons_append, List.nil_append, List.length_cons, List.length_nil, List.getElem?_cons_zero, List.getElem?_cons_succ, List.set_cons_zero, List.set_cons_succ, decide_eq_true_eq, Nat.zero_add, Nat.reduceAdd, Nat.reduceSub, Nat.reduceLeDiff, true_and, Bool.false_eq_true, if_false, if_true, isi_int_non, isi_int_bl, isi_int_int, isi_int_str, isi_int_lst, isi_int_tup, isi_bool_non, isi_bool_bl, isi_bool_int, isi_bool_str, isi_bool_lst, isi_bool_tup, isi_list_non, isi_list_bl, isi_list_int, isi_list_str, isi_list_lst, isi_list_tup, isi_tuple_non, isi_tuple_bl, isi_tuple_int, isi_tuple_str, isi_tuple_lst, isi_tuple_tup, isi_str_non, isi_str_bl, isi_str_int, isi_str_str, isi_str_lst, isi_str_tup, Bool.not_true, Bool.not_false, Bool.or_false, Bool.or_true, Bool.false_or, Bool.true_or, ite_true, ite_false, Option.some.injEq, true_or, false_or, or_false, and_true, rd_isOwn, rd_own1, rd_own2, rd_own3, rd_ixO, rd_onIx1, rd_onIx2, rd_store, rd_onStore1, rd_onStore2, ex_eq, xApp, xDput, S.ow.injEq, S.bg.injEq, S.od.injEq, reduceCtorEq, exists_eq_left', exists_eq_left, exists_eq', D.int.injEq, atI_c0, atI_c1, atI_c2, ixN3_0, ixN3_1, ixN3_2, false_and, and_self]
      rw [cut_drop _ _ (by omega), Int.toNat_natCast, ← List.map_drop]
      simp only [List.length_map]
      exact ⟨later.drop p, _, rfl, by rw [List.length_drop]; omega, low_drop hlo p, by omega, h1⟩
    · simp only [xSeq, xSet, xRet, xIf, xExpr, xNext, xNever, xC, xNil, xCons, xTup, xLst, xOp, xEq, xNe, xUn, xNot, xAnd, xOr, xIfE, xCB, xCall, xCallB, xName, xAsg, xIsi3, toD_fz, toD_ow, toD_od, toD_bg, rd_var, rd_getv1, rd_getv2, rd_getv3, rd_test, rd_onB, rd_onI, rd_onSB, rd_andV, rd_orV, rd_notV, rd_chain, rd_II, rd_II0, rd_add1, rd_add2, rd_add3, rd_mul1, rd_mul2, rd_mul3, rd_isN, rd_notN, rd_isN1, rd_isN2, rd_isN3, rd_neg, rd_ix1, rd_ix2, rd_part, rd_sl, rd_onSl1, rd_onSl2, rd_rev, rd_onRv, rd_len1, rd_len2, rd_max2, rd_min2, rd_int1, rd_int2, rd_lst1, rd_lst2, rd_tup1, rd_tup2, rd_dm, rd_seqI, rd_onSq1, rd_onSq2, rd_rng1, rd_onR1, rd_rng2, rd_onR2, xEnumT, rd_onEt, rd_zip, rd_onZ1, rd_onZ2, rd_par, rd_onP, xPar3, rd_onP3, rd_gtup, rd_gnil, rd_gcons, rd_isi, ini, iniB, wipeD, unw, kf, List.map_cons, List.map_nil, List.replicate_succ, List.replicate_zero, List.cons_append, List.nil_append, List.length_cons, List.length_nil, List.getElem?_cons_zero, List.getElem?_cons_succ, List.set_cons_zero, List.set_cons_succ, decide_eq_true_eq, Nat.zero_add, Nat.reduceAdd, Nat.reduceSub, Nat.reduceLeDiff, true_and, Bool.false_eq_true, if_false, if_true, isi_int_non, isi_int_bl, isi_int_int, isi_int_str, isi_int_lst, isi_int_tup, isi_bool_non, isi_bool_bl, isi_bool_int, isi_bool_str, isi_bool_lst, isi_bool_tup, isi_list_non, isi_list_bl, isi_list_int, isi_list_str, isi_list_lst, isi_list_tup, isi_tuple_non, isi_tuple_bl, isi_tuple_int, isi_tuple_str, isi_tuple_lst, isi_tuple_tup, isi_str_non, isi_str_bl, isi_str_int, isi_str_str, isi_str_lst, isi_str_tup, Bool.not_true, Bool.not_false, Bool.or_false, Bool.or_true, Bool.false_or, Bool.true_or, ite_true, ite_false, Option.some.injEq, true_or, false_or, or_false, and_true, rd_isOwn, rd_own1, rd_own2, rd_own3, rd_ixO, rd_onIx1, rd_onIx2, rd_store, rd_onStore1, rd_onStore2, ex_eq, xApp, xDput, S.ow.injEq, S.bg.injEq, S.od.injEq, reduceCtorEq, exists_eq_left', exists_eq_left, exists_eq', D.int.injEq, atI_c0, atI_c1, atI_c2, ixN3_0, ixN3_1, ixN3_2, false_and, and_self]
      exact ⟨_, by rw [List.map_map]; rfl, q⟩

def dp_look_at_both : DP := fun ds Q _ => ∃ (top : Int) (ms ns : List Int), ds = [.int top, .tup (ms.map D.int), .tup (ns.map D.int)] ∧ 1 ≤ top ∧ top ≤ 40 ∧ isMarks top ms = true ∧ isMarks top ns = true ∧ Q (.fz .non)

abbrev s_look_at_both : Stmt := topS 27
theorem sc_look_at_both : FnScope ["top", "marks", "later"] ["top", "marks", "later"] (defScope s_look_at_both) := ⟨rfl, rfl, rfl, by decide +kernel, rfl, by decide +kernel, by decide +kernel⟩
theorem ok_look_at_both {P : Program} {w : World} {K : PySem.W.Frag} {mg : Str → Option Value} {base : Heap} (B : Bt mg) (d : Df K mg "look_at_both" s_look_at_both ["top", "marks", "later"]) (h_look_at_marks : Fn P w K mg base "look_at_marks" 4 2 dp_look_at_marks) : Fn P w K mg base "look_at_both" (4 + 1) 3 dp_look_at_both := by
  refine fn_mk d sc_look_at_both rfl (by decide) fun f cdv A outer s H E C hr => ⟨_, _, (ds_cons (ds_expr (d_fnK h_look_at_marks (hr.mono (by decide)) (da_cons (dv 0) (da_cons (dv 1) da_nil))))
      (ds_one (ds_expr (d_fnK h_look_at_marks (hr.mono (by decide)) (da_cons (dv 0) (da_cons (dv 2) da_nil)))))), fun ds QD ED hl0 h => ?_⟩
  obtain ⟨a0, a1, a2, rfl⟩ : ∃ a0 a1 a2, ds = [a0, a1, a2] := by
    match ds, hl0 with
    | [a0, a1, a2], _ => exact ⟨a0, a1, a2, rfl⟩
  clear hl0
  obtain ⟨top, ms, ns, e, t1, t2, hm, hn, q⟩ := h
  cases e
  simp only [xSeq, xSet, xRet, xIf, xExpr, xNext, xNever, xC, xNil, xCons, xTup, xLst, xOp, xEq, xNe, xUn, xNot, xAnd, xOr, xIfE, xCB, xCall, xCallB, xName, xAsg, xIsi3, toD_fz, toD_ow, toD_od, toD_bg, rd_var, rd_getv1, rd_getv2, rd_getv3, rd_test, rd_onB, rd_onI, rd_onSB, rd_andV, rd_orV, rd_notV, rd_chain, rd_II, rd_II0, rd_add1, rd_add2, rd_add3, rd_mul1, rd_mul2, rd_mul3, rd_isN, rd_notN, rd_isN1, rd_isN2, rd_isN3, rd_neg, rd_ix1, rd_ix2, rd_part, rd_sl, rd_onSl1, rd_onSl2, rd_rev, rd_onRv, rd_len1, rd_len2, rd_max2, rd_min2, rd_int1, rd_int2, rd_lst1, rd_lst2, rd_tup1, rd_tup2, rd_dm, rd_seqI, rd_onSq1, rd_onSq2, rd_rng1, rd_onR1, rd_rng2, rd_onR2, xEnumT, rd_onEt, rd_zip, rd_onZ1, rd_onZ2, rd_par, rd_onP, xPar3, rd_onP3, rd_gtup, rd_gnil, rd_gcons, rd_isi, ini, iniB, wipeD, unw, kf, List.map_cons, List.map_nil, List.replicate_succ, List.replicate_zero, List.cons_append, List.nil_append, List.length_cons, List.length_nil, List.getElem?_cons_zero, List.getElem?_cons_succ, List.set_cons_zero, List.set_cons_succ, decide_eq_true_eq, Nat.zero_add, Nat.reduceAdd, Nat.reduceSub, Nat.reduceLeDiff, true_and, Bool.false_eq_true, if_false, if_true, isi_int_non, isi_int_bl, isi_int_int, isi_int_str, isi_int_lst, isi_int_tup, isi_bool_non, isi_bool_bl, isi_bool_int, isi_bool_str, isi_bool_lst, isi_bool_tup, isi_list_non, isi_list_bl, isi_list_int, isi_list_str, isi_list_lst, isi_list_tup, isi_tuple_non, isi_tuple_bl, isi_tuple_int, isi_tuple_str, isi_tuple_lst, isi_tuple_tup, isi_str_non, isi_str_bl, isi_str_int, isi_str_str, isi_str_lst, isi_str_tup, Bool.not_true, Bool.not_false, Bool.or_false, Bool.or_true, Bool.false_or, Bool.true_or, ite_true, ite_false, Option.some.injEq, true_or, false_or, or_false, and_true]
  exact ⟨top, ms, rfl, t1, t2, hm, top, ns, rfl, t1, t2, hn, q⟩

def dp_how_many : DP := fun ds Q _ => ∃ (top : Int) (ms later : List Int) (n : Int), ds = [.int top, .tup (ms.map D.int), .tup (later.map D.int), .int n] ∧ 1 ≤ top ∧ top ≤ 40 ∧ isMarks top ms = true ∧ isMarks top later = true ∧ 0 ≤ n ∧ n ≤ 40 ∧ Q (.fz (.int (waysF ms later n)))

abbrev s_how_many : Stmt := topS 28
theorem sc_how_many : FnScope ["top", "marks", "later", "many"] ["top", "marks", "later", "many"] (defScope s_how_many) := ⟨rfl, rfl, rfl, by decide +kernel, rfl, by decide +kernel, by decide +kernel⟩
theorem ok_how_many {P : Program} {w : World} {K : PySem.W.Frag} {mg : Str → Option Value} {base : Heap} (B : Bt mg) (d : Df K mg "how_many" s_how_many ["top", "marks", "later", "many"]) (h_ways : Fn P w K mg base "ways" 3 3 dp_ways) (h_look_at_many : Fn P w K mg base "look_at_many" 3 2 dp_look_at_many) (h_look_at_both : Fn P w K mg base "look_at_both" 5 3 dp_look_at_both) : Fn P w K mg base "how_many" (5 + 1) 4 dp_how_many := by
  refine fn_mk d sc_how_many rfl (by decide) fun f cdv A outer s H E C hr => ⟨_, _, (ds_cons (ds_expr (d_fnK h_look_at_both (hr.mono (by decide)) (da_cons (dv 0) (da_cons (dv 1) (da_cons (dv 2) da_nil)))))
      (ds_cons (ds_expr (d_fnK h_look_at_many (hr.mono (by decide)) (da_cons (dv 3) (da_cons (d_globI (by rfl) B.MOST_FLOODS) da_nil))))
      (ds_one (ds_ret (d_fnK h_ways (hr.mono (by decide)) (da_cons (dv 1) (da_cons (dv 2) (da_cons (dv 3) da_nil)))))))), fun ds QD ED hl0 h => ?_⟩
  obtain ⟨a0, a1, a2, a3, rfl⟩ : ∃ a0 a1 a2 a3, ds = [a0, a1, a2, a3] := by
    match ds, hl0 with
    | [a0, a1, a2, a3], _ => exact ⟨a0, a1, a2, a3, rfl⟩
  clear hl0
  obtain ⟨top, ms, later, n, e, t1, t2, hm, hl, n0, n1, q⟩ := h
  cases e
  simp only [xSeq, xSet, xRet, xIf, xExpr, xNext, xNever, xC, xNil, xCons, xTup, xLst, xOp, xEq, xNe, xUn, xNot, xAnd, xOr, xIfE, xCB, xCall, xCallB, xName, xAsg, xIsi3, toD_fz, toD_ow, toD_od, toD_bg, rd_var, rd_getv1, rd_getv2, rd_getv3, rd_test, rd_onB, rd_onI, rd_onSB, rd_andV, rd_orV, rd_notV, rd_chain, rd_II, rd_II0, rd_add1, rd_add2, rd_add3, rd_mul1, rd_mul2, rd_mul3, rd_isN, rd_notN, rd_isN1, rd_isN2, rd_isN3, rd_neg, rd_ix1, rd_ix2, rd_part, rd_sl, rd_onSl1, rd_onSl2, rd_rev, rd_onRv, rd_len1, rd_len2, rd_max2, rd_min2, rd_int1, rd_int2, rd_lst1, rd_lst2, rd_tup1, rd_tup2, rd_dm, rd_seqI, rd_onSq1, rd_onSq2, rd_rng1, rd_onR1, rd_rng2, rd_onR2, xEnumT, rd_onEt, rd_zip, rd_onZ1, rd_onZ2, rd_par, rd_onP, xPar3, rd_onP3, rd_gtup, rd_gnil, rd_gcons, rd_isi, ini, iniB, wipeD, unw, kf, List.map_cons, List.map_nil, List.replicate_succ, List.replicate_zero, List.cons_append, List.nil_append, List.length_cons, List.length_nil, List.getElem?_cons_zero, List.getElem?_cons_succ, List.set_cons_zero, List.set_cons_succ, decide_eq_true_eq, Nat.zero_add, Nat.reduceAdd, Nat.reduceSub, Nat.reduceLeDiff, true_and, Bool.false_eq_true, if_false, if_true, isi_int_non, isi_int_bl, isi_int_int, isi_int_str, isi_int_lst, isi_int_tup, isi_bool_non, isi_bool_bl, isi_bool_int, isi_bool_str, isi_bool_lst, isi_bool_tup, isi_list_non, isi_list_bl, isi_list_int, isi_list_str, isi_list_lst, isi_list_tup, isi_tuple_non, isi_tuple_bl, isi_tuple_int, isi_tuple_str, isi_tuple_lst, isi_tuple_tup, isi_str_non, isi_str_bl, isi_str_int, isi_str_str, isi_str_lst, isi_str_tup, Bool.not_true, Bool.not_false, Bool.or_false, Bool.or_true, Bool.false_or, Bool.true_or, ite_true, ite_false, Option.some.injEq, true_or, false_or, or_false, and_true]
  refine ⟨top, ms, later, rfl, t1, t2, hm, hl, n, 40, rfl, n0, n1, ms, later, n, rfl, Nat.le_trans (isMarks_len hm) (by decide), isMarks_len hl, isMarks_low hl t2, n0, n1, q⟩

theorem sum_mod {α : Type} (m : Int) (f : α → Int) : ∀ l : List α, (l.map fun a => f a % m).sum % m = (l.map f).sum % m
  | [] => rfl
  | a :: l => by rw [List.map_cons, List.map_cons, List.sum_cons, List.sum_cons, Int.add_emod, sum_mod m f l, Int.emod_emod, ← Int.add_emod]
def dp_rest : DP := fun ds Q _ => ∃ (top : Int) (ms later : List Int) (n m : Int), ds = [.int top, .tup (ms.map D.int), .tup (later.map D.int), .int n, .int m] ∧ 1 ≤ top ∧ top ≤ 40 ∧ isMarks top ms = true ∧ isMarks top later = true ∧ 0 ≤ n ∧ n ≤ 1000000000000000000 ∧ 2 ≤ m ∧ m ≤ 1000000000 ∧ Q (.fz (.int (waysF ms later n % m)))

abbrev s_rest : Stmt := topS 29
theorem sc_rest : FnScope ["top", "marks", "later", "many", "by", "some", "place"] ["top", "marks", "later", "many", "by"] (defScope s_rest) := ⟨rfl, rfl, rfl, by decide +kernel, rfl, by decide +kernel, by decide +kernel⟩
theorem ok_rest {P : Program} {w : World} {K : PySem.W.Frag} {mg : Str → Option Value} {base : Heap} (B : Bt mg) (d : Df K mg "rest" s_rest ["top", "marks", "later", "many", "by"]) (h_begins : Fn P w K mg base "begins" 1 2 dp_begins) (h_rest_of : Fn P w K mg base "rest_of" 2 3 dp_rest_of) (h_is_within : Fn P w K mg base "is_within" 2 3 dp_is_within) (h_look_at_many : Fn P w K mg base "look_at_many" 3 2 dp_look_at_many) (h_look_at_both : Fn P w K mg base "look_at_both" 5 3 dp_look_at_both) : Fn P w K mg base "rest" (5 + 1) 5 dp_rest := by
  refine fn_mk d sc_rest rfl (by decide) fun f cdv A outer s H E C hr => ⟨_, _, (ds_cons (ds_expr (d_fnK h_look_at_both (hr.mono (by decide)) (da_cons (dv 0) (da_cons (dv 1) (da_cons (dv 2) da_nil)))))
      (ds_cons (ds_expr (d_fnK h_look_at_many (hr.mono (by decide)) (da_cons (dv 3) (da_cons (d_globI (by rfl) B.MOST_FAR) da_nil))))
      (ds_cons (ds_if (dt_not (dt_val (d_fnK h_is_within (hr.mono (by decide)) (da_cons (dv 4) (da_cons d_int (da_cons (d_globI (by rfl) B.MOST_BY) da_nil)))))) (ds_one ds_never) ds_nil)
      (ds_cons (ds_if (dt_cmp (o_eqK K hr.units) (dv 3) d_int) (ds_one (ds_ret (d_callTy c_int (by rfl) B.int (by decide +kernel) (da_cons (d_cmp (o_eqK K hr.units) (dv 1) (dv 2)) da_nil)))) ds_nil)
      (ds_cons (ds_setLc 5 [("place", 6)] rfl sc_rest.nd (di_seqK K (d_fnK h_begins (hr.mono (by decide)) (da_cons (dv 1) (da_cons (dv 2) da_nil)))) (blkOk_by (by show blkC ["top", "marks", "later", "many", "by", "some", "place"] (defScope s_rest) _ [("place", 6)] = true; decide +kernel)) (fun _ _ _ _ _ _ => (dg_name 6 sc_rest.nd)) (fun _ _ _ _ _ _ => dts_nil) (fun _ _ _ _ _ _ => (d_fnK h_rest_of (hr.mono (by decide)) (da_cons (d_slK K (dv 2) (do_some (dv 6)) do_none) (da_cons (d_op (o_addK K) (d_op o_sub (dv 3) (d_callB (c_lenK K) (by rfl) B.len PySem.boot_len (da_cons (dv 2) da_nil))) (dv 6)) (da_cons (dv 4) da_nil))))) (sw_true rfl rfl rfl (by decide +kernel)))
      (ds_one (ds_ret (d_op o_mod (d_callB (c_sumK K rfl) (by rfl) B.sum (by decide +kernel) (da_cons (dv 5) da_nil)) (dv 4))))))))), fun ds QD ED hl0 h => ?_⟩
  obtain ⟨a0, a1, a2, a3, a4, rfl⟩ : ∃ a0 a1 a2 a3 a4, ds = [a0, a1, a2, a3, a4] := by
    match ds, hl0 with
    | [a0, a1, a2, a3, a4], _ => exact ⟨a0, a1, a2, a3, a4, rfl⟩
  clear hl0
  obtain ⟨top, ms, later, n, m, e, t1, t2, hm, hl, n0, n1, m1, m2, q⟩ := h
  cases e
  have l1 := isMarks_len hm
  have l2 := isMarks_len hl
  unfold waysF at q
  simp only [xSeq, xSet, xRet, xIf, xExpr, xNext, xNever, xC, xNil, xCons, xTup, xLst, xOp, xEq, xNe, xUn, xNot, xAnd, xOr, xIfE, xCB, xCall, xCallB, xName, xAsg, xIsi3, toD_fz, toD_ow, toD_od, toD_bg, rd_var, rd_getv1, rd_getv2, rd_getv3, rd_test, rd_onB, rd_onI, rd_onSB, rd_andV, rd_orV, rd_notV, rd_chain, rd_II, rd_II0, rd_add1, rd_add2, rd_add3, rd_mul1, rd_mul2, rd_mul3, rd_isN, rd_notN, rd_isN1, rd_isN2, rd_isN3, rd_neg, rd_ix1, rd_ix2, rd_part, rd_sl, rd_onSl1, rd_onSl2, rd_rev, rd_onRv, rd_len1, rd_len2, rd_max2, rd_min2, rd_int1, rd_int2, rd_lst1, rd_lst2, rd_tup1, rd_tup2, rd_dm, rd_seqI, rd_onSq1, rd_onSq2, rd_rng1, rd_onR1, rd_rng2, rd_onR2, xEnumT, rd_onEt, rd_zip, rd_onZ1, rd_onZ2, rd_par, rd_onP, xPar3, rd_onP3, rd_gtup, rd_gnil, rd_gcons, rd_isi, ini, iniB, wipeD, unw, kf, List.map_cons, List.map_nil, List.replicate_succ, List.replicate_zero, List.cons_append, List.nil_append, List.length_cons, List.length_nil, List.getElem?_cons_zero, List.getElem?_cons_succ, List.set_cons_zero, List.set_cons_succ, decide_eq_true_eq, Nat.zero_add, Nat.reduceAdd, Nat.reduceSub, Nat.reduceLeDiff, true_and, Bool.false_eq_true, if_false, if_true, isi_int_non, isi_int_bl, isi_int_int, isi_int_str, isi_int_lst, isi_int_tup, isi_bool_non, isi_bool_bl, isi_bool_int, isi_bool_str, isi_bool_lst, isi_bool_tup, isi_list_non, isi_list_bl, isi_list_int, isi_list_str, isi_list_lst, isi_list_tup, isi_tuple_non, isi_tuple_bl, isi_tuple_int, isi_tuple_str, isi_tuple_lst, isi_tuple_tup, isi_str_non, isi_str_bl, isi_str_int, isi_str_str, isi_str_lst, isi_str_tup, Bool.not_true, Bool.not_false, Bool.or_false, Bool.or_true, Bool.false_or, Bool.true_or, ite_true, ite_false, Option.some.injEq, true_or, false_or, or_false, and_true]
  refine ⟨top, ms, later, rfl, t1, t2, hm, hl, n, _, rfl, n0, n1, .int m, 2, _, rfl, ?_⟩
  simp only [xSeq, xSet, xRet, xIf, xExpr, xNext, xNever, xC, xNil, xCons, xTup, xLst, xOp, xEq, xNe, xUn, xNot, xAnd, xOr, xIfE, xCB, xCall, xCallB, xName, xAsg, xIsi3, toD_fz, toD_ow, toD_od, toD_bg, rd_var, rd_getv1, rd_getv2, rd_getv3, rd_test, rd_onB, rd_onI, rd_onSB, rd_andV, rd_orV, rd_notV, rd_chain, rd_II, rd_II0, rd_add1, rd_add2, rd_add3, rd_mul1, rd_mul2, rd_mul3, rd_isN, rd_notN, rd_isN1, rd_isN2, rd_isN3, rd_neg, rd_ix1, rd_ix2, rd_part, rd_sl, rd_onSl1, rd_onSl2, rd_rev, rd_onRv, rd_len1, rd_len2, rd_max2, rd_min2, rd_int1, rd_int2, rd_lst1, rd_lst2, rd_tup1, rd_tup2, rd_dm, rd_seqI, rd_onSq1, rd_onSq2, rd_rng1, rd_onR1, rd_rng2, rd_onR2, xEnumT, rd_onEt, rd_zip, rd_onZ1, rd_onZ2, rd_par, rd_onP, xPar3, rd_onP3, rd_gtup, rd_gnil, rd_gcons, rd_isi, ini, iniB, wipeD, unw, kf, List.map_cons, List.map_nil, List.replicate_succ, List.replicate_zero, List.cons_append, List.nil_append, List.length_cons, List.length_nil, List.getElem?_cons_zero, List.getElem?_cons_succ, List.set_cons_zero, List.set_cons_succ, decide_eq_true_eq, Nat.zero_add, Nat.reduceAdd, Nat.reduceSub, Nat.reduceLeDiff, true_and, Bool.false_eq_true, if_false, if_true, isi_int_non, isi_int_bl, isi_int_int, isi_int_str, isi_int_lst, isi_int_tup, isi_bool_non, isi_bool_bl, isi_bool_int, isi_bool_str, isi_bool_lst, isi_bool_tup, isi_list_non, isi_list_bl, isi_list_int, isi_list_str, isi_list_lst, isi_list_tup, isi_tuple_non, isi_tuple_bl, isi_tuple_int, isi_tuple_str, isi_tuple_lst, isi_tuple_tup, isi_str_non, isi_str_bl, isi_str_int, isi_str_str, isi_str_lst, isi_str_tup, Bool.not_true, Bool.not_false, Bool.or_false, Bool.or_true, Bool.false_or, Bool.true_or, ite_true, ite_false, Option.some.injEq, true_or, false_or, or_false, and_true, inR, decide_eq_true m1, decide_eq_true m2, eqD_int, eqD_tup_ints, okD_tup2]
  refine ⟨rfl, rfl, ite2 (fun h0 => ?_) fun h0 => ?_⟩
  · rw [if_pos h0] at q
    have e1 : (if ms = later then (1 : Int) else 0) % m = if ms = later then 1 else 0 := by
      split
      · exact Int.emod_eq_of_lt (by decide) (by omega)
      · exact Int.zero_emod m
    rw [e1] at q
    exact q
  · rw [if_neg h0] at q
    refine lc_all (begs ms later) (fun p : Nat => D.int (p : Int)) (fun p => D.int (hz (later.drop p) (n - later.length + (p : Nat)) % m)) (fun QL hq => ?_) ?_ (fun p hp QD QN h1 => ?_) ?_
    · simp only [xSeq, xSet, xRet, xIf, xExpr, xNext, xNever, xC, xNil, xCons, xTup, xLst, xOp, xEq, xNe, xUn, xNot, xAnd, xOr, xIfE, xCB, xCall, xCallB, xName, xAsg, xIsi3, toD_fz, toD_ow, toD_od, toD_bg, rd_var, rd_getv1, rd_getv2, rd_getv3, rd_test, rd_onB, rd_onI, rd_onSB, rd_andV, rd_orV, rd_notV, rd_chain, rd_II, rd_II0, rd_add1, rd_add2, rd_add3, rd_mul1, rd_mul2, rd_mul3, rd_isN, rd_notN, rd_isN1, rd_isN2, rd_isN3, rd_neg, rd_ix1, rd_ix2, rd_part, rd_sl, rd_onSl1, rd_onSl2, rd_rev, rd_onRv, rd_len1, rd_len2, rd_max2, rd_min2, rd_int1, rd_int2, rd_lst1, rd_lst2, rd_tup1, rd_tup2, rd_dm, rd_seqI, rd_onSq1, rd_onSq2, rd_rng1, rd_onR1, rd_rng2, rd_onR2, xEnumT, rd_onEt, rd_zip, rd_onZ1, rd_onZ2, rd_par, rd_onP, xPar3, rd_onP3, rd_gtup, rd_gnil, rd_gcons, rd_isi, ini, iniB, wipeD, unw, kf, List.map_cons, List.map_nil, List.replicate_succ, List.replicate_zero, List.cons_append, List.nil_append, List.length_cons, List.length_nil, List.getElem?_cons_zero, List.getElem?_cons_succ, List.set_cons_zero, List.set_cons_succ, decide_eq_true_eq, Nat.zero_add, Nat.reduceAdd, Nat.reduceSub, Nat.reduceLeDiff, true_and, Bool.false_eq_true, if_false, if_true, isi_int_non, isi_int_bl, isi_int_int, isi_int_str, isi_int_lst, isi_int_tup, isi_bool_non, isi_bool_bl, isi_bool_int, isi_bool_str, isi_bool_lst, isi_bool_tup, isi_list_non, isi_list_bl, isi_list_int, isi_list_str, isi_list_lst, isi_list_tup, isi_tuple_non, isi_tuple_bl, isi_tuple_int, isi_tuple_str, isi_tuple_lst, isi_tuple_tup, isi_str_non, isi_str_bl, isi_str_int, isi_str_str, isi_str_lst, isi_str_tup, Bool.not_true, Bool.not_false, Bool.or_false, Bool.or_true, Bool.false_or, Bool.true_or, ite_true, ite_false, Option.some.injEq, true_or, false_or, or_false, and_true, rd_isOwn, rd_own1, rd_own2, rd_own3, rd_ixO, rd_onIx1, rd_onIx2, rd_store, rd_onStore1, rd_onStore2, ex_eq, xApp, xDput, S.ow.injEq, S.bg.injEq, S.od.injEq, reduceCtorEq, exists_eq_left', exists_eq_left, exists_eq', D.int.injEq, atI_c0, atI_c1, atI_c2, ixN3_0, ixN3_1, ixN3_2, false_and, and_self]
      refine ⟨ms, later, rfl, Nat.le_trans l1 (by decide), l2, ?_⟩
      simp only [xSeq, xSet, xRet, xIf, xExpr, xNext, xNever, xC, xNil, xCons, xTup, xLst, xOp, xEq, xNe, xUn, xNot, xAnd, xOr, xIfE, xCB, xCall, xCallB, xName, xAsg, xIsi3, toD_fz, toD_ow, toD_od, toD_bg, rd_var, rd_getv1, rd_getv2, rd_getv3, rd_test, rd_onB, rd_onI, rd_onSB, rd_andV, rd_orV, rd_notV, rd_chain, rd_II, rd_II0, rd_add1, rd_add2, rd_add3, rd_mul1, rd_mul2, rd_mul3, rd_isN, rd_notN, rd_isN1, rd_isN2, rd_isN3, rd_neg, rd_ix1, rd_ix2, rd_part, rd_sl, rd_onSl1, rd_onSl2, rd_rev, rd_onRv, rd_len1, rd_len2, rd_max2, rd_min2, rd_int1, rd_int2, rd_lst1, rd_lst2, rd_tup1, rd_tup2, rd_dm, rd_seqI, rd_onSq1, rd_onSq2, rd_rng1, rd_onR1, rd_rng2, rd_onR2, xEnumT, rd_onEt, rd_zip, rd_onZ1, rd_onZ2, rd_par, rd_onP, xPar3, rd_onP3, rd_gtup, rd_gnil, rd_gcons, rd_isi, ini, iniB, wipeD, unw, kf, List.map_cons, List.map_nil, List.replicate_succ, List.replicate_zero, List.cons_append, List.nil_append, List.length_cons, List.length_nil, List.getElem?_cons_zero, List.getElem?_cons_succ, List.set_cons_zero, List.set_cons_succ, decide_eq_true_eq, Nat.zero_add, Nat.reduceAdd, Nat.reduceSub, Nat.reduceLeDiff, true_and, Bool.false_eq_true, if_false, if_true, isi_int_non, isi_int_bl, isi_int_int, isi_int_str, isi_int_lst, isi_int_tup, isi_bool_non, isi_bool_bl, isi_bool_int, isi_bool_str, isi_bool_lst, isi_bool_tup, isi_list_non, isi_list_bl, isi_list_int, isi_list_str, isi_list_lst, isi_list_tup, isi_tuple_non, isi_tuple_bl, isi_tuple_int, isi_tuple_str, isi_tuple_lst, isi_tuple_tup, isi_str_non, isi_str_bl, isi_str_int, isi_str_str, isi_str_lst, isi_str_tup, Bool.not_true, Bool.not_false, Bool.or_false, Bool.or_true, Bool.false_or, Bool.true_or, ite_true, ite_false, Option.some.injEq, true_or, false_or, or_false, and_true, rd_isOwn, rd_own1, rd_own2, rd_own3, rd_ixO, rd_onIx1, rd_onIx2, rd_store, rd_onStore1, rd_onStore2, ex_eq, xApp, xDput, S.ow.injEq, S.bg.injEq, S.od.injEq, reduceCtorEq, exists_eq_left', exists_eq_left, exists_eq', D.int.injEq, atI_c0, atI_c1, atI_c2, ixN3_0, ixN3_1, ixN3_2, false_and, and_self]
      exact hq
    · have := List.length_filter_le (isBeg ms later) (List.range later.length)
      rw [List.length_range] at this
      unfold begs
      omega
    · have hp' := begs_lt hp
      simp only [xSeq, xSet, xRet, xIf, xExpr, xNext, xNever, xC, xNil, xCons, xTup, xLst, xOp, xEq, xNe, xUn, xNot, xAnd, xOr, xIfE, xCB, xCall, xCallB, xName, xAsg, xIsi3, toD_fz, toD_ow, toD_od, toD_bg, rd_var, rd_getv1, rd_getv2, rd_getv3, rd_test, rd_onB, rd_onI, rd_onSB, rd_andV, rd_orV, rd_notV, rd_chain, rd_II, rd_II0, rd_add1, rd_add2, rd_add3, rd_mul1, rd_mul2, rd_mul3, rd_isN, rd_notN, rd_isN1, rd_isN2, rd_isN3, rd_neg, rd_ix1, rd_ix2, rd_part, rd_sl, rd_onSl1, rd_onSl2, rd_rev, rd_onRv, rd_len1, rd_len2, rd_max2, rd_min2, rd_int1, rd_int2, rd_lst1, rd_lst2, rd_tup1, rd_tup2, rd_dm, rd_seqI, rd_onSq1, rd_onSq2, rd_rng1, rd_onR1, rd_rng2, rd_onR2, xEnumT, rd_onEt, rd_zip, rd_onZ1, rd_onZ2, rd_par, rd_onP, xPar3, rd_onP3, rd_gtup, rd_gnil, rd_gcons, rd_isi, ini, iniB, wipeD, unw, kf, List.map_cons, List.map_nil, List.replicate_succ, List.replicate_zero, List.cons_append, List.nil_append, List.length_cons, List.length_nil, List.getElem?_cons_zero, List.getElem?_cons_succ, List.set_cons_zero, List.set_cons_succ, decide_eq_true_eq, Nat.zero_add, Nat.reduceAdd, Nat.reduceSub, Nat.reduceLeDiff, true_and, Bool.false_eq_true, if_false, if_true, isi_int_non, isi_int_bl, isi_int_int, isi_int_str, isi_int_lst, isi_int_tup, isi_bool_non, isi_bool_bl, isi_bool_int, isi_bool_str, isi_bool_lst, isi_bool_tup, isi_list_non, isi_list_bl, isi_list_int, isi_list_str, isi_list_lst, isi_list_tup, isi_tuple_non, isi_tuple_bl, isi_tuple_int, isi_tuple_str, isi_tuple_lst, isi_tuple_tup, isi_str_non, isi_str_bl, isi_str_int, isi_str_str, isi_str_lst, isi_str_tup, Bool.not_true, Bool.not_false, Bool.or_false, Bool.or_true, Bool.false_or, Bool.true_or, ite_true, ite_false, Option.some.injEq, true_or, false_or, or_false, and_true, rd_isOwn, rd_own1, rd_own2, rd_own3, rd_ixO, rd_onIx1, rd_onIx2, rd_store, rd_onStore1, rd_onStore2, ex_eq, xApp, xDput, S.ow.injEq, S.bg.injEq, S.od.injEq, reduceCtorEq, exists_eq_left', exists_eq_left, exists_eq', D.int.injEq, atI_c0, atI_c1, atI_c2, ixN3_0, ixN3_1, ixN3_2, false_and, and_self]
      rw [cut_drop _ _ (by omega), Int.toNat_natCast, ← List.map_drop]
      simp only [List.length_map]
      exact ⟨later.drop p, _, m, rfl, by rw [List.length_drop]; omega, low_drop (isMarks_low hl t2) p, m1, m2, by omega, h1⟩
    · simp only [xSeq, xSet, xRet, xIf, xExpr, xNext, xNever, xC, xNil, xCons, xTup, xLst, xOp, xEq, xNe, xUn, xNot, xAnd, xOr, xIfE, xCB, xCall, xCallB, xName, xAsg, xIsi3, toD_fz, toD_ow, toD_od, toD_bg, rd_var, rd_getv1, rd_getv2, rd_getv3, rd_test, rd_onB, rd_onI, rd_onSB, rd_andV, rd_orV, rd_notV, rd_chain, rd_II, rd_II0, rd_add1, rd_add2, rd_add3, rd_mul1, rd_mul2, rd_mul3, rd_isN, rd_notN, rd_isN1, rd_isN2, rd_isN3, rd_neg, rd_ix1, rd_ix2, rd_part, rd_sl, rd_onSl1, rd_onSl2, rd_rev, rd_onRv, rd_len1, rd_len2, rd_max2, rd_min2, rd_int1, rd_int2, rd_lst1, rd_lst2, rd_tup1, rd_tup2, rd_dm, rd_seqI, rd_onSq1, rd_onSq2, rd_rng1, rd_onR1, rd_rng2, rd_onR2, xEnumT, rd_onEt, rd_zip, rd_onZ1, rd_onZ2, rd_par, rd_onP, xPar3, rd_onP3, rd_gtup, rd_gnil, rd_gcons, rd_isi, ini, iniB, wipeD, unw, kf, List.map_cons, List.map_nil, List.replicate_succ, List.replicate_zero, List.cons_append, List.nil_append, List.length_cons, List.length_nil, List.getElem?_cons_zero, List.getElem?_cons_succ, List.set_cons_zero, List.set_cons_succ, decide_eq_true_eq, Nat.zero_add, Nat.reduceAdd, Nat.reduceSub, Nat.reduceLeDiff, true_and, Bool.false_eq_true, if_false, if_true, isi_int_non, isi_int_bl, isi_int_int, isi_int_str, isi_int_lst, isi_int_tup, isi_bool_non, isi_bool_bl, isi_bool_int, isi_bool_str, isi_bool_lst, isi_bool_tup, isi_list_non, isi_list_bl, isi_list_int, isi_list_str, isi_list_lst, isi_list_tup, isi_tuple_non, isi_tuple_bl, isi_tuple_int, isi_tuple_str, isi_tuple_lst, isi_tuple_tup, isi_str_non, isi_str_bl, isi_str_int, isi_str_str, isi_str_lst, isi_str_tup, Bool.not_true, Bool.not_false, Bool.or_false, Bool.or_true, Bool.false_or, Bool.true_or, ite_true, ite_false, Option.some.injEq, true_or, false_or, or_false, and_true, rd_isOwn, rd_own1, rd_own2, rd_own3, rd_ixO, rd_onIx1, rd_onIx2, rd_store, rd_onStore1, rd_onStore2, ex_eq, xApp, xDput, S.ow.injEq, S.bg.injEq, S.od.injEq, reduceCtorEq, exists_eq_left', exists_eq_left, exists_eq', D.int.injEq, atI_c0, atI_c1, atI_c2, ixN3_0, ixN3_1, ixN3_2, false_and, and_self]
      refine ⟨(begs ms later).map fun p => hz (later.drop p) (n - later.length + (p : Nat)) % m, by rw [List.map_map]; rfl, ?_⟩
      simp only [xSeq, xSet, xRet, xIf, xExpr, xNext, xNever, xC, xNil, xCons, xTup, xLst, xOp, xEq, xNe, xUn, xNot, xAnd, xOr, xIfE, xCB, xCall, xCallB, xName, xAsg, xIsi3, toD_fz, toD_ow, toD_od, toD_bg, rd_var, rd_getv1, rd_getv2, rd_getv3, rd_test, rd_onB, rd_onI, rd_onSB, rd_andV, rd_orV, rd_notV, rd_chain, rd_II, rd_II0, rd_add1, rd_add2, rd_add3, rd_mul1, rd_mul2, rd_mul3, rd_isN, rd_notN, rd_isN1, rd_isN2, rd_isN3, rd_neg, rd_ix1, rd_ix2, rd_part, rd_sl, rd_onSl1, rd_onSl2, rd_rev, rd_onRv, rd_len1, rd_len2, rd_max2, rd_min2, rd_int1, rd_int2, rd_lst1, rd_lst2, rd_tup1, rd_tup2, rd_dm, rd_seqI, rd_onSq1, rd_onSq2, rd_rng1, rd_onR1, rd_rng2, rd_onR2, xEnumT, rd_onEt, rd_zip, rd_onZ1, rd_onZ2, rd_par, rd_onP, xPar3, rd_onP3, rd_gtup, rd_gnil, rd_gcons, rd_isi, ini, iniB, wipeD, unw, kf, List.map_cons, List.map_nil, List.replicate_succ, List.replicate_zero, List.cons_append, List.nil_append, List.length_cons, List.length_nil, List.getElem?_cons_zero, List.getElem?_cons_succ, List.set_cons_zero, List.set_cons_succ, decide_eq_true_eq, Nat.zero_add, Nat.reduceAdd, Nat.reduceSub, Nat.reduceLeDiff, true_and, Bool.false_eq_true, if_false, if_true, isi_int_non, isi_int_bl, isi_int_int, isi_int_str, isi_int_lst, isi_int_tup, isi_bool_non, isi_bool_bl, isi_bool_int, isi_bool_str, isi_bool_lst, isi_bool_tup, isi_list_non, isi_list_bl, isi_list_int, isi_list_str, isi_list_lst, isi_list_tup, isi_tuple_non, isi_tuple_bl, isi_tuple_int, isi_tuple_str, isi_tuple_lst, isi_tuple_tup, isi_str_non, isi_str_bl, isi_str_int, isi_str_str, isi_str_lst, isi_str_tup, Bool.not_true, Bool.not_false, Bool.or_false, Bool.or_true, Bool.false_or, Bool.true_or, ite_true, ite_false, Option.some.injEq, true_or, false_or, or_false, and_true, rd_isOwn, rd_own1, rd_own2, rd_own3, rd_ixO, rd_onIx1, rd_onIx2, rd_store, rd_onStore1, rd_onStore2, ex_eq, xApp, xDput, S.ow.injEq, S.bg.injEq, S.od.injEq, reduceCtorEq, exists_eq_left', exists_eq_left, exists_eq', D.int.injEq, atI_c0, atI_c1, atI_c2, ixN3_0, ixN3_1, ixN3_2, false_and, and_self]
      refine ⟨by omega, ?_⟩
      rw [sum_mod]
      exact q

def ch : Nat → Nat → Nat
  | _, 0 => 1
  | 0, _ + 1 => 0
  | n + 1, k + 1 => ch n k + ch n (k + 1)
theorem ch_zero (n : Nat) : ch n 0 = 1 := by cases n <;> rfl
theorem ch_big : ∀ {n k : Nat}, n < k → ch n k = 0
  | _, 0, h => by omega
  | 0, k + 1, _ => rfl
  | n + 1, k + 1, h => by
    show ch n k + ch n (k + 1) = 0
    rw [ch_big (by omega), ch_big (by omega)]
theorem ch_step : ∀ (n k : Nat), ch n (k + 1) * (k + 1) = ch n k * (n - k)
  | 0, k => by
    rw [Nat.zero_sub, Nat.mul_zero]
    show 0 * (k + 1) = 0
    rw [Nat.zero_mul]
  | n + 1, 0 => by
    have ih : ch n 1 * 1 = 1 * n := by
      have := ch_step n 0
      rw [ch_zero, Nat.sub_zero] at this
      exact this
    show (ch n 0 + ch n 1) * 1 = ch (n + 1) 0 * (n + 1)
    rw [ch_zero, ch_zero]
    omega
  | n + 1, j + 1 => by
    have h1 := ch_step n (j + 1)
    have h2 := ch_step n j
    show (ch n (j + 1) + ch n (j + 1 + 1)) * (j + 1 + 1) = (ch n j + ch n (j + 1)) * (n + 1 - (j + 1))
    rw [Nat.add_mul, h1, Nat.add_mul, show n + 1 - (j + 1) = n - j by omega, ← h2]
    by_cases h : j + 1 ≤ n
    · have e1 : ch n (j + 1) * (j + 1 + 1) = ch n (j + 1) * (j + 1) + ch n (j + 1) := Nat.mul_succ _ _
      have e2 : ch n (j + 1) * (n - (j + 1) + 1) = ch n (j + 1) * (n - (j + 1)) + ch n (j + 1) := Nat.mul_succ _ _
      rw [show n - j = n - (j + 1) + 1 by omega, e1, e2]
      omega
    · rw [ch_big (show n < j + 1 by omega)]
      simp
theorem ch_le : ∀ (n k : Nat), ch n k ≤ 2 ^ n
  | n, 0 => by rw [ch_zero]; exact Nat.pow_pos (by decide)
  | 0, k + 1 => Nat.zero_le _
  | n + 1, k + 1 => by
    have h1 := ch_le n k
    have h2 := ch_le n (k + 1)
    show ch n k + ch n (k + 1) ≤ 2 ^ (n + 1)
    rw [Nat.pow_succ]
    omega
def chs (k : Nat) : Nat → Nat
  | 0 => 0
  | m + 1 => chs k m + ch k m
/-- so many falling rows of heights up to k, no longer than j -/
def tF : Nat → Nat → Nat
  | 0, _ => 1
  | _ + 1, 0 => 1
  | k + 1, j + 1 => tF k (j + 1) + tF k j
theorem tF_zero (k : Nat) : tF k 0 = 1 := by cases k <;> rfl
theorem chs_zero : ∀ j, chs 0 (j + 1) = 1
  | 0 => rfl
  | j + 1 => by
    show chs 0 (j + 1) + ch 0 (j + 1) = 1
    rw [chs_zero j]
    rfl
theorem chs_succ (k : Nat) : ∀ j, chs (k + 1) (j + 2) = chs k (j + 2) + chs k (j + 1)
  | 0 => by
    show 0 + ch (k + 1) 0 + ch (k + 1) 1 = 0 + ch k 0 + ch k 1 + (0 + ch k 0)
    show 0 + ch (k + 1) 0 + (ch k 0 + ch k 1) = _
    rw [ch_zero, ch_zero]
    omega
  | j + 1 => by
    have ih := chs_succ k j
    show chs (k + 1) (j + 2) + (ch k (j + 1) + ch k (j + 2)) = chs k (j + 2) + ch k (j + 2) + (chs k (j + 1) + ch k (j + 1))
    rw [ih]
    omega
theorem tF_chs : ∀ (k j : Nat), tF k j = chs k (j + 1)
  | 0, j => (chs_zero j).symm
  | k + 1, 0 => by
    show 1 = 0 + ch (k + 1) 0
    rw [ch_zero]
  | k + 1, j + 1 => by
    show tF k (j + 1) + tF k j = _
    rw [tF_chs k (j + 1), tF_chs k j, chs_succ]
theorem chs_big {k m : Nat} (h : k < m) : ∀ d, chs k (m + d) = chs k m
  | 0 => rfl
  | d + 1 => by
    show chs k (m + d) + ch k (m + d) = chs k m
    rw [chs_big h d, ch_big (by omega), Nat.add_zero]
theorem tF_min (k j : Nat) : chs k (min k j + 1) = tF k j := by
  rw [tF_chs]
  by_cases h : j ≤ k
  · rw [Nat.min_eq_right h]
  · rw [Nat.min_eq_left (by omega), show j + 1 = (k + 1) + (j - k) by omega, chs_big (k := k) (m := k + 1) (by omega) (j - k)]
theorem tF_full : ∀ (k j : Nat), k ≤ j → tF k j = 2 ^ k
  | 0, j, _ => by cases j <;> rfl
  | k + 1, 0, h => by omega
  | k + 1, j + 1, h => by
    show tF k (j + 1) + tF k j = 2 ^ (k + 1)
    rw [tF_full k (j + 1) (by omega), tF_full k j (by omega), Nat.pow_succ]
    omega
theorem ch_small {s i : Nat} (h : s ≤ 40) : ch s i ≤ 1099511627776 := Nat.le_trans (ch_le s i) (Nat.pow_le_pow_right (by decide) h)
def dp_choices : DP := fun ds Q _ => ∃ s m : Nat, ds = [.int s, .int m] ∧ s ≤ 40 ∧ m ≤ 40 ∧ Q (.fz (.int (tF s m : Nat)))

abbrev s_choices : Stmt := topS 31
theorem sc_choices : FnScope ["size", "most", "found", "now", "many"] ["size", "most"] (defScope s_choices) := ⟨rfl, rfl, rfl, by decide +kernel, rfl, by decide +kernel, by decide +kernel⟩
theorem ok_choices {P : Program} {w : World} {K : PySem.W.Frag} {mg : Str → Option Value} {base : Heap} (B : Bt mg) (d : Df K mg "choices" s_choices ["size", "most"])  : Fn P w K mg base "choices" (0 + 1) 2 dp_choices := by
  refine fn_mk d sc_choices rfl (by decide) fun f cdv A outer s H E C hr => ⟨_, _, (ds_cons (ds_set 2 sc_choices.nd d_int)
      (ds_cons (ds_set 3 sc_choices.nd d_int)
      (ds_cons (ds_for PassesOwn.never rfl (di_range1 (by rfl) B.range (da_cons (d_op (o_addK K) (d_callB (c_min2 rfl) (by rfl) B.min (by decide +kernel) (da_cons (dv 0) (da_cons (dv 1) da_nil))) d_int) da_nil)) (dg_name 4 sc_choices.nd) (ds_cons (ds_set 2 sc_choices.nd (d_op (o_addK K) (dv 2) (dv 3)))
      (ds_one (ds_set 3 sc_choices.nd (d_op o_div (d_op (o_mulK K) (dv 3) (d_op o_sub (dv 0) (dv 4))) (d_op (o_addK K) (dv 4) d_int))))))
      (ds_one (ds_ret (dv 2)))))), fun ds QD ED hl0 h => ?_⟩
  obtain ⟨a0, a1, rfl⟩ : ∃ a0 a1, ds = [a0, a1] := by
    match ds, hl0 with
    | [a0, a1], _ => exact ⟨a0, a1, rfl⟩
  clear hl0
  obtain ⟨s, m, e, hs, hm, q⟩ := h
  cases e
  simp only [xSeq, xSet, xRet, xIf, xExpr, xNext, xNever, xC, xNil, xCons, xTup, xLst, xOp, xEq, xNe, xUn, xNot, xAnd, xOr, xIfE, xCB, xCall, xCallB, xName, xAsg, xIsi3, toD_fz, toD_ow, toD_od, toD_bg, rd_var, rd_getv1, rd_getv2, rd_getv3, rd_test, rd_onB, rd_onI, rd_onSB, rd_andV, rd_orV, rd_notV, rd_chain, rd_II, rd_II0, rd_add1, rd_add2, rd_add3, rd_mul1, rd_mul2, rd_mul3, rd_isN, rd_notN, rd_isN1, rd_isN2, rd_isN3, rd_neg, rd_ix1, rd_ix2, rd_part, rd_sl, rd_onSl1, rd_onSl2, rd_rev, rd_onRv, rd_len1, rd_len2, rd_max2, rd_min2, rd_int1, rd_int2, rd_lst1, rd_lst2, rd_tup1, rd_tup2, rd_dm, rd_seqI, rd_onSq1, rd_onSq2, rd_rng1, rd_onR1, rd_rng2, rd_onR2, xEnumT, rd_onEt, rd_zip, rd_onZ1, rd_onZ2, rd_par, rd_onP, xPar3, rd_onP3, rd_gtup, rd_gnil, rd_gcons, rd_isi, ini, iniB, wipeD, unw, kf, List.map_cons, List.map_nil, List.replicate_succ, List.replicate_zero, List.cons_append, List.nil_append, List.length_cons, List.length_nil, List.getElem?_cons_zero, List.getElem?_cons_succ, List.set_cons_zero, List.set_cons_succ, decide_eq_true_eq, Nat.zero_add, Nat.reduceAdd, Nat.reduceSub, Nat.reduceLeDiff, true_and, Bool.false_eq_true, if_false, if_true, isi_int_non, isi_int_bl, isi_int_int, isi_int_str, isi_int_lst, isi_int_tup, isi_bool_non, isi_bool_bl, isi_bool_int, isi_bool_str, isi_bool_lst, isi_bool_tup, isi_list_non, isi_list_bl, isi_list_int, isi_list_str, isi_list_lst, isi_list_tup, isi_tuple_non, isi_tuple_bl, isi_tuple_int, isi_tuple_str, isi_tuple_lst, isi_tuple_tup, isi_str_non, isi_str_bl, isi_str_int, isi_str_str, isi_str_lst, isi_str_tup, Bool.not_true, Bool.not_false, Bool.or_false, Bool.or_true, Bool.false_or, Bool.true_or, ite_true, ite_false, Option.some.injEq, true_or, false_or, or_false, and_true, rd_isOwn, rd_own1, rd_own2, rd_own3, rd_ixO, rd_onIx1, rd_onIx2, rd_store, rd_onStore1, rd_onStore2, ex_eq, xApp, xDput, S.ow.injEq, S.bg.injEq, S.od.injEq, reduceCtorEq, exists_eq_left', exists_eq_left, exists_eq', D.int.injEq, atI_c0, atI_c1, atI_c2, ixN3_0, ixN3_1, ixN3_2, false_and, and_self, xFor]
  have eN : ((if (m : Int) < (s : Int) then (m : Int) else (s : Int)) + 1).toNat = min s m + 1 := by
    split <;> omega
  refine ⟨by split <;> omega, by split <;> omega, fun i ρ => ∃ x4 : Option S, ρ = [some (.fz (.int s)), some (.fz (.int m)), some (.fz (.int (chs s i : Nat))), some (.fz (.int (ch s i : Nat))), x4], ⟨none, by rw [ch_zero]; rfl⟩, fun i d ρ hd hI => ?_, fun ρ hI => ?_⟩
  · obtain ⟨x4, rfl⟩ := hI
    obtain ⟨hi, rfl⟩ := rngD_get hd
    rw [eN] at hi
    simp only [xSeq, xSet, xRet, xIf, xExpr, xNext, xNever, xC, xNil, xCons, xTup, xLst, xOp, xEq, xNe, xUn, xNot, xAnd, xOr, xIfE, xCB, xCall, xCallB, xName, xAsg, xIsi3, toD_fz, toD_ow, toD_od, toD_bg, rd_var, rd_getv1, rd_getv2, rd_getv3, rd_test, rd_onB, rd_onI, rd_onSB, rd_andV, rd_orV, rd_notV, rd_chain, rd_II, rd_II0, rd_add1, rd_add2, rd_add3, rd_mul1, rd_mul2, rd_mul3, rd_isN, rd_notN, rd_isN1, rd_isN2, rd_isN3, rd_neg, rd_ix1, rd_ix2, rd_part, rd_sl, rd_onSl1, rd_onSl2, rd_rev, rd_onRv, rd_len1, rd_len2, rd_max2, rd_min2, rd_int1, rd_int2, rd_lst1, rd_lst2, rd_tup1, rd_tup2, rd_dm, rd_seqI, rd_onSq1, rd_onSq2, rd_rng1, rd_onR1, rd_rng2, rd_onR2, xEnumT, rd_onEt, rd_zip, rd_onZ1, rd_onZ2, rd_par, rd_onP, xPar3, rd_onP3, rd_gtup, rd_gnil, rd_gcons, rd_isi, ini, iniB, wipeD, unw, kf, List.map_cons, List.map_nil, List.replicate_succ, List.replicate_zero, List.cons_append, List.nil_append, List.length_cons, List.length_nil, List.getElem?_cons_zero, List.getElem?_cons_succ, List.set_cons_zero, List.set_cons_succ, decide_eq_true_eq, Nat.zero_add, Nat.reduceAdd, Nat.reduceSub, Nat.reduceLeDiff, true_and, Bool.false_eq_true, if_false, if_true, isi_int_non, isi_int_bl, isi_int_int, isi_int_str, isi_int_lst, isi_int_tup, isi_bool_non, isi_bool_bl, isi_bool_int, isi_bool_str, isi_bool_lst, isi_bool_tup, isi_list_non, isi_list_bl, isi_list_int, isi_list_str, isi_list_lst, isi_list_tup, isi_tuple_non, isi_tuple_bl, isi_tuple_int, isi_tuple_str, isi_tuple_lst, isi_tuple_tup, isi_str_non, isi_str_bl, isi_str_int, isi_str_str, isi_str_lst, isi_str_tup, Bool.not_true, Bool.not_false, Bool.or_false, Bool.or_true, Bool.false_or, Bool.true_or, ite_true, ite_false, Option.some.injEq, true_or, false_or, or_false, and_true, rd_isOwn, rd_own1, rd_own2, rd_own3, rd_ixO, rd_onIx1, rd_onIx2, rd_store, rd_onStore1, rd_onStore2, ex_eq, xApp, xDput, S.ow.injEq, S.bg.injEq, S.od.injEq, reduceCtorEq, exists_eq_left', exists_eq_left, exists_eq', D.int.injEq, atI_c0, atI_c1, atI_c2, ixN3_0, ixN3_1, ixN3_2, false_and, and_self, Int.zero_add]
    have c1 := ch_small (s := s) (i := i) hs
    have ev : ((ch s i : Nat) : Int) * ((s : Int) - (i : Int)) / ((i : Int) + 1) = ((ch s (i + 1) : Nat) : Int) := by
      have z := ch_step s i
      have z2 : ((ch s i : Nat) : Int) * ((s : Int) - (i : Int)) = ((ch s (i + 1) : Nat) : Int) * ((i : Int) + 1) := by
        have : (((s - i : Nat)) : Int) = (s : Int) - (i : Int) := by omega
        rw [← this, ← Int.natCast_mul, ← z, Int.natCast_mul]
        rfl
      rw [z2]
      exact Int.mul_ediv_cancel _ (by omega)
    refine ⟨cm64 (by omega) (by omega) (by omega) (by omega), cdW (by omega) (by omega), some (.fz (.int (i : Nat))), ?_⟩
    rw [ev]
    rfl
  · obtain ⟨x4, rfl⟩ := hI
    rw [rngD_len, eN, tF_min]
    exact q

def bdH (ms : List Int) (h : Int) : Int := if h ∈ ms then (match (ms.filter fun x => decide (x < h)).head? with | some m => m | none => 1) else h
def hmF (top : Nat) (ms : List Int) (n : Nat) : Int := if n = 0 then 1 else sg top fun k => ((tF (bdH ms (1 + (k : Int)) - 1).toNat (n - 1) : Nat) : Int)
theorem eqD_lnil (ds : List D) : eqD (.lst ds) (.lst []) = decide (ds = []) := by cases ds <;> simp [eqD, toP, PyData.eqv, toPs, PyData.eqvAll]
/-! ### what floods leave, in plain lists -/
theorem floods_cons (ms hs : List Int) (h : Int) : floods ms (h :: hs) = floods (flood ms h) hs := rfl
theorem floods_append (ms hs gs : List Int) : floods ms (hs ++ gs) = floods (floods ms hs) gs := by
  unfold floods
  rw [List.foldl_append]
def above (hs : List Int) (x : Int) : Bool := hs.all fun h => decide (h < x)
theorem above_cons (h : Int) (hs : List Int) (x : Int) : above (h :: hs) x = (decide (h < x) && above hs x) := rfl
theorem floods_split : ∀ (hs ms : List Int), floods ms hs = ms.filter (above hs) ++ floods [] hs
  | [], ms => by
    have : (fun x => above [] x) = fun _ => true := rfl
    show ms = ms.filter (above []) ++ []
    rw [List.append_nil]
    exact (List.filter_eq_self.mpr fun _ _ => rfl).symm
  | h :: hs, ms => by
    rw [floods_cons, floods_split hs (flood ms h), floods_cons, floods_split hs (flood [] h)]
    unfold flood
    rw [List.filter_append, List.filter_append, List.filter_filter, List.append_assoc]
    have e : (ms.filter fun a => above hs a && decide (h < a)) = ms.filter (above (h :: hs)) := by
      congr 1
      funext x
      rw [above_cons, Bool.and_comm]
    rw [e]
    simp
theorem floods_mem : ∀ (hs ms : List Int) (x : Int), x ∈ floods ms hs → x ∈ ms ∨ x ∈ hs
  | [], ms, x, h => .inl h
  | h :: hs, ms, x, hx => by
    rw [floods_cons] at hx
    rcases floods_mem hs _ x hx with h1 | h1
    · unfold flood at h1
      rcases List.mem_append.mp h1 with h2 | h2
      · exact .inl (List.mem_filter.mp h2).1
      · exact .inr (by simp only [List.mem_singleton] at h2; subst h2; simp)
    · exact .inr (by simp [h1])
theorem floods_twice (ms tour : List Int) : floods (floods ms tour) tour = floods ms tour := by
  rw [floods_split tour (floods ms tour), floods_split tour ms, List.filter_append, List.filter_filter]
  have e1 : (ms.filter fun a => above tour a && above tour a) = ms.filter (above tour) := by
    congr 1
    funext x
    rw [Bool.and_self]
  have e2 : (floods [] tour).filter (above tour) = [] := by
    rw [List.filter_eq_nil_iff]
    intro x hx hab
    rcases floods_mem tour [] x hx with h | h
    · cases h
    · have := List.all_eq_true.mp hab x h
      simp at this
  rw [e1, e2, List.append_nil]
theorem flood_down {ms : List Int} (h : ms.Pairwise (· > ·)) (x : Int) : (flood ms x).Pairwise (· > ·) := by
  unfold flood
  refine List.pairwise_append.mpr ⟨h.filter _, List.pairwise_singleton _ _, fun a ha b hb => ?_⟩
  simp only [List.mem_singleton] at hb
  subst hb
  simpa using (List.mem_filter.mp ha).2
theorem floods_down : ∀ {hs ms : List Int}, ms.Pairwise (· > ·) → (floods ms hs).Pairwise (· > ·)
  | [], _, h => h
  | x :: hs, ms, h => by
    rw [floods_cons]
    exact floods_down (flood_down h x)
/-! ### all rows, counted -/
def upto (top : Nat) : List Int := (List.range top).map fun i : Nat => 1 + (i : Int)
theorem mem_upto {top : Nat} {h : Int} : h ∈ upto top ↔ 1 ≤ h ∧ h ≤ top := by
  unfold upto
  rw [List.mem_map]
  constructor
  · rintro ⟨i, hi, rfl⟩
    have := List.mem_range.mp hi
    omega
  · intro ⟨h1, h2⟩
    exact ⟨(h - 1).toNat, List.mem_range.mpr (by omega), by omega⟩
theorem upto_succ (top : Nat) : upto (top + 1) = upto top ++ [1 + (top : Int)] := by
  unfold upto
  rw [List.range_succ, List.map_append]
  rfl
theorem cnt_le : ∀ (top : Nat) (x : Int), 0 ≤ x → x ≤ top → (upto top).countP (fun h => decide (h ≤ x)) = x.toNat
  | 0, x, h0, h1 => by
    have : x = 0 := by omega
    subst this; rfl
  | top + 1, x, h0, h1 => by
    rw [upto_succ, List.countP_append]
    by_cases h : x ≤ top
    · rw [cnt_le top x h0 h]
      simp only [List.countP_cons, List.countP_nil, decide_eq_true_eq]
      rw [if_neg (by omega)]
      rfl
    · have e : x = (top : Int) + 1 := by omega
      subst e
      have : (upto top).countP (fun h => decide (h ≤ (top : Int) + 1)) = (upto top).countP (fun h => decide (h ≤ (top : Int))) := by
        refine List.countP_congr fun a ha => ?_
        have := mem_upto.mp ha
        simp only [decide_eq_true_eq]
        omega
      rw [this, cnt_le top top (by omega) (by omega)]
      simp only [List.countP_cons, List.countP_nil, decide_eq_true_eq]
      rw [if_pos (by omega)]
      omega
theorem cnt_eq : ∀ (top : Nat) (x : Int), 1 ≤ x → x ≤ top → (upto top).countP (fun h => decide (h = x)) = 1
  | 0, x, h0, h1 => by omega
  | top + 1, x, h0, h1 => by
    rw [upto_succ, List.countP_append]
    simp only [List.countP_cons, List.countP_nil, decide_eq_true_eq]
    by_cases h : x ≤ top
    · rw [cnt_eq top x h0 h, if_neg (by omega)]
    · rw [if_pos (by omega)]
      have : (upto top).countP (fun h => decide (h = x)) = 0 := List.countP_eq_zero.mpr fun a ha => by
        have := mem_upto.mp ha
        simp only [decide_eq_true_eq]
        omega
      rw [this]
def rowsF (top : Nat) : Nat → List (List Int)
  | 0 => [[]]
  | n + 1 => (upto top).flatMap fun h => (rowsF top n).map fun r => h :: r
theorem rows_in {top : Nat} : ∀ {n : Nat} {r : List Int}, r ∈ rowsF top n → r.length = n ∧ ∀ x ∈ r, 1 ≤ x ∧ x ≤ top
  | 0, r, h => by
    have : r = [] := by simpa [rowsF] using h
    subst this
    exact ⟨rfl, fun x hx => by cases hx⟩
  | n + 1, r, h => by
    unfold rowsF at h
    obtain ⟨a, ha, h2⟩ := List.mem_flatMap.mp h
    obtain ⟨r', hr, rfl⟩ := List.mem_map.mp h2
    obtain ⟨h3, h4⟩ := rows_in hr
    refine ⟨by rw [List.length_cons, h3], fun x hx => ?_⟩
    rcases List.mem_cons.mp hx with rfl | hx
    · exact mem_upto.mp ha
    · exact h4 x hx
theorem countP_swap {α β : Type} (p : α → β → Bool) (as : List α) : ∀ bs : List β, (bs.map fun b => as.countP fun a => p a b).sum = (as.map fun a => bs.countP fun b => p a b).sum
  | [] => by
    simp only [List.map_nil, List.sum_nil, List.countP_nil]
    induction as with
    | nil => rfl
    | cons a as ih =>
      rw [List.map_cons, List.sum_cons, ← ih]
      rfl
  | b :: bs => by
    rw [List.map_cons, List.sum_cons, countP_swap p as bs]
    induction as with
    | nil => rfl
    | cons a as ih =>
      simp only [List.map_cons, List.sum_cons, List.countP_cons] at ih ⊢
      omega
theorem flo_head : ∀ r : List Int, r ≠ [] → ∃ m t, floods [] r = m :: t ∧ m ∈ r ∧ ∀ y ∈ r, y ≤ m
  | [], h => absurd rfl h
  | [x], _ => ⟨x, [], rfl, by simp, fun y hy => by simp at hy; omega⟩
  | x :: y :: r, _ => by
    obtain ⟨m, t, e, hm, hle⟩ := flo_head (y :: r) (by simp)
    have es : floods [] (x :: y :: r) = [x].filter (above (y :: r)) ++ floods [] (y :: r) := floods_split (y :: r) [x]
    by_cases ha : above (y :: r) x = true
    · have hlt : ∀ z ∈ y :: r, z < x := fun z hz => of_decide_eq_true (List.all_eq_true.mp ha z hz)
      refine ⟨x, m :: t, by rw [es, e, List.filter_cons_of_pos ha]; rfl, by simp, fun z hz => ?_⟩
      rcases List.mem_cons.mp hz with rfl | hz
      · exact Int.le_refl _
      · have := hlt z hz
        omega
    · refine ⟨m, t, by rw [es, e, List.filter_cons_of_neg ha]; rfl, by simp [List.mem_cons.mp hm], fun z hz => ?_⟩
      rcases List.mem_cons.mp hz with rfl | hz
      · rcases Int.lt_or_le m z with h | h
        · exact absurd (List.all_eq_true.mpr fun w hw => decide_eq_true (by have := hle w hw; omega)) ha
        · exact h
      · exact hle z hz
theorem above_iff {r : List Int} {m : Int} {t : List Int} (e : floods [] r = m :: t) (x : Int) : above r x = decide (m < x) := by
  by_cases hr : r = []
  · subst hr; cases e
  · obtain ⟨m', t', e', hm, hle⟩ := flo_head r hr
    rw [e] at e'
    cases e'
    unfold above
    rw [Bool.eq_iff_iff, List.all_eq_true, decide_eq_true_eq]
    constructor
    · intro h
      exact of_decide_eq_true (h m hm)
    · intro h y hy
      exact decide_eq_true (by have := hle y hy; omega)
/-- rows of so many floods that make w from no marks -/
def cntN (top : Nat) (w : List Int) (n : Nat) : Nat := (rowsF top n).countP fun r => decide (floods [] r = w)
theorem flo_nil_iff {r : List Int} : floods [] r = [] ↔ r = [] := by
  constructor
  · intro h
    refine Decidable.by_contra fun hr => ?_
    obtain ⟨m, t, e, _⟩ := flo_head r hr
    rw [h] at e
    cases e
  · rintro rfl; rfl
theorem cnt_head (top : Nat) {x : Int} {w r : List Int} (h1 : 1 ≤ x) (h2 : x ≤ top) (hw : ∀ y ∈ w, y < x) : (upto top).countP (fun h => decide (floods [] (h :: r) = x :: w)) = (if floods [] r = w then 1 else 0) + (if floods [] r = x :: w then x.toNat else 0) := by
  have es : ∀ h, floods [] (h :: r) = [h].filter (above r) ++ floods [] r := fun h => floods_split r [h]
  by_cases e1 : floods [] r = w
  · have ne : ¬ floods [] r = x :: w := fun z => by
      have := congrArg List.length (e1.symm.trans z)
      simp at this
    rw [if_pos e1, if_neg ne, Nat.add_zero, ← cnt_eq top x h1 h2]
    refine List.countP_congr fun h _ => ?_
    simp only [decide_eq_true_eq]
    rw [es]
    have ax : above r x = true := by
      by_cases hr : r = []
      · subst hr; rfl
      · obtain ⟨m, t, e, hm, hle⟩ := flo_head r hr
        rw [above_iff e]
        exact decide_eq_true (hw m (by rw [← e1, e]; simp))
    constructor
    · intro z
      by_cases ha : above r h = true
      · rw [List.filter_cons_of_pos ha] at z
        exact (List.cons.inj z).1
      · rw [List.filter_cons_of_neg ha] at z
        exact absurd z ne
    · rintro rfl
      rw [List.filter_cons_of_pos ax, e1]
      rfl
  · rw [if_neg e1, Nat.zero_add]
    by_cases e2 : floods [] r = x :: w
    · rw [if_pos e2, ← cnt_le top x (by omega) h2]
      refine List.countP_congr fun h _ => ?_
      simp only [decide_eq_true_eq]
      rw [es]
      have ha := above_iff e2 h
      by_cases hx : x < h
      · rw [decide_eq_true hx] at ha
        rw [List.filter_cons_of_pos ha, e2]
        constructor
        · intro z
          have := (List.cons.inj z).1
          omega
        · intro z; omega
      · rw [decide_eq_false hx] at ha
        rw [List.filter_cons_of_neg (by rw [ha]; decide), e2]
        constructor
        · intro _; omega
        · intro _; rfl
    · rw [if_neg e2]
      refine List.countP_eq_zero.mpr fun h _ => ?_
      simp only [decide_eq_true_eq]
      rw [es]
      by_cases ha : above r h = true
      · rw [List.filter_cons_of_pos ha]
        exact fun z => e1 (List.cons.inj z).2
      · rw [List.filter_cons_of_neg ha]
        exact e2
theorem sum_two {α : Type} (p q : α → Prop) [DecidablePred p] [DecidablePred q] (c : Nat) : ∀ l : List α, (l.map fun a => (if p a then 1 else 0) + (if q a then c else 0)).sum = l.countP (fun a => decide (p a)) + c * l.countP (fun a => decide (q a))
  | [] => rfl
  | a :: l => by
    rw [List.map_cons, List.sum_cons, sum_two p q c l]
    simp only [List.countP_cons, decide_eq_true_eq]
    by_cases h1 : p a <;> by_cases h2 : q a <;> simp [h1, h2, Nat.mul_add] <;> omega
theorem cntN_cons (top : Nat) {x : Int} {w : List Int} (h1 : 1 ≤ x) (h2 : x ≤ top) (hw : ∀ y ∈ w, y < x) (n : Nat) : cntN top (x :: w) (n + 1) = cntN top w n + x.toNat * cntN top (x :: w) n := by
  unfold cntN
  rw [rowsF, List.countP_flatMap]
  have e : (List.countP (fun r => decide (floods [] r = x :: w)) ∘ fun h => (rowsF top n).map fun r => h :: r) = fun h => (rowsF top n).countP fun r => decide (floods [] (h :: r) = x :: w) := by
    funext h
    simp only [Function.comp]
    rw [List.countP_map]
    rfl
  rw [e, countP_swap (fun (r : List Int) (h : Int) => decide (floods [] (h :: r) = x :: w))]
  have e2 : ((rowsF top n).map fun r => (upto top).countP fun h => decide (floods [] (h :: r) = x :: w)) = (rowsF top n).map fun r => (if floods [] r = w then 1 else 0) + (if floods [] r = x :: w then x.toNat else 0) :=
    List.map_congr_left fun r _ => cnt_head top h1 h2 hw
  rw [e2, sum_two (fun r => floods [] r = w) (fun r => floods [] r = x :: w)]
theorem cntN_nil (top : Nat) : ∀ n, cntN top [] n = if n = 0 then 1 else 0
  | 0 => rfl
  | n + 1 => by
    rw [if_neg (by omega)]
    refine List.countP_eq_zero.mpr fun r hr => ?_
    simp only [decide_eq_true_eq]
    intro z
    have := (rows_in hr).1
    rw [flo_nil_iff.mp z] at this
    cases this
def downIn (top : Nat) (w : List Int) : Prop := w.Pairwise (· > ·) ∧ ∀ x ∈ w, 1 ≤ x ∧ x ≤ top
theorem downIn.tail {top : Nat} {x : Int} {w : List Int} (h : downIn top (x :: w)) : downIn top w := ⟨(List.pairwise_cons.mp h.1).2, fun y hy => h.2 y (by simp [hy])⟩
theorem downIn.drop {top : Nat} {w : List Int} (h : downIn top w) (p : Nat) : downIn top (w.drop p) := ⟨h.1.sublist (List.drop_sublist _ _), fun x hx => h.2 x (List.mem_of_mem_drop hx)⟩
theorem cntN_hz (top : Nat) : ∀ (n : Nat) (w : List Int), downIn top w → ((cntN top w n : Nat) : Int) = hz w ((n : Int) - w.length)
  | n, [], _ => by
    have e : ((n : Int) - (([] : List Int).length : Nat)) = n := by
      show (n : Int) - 0 = n
      omega
    rw [cntN_nil, e]
    unfold hz
    rw [if_pos (Int.natCast_nonneg n), Int.toNat_natCast]
    show _ = (if n = 0 then (1 : Int) else 0)
    by_cases h : n = 0
    · rw [if_pos h, if_pos h]; rfl
    · rw [if_neg h, if_neg h]; rfl
  | 0, x :: w, _ => by
    unfold hz
    rw [if_neg (by simp only [List.length_cons]; omega)]
    rfl
  | n + 1, x :: w, h => by
    have hx := h.2 x (by simp)
    rw [cntN_cons top hx.1 hx.2 (fun y hy => (List.pairwise_cons.mp h.1).1 y hy) n, hz_rec]
    have i1 := cntN_hz top n w h.tail
    have i2 := cntN_hz top n (x :: w) h
    rw [Int.natCast_add, Int.natCast_mul, i1, i2, Int.toNat_of_nonneg (by omega)]
    congr 2
    · simp only [List.length_cons]; omega
    · congr 1
      simp only [List.length_cons]; omega
theorem countP_one {α : Type} {q : α → Bool} {a : α} : ∀ {l : List α}, l.Nodup → a ∈ l → (∀ b ∈ l, q b = true ↔ b = a) → l.countP q = 1
  | [], _, h, _ => by cases h
  | b :: l, nd, h, hq => by
    obtain ⟨h1, h2⟩ := List.nodup_cons.mp nd
    rw [List.countP_cons]
    by_cases e : b = a
    · subst e
      rw [if_pos ((hq b (by simp)).mpr rfl), List.countP_eq_zero.mpr fun c hc => fun z => h1 (by rw [← (hq c (by simp [hc])).mp z]; exact hc)]
    · have hm : a ∈ l := by
        rcases List.mem_cons.mp h with z | z
        · exact absurd z.symm e
        · exact z
      rw [if_neg (fun z => e ((hq b (by simp)).mp z)), countP_one h2 hm fun c hc => hq c (by simp [hc])]
theorem beg_cnt {ms later r : List Int} (hr : r ≠ []) : (if floods ms r = later then 1 else 0) = (begs ms later).countP fun p => decide (floods [] r = later.drop p) := by
  obtain ⟨m, t, e, hm, hle⟩ := flo_head r hr
  have ef : floods ms r = ms.filter (fun x => decide (m < x)) ++ m :: t := by
    rw [floods_split r ms, e]
    congr 2
    funext x
    exact above_iff e x
  have key : ∀ p, p < later.length → floods [] r = later.drop p → later.getD p 0 = m := fun p hp z => by
    rw [e] at z
    have := congrArg (fun l : List Int => l[0]?) z
    simp only [List.getElem?_cons_zero, List.getElem?_drop, Nat.add_zero] at this
    rw [List.getD_eq_getElem?_getD, ← this]
    rfl
  by_cases h : floods ms r = later
  · rw [if_pos h]
    obtain ⟨p0, ep⟩ : ∃ p0, p0 = (ms.filter fun x => decide (m < x)).length := ⟨_, rfl⟩
    have el : later = ms.filter (fun x => decide (m < x)) ++ m :: t := h.symm.trans ef
    have ed : later.drop p0 = m :: t := by rw [el, ep, List.drop_left]
    have et : later.take p0 = ms.filter fun x => decide (m < x) := by rw [el, ep, List.take_left]
    have hp0 : p0 < later.length := by
      rw [el, List.length_append, ← ep, List.length_cons]
      omega
    have nd : (begs ms later).Nodup := List.nodup_range.sublist List.filter_sublist
    have hg := key p0 hp0 (by rw [e, ed])
    have hb : p0 ∈ begs ms later := List.mem_filter.mpr ⟨List.mem_range.mpr hp0, by unfold isBeg; rw [hg]; exact decide_eq_true et⟩
    refine (countP_one nd hb fun p hp => ?_).symm
    rw [decide_eq_true_eq]
    constructor
    · intro z
      have l1 := congrArg List.length (e.symm.trans z)
      have l2 := congrArg List.length ed
      have := begs_lt hp
      rw [List.length_drop] at l1 l2
      omega
    · rintro rfl
      rw [e, ed]
  · rw [if_neg h]
    refine (List.countP_eq_zero.mpr fun p hp => ?_).symm
    rw [decide_eq_true_eq]
    intro z
    have hp' := begs_lt hp
    have hb := (List.mem_filter.mp hp).2
    unfold isBeg at hb
    rw [key p hp' z] at hb
    refine h ?_
    rw [ef, ← of_decide_eq_true hb, ← e, z, List.take_append_drop]
theorem countP_sum {α : Type} (q : α → Prop) [DecidablePred q] : ∀ l : List α, l.countP (fun a => decide (q a)) = (l.map fun a => if q a then 1 else 0).sum
  | [] => rfl
  | a :: l => by
    rw [List.map_cons, List.sum_cons, List.countP_cons, countP_sum q l]
    by_cases h : q a <;> simp [h] <;> omega
theorem cast_sum {α : Type} (f : α → Nat) : ∀ l : List α, (((l.map f).sum : Nat) : Int) = (l.map fun a => (f a : Int)).sum
  | [] => rfl
  | a :: l => by rw [List.map_cons, List.map_cons, List.sum_cons, List.sum_cons, Int.natCast_add, cast_sum f l]
/-- THE COUNT: as many rows of so many floods lead from ms to later as is reckoned -/
theorem cnt_ways {top : Nat} {ms later : List Int} (h : downIn top later) (n : Nat) : (((rowsF top n).countP fun r => decide (floods ms r = later) : Nat) : Int) = waysF ms later n := by
  unfold waysF
  by_cases hn : n = 0
  · subst hn
    rw [if_pos (show ((0 : Nat) : Int) = 0 from rfl)]
    show (((([[]] : List (List Int)).countP fun r => decide (floods ms r = later) : Nat)) : Int) = _
    have e : floods ms [] = ms := rfl
    rw [List.countP_cons, List.countP_nil, e]
    by_cases z : ms = later
    · rw [if_pos (decide_eq_true z), if_pos z]; rfl
    · rw [decide_eq_false z, if_neg z]; rfl
  · rw [if_neg (by omega), countP_sum]
    have e1 : ((rowsF top n).map fun r => if floods ms r = later then 1 else 0) = (rowsF top n).map fun r => (begs ms later).countP fun p => decide (floods [] r = later.drop p) :=
      List.map_congr_left fun r hr => beg_cnt (fun z => by
        have := (rows_in hr).1
        rw [z] at this
        exact hn this.symm)
    rw [e1, ← countP_swap (fun (r : List Int) (p : Nat) => decide (floods [] r = later.drop p)), cast_sum]
    congr 1
    refine List.map_congr_left fun p hp => ?_
    have := begs_lt hp
    show ((cntN top (later.drop p) n : Nat) : Int) = _
    rw [cntN_hz top n _ (h.drop p), List.length_drop]
    congr 1
    omega
theorem upto_up (top : Nat) : (upto top).Pairwise (· < ·) := by
  unfold upto
  rw [List.pairwise_map]
  exact List.pairwise_lt_range.imp fun h => by omega
theorem marks_down {top : Nat} {l : List Int} (h : isMarks top l = true) : downIn top l := by
  unfold isMarks okAll at h
  simp only [Bool.and_eq_true, List.all_eq_true, List.mem_map, id] at h
  refine ⟨?_, fun x hx => ?_⟩
  · have hf := h.2.2
    clear h
    induction l with
    | nil => exact List.Pairwise.nil
    | cons x r ih =>
      cases r with
      | nil => exact List.pairwise_singleton _ _
      | cons y r =>
        simp only [falling, Bool.and_eq_true, decide_eq_true_eq] at hf
        have p := ih hf.2
        refine List.pairwise_cons.mpr ⟨fun z hz => ?_, p⟩
        rcases List.mem_cons.mp hz with rfl | hz
        · exact hf.1
        · have := (List.pairwise_cons.mp p).1 z hz
          omega
  · have := h.2.1 (decide (1 ≤ x) && decide (x ≤ (top : Int))) ⟨x, hx, rfl⟩
    simp only [Bool.and_eq_true, decide_eq_true_eq] at this
    omega
theorem tF_0 (j : Nat) : tF 0 j = 1 := by cases j <;> rfl
def dp_how_many_marks : DP := fun ds Q _ => ∃ (top : Nat) (ms : List Int) (n : Nat), ds = [.int top, .tup (ms.map D.int), .int n] ∧ 1 ≤ top ∧ top ≤ 40 ∧ isMarks top ms = true ∧ n ≤ 40 ∧ Q (.fz (.int (hmF top ms n)))

abbrev s_how_many_marks : Stmt := topS 32
theorem sc_how_many_marks : FnScope ["top", "marks", "many", "found", "height", "below", "one"] ["top", "marks", "many"] (defScope s_how_many_marks) := ⟨rfl, rfl, rfl, by decide +kernel, rfl, by decide +kernel, by decide +kernel⟩
theorem ok_how_many_marks {P : Program} {w : World} {K : PySem.W.Frag} {mg : Str → Option Value} {base : Heap} (B : Bt mg) (d : Df K mg "how_many_marks" s_how_many_marks ["top", "marks", "many"]) (h_choices : Fn P w K mg base "choices" 1 2 dp_choices) (h_look_at_many : Fn P w K mg base "look_at_many" 3 2 dp_look_at_many) (h_look_at_marks : Fn P w K mg base "look_at_marks" 4 2 dp_look_at_marks) : Fn P w K mg base "how_many_marks" (4 + 1) 3 dp_how_many_marks := by
  refine fn_mk d sc_how_many_marks rfl (by decide) fun f cdv A outer s H E C hr => ⟨_, _, (ds_cons (ds_expr (d_fnK h_look_at_marks (hr.mono (by decide)) (da_cons (dv 0) (da_cons (dv 1) da_nil))))
      (ds_cons (ds_expr (d_fnK h_look_at_many (hr.mono (by decide)) (da_cons (dv 2) (da_cons (d_globI (by rfl) B.MOST_FLOODS) da_nil))))
      (ds_cons (ds_if (dt_cmp (o_eqK K hr.units) (dv 2) d_int) (ds_one (ds_ret d_int)) ds_nil)
      (ds_cons (ds_set 3 sc_how_many_marks.nd d_int)
      (ds_cons (ds_for PassesOwn.never rfl (di_range2 (by rfl) B.range (da_cons d_int (da_cons (d_op (o_addK K) (dv 0) d_int) da_nil))) (dg_name 4 sc_how_many_marks.nd) (ds_cons (ds_setLc 5 [("one", 6)] rfl sc_how_many_marks.nd (di_seqK K (dv 1)) (blkOk_by (by show blkC ["top", "marks", "many", "found", "height", "below", "one"] (defScope s_how_many_marks) _ [("one", 6)] = true; decide +kernel)) (fun _ _ _ _ _ _ => (dg_name 6 sc_how_many_marks.nd)) (fun _ _ _ _ _ _ => (dts_one (dt_cmp o_lt (dv 6) (dv 4)))) (fun _ _ _ _ _ _ => (dv 6)) (sw_true rfl rfl rfl (by decide +kernel)))
      (ds_one (ds_if (dt_cmp (o_notInK K) (dv 4) (dv 1)) (ds_one (ds_set 3 sc_how_many_marks.nd (d_op (o_addK K) (dv 3) (d_fnK h_choices (hr.mono (by decide)) (da_cons (d_op o_sub (dv 4) d_int) (da_cons (d_op o_sub (dv 2) d_int) da_nil)))))) (ds_one (ds_if (dt_cmp (o_neK K hr.units) (dv 5) (d_lst da_nil)) (ds_one (ds_set 3 sc_how_many_marks.nd (d_op (o_addK K) (dv 3) (d_fnK h_choices (hr.mono (by decide)) (da_cons (d_op o_sub (d_ixK K (dv 5) d_int) d_int) (da_cons (d_op o_sub (dv 2) d_int) da_nil)))))) (ds_one (ds_set 3 sc_how_many_marks.nd (d_op (o_addK K) (dv 3) d_int)))))))))
      (ds_one (ds_ret (dv 3)))))))), fun ds QD ED hl0 h => ?_⟩
  obtain ⟨a0, a1, a2, rfl⟩ : ∃ a0 a1 a2, ds = [a0, a1, a2] := by
    match ds, hl0 with
    | [a0, a1, a2], _ => exact ⟨a0, a1, a2, rfl⟩
  clear hl0
  obtain ⟨top, ms, n, e, t1, t2, hm, hn, q⟩ := h
  cases e
  have l1 := isMarks_len hm
  unfold hmF at q
  simp only [xSeq, xSet, xRet, xIf, xExpr, xNext, xNever, xC, xNil, xCons, xTup, xLst, xOp, xEq, xNe, xUn, xNot, xAnd, xOr, xIfE, xCB, xCall, xCallB, xName, xAsg, xIsi3, toD_fz, toD_ow, toD_od, toD_bg, rd_var, rd_getv1, rd_getv2, rd_getv3, rd_test, rd_onB, rd_onI, rd_onSB, rd_andV, rd_orV, rd_notV, rd_chain, rd_II, rd_II0, rd_add1, rd_add2, rd_add3, rd_mul1, rd_mul2, rd_mul3, rd_isN, rd_notN, rd_isN1, rd_isN2, rd_isN3, rd_neg, rd_ix1, rd_ix2, rd_part, rd_sl, rd_onSl1, rd_onSl2, rd_rev, rd_onRv, rd_len1, rd_len2, rd_max2, rd_min2, rd_int1, rd_int2, rd_lst1, rd_lst2, rd_tup1, rd_tup2, rd_dm, rd_seqI, rd_onSq1, rd_onSq2, rd_rng1, rd_onR1, rd_rng2, rd_onR2, xEnumT, rd_onEt, rd_zip, rd_onZ1, rd_onZ2, rd_par, rd_onP, xPar3, rd_onP3, rd_gtup, rd_gnil, rd_gcons, rd_isi, ini, iniB, wipeD, unw, kf, List.map_cons, List.map_nil, List.replicate_succ, List.replicate_zero, List.cons_append, List.nil_append, List.length_cons, List.length_nil, List.getElem?_cons_zero, List.getElem?_cons_succ, List.set_cons_zero, List.set_cons_succ, decide_eq_true_eq, Nat.zero_add, Nat.reduceAdd, Nat.reduceSub, Nat.reduceLeDiff, true_and, Bool.false_eq_true, if_false, if_true, isi_int_non, isi_int_bl, isi_int_int, isi_int_str, isi_int_lst, isi_int_tup, isi_bool_non, isi_bool_bl, isi_bool_int, isi_bool_str, isi_bool_lst, isi_bool_tup, isi_list_non, isi_list_bl, isi_list_int, isi_list_str, isi_list_lst, isi_list_tup, isi_tuple_non, isi_tuple_bl, isi_tuple_int, isi_tuple_str, isi_tuple_lst, isi_tuple_tup, isi_str_non, isi_str_bl, isi_str_int, isi_str_str, isi_str_lst, isi_str_tup, Bool.not_true, Bool.not_false, Bool.or_false, Bool.or_true, Bool.false_or, Bool.true_or, ite_true, ite_false, Option.some.injEq, true_or, false_or, or_false, and_true, rd_isOwn, rd_own1, rd_own2, rd_own3, rd_ixO, rd_onIx1, rd_onIx2, rd_store, rd_onStore1, rd_onStore2, ex_eq, xApp, xDput, S.ow.injEq, S.bg.injEq, S.od.injEq, reduceCtorEq, exists_eq_left', exists_eq_left, exists_eq', D.int.injEq, atI_c0, atI_c1, atI_c2, ixN3_0, ixN3_1, ixN3_2, false_and, and_self]
  refine ⟨top, ms, rfl, by omega, by omega, hm, ?_⟩
  simp only [xSeq, xSet, xRet, xIf, xExpr, xNext, xNever, xC, xNil, xCons, xTup, xLst, xOp, xEq, xNe, xUn, xNot, xAnd, xOr, xIfE, xCB, xCall, xCallB, xName, xAsg, xIsi3, toD_fz, toD_ow, toD_od, toD_bg, rd_var, rd_getv1, rd_getv2, rd_getv3, rd_test, rd_onB, rd_onI, rd_onSB, rd_andV, rd_orV, rd_notV, rd_chain, rd_II, rd_II0, rd_add1, rd_add2, rd_add3, rd_mul1, rd_mul2, rd_mul3, rd_isN, rd_notN, rd_isN1, rd_isN2, rd_isN3, rd_neg, rd_ix1, rd_ix2, rd_part, rd_sl, rd_onSl1, rd_onSl2, rd_rev, rd_onRv, rd_len1, rd_len2, rd_max2, rd_min2, rd_int1, rd_int2, rd_lst1, rd_lst2, rd_tup1, rd_tup2, rd_dm, rd_seqI, rd_onSq1, rd_onSq2, rd_rng1, rd_onR1, rd_rng2, rd_onR2, xEnumT, rd_onEt, rd_zip, rd_onZ1, rd_onZ2, rd_par, rd_onP, xPar3, rd_onP3, rd_gtup, rd_gnil, rd_gcons, rd_isi, ini, iniB, wipeD, unw, kf, List.map_cons, List.map_nil, List.replicate_succ, List.replicate_zero, List.cons_append, List.nil_append, List.length_cons, List.length_nil, List.getElem?_cons_zero, List.getElem?_cons_succ, List.set_cons_zero, List.set_cons_succ, decide_eq_true_eq, Nat.zero_add, Nat.reduceAdd, Nat.reduceSub, Nat.reduceLeDiff, true_and, Bool.false_eq_true, if_false, if_true, isi_int_non, isi_int_bl, isi_int_int, isi_int_str, isi_int_lst, isi_int_tup, isi_bool_non, isi_bool_bl, isi_bool_int, isi_bool_str, isi_bool_lst, isi_bool_tup, isi_list_non, isi_list_bl, isi_list_int, isi_list_str, isi_list_lst, isi_list_tup, isi_tuple_non, isi_tuple_bl, isi_tuple_int, isi_tuple_str, isi_tuple_lst, isi_tuple_tup, isi_str_non, isi_str_bl, isi_str_int, isi_str_str, isi_str_lst, isi_str_tup, Bool.not_true, Bool.not_false, Bool.or_false, Bool.or_true, Bool.false_or, Bool.true_or, ite_true, ite_false, Option.some.injEq, true_or, false_or, or_false, and_true, rd_isOwn, rd_own1, rd_own2, rd_own3, rd_ixO, rd_onIx1, rd_onIx2, rd_store, rd_onStore1, rd_onStore2, ex_eq, xApp, xDput, S.ow.injEq, S.bg.injEq, S.od.injEq, reduceCtorEq, exists_eq_left', exists_eq_left, exists_eq', D.int.injEq, atI_c0, atI_c1, atI_c2, ixN3_0, ixN3_1, ixN3_2, false_and, and_self]
  refine ⟨n, 40, rfl, by omega, by omega, ?_⟩
  simp only [xSeq, xSet, xRet, xIf, xExpr, xNext, xNever, xC, xNil, xCons, xTup, xLst, xOp, xEq, xNe, xUn, xNot, xAnd, xOr, xIfE, xCB, xCall, xCallB, xName, xAsg, xIsi3, toD_fz, toD_ow, toD_od, toD_bg, rd_var, rd_getv1, rd_getv2, rd_getv3, rd_test, rd_onB, rd_onI, rd_onSB, rd_andV, rd_orV, rd_notV, rd_chain, rd_II, rd_II0, rd_add1, rd_add2, rd_add3, rd_mul1, rd_mul2, rd_mul3, rd_isN, rd_notN, rd_isN1, rd_isN2, rd_isN3, rd_neg, rd_ix1, rd_ix2, rd_part, rd_sl, rd_onSl1, rd_onSl2, rd_rev, rd_onRv, rd_len1, rd_len2, rd_max2, rd_min2, rd_int1, rd_int2, rd_lst1, rd_lst2, rd_tup1, rd_tup2, rd_dm, rd_seqI, rd_onSq1, rd_onSq2, rd_rng1, rd_onR1, rd_rng2, rd_onR2, xEnumT, rd_onEt, rd_zip, rd_onZ1, rd_onZ2, rd_par, rd_onP, xPar3, rd_onP3, rd_gtup, rd_gnil, rd_gcons, rd_isi, ini, iniB, wipeD, unw, kf, List.map_cons, List.map_nil, List.replicate_succ, List.replicate_zero, List.cons_append, List.nil_append, List.length_cons, List.length_nil, List.getElem?_cons_zero, List.getElem?_cons_succ, List.set_cons_zero, List.set_cons_succ, decide_eq_true_eq, Nat.zero_add, Nat.reduceAdd, Nat.reduceSub, Nat.reduceLeDiff, true_and, Bool.false_eq_true, if_false, if_true, isi_int_non, isi_int_bl, isi_int_int, isi_int_str, isi_int_lst, isi_int_tup, isi_bool_non, isi_bool_bl, isi_bool_int, isi_bool_str, isi_bool_lst, isi_bool_tup, isi_list_non, isi_list_bl, isi_list_int, isi_list_str, isi_list_lst, isi_list_tup, isi_tuple_non, isi_tuple_bl, isi_tuple_int, isi_tuple_str, isi_tuple_lst, isi_tuple_tup, isi_str_non, isi_str_bl, isi_str_int, isi_str_str, isi_str_lst, isi_str_tup, Bool.not_true, Bool.not_false, Bool.or_false, Bool.or_true, Bool.false_or, Bool.true_or, ite_true, ite_false, Option.some.injEq, true_or, false_or, or_false, and_true, rd_isOwn, rd_own1, rd_own2, rd_own3, rd_ixO, rd_onIx1, rd_onIx2, rd_store, rd_onStore1, rd_onStore2, ex_eq, xApp, xDput, S.ow.injEq, S.bg.injEq, S.od.injEq, reduceCtorEq, exists_eq_left', exists_eq_left, exists_eq', D.int.injEq, atI_c0, atI_c1, atI_c2, ixN3_0, ixN3_1, ixN3_2, false_and, and_self, eqD_int]
  refine ⟨rfl, rfl, ite2 (fun h0 => ?_) fun h0 => ?_⟩
  · rw [if_pos (by omega)] at q
    exact q
  · rw [if_neg (by omega)] at q
    simp only [xSeq, xSet, xRet, xIf, xExpr, xNext, xNever, xC, xNil, xCons, xTup, xLst, xOp, xEq, xNe, xUn, xNot, xAnd, xOr, xIfE, xCB, xCall, xCallB, xName, xAsg, xIsi3, toD_fz, toD_ow, toD_od, toD_bg, rd_var, rd_getv1, rd_getv2, rd_getv3, rd_test, rd_onB, rd_onI, rd_onSB, rd_andV, rd_orV, rd_notV, rd_chain, rd_II, rd_II0, rd_add1, rd_add2, rd_add3, rd_mul1, rd_mul2, rd_mul3, rd_isN, rd_notN, rd_isN1, rd_isN2, rd_isN3, rd_neg, rd_ix1, rd_ix2, rd_part, rd_sl, rd_onSl1, rd_onSl2, rd_rev, rd_onRv, rd_len1, rd_len2, rd_max2, rd_min2, rd_int1, rd_int2, rd_lst1, rd_lst2, rd_tup1, rd_tup2, rd_dm, rd_seqI, rd_onSq1, rd_onSq2, rd_rng1, rd_onR1, rd_rng2, rd_onR2, xEnumT, rd_onEt, rd_zip, rd_onZ1, rd_onZ2, rd_par, rd_onP, xPar3, rd_onP3, rd_gtup, rd_gnil, rd_gcons, rd_isi, ini, iniB, wipeD, unw, kf, List.map_cons, List.map_nil, List.replicate_succ, List.replicate_zero, List.cons_append, List.nil_append, List.length_cons, List.length_nil, List.getElem?_cons_zero, List.getElem?_cons_succ, List.set_cons_zero, List.set_cons_succ, decide_eq_true_eq, Nat.zero_add, Nat.reduceAdd, Nat.reduceSub, Nat.reduceLeDiff, true_and, Bool.false_eq_true, if_false, if_true, isi_int_non, isi_int_bl, isi_int_int, isi_int_str, isi_int_lst, isi_int_tup, isi_bool_non, isi_bool_bl, isi_bool_int, isi_bool_str, isi_bool_lst, isi_bool_tup, isi_list_non, isi_list_bl, isi_list_int, isi_list_str, isi_list_lst, isi_list_tup, isi_tuple_non, isi_tuple_bl, isi_tuple_int, isi_tuple_str, isi_tuple_lst, isi_tuple_tup, isi_str_non, isi_str_bl, isi_str_int, isi_str_str, isi_str_lst, isi_str_tup, Bool.not_true, Bool.not_false, Bool.or_false, Bool.or_true, Bool.false_or, Bool.true_or, ite_true, ite_false, Option.some.injEq, true_or, false_or, or_false, and_true, rd_isOwn, rd_own1, rd_own2, rd_own3, rd_ixO, rd_onIx1, rd_onIx2, rd_store, rd_onStore1, rd_onStore2, ex_eq, xApp, xDput, S.ow.injEq, S.bg.injEq, S.od.injEq, reduceCtorEq, exists_eq_left', exists_eq_left, exists_eq', D.int.injEq, atI_c0, atI_c1, atI_c2, ixN3_0, ixN3_1, ixN3_2, false_and, and_self, xFor]
    obtain ⟨tm, etm⟩ : ∃ tm : Nat → Int, tm = fun (k : Nat) => ((tF (bdH ms (1 + (k : Int)) - 1).toNat (n - 1) : Nat) : Int) := ⟨_, rfl⟩
    rw [← etm] at q
    refine ⟨⟨by omega, by omega, by omega, by omega⟩, fun k ρ => ∃ (x4 x5 : Option S), ρ = [some (.fz (.int (top : Nat))), some (.fz (.tup (ms.map D.int))), some (.fz (.int (n : Nat))), some (.fz (.int (sg k tm))), x4, x5, none], ⟨none, none, rfl⟩, fun k d ρ hd hI => ?_, fun ρ hI => ?_⟩
    · obtain ⟨x4, x5, rfl⟩ := hI
      obtain ⟨hk, rfl⟩ := rngD_get hd
      have hk2 : k < top := by omega
      refine lc_pure0 ms D.int (fun x => decide (x < 1 + (k : Int))) D.int (fun QL hq => ?_) (by omega) (fun x hx QD QN h1 h2 => ?_) ?_
      · simp only [xSeq, xSet, xRet, xIf, xExpr, xNext, xNever, xC, xNil, xCons, xTup, xLst, xOp, xEq, xNe, xUn, xNot, xAnd, xOr, xIfE, xCB, xCall, xCallB, xName, xAsg, xIsi3, toD_fz, toD_ow, toD_od, toD_bg, rd_var, rd_getv1, rd_getv2, rd_getv3, rd_test, rd_onB, rd_onI, rd_onSB, rd_andV, rd_orV, rd_notV, rd_chain, rd_II, rd_II0, rd_add1, rd_add2, rd_add3, rd_mul1, rd_mul2, rd_mul3, rd_isN, rd_notN, rd_isN1, rd_isN2, rd_isN3, rd_neg, rd_ix1, rd_ix2, rd_part, rd_sl, rd_onSl1, rd_onSl2, rd_rev, rd_onRv, rd_len1, rd_len2, rd_max2, rd_min2, rd_int1, rd_int2, rd_lst1, rd_lst2, rd_tup1, rd_tup2, rd_dm, rd_seqI, rd_onSq1, rd_onSq2, rd_rng1, rd_onR1, rd_rng2, rd_onR2, xEnumT, rd_onEt, rd_zip, rd_onZ1, rd_onZ2, rd_par, rd_onP, xPar3, rd_onP3, rd_gtup, rd_gnil, rd_gcons, rd_isi, ini, iniB, wipeD, unw, kf, List.map_cons, List.map_nil, List.replicate_succ, List.replicate_zero, List.cons_append, List.nil_append, List.length_cons, List.length_nil, List.getElem?_cons_zero, List.getElem?_cons_succ, List.set_cons_zero, List.set_cons_succ, decide_eq_true_eq, Nat.zero_add, Nat.reduceAdd, Nat.reduceSub, Nat.reduceLeDiff, true_and, Bool.false_eq_true, if_false, if_true, isi_int_non, isi_int_bl, isi_int_int, isi_int_str, isi_int_lst, isi_int_tup, isi_bool_non, isi_bool_bl, isi_bool_int, isi_bool_str, isi_bool_lst, isi_bool_tup, isi_list_non, isi_list_bl, isi_list_int, isi_list_str, isi_list_lst, isi_list_tup, isi_tuple_non, isi_tuple_bl, isi_tuple_int, isi_tuple_str, isi_tuple_lst, isi_tuple_tup, isi_str_non, isi_str_bl, isi_str_int, isi_str_str, isi_str_lst, isi_str_tup, Bool.not_true, Bool.not_false, Bool.or_false, Bool.or_true, Bool.false_or, Bool.true_or, ite_true, ite_false, Option.some.injEq, true_or, false_or, or_false, and_true, rd_isOwn, rd_own1, rd_own2, rd_own3, rd_ixO, rd_onIx1, rd_onIx2, rd_store, rd_onStore1, rd_onStore2, ex_eq, xApp, xDput, S.ow.injEq, S.bg.injEq, S.od.injEq, reduceCtorEq, exists_eq_left', exists_eq_left, exists_eq', D.int.injEq, atI_c0, atI_c1, atI_c2, ixN3_0, ixN3_1, ixN3_2, false_and, and_self]
        exact hq
      · simp only [xSeq, xSet, xRet, xIf, xExpr, xNext, xNever, xC, xNil, xCons, xTup, xLst, xOp, xEq, xNe, xUn, xNot, xAnd, xOr, xIfE, xCB, xCall, xCallB, xName, xAsg, xIsi3, toD_fz, toD_ow, toD_od, toD_bg, rd_var, rd_getv1, rd_getv2, rd_getv3, rd_test, rd_onB, rd_onI, rd_onSB, rd_andV, rd_orV, rd_notV, rd_chain, rd_II, rd_II0, rd_add1, rd_add2, rd_add3, rd_mul1, rd_mul2, rd_mul3, rd_isN, rd_notN, rd_isN1, rd_isN2, rd_isN3, rd_neg, rd_ix1, rd_ix2, rd_part, rd_sl, rd_onSl1, rd_onSl2, rd_rev, rd_onRv, rd_len1, rd_len2, rd_max2, rd_min2, rd_int1, rd_int2, rd_lst1, rd_lst2, rd_tup1, rd_tup2, rd_dm, rd_seqI, rd_onSq1, rd_onSq2, rd_rng1, rd_onR1, rd_rng2, rd_onR2, xEnumT, rd_onEt, rd_zip, rd_onZ1, rd_onZ2, rd_par, rd_onP, xPar3, rd_onP3, rd_gtup, rd_gnil, rd_gcons, rd_isi, ini, iniB, wipeD, unw, kf, List.map_cons, List.map_nil, List.replicate_succ, List.replicate_zero, List.cons_append, List.nil_append, List.length_cons, List.length_nil, List.getElem?_cons_zero, List.getElem?_cons_succ, List.set_cons_zero, List.set_cons_succ, decide_eq_true_eq, Nat.zero_add, Nat.reduceAdd, Nat.reduceSub, Nat.reduceLeDiff, true_and, Bool.false_eq_true, if_false, if_true, isi_int_non, isi_int_bl, isi_int_int, isi_int_str, isi_int_lst, isi_int_tup, isi_bool_non, isi_bool_bl, isi_bool_int, isi_bool_str, isi_bool_lst, isi_bool_tup, isi_list_non, isi_list_bl, isi_list_int, isi_list_str, isi_list_lst, isi_list_tup, isi_tuple_non, isi_tuple_bl, isi_tuple_int, isi_tuple_str, isi_tuple_lst, isi_tuple_tup, isi_str_non, isi_str_bl, isi_str_int, isi_str_str, isi_str_lst, isi_str_tup, Bool.not_true, Bool.not_false, Bool.or_false, Bool.or_true, Bool.false_or, Bool.true_or, ite_true, ite_false, Option.some.injEq, true_or, false_or, or_false, and_true, rd_isOwn, rd_own1, rd_own2, rd_own3, rd_ixO, rd_onIx1, rd_onIx2, rd_store, rd_onStore1, rd_onStore2, ex_eq, xApp, xDput, S.ow.injEq, S.bg.injEq, S.od.injEq, reduceCtorEq, exists_eq_left', exists_eq_left, exists_eq', D.int.injEq, atI_c0, atI_c1, atI_c2, ixN3_0, ixN3_1, ixN3_2, false_and, and_self]
        exact ite2 (fun h => h1 (decide_eq_true h)) fun h => h2 (decide_eq_false h)
      simp only [xSeq, xSet, xRet, xIf, xExpr, xNext, xNever, xC, xNil, xCons, xTup, xLst, xOp, xEq, xNe, xUn, xNot, xAnd, xOr, xIfE, xCB, xCall, xCallB, xName, xAsg, xIsi3, toD_fz, toD_ow, toD_od, toD_bg, rd_var, rd_getv1, rd_getv2, rd_getv3, rd_test, rd_onB, rd_onI, rd_onSB, rd_andV, rd_orV, rd_notV, rd_chain, rd_II, rd_II0, rd_add1, rd_add2, rd_add3, rd_mul1, rd_mul2, rd_mul3, rd_isN, rd_notN, rd_isN1, rd_isN2, rd_isN3, rd_neg, rd_ix1, rd_ix2, rd_part, rd_sl, rd_onSl1, rd_onSl2, rd_rev, rd_onRv, rd_len1, rd_len2, rd_max2, rd_min2, rd_int1, rd_int2, rd_lst1, rd_lst2, rd_tup1, rd_tup2, rd_dm, rd_seqI, rd_onSq1, rd_onSq2, rd_rng1, rd_onR1, rd_rng2, rd_onR2, xEnumT, rd_onEt, rd_zip, rd_onZ1, rd_onZ2, rd_par, rd_onP, xPar3, rd_onP3, rd_gtup, rd_gnil, rd_gcons, rd_isi, ini, iniB, wipeD, unw, kf, List.map_cons, List.map_nil, List.replicate_succ, List.replicate_zero, List.cons_append, List.nil_append, List.length_cons, List.length_nil, List.getElem?_cons_zero, List.getElem?_cons_succ, List.set_cons_zero, List.set_cons_succ, decide_eq_true_eq, Nat.zero_add, Nat.reduceAdd, Nat.reduceSub, Nat.reduceLeDiff, true_and, Bool.false_eq_true, if_false, if_true, isi_int_non, isi_int_bl, isi_int_int, isi_int_str, isi_int_lst, isi_int_tup, isi_bool_non, isi_bool_bl, isi_bool_int, isi_bool_str, isi_bool_lst, isi_bool_tup, isi_list_non, isi_list_bl, isi_list_int, isi_list_str, isi_list_lst, isi_list_tup, isi_tuple_non, isi_tuple_bl, isi_tuple_int, isi_tuple_str, isi_tuple_lst, isi_tuple_tup, isi_str_non, isi_str_bl, isi_str_int, isi_str_str, isi_str_lst, isi_str_tup, Bool.not_true, Bool.not_false, Bool.or_false, Bool.or_true, Bool.false_or, Bool.true_or, ite_true, ite_false, Option.some.injEq, true_or, false_or, or_false, and_true, rd_isOwn, rd_own1, rd_own2, rd_own3, rd_ixO, rd_onIx1, rd_onIx2, rd_store, rd_onStore1, rd_onStore2, ex_eq, xApp, xDput, S.ow.injEq, S.bg.injEq, S.od.injEq, reduceCtorEq, exists_eq_left', exists_eq_left, exists_eq', D.int.injEq, atI_c0, atI_c1, atI_c2, ixN3_0, ixN3_1, ixN3_2, false_and, and_self, sg_succ]
      refine ⟨_, ms, rfl, .inr rfl, ?_⟩
      by_cases hin : 1 + (k : Int) ∈ ms
      · have eb : tm k = ((tF ((match (ms.filter fun x => decide (x < 1 + (k : Int))).head? with | some m => m | none => 1) - 1).toNat (n - 1) : Nat) : Int) := by
          rw [etm]
          unfold bdH
          simp only [hin, if_true]
        cases eB : ms.filter fun x => decide (x < 1 + (k : Int)) with
        | nil =>
          simp only [xSeq, xSet, xRet, xIf, xExpr, xNext, xNever, xC, xNil, xCons, xTup, xLst, xOp, xEq, xNe, xUn, xNot, xAnd, xOr, xIfE, xCB, xCall, xCallB, xName, xAsg, xIsi3, toD_fz, toD_ow, toD_od, toD_bg, rd_var, rd_getv1, rd_getv2, rd_getv3, rd_test, rd_onB, rd_onI, rd_onSB, rd_andV, rd_orV, rd_notV, rd_chain, rd_II, rd_II0, rd_add1, rd_add2, rd_add3, rd_mul1, rd_mul2, rd_mul3, rd_isN, rd_notN, rd_isN1, rd_isN2, rd_isN3, rd_neg, rd_ix1, rd_ix2, rd_part, rd_sl, rd_onSl1, rd_onSl2, rd_rev, rd_onRv, rd_len1, rd_len2, rd_max2, rd_min2, rd_int1, rd_int2, rd_lst1, rd_lst2, rd_tup1, rd_tup2, rd_dm, rd_seqI, rd_onSq1, rd_onSq2, rd_rng1, rd_onR1, rd_rng2, rd_onR2, xEnumT, rd_onEt, rd_zip, rd_onZ1, rd_onZ2, rd_par, rd_onP, xPar3, rd_onP3, rd_gtup, rd_gnil, rd_gcons, rd_isi, ini, iniB, wipeD, unw, kf, List.map_cons, List.map_nil, List.replicate_succ, List.replicate_zero, List.cons_append, List.nil_append, List.length_cons, List.length_nil, List.getElem?_cons_zero, List.getElem?_cons_succ, List.set_cons_zero, List.set_cons_succ, decide_eq_true_eq, Nat.zero_add, Nat.reduceAdd, Nat.reduceSub, Nat.reduceLeDiff, true_and, Bool.false_eq_true, if_false, if_true, isi_int_non, isi_int_bl, isi_int_int, isi_int_str, isi_int_lst, isi_int_tup, isi_bool_non, isi_bool_bl, isi_bool_int, isi_bool_str, isi_bool_lst, isi_bool_tup, isi_list_non, isi_list_bl, isi_list_int, isi_list_str, isi_list_lst, isi_list_tup, isi_tuple_non, isi_tuple_bl, isi_tuple_int, isi_tuple_str, isi_tuple_lst, isi_tuple_tup, isi_str_non, isi_str_bl, isi_str_int, isi_str_str, isi_str_lst, isi_str_tup, Bool.not_true, Bool.not_false, Bool.or_false, Bool.or_true, Bool.false_or, Bool.true_or, ite_true, ite_false, Option.some.injEq, true_or, false_or, or_false, and_true, rd_isOwn, rd_own1, rd_own2, rd_own3, rd_ixO, rd_onIx1, rd_onIx2, rd_store, rd_onStore1, rd_onStore2, ex_eq, xApp, xDput, S.ow.injEq, S.bg.injEq, S.od.injEq, reduceCtorEq, exists_eq_left', exists_eq_left, exists_eq', D.int.injEq, atI_c0, atI_c1, atI_c2, ixN3_0, ixN3_1, ixN3_2, false_and, and_self, decide_eq_true hin, eqD_lnil]
          rw [eb, eB]
          have e1 : ((tF ((match ([] : List Int).head? with | some m => m | none => 1) - 1).toNat (n - 1) : Nat) : Int) = 1 := by
            show ((tF 0 (n - 1) : Nat) : Int) = 1
            rw [tF_0]
            rfl
          rw [e1]
          exact ⟨rfl, rfl, ite2 (fun z => absurd z (by simp)) fun _ => ⟨_, _, rfl⟩⟩
        | cons m B =>
          have hm' : m ∈ ms ∧ m < 1 + (k : Int) := by
            have : m ∈ ms.filter fun x => decide (x < 1 + (k : Int)) := by rw [eB]; simp
            exact ⟨(List.mem_filter.mp this).1, of_decide_eq_true (List.mem_filter.mp this).2⟩
          have dm := marks_down hm
          have mb := dm.2 m hm'.1
          have okb : okD 8 (D.lst (D.int m :: B.map D.int)) = true := okD_lst (m :: B)
          have ne : decide (D.int m :: B.map D.int = []) = false := decide_eq_false (by simp)
          simp only [xSeq, xSet, xRet, xIf, xExpr, xNext, xNever, xC, xNil, xCons, xTup, xLst, xOp, xEq, xNe, xUn, xNot, xAnd, xOr, xIfE, xCB, xCall, xCallB, xName, xAsg, xIsi3, toD_fz, toD_ow, toD_od, toD_bg, rd_var, rd_getv1, rd_getv2, rd_getv3, rd_test, rd_onB, rd_onI, rd_onSB, rd_andV, rd_orV, rd_notV, rd_chain, rd_II, rd_II0, rd_add1, rd_add2, rd_add3, rd_mul1, rd_mul2, rd_mul3, rd_isN, rd_notN, rd_isN1, rd_isN2, rd_isN3, rd_neg, rd_ix1, rd_ix2, rd_part, rd_sl, rd_onSl1, rd_onSl2, rd_rev, rd_onRv, rd_len1, rd_len2, rd_max2, rd_min2, rd_int1, rd_int2, rd_lst1, rd_lst2, rd_tup1, rd_tup2, rd_dm, rd_seqI, rd_onSq1, rd_onSq2, rd_rng1, rd_onR1, rd_rng2, rd_onR2, xEnumT, rd_onEt, rd_zip, rd_onZ1, rd_onZ2, rd_par, rd_onP, xPar3, rd_onP3, rd_gtup, rd_gnil, rd_gcons, rd_isi, ini, iniB, wipeD, unw, kf, List.map_cons, List.map_nil, List.replicate_succ, List.replicate_zero, List.cons_append, List.nil_append, List.length_cons, List.length_nil, List.getElem?_cons_zero, List.getElem?_cons_succ, List.set_cons_zero, List.set_cons_succ, decide_eq_true_eq, Nat.zero_add, Nat.reduceAdd, Nat.reduceSub, Nat.reduceLeDiff, true_and, Bool.false_eq_true, if_false, if_true, isi_int_non, isi_int_bl, isi_int_int, isi_int_str, isi_int_lst, isi_int_tup, isi_bool_non, isi_bool_bl, isi_bool_int, isi_bool_str, isi_bool_lst, isi_bool_tup, isi_list_non, isi_list_bl, isi_list_int, isi_list_str, isi_list_lst, isi_list_tup, isi_tuple_non, isi_tuple_bl, isi_tuple_int, isi_tuple_str, isi_tuple_lst, isi_tuple_tup, isi_str_non, isi_str_bl, isi_str_int, isi_str_str, isi_str_lst, isi_str_tup, Bool.not_true, Bool.not_false, Bool.or_false, Bool.or_true, Bool.false_or, Bool.true_or, ite_true, ite_false, Option.some.injEq, true_or, false_or, or_false, and_true, rd_isOwn, rd_own1, rd_own2, rd_own3, rd_ixO, rd_onIx1, rd_onIx2, rd_store, rd_onStore1, rd_onStore2, ex_eq, xApp, xDput, S.ow.injEq, S.bg.injEq, S.od.injEq, reduceCtorEq, exists_eq_left', exists_eq_left, exists_eq', D.int.injEq, atI_c0, atI_c1, atI_c2, ixN3_0, ixN3_1, ixN3_2, false_and, and_self, decide_eq_true hin, eqD_lnil, okb, ne]
          rw [eb, eB]
          refine ⟨rfl, ite2 (fun _ => ?_) fun z => absurd (by simp) z⟩
          refine ⟨(m - 1).toNat, n - 1, by simp only [List.cons.injEq, D.int.injEq, and_true]; omega, by omega, by omega, ?_⟩
          simp only [xSeq, xSet, xRet, xIf, xExpr, xNext, xNever, xC, xNil, xCons, xTup, xLst, xOp, xEq, xNe, xUn, xNot, xAnd, xOr, xIfE, xCB, xCall, xCallB, xName, xAsg, xIsi3, toD_fz, toD_ow, toD_od, toD_bg, rd_var, rd_getv1, rd_getv2, rd_getv3, rd_test, rd_onB, rd_onI, rd_onSB, rd_andV, rd_orV, rd_notV, rd_chain, rd_II, rd_II0, rd_add1, rd_add2, rd_add3, rd_mul1, rd_mul2, rd_mul3, rd_isN, rd_notN, rd_isN1, rd_isN2, rd_isN3, rd_neg, rd_ix1, rd_ix2, rd_part, rd_sl, rd_onSl1, rd_onSl2, rd_rev, rd_onRv, rd_len1, rd_len2, rd_max2, rd_min2, rd_int1, rd_int2, rd_lst1, rd_lst2, rd_tup1, rd_tup2, rd_dm, rd_seqI, rd_onSq1, rd_onSq2, rd_rng1, rd_onR1, rd_rng2, rd_onR2, xEnumT, rd_onEt, rd_zip, rd_onZ1, rd_onZ2, rd_par, rd_onP, xPar3, rd_onP3, rd_gtup, rd_gnil, rd_gcons, rd_isi, ini, iniB, wipeD, unw, kf, List.map_cons, List.map_nil, List.replicate_succ, List.replicate_zero, List.cons_append, List.nil_append, List.length_cons, List.length_nil, List.getElem?_cons_zero, List.getElem?_cons_succ, List.set_cons_zero, List.set_cons_succ, decide_eq_true_eq, Nat.zero_add, Nat.reduceAdd, Nat.reduceSub, Nat.reduceLeDiff, true_and, Bool.false_eq_true, if_false, if_true, isi_int_non, isi_int_bl, isi_int_int, isi_int_str, isi_int_lst, isi_int_tup, isi_bool_non, isi_bool_bl, isi_bool_int, isi_bool_str, isi_bool_lst, isi_bool_tup, isi_list_non, isi_list_bl, isi_list_int, isi_list_str, isi_list_lst, isi_list_tup, isi_tuple_non, isi_tuple_bl, isi_tuple_int, isi_tuple_str, isi_tuple_lst, isi_tuple_tup, isi_str_non, isi_str_bl, isi_str_int, isi_str_str, isi_str_lst, isi_str_tup, Bool.not_true, Bool.not_false, Bool.or_false, Bool.or_true, Bool.false_or, Bool.true_or, ite_true, ite_false, Option.some.injEq, true_or, false_or, or_false, and_true, rd_isOwn, rd_own1, rd_own2, rd_own3, rd_ixO, rd_onIx1, rd_onIx2, rd_store, rd_onStore1, rd_onStore2, ex_eq, xApp, xDput, S.ow.injEq, S.bg.injEq, S.od.injEq, reduceCtorEq, exists_eq_left', exists_eq_left, exists_eq', D.int.injEq, atI_c0, atI_c1, atI_c2, ixN3_0, ixN3_1, ixN3_2, false_and, and_self]
          exact ⟨_, _, rfl⟩
      · have eb : tm k = ((tF k (n - 1) : Nat) : Int) := by
          rw [etm]
          unfold bdH
          simp only [hin, if_false]
          rw [show (1 + (k : Int) - 1).toNat = k by omega]
        simp only [xSeq, xSet, xRet, xIf, xExpr, xNext, xNever, xC, xNil, xCons, xTup, xLst, xOp, xEq, xNe, xUn, xNot, xAnd, xOr, xIfE, xCB, xCall, xCallB, xName, xAsg, xIsi3, toD_fz, toD_ow, toD_od, toD_bg, rd_var, rd_getv1, rd_getv2, rd_getv3, rd_test, rd_onB, rd_onI, rd_onSB, rd_andV, rd_orV, rd_notV, rd_chain, rd_II, rd_II0, rd_add1, rd_add2, rd_add3, rd_mul1, rd_mul2, rd_mul3, rd_isN, rd_notN, rd_isN1, rd_isN2, rd_isN3, rd_neg, rd_ix1, rd_ix2, rd_part, rd_sl, rd_onSl1, rd_onSl2, rd_rev, rd_onRv, rd_len1, rd_len2, rd_max2, rd_min2, rd_int1, rd_int2, rd_lst1, rd_lst2, rd_tup1, rd_tup2, rd_dm, rd_seqI, rd_onSq1, rd_onSq2, rd_rng1, rd_onR1, rd_rng2, rd_onR2, xEnumT, rd_onEt, rd_zip, rd_onZ1, rd_onZ2, rd_par, rd_onP, xPar3, rd_onP3, rd_gtup, rd_gnil, rd_gcons, rd_isi, ini, iniB, wipeD, unw, kf, List.map_cons, List.map_nil, List.replicate_succ, List.replicate_zero, List.cons_append, List.nil_append, List.length_cons, List.length_nil, List.getElem?_cons_zero, List.getElem?_cons_succ, List.set_cons_zero, List.set_cons_succ, decide_eq_true_eq, Nat.zero_add, Nat.reduceAdd, Nat.reduceSub, Nat.reduceLeDiff, true_and, Bool.false_eq_true, if_false, if_true, isi_int_non, isi_int_bl, isi_int_int, isi_int_str, isi_int_lst, isi_int_tup, isi_bool_non, isi_bool_bl, isi_bool_int, isi_bool_str, isi_bool_lst, isi_bool_tup, isi_list_non, isi_list_bl, isi_list_int, isi_list_str, isi_list_lst, isi_list_tup, isi_tuple_non, isi_tuple_bl, isi_tuple_int, isi_tuple_str, isi_tuple_lst, isi_tuple_tup, isi_str_non, isi_str_bl, isi_str_int, isi_str_str, isi_str_lst, isi_str_tup, Bool.not_true, Bool.not_false, Bool.or_false, Bool.or_true, Bool.false_or, Bool.true_or, ite_true, ite_false, Option.some.injEq, true_or, false_or, or_false, and_true, rd_isOwn, rd_own1, rd_own2, rd_own3, rd_ixO, rd_onIx1, rd_onIx2, rd_store, rd_onStore1, rd_onStore2, ex_eq, xApp, xDput, S.ow.injEq, S.bg.injEq, S.od.injEq, reduceCtorEq, exists_eq_left', exists_eq_left, exists_eq', D.int.injEq, atI_c0, atI_c1, atI_c2, ixN3_0, ixN3_1, ixN3_2, false_and, and_self, decide_eq_false hin]
        refine ⟨k, n - 1, ?_, by omega, by omega, ?_⟩
        · rw [show (1 : Int) + (k : Int) - 1 = (k : Int) by omega, show (n : Int) - 1 = ((n - 1 : Nat) : Int) by omega]
        · simp only [xSeq, xSet, xRet, xIf, xExpr, xNext, xNever, xC, xNil, xCons, xTup, xLst, xOp, xEq, xNe, xUn, xNot, xAnd, xOr, xIfE, xCB, xCall, xCallB, xName, xAsg, xIsi3, toD_fz, toD_ow, toD_od, toD_bg, rd_var, rd_getv1, rd_getv2, rd_getv3, rd_test, rd_onB, rd_onI, rd_onSB, rd_andV, rd_orV, rd_notV, rd_chain, rd_II, rd_II0, rd_add1, rd_add2, rd_add3, rd_mul1, rd_mul2, rd_mul3, rd_isN, rd_notN, rd_isN1, rd_isN2, rd_isN3, rd_neg, rd_ix1, rd_ix2, rd_part, rd_sl, rd_onSl1, rd_onSl2, rd_rev, rd_onRv, rd_len1, rd_len2, rd_max2, rd_min2, rd_int1, rd_int2, rd_lst1, rd_lst2, rd_tup1, rd_tup2, rd_dm, rd_seqI, rd_onSq1, rd_onSq2, rd_rng1, rd_onR1, rd_rng2, rd_onR2, xEnumT, rd_onEt, rd_zip, rd_onZ1, rd_onZ2, rd_par, rd_onP, xPar3, rd_onP3, rd_gtup, rd_gnil, rd_gcons, rd_isi, ini, iniB, wipeD, unw, kf, List.map_cons, List.map_nil, List.replicate_succ, List.replicate_zero, List.cons_append, List.nil_append, List.length_cons, List.length_nil, List.getElem?_cons_zero, List.getElem?_cons_succ, List.set_cons_zero, List.set_cons_succ, decide_eq_true_eq, Nat.zero_add, Nat.reduceAdd, Nat.reduceSub, Nat.reduceLeDiff, true_and, Bool.false_eq_true, if_false, if_true, isi_int_non, isi_int_bl, isi_int_int, isi_int_str, isi_int_lst, isi_int_tup, isi_bool_non, isi_bool_bl, isi_bool_int, isi_bool_str, isi_bool_lst, isi_bool_tup, isi_list_non, isi_list_bl, isi_list_int, isi_list_str, isi_list_lst, isi_list_tup, isi_tuple_non, isi_tuple_bl, isi_tuple_int, isi_tuple_str, isi_tuple_lst, isi_tuple_tup, isi_str_non, isi_str_bl, isi_str_int, isi_str_str, isi_str_lst, isi_str_tup, Bool.not_true, Bool.not_false, Bool.or_false, Bool.or_true, Bool.false_or, Bool.true_or, ite_true, ite_false, Option.some.injEq, true_or, false_or, or_false, and_true, rd_isOwn, rd_own1, rd_own2, rd_own3, rd_ixO, rd_onIx1, rd_onIx2, rd_store, rd_onStore1, rd_onStore2, ex_eq, xApp, xDput, S.ow.injEq, S.bg.injEq, S.od.injEq, reduceCtorEq, exists_eq_left', exists_eq_left, exists_eq', D.int.injEq, atI_c0, atI_c1, atI_c2, ixN3_0, ixN3_1, ixN3_2, false_and, and_self]
          rw [eb]
          exact ⟨_, _, rfl⟩
    · obtain ⟨x4, x5, rfl⟩ := hI
      rw [rngD_len, show ((top : Int) + 1 - 1).toNat = top by omega]
      exact q

def dp__law_well : DP := fun ds Q _ => ∃ c t : Int, ds = [.int c, .int t] ∧ ∀ a b : Int, 0 ≤ a → 0 ≤ b → b < 2305843009213693951 → Q (.ow [.int a, .int b, .int t])

abbrev s__law_well : Stmt := topS 34
theorem sc__law_well : FnScope ["cell", "turn"] ["cell", "turn"] (defScope s__law_well) := ⟨rfl, rfl, rfl, by decide +kernel, rfl, by decide +kernel, by decide +kernel⟩
theorem ok__law_well {P : Program} {w : World} {K : PySem.W.Frag} {mg : Str → Option Value} {base : Heap} (B : Bt mg) (d : Df K mg "_law_well" s__law_well ["cell", "turn"])  : Fn P w K mg base "_law_well" (0 + 1) 2 dp__law_well := by
  refine fn_mk d sc__law_well rfl (by decide) fun f cdv A outer s H E C hr => ⟨_, _, (ds_cons (ds_if (dt_cmp o_ge (dv 0) (d_op o_pow d_int d_int)) (ds_one (ds_ret (d_lst (da_cons (d_op o_sub (dv 0) (d_op o_pow d_int d_int)) (da_cons (d_op o_mod (dv 0) d_int) (da_cons (dv 1) da_nil)))))) ds_nil)
      (ds_one (ds_ret (d_lst (da_cons d_int (da_cons (d_op o_mod (dv 0) d_int) (da_cons (dv 1) da_nil))))))), fun ds QD ED hl0 h => ?_⟩
  obtain ⟨a0, a1, rfl⟩ : ∃ a0 a1, ds = [a0, a1] := by
    match ds, hl0 with
    | [a0, a1], _ => exact ⟨a0, a1, rfl⟩
  clear hl0
  obtain ⟨c, t, e, q⟩ := h
  cases e
  have hb : 0 ≤ c % 2305843009213693951 := Int.emod_nonneg _ (by decide)
  have hb2 : c % 2305843009213693951 < 2305843009213693951 := Int.emod_lt_of_pos _ (by decide)
  simp only [xSeq, xSet, xRet, xIf, xExpr, xNext, xNever, xC, xNil, xCons, xTup, xLst, xOp, xEq, xNe, xUn, xNot, xAnd, xOr, xIfE, xCB, xCall, xCallB, xName, xAsg, xIsi3, toD_fz, toD_ow, toD_od, toD_bg, rd_var, rd_getv1, rd_getv2, rd_getv3, rd_test, rd_onB, rd_onI, rd_onSB, rd_andV, rd_orV, rd_notV, rd_chain, rd_II, rd_II0, rd_add1, rd_add2, rd_add3, rd_mul1, rd_mul2, rd_mul3, rd_isN, rd_notN, rd_isN1, rd_isN2, rd_isN3, rd_neg, rd_ix1, rd_ix2, rd_part, rd_sl, rd_onSl1, rd_onSl2, rd_rev, rd_onRv, rd_len1, rd_len2, rd_max2, rd_min2, rd_int1, rd_int2, rd_lst1, rd_lst2, rd_tup1, rd_tup2, rd_dm, rd_seqI, rd_onSq1, rd_onSq2, rd_rng1, rd_onR1, rd_rng2, rd_onR2, xEnumT, rd_onEt, rd_zip, rd_onZ1, rd_onZ2, rd_par, rd_onP, xPar3, rd_onP3, rd_gtup, rd_gnil, rd_gcons, rd_isi, ini, iniB, wipeD, unw, kf, List.map_cons, List.map_nil, List.replicate_succ, List.replicate_zero, List.cons_append, List.nil_append, List.length_cons, List.length_nil, List.getElem?_cons_zero, List.getElem?_cons_succ, List.set_cons_zero, List.set_cons_succ, decide_eq_true_eq, Nat.zero_add, Nat.reduceAdd, Nat.reduceSub, Nat.reduceLeDiff, true_and, Bool.false_eq_true, if_false, if_true, isi_int_non, isi_int_bl, isi_int_int, isi_int_str, isi_int_lst, isi_int_tup, isi_bool_non, isi_bool_bl, isi_bool_int, isi_bool_str, isi_bool_lst, isi_bool_tup, isi_list_non, isi_list_bl, isi_list_int, isi_list_str, isi_list_lst, isi_list_tup, isi_tuple_non, isi_tuple_bl, isi_tuple_int, isi_tuple_str, isi_tuple_lst, isi_tuple_tup, isi_str_non, isi_str_bl, isi_str_int, isi_str_str, isi_str_lst, isi_str_tup, Bool.not_true, Bool.not_false, Bool.or_false, Bool.or_true, Bool.false_or, Bool.true_or, ite_true, ite_false, Option.some.injEq, true_or, false_or, or_false, and_true]
  refine ⟨cpw (by decide) (by decide) (by decide) (by decide), ?_⟩
  refine ite2 (fun h1 => ?_) (fun h1 => ?_)
  · refine ⟨cpw (by decide) (by decide) (by decide) (by decide), by decide, ?_⟩
    exact q _ _ (Int.sub_nonneg_of_le h1) hb hb2
  · exact ⟨by decide, q _ _ (by decide) hb hb2⟩

def dp__law_take : DB := fun bd ds Q => ∃ (m : Nat) (many : Int), bagOK m bd ∧ m ≤ 1000000 ∧ ds = [.int many] ∧ 1 ≤ many ∧ many ≤ 1000000000000000001 ∧ ∀ (r : Int) (bd' : List D), 0 ≤ r → r < many → bagOK (m + 1) bd' → Q (.fz (.int r)) bd'

abbrev s__law_take : Stmt := topS 35
theorem sc__law_take : FnScope ["bag", "many", "found", "p", "n"] ["bag", "many"] (defScope s__law_take) := ⟨rfl, rfl, rfl, by decide +kernel, rfl, by decide +kernel, by decide +kernel⟩
theorem ok__law_take {P : Program} {w : World} {K : PySem.W.Frag} {mg : Str → Option Value} {base : Heap} (B : Bt mg) (d : Df K mg "_law_take" s__law_take ["bag", "many"])  : FnB P w K mg base "_law_take" (0 + 1) 1 dp__law_take := by
  refine fn_mkB d sc__law_take rfl (by decide) fun f cdv A outer s H E C hr => ⟨_, _, (ds_cons (ds_if (dt_cmp o_gt (d_ixOK K 0 d_int) d_int) (ds_cons (ds_set 2 sc__law_take.nd (d_op o_mod (d_ixOK K 0 d_int) (dv 1)))
      (ds_cons (ds_store 0 (d_op o_div (d_ixOK K 0 d_int) (dv 1)) d_int)
      (ds_one (ds_ret (dv 2))))) ds_nil)
      (ds_cons (ds_store 0 (d_op (o_addK K) (d_ixOK K 0 d_int) d_int) d_int)
      (ds_cons (ds_set 3 sc__law_take.nd d_int)
      (ds_cons (ds_set 4 sc__law_take.nd (d_op o_mod (d_op (o_addK K) (d_ixOK K 0 d_int) (d_op (o_mulK K) d_int (d_ixOK K 0 d_int))) (dv 3)))
      (ds_cons (ds_set 4 sc__law_take.nd (d_op o_mod (d_op (o_addK K) (d_op (o_addK K) (d_op (o_mulK K) (dv 4) (dv 4)) (d_op (o_mulK K) d_int (d_op o_pow (d_ixOK K 0 d_int) d_int))) d_int) (dv 3)))
      (ds_one (ds_ret (d_op o_mod (d_op o_div (d_op o_mod (d_op o_pow (dv 4) d_int) (dv 3)) d_int) (dv 1))))))))), fun bd ds QD hl0 h => ?_⟩
  obtain ⟨a0, rfl⟩ : ∃ a0, ds = [a0] := by
    match ds, hl0 with
    | [a0], _ => exact ⟨a0, rfl⟩
  clear hl0
  obtain ⟨m, many, ⟨a, b, c, rfl, ha, hb, hb2, hc, hc2⟩, hm, e, h1, h2, q⟩ := h
  cases e
  simp only [xSeq, xSet, xRet, xIf, xExpr, xNext, xNever, xC, xNil, xCons, xTup, xLst, xOp, xEq, xNe, xUn, xNot, xAnd, xOr, xIfE, xCB, xCall, xCallB, xName, xAsg, xIsi3, toD_fz, toD_ow, toD_od, toD_bg, rd_var, rd_getv1, rd_getv2, rd_getv3, rd_test, rd_onB, rd_onI, rd_onSB, rd_andV, rd_orV, rd_notV, rd_chain, rd_II, rd_II0, rd_add1, rd_add2, rd_add3, rd_mul1, rd_mul2, rd_mul3, rd_isN, rd_notN, rd_isN1, rd_isN2, rd_isN3, rd_neg, rd_ix1, rd_ix2, rd_part, rd_sl, rd_onSl1, rd_onSl2, rd_rev, rd_onRv, rd_len1, rd_len2, rd_max2, rd_min2, rd_int1, rd_int2, rd_lst1, rd_lst2, rd_tup1, rd_tup2, rd_dm, rd_seqI, rd_onSq1, rd_onSq2, rd_rng1, rd_onR1, rd_rng2, rd_onR2, xEnumT, rd_onEt, rd_zip, rd_onZ1, rd_onZ2, rd_par, rd_onP, xPar3, rd_onP3, rd_gtup, rd_gnil, rd_gcons, rd_isi, ini, iniB, wipeD, unw, kf, List.map_cons, List.map_nil, List.replicate_succ, List.replicate_zero, List.cons_append, List.nil_append, List.length_cons, List.length_nil, List.getElem?_cons_zero, List.getElem?_cons_succ, List.set_cons_zero, List.set_cons_succ, decide_eq_true_eq, Nat.zero_add, Nat.reduceAdd, Nat.reduceSub, Nat.reduceLeDiff, true_and, Bool.false_eq_true, if_false, if_true, isi_int_non, isi_int_bl, isi_int_int, isi_int_str, isi_int_lst, isi_int_tup, isi_bool_non, isi_bool_bl, isi_bool_int, isi_bool_str, isi_bool_lst, isi_bool_tup, isi_list_non, isi_list_bl, isi_list_int, isi_list_str, isi_list_lst, isi_list_tup, isi_tuple_non, isi_tuple_bl, isi_tuple_int, isi_tuple_str, isi_tuple_lst, isi_tuple_tup, isi_str_non, isi_str_bl, isi_str_int, isi_str_str, isi_str_lst, isi_str_tup, Bool.not_true, Bool.not_false, Bool.or_false, Bool.or_true, Bool.false_or, Bool.true_or, ite_true, ite_false, Option.some.injEq, true_or, false_or, or_false, and_true, rd_isOwn, rd_own1, rd_own2, rd_own3, rd_ixO, rd_onIx1, rd_onIx2, rd_store, rd_onStore1, rd_onStore2, ex_eq, xApp, xDput, S.ow.injEq, S.bg.injEq, S.od.injEq, reduceCtorEq, exists_eq_left', exists_eq_left, exists_eq', D.int.injEq, atI_c0, atI_c1, atI_c2, ixN3_0, ixN3_1, ixN3_2, false_and, and_self]
  have n0 : ∀ x : Int, 0 ≤ x % 2305843009213693951 := fun x => Int.emod_nonneg _ (by decide)
  have n1 : ∀ x : Int, x % 2305843009213693951 < 2305843009213693951 := fun x => Int.emod_lt_of_pos _ (by decide)
  refine ite2 (fun h3 => ?_) (fun h3 => ?_)
  · exact ⟨by omega, cdW (by omega) (by omega), q _ _ (Int.emod_nonneg _ (by omega)) (Int.emod_lt_of_pos _ (by omega)) ⟨_, b, c, rfl, Int.ediv_nonneg ha (by omega), hb, hb2, hc, by omega⟩⟩
  · have sq : (c + 1) ^ Int.toNat 2 = (c + 1) * (c + 1) := by
      show (c + 1) ^ 2 = _
      rw [Int.pow_succ, Int.pow_succ, Int.pow_zero, Int.one_mul]
    have hsq : (c + 1) * (c + 1) ≤ 2000000 * 2000000 := Int.mul_le_mul (by omega) (by omega) (by omega) (by omega)
    have hsq0 : 0 ≤ (c + 1) * (c + 1) := Int.mul_nonneg (by omega) (by omega)
    generalize hn : (b + 1000003 * (c + 1)) % 2305843009213693951 = n
    have g0 : 0 ≤ n := by rw [← hn]; exact n0 _
    have g1 : n < 2305843009213693951 := by rw [← hn]; exact n1 _
    generalize hn2 : (n * n + 7919 * (c + 1) ^ Int.toNat 2 + 5) % 2305843009213693951 = k
    have k0 : 0 ≤ k := by rw [← hn2]; exact n0 _
    have k1 : k < 2305843009213693951 := by rw [← hn2]; exact n1 _
    refine ⟨cm64 (by decide) (by decide) (by omega) (by omega), by decide, cm64 (by omega) (by omega) (by omega) (by omega), cpw (by decide) (by decide) (by omega) (by omega), ?_, by decide,
      cpw (by decide) (by decide) (by omega) (by omega), by decide, cdW (by decide) (by decide), by omega, ?_⟩
    · rw [sq]
      exact cm64 (by decide) (by decide) (by omega) (by omega)
    · exact q _ _ (Int.emod_nonneg _ (by omega)) (Int.emod_lt_of_pos _ (by omega)) ⟨a, b, c + 1, rfl, ha, hb, hb2, by omega, by omega⟩

def spBags (K : PySem.W.Frag) : Sp := fun vs H Q _ => ∃ (a : Addr) (ns : List Int) (most : Int), vs = [.ref a, .int most] ∧ SqL K H a (ns.map V.int) ∧ ns.length ≤ 63 ∧ 0 ≤ most ∧ most ≤ 100 ∧
  ∀ (p : Addr) (H' : Hp) (bs : List Addr), Same H H' → H p = none → H' p = some (.lst (bs.map V.ref)) → bs.length ≤ 64 → bs.Nodup → (∀ b ∈ bs, H b = none ∧ b ≠ p ∧ ∃ bd, bagOK 0 bd ∧ ∃ vs, H' b = some (.lst vs) ∧ ∀ G, Dats G bd vs) → Q (.ref p) H'

abbrev s__law_bags : Stmt := topS 36
theorem sc__law_bags : FnScope ["script", "most", "k", "cell"] ["script", "most"] (defScope s__law_bags) := ⟨rfl, rfl, rfl, by decide +kernel, rfl, by decide +kernel, by decide +kernel⟩

theorem ok__law_bags {P : Program} {w : World} {K : PySem.W.Frag} {mg : Str → Option Value} {base : Heap} (B : Bt mg) (h__law_well : Fn P w K mg base "_law_well" 1 2 dp__law_well) {f : Addr} {fd : FuncData} (F : Fun K "_law_bags" "_law_bags" s__law_bags f fd) : FnOk P w K mg base CX0 2 f fd ["script", "most"] (spBags K) := by
  refine F.ok sc__law_bags (fun vs H Q E h => ?_) (fun cdv A outer s H vs Q E hr h => ?_)
  · obtain ⟨a, ns, most, rfl, _⟩ := h
    rfl
  · obtain ⟨a, ns, most, rfl, hS, hl, m0, m1, q⟩ := h
    refine ⟨_, PSsV.pe (C := ⟨H, H, none⟩) (ds_one (ds_ret (d_lc [("k", 2), ("cell", 3)] rfl sc__law_bags.nd (di_enumL K (by rfl) B.enumerate (da_cons (d_op (o_addK K) (d_slK K (dv 0) do_none (do_some (dv 1))) (d_lst (da_cons d_int da_nil))) da_nil)) (blkOk_by (by show blkC ["script", "most", "k", "cell"] (defScope s__law_bags) _ [("k", 2), ("cell", 3)] = true; decide +kernel)) (fun _ _ _ _ _ _ => (dg_tupK K (n := 2) rfl (dgs_cons (dg_name 2 sc__law_bags.nd) (dgs_cons (dg_name 3 sc__law_bags.nd) dgs_nil)))) (fun _ _ _ _ _ _ => dts_nil) (fun _ _ _ _ _ _ => (d_fnK h__law_well (hr.mono (by decide)) (da_cons (dv 3) (da_cons (d_op (o_mulK K) d_int (dv 2)) da_nil))))))), ?_⟩
    refine ⟨.ref a, rfl, .int most, rfl, most, rfl, .inl ⟨a, _, rfl, hS, fun c nc => ?_⟩⟩
    have hcut : cutV (ns.map V.int) none (some most) = (ns.take most.toNat).map V.int := by
      have e : cutV (ns.map V.int) none (some most) = (ns.map V.int).take most.toNat := by
        unfold cutV
        obtain ⟨n, rfl⟩ : ∃ n : Nat, most = (n : Int) := ⟨most.toNat, by omega⟩
        rw [HT.sIx_none, HT.sIx_nat, List.drop_zero, Nat.sub_zero, Int.toNat_natCast]
        by_cases hn : n ≤ (ns.map V.int).length
        · rw [Nat.min_eq_left hn]
        · rw [Nat.min_eq_right (by omega), List.take_of_length_le (Nat.le_refl _), List.take_of_length_le (by omega)]
      rw [e, List.map_take]
    rw [hcut]
    have s1 : Same H (upd H c (.lst ((ns.take most.toNat).map V.int))) := L3.Same.new nc
    refine ⟨by decide, fun z nz => ?_⟩
    have s2 : Same (upd H c (.lst ((ns.take most.toNat).map V.int))) (upd (upd H c (.lst ((ns.take most.toNat).map V.int))) z (.lst [.int 0])) := L3.Same.new nz
    refine .inr (.inl ⟨c, z, _, _, rfl, rfl, s2 _ _ upd_same, upd_same, ?_, fun l nl => ?_⟩)
    · simp only [List.length_map, List.length_take, List.length_cons, List.length_nil]
      exact Nat.le_trans (show _ ≤ 100000 by omega) (by decide)
    generalize hH3 : upd (upd H c (.lst ((ns.take most.toNat).map V.int))) z (.lst [.int 0]) = H3 at nl
    have s3 : Same H H3 := by rw [← hH3]; exact s1.trans s2
    obtain ⟨ms, hms⟩ : ∃ ms : List Int, ms = ns.take most.toNat ++ [0] := ⟨_, rfl⟩
    have hms1 : (ns.take most.toNat).map V.int ++ [V.int 0] = ms.map V.int := by rw [hms]; simp
    have hmsl : ms.length ≤ 64 := by
      rw [hms]
      simp only [List.length_append, List.length_take, List.length_cons, List.length_nil]
      omega
    rw [hms1]
    have s4 : Same H3 (upd H3 l (.lst (ms.map V.int))) := L3.Same.new nl
    refine ⟨l, _, rfl, .inl (.inl upd_same), fun Dl nD => ?_⟩
    generalize hH4 : upd H3 l (.lst (ms.map V.int)) = H4 at nD s4
    have hl4 : H4 l = some (.lst (ms.map V.int)) := by rw [← hH4]; exact upd_same
    have nDl : l ≠ Dl := ne_of_none hl4 nD
    refine ⟨fun i m H' => m = ms.length - i ∧ i ≤ ms.length ∧ ∃ bs : List Addr, bs.length = i ∧ Same H4 H' ∧ H' Dl = some (.lst (bs.map V.ref)) ∧ bs.Nodup ∧ ∀ b ∈ bs, H4 b = none ∧ b ≠ Dl ∧ ∃ bd, bagOK 0 bd ∧ ∃ vs, H' b = some (.lst vs) ∧ ∀ G, Dats G bd vs,
      ⟨_, rfl, Nat.zero_le _, [], rfl, L3.Same.new nD, upd_same, List.nodup_nil, fun b hb => by cases hb⟩, ?_⟩
    rintro i m H' ⟨rfl, hi', bs, hbl, sH, hD, nd, hbs⟩
    have hl' : SqL K H' l (ms.map V.int) := .inl (.inl (sH _ _ hl4))
    by_cases hlt : i < ms.length
    · have g1 : (ms.map V.int)[i]? = some (.int ms[i]) := by rw [List.getElem?_map, List.getElem?_eq_getElem hlt]; rfl
      refine .inr ⟨⟨_, _, hl', g1⟩, fun H' => ∃ bs : List Addr, bs.length = i + 1 ∧ Same H4 H' ∧ H' Dl = some (.lst (bs.map V.ref)) ∧ bs.Nodup ∧ ∀ b ∈ bs, H4 b = none ∧ b ≠ Dl ∧ ∃ bd, bagOK 0 bd ∧ ∃ vs, H' b = some (.lst vs) ∧ ∀ G, Dats G bd vs,
        fun H2 hN => ⟨ms.length - (i + 1), by omega, rfl, hlt, hN⟩, fun x H2 hy => ?_⟩
      obtain ⟨T, x1, rfl, nT, rfl, f1⟩ := hy
      have ex : x1 = .int ms[i] := Option.some.inj ((f1 _ hl').symm.trans g1)
      subst ex
      have sT : Same H' (upd H' T (.tup [.int (i : Nat), .int ms[i]])) := L3.Same.new nT
      refine ⟨T, _, rfl, .inl (.inl upd_same), rfl, _, _, rfl, _, _, rfl, rfl, rfl, ?_⟩
      refine ⟨_, rfl, .int (i : Nat), rfl, .inl ⟨977, (i : Nat), rfl, rfl, cm64 (by decide) (by decide) (by omega) (by omega), ?_⟩⟩
      refine ⟨fun _ => none, [.int ms[i], .int (977 * (i : Nat))], fun s => ∃ a b : Int, s = .ow [.int a, .int b, .int (977 * (i : Nat))] ∧ 0 ≤ a ∧ 0 ≤ b ∧ b < 2305843009213693951, fun _ => False, fun _ _ e => (by cases e), ⟨_, _, rfl, rfl, _, _, rfl, rfl, rfl⟩, rfl,
        ⟨_, _, rfl, fun a b h1 h2 h3 => ⟨a, b, rfl, h1, h2, h3⟩⟩, fun v sv G' H5 hs P => ?_, fun _ _ _ h _ _ => h.elim⟩
      obtain ⟨av, bv, rfl, a0, b0, b1⟩ := hs
      obtain ⟨p, rfl, ⟨vs, hp, hdv⟩, _, np, _⟩ := P.ret
      have s5 := P.h
      obtain ⟨v1, r1, rfl, e1, v2, r2, rfl, e2, v3, r3, rfl, e3, e4⟩ := hdv
      cases (show v1 = _ from e1)
      cases (show v2 = _ from e2)
      cases (show v3 = _ from e3)
      cases (show r3 = _ from e4)
      have hD5 : H5 Dl = some (.lst (bs.map V.ref)) := s5 _ _ (sT _ _ hD)
      have npD : p ≠ Dl := fun z => by
        subst z
        rw [sT _ _ hD] at np
        cases np
      have np4 : H4 p = none := sH.free (sT.free np)
      refine ⟨_, hD5, ?_, bs ++ [p], by simp [hbl], fun b o e => ?_, ?_, ?_, fun b hb => ?_⟩
      · rw [List.length_map, hbl]
        exact Nat.lt_of_lt_of_le (show i < 100000 by omega) (by decide)
      · rw [upd_ne (ne_of_none e nD)]
        exact s5 _ _ (sT _ _ (sH _ _ e))
      · rw [upd_same, List.map_append]
        rfl
      · refine List.nodup_append.mpr ⟨nd, by simp, fun b hb c hc => ?_⟩
        simp only [List.mem_singleton] at hc
        subst hc
        obtain ⟨_, _, _, _, vs, hv, _⟩ := hbs b hb
        intro z
        subst z
        rw [sT _ _ hv] at np
        cases np
      · rcases List.mem_append.mp hb with hb | hb
        · obtain ⟨n4, nbD, bd, ok, vs, hv, hd⟩ := hbs b hb
          exact ⟨n4, nbD, bd, ok, vs, by rw [upd_ne nbD]; exact s5 _ _ (sT _ _ hv), hd⟩
        · simp only [List.mem_singleton] at hb
          subst hb
          exact ⟨np4, npD, [.int av, .int bv, .int (977 * (i : Nat))], ⟨av, bv, 977 * (i : Nat), rfl, a0, b0, b1, by omega, by omega⟩, _, by rw [upd_ne npD]; exact hp, fun G => ⟨_, _, rfl, rfl, _, _, rfl, rfl, _, _, rfl, rfl, rfl⟩⟩
    · refine .inl ⟨⟨_, hl', by rw [List.length_map]; omega⟩, ?_⟩
      refine q Dl H' bs ((s3.trans s4).trans sH) (s3.free (s4.free nD)) hD (by omega) nd fun b hb => ?_
      obtain ⟨n4, nbD, bd, ok, vs, hv, hd⟩ := hbs b hb
      exact ⟨s3.free (s4.free n4), nbD, bd, ok, vs, hv, hd⟩

def dp_same (n : Nat) : DP := fun ds Q _ => ∃ d : D, ds = [d, d] ∧ sm n d = true ∧ Q (.fz (.bl true))
def dp__law_same : DP := dp_same 3
theorem zip_same : ∀ ds : List D, zipD ds ds = ds.map fun d => .tup [d, d]
  | [] => rfl
  | d :: ds => by
    have ih := zip_same ds
    simp only [zipD, List.zip_cons_cons, List.map_cons] at ih ⊢
    rw [ih]
theorem eqD_bl (b : Bool) : eqD (.bl b) (.bl b) = true := by simp [eqD, toP, PyData.eqv]
theorem eqD_str (x : Str) : eqD (.str x) (.str x) = true := by simp [eqD, toP, PyData.eqv]
theorem replicate_all : ∀ n : Nat, (List.replicate n true).all id = true
  | 0 => rfl
  | n + 1 => by rw [List.replicate_succ, List.all_cons, replicate_all n]; rfl

abbrev s__law_same : Stmt := topS 37
theorem sc__law_same : FnScope ["a", "b", "x", "y"] ["a", "b"] (defScope s__law_same) := ⟨rfl, rfl, rfl, by decide +kernel, rfl, by decide +kernel, by decide +kernel⟩

theorem same_step {P : Program} {w : World} {K : PySem.W.Frag} {mg : Str → Option Value} {base : Heap} (B : Bt mg) (d : Df K mg "_law_same" s__law_same ["a", "b"]) {k : Nat} {dp : DP} (h__law_same : Fn P w K mg base "_law_same" k 2 dp) (m : Nat)
    (hh : ∀ m', m = m' + 1 → ∀ (d : D) (Q : S → Prop) (E : Str → Prop), sm m' d = true → Q (.fz (.bl true)) → dp [d, d] Q E) :
    Fn P w K mg base "_law_same" (k + 1) 2 (dp_same m) := by
  refine fn_mk d sc__law_same rfl (by decide) fun f cdv A outer s H E C hr => ⟨_, _, (ds_cons (ds_if (PWV.pt (dw_or (PWV.pt (dw_and (dt_val (d_isi_list (by rfl) B.isinstance B.list (dv 0))) (dw_and1 (dt_val (d_isi_list (by rfl) B.isinstance B.list (dv 1)))))) (dw_or1 (PWV.pt (dw_and (dt_val (d_isi_tuple (by rfl) B.isinstance B.tuple (dv 0))) (dw_and1 (dt_val (d_isi_tuple (by rfl) B.isinstance B.tuple (dv 1))))))))) (ds_one (ds_ret (d_and (d_cmp (o_eqK K hr.units) (d_callB (c_lenK K) (by rfl) B.len PySem.boot_len (da_cons (dv 0) da_nil)) (d_callB (c_lenK K) (by rfl) B.len PySem.boot_len (da_cons (dv 1) da_nil))) (d_one (d_callB (c_allK K rfl) (by rfl) B.all (by decide +kernel) (da_cons (d_lc [("x", 2), ("y", 3)] rfl sc__law_same.nd (di_zipK K (by rfl) B.zip (da_cons (dv 0) (da_cons (dv 1) da_nil))) (blkOk_by (by show blkC ["a", "b", "x", "y"] (defScope s__law_same) _ [("x", 2), ("y", 3)] = true; decide +kernel)) (fun _ _ _ _ _ _ => (dg_tupK K (n := 2) rfl (dgs_cons (dg_name 2 sc__law_same.nd) (dgs_cons (dg_name 3 sc__law_same.nd) dgs_nil)))) (fun _ _ _ _ _ _ => dts_nil) (fun _ _ _ _ _ _ => (d_fnK h__law_same hr (da_cons (dv 2) (da_cons (dv 3) da_nil))))) da_nil)))))) ds_nil)
      (ds_cons (ds_if (PWV.pt (dw_or (dt_val (d_isi_bool_list_tuple (by rfl) B.isinstance B.bool B.list B.tuple (dv 0))) (dw_or1 (dt_val (d_isi_bool_list_tuple (by rfl) B.isinstance B.bool B.list B.tuple (dv 1)))))) (ds_one (ds_ret (d_and (d_isi_bool (by rfl) B.isinstance B.bool (dv 0)) (d_and (d_isi_bool (by rfl) B.isinstance B.bool (dv 1)) (d_one (d_cmp (o_eqK K hr.units) (dv 0) (dv 1))))))) ds_nil)
      (ds_cons (ds_if (PWV.pt (dw_or (dt_val (d_isi_int (by rfl) B.isinstance B.int (dv 0))) (dw_or1 (dt_val (d_isi_int (by rfl) B.isinstance B.int (dv 1)))))) (ds_one (ds_ret (d_and (d_isi_int (by rfl) B.isinstance B.int (dv 0)) (d_and (d_isi_int (by rfl) B.isinstance B.int (dv 1)) (d_one (d_cmp (o_eqK K hr.units) (dv 0) (dv 1))))))) ds_nil)
      (ds_cons (ds_if (PWV.pt (dw_or (dt_val (d_isi_str (by rfl) B.isinstance B.str (dv 0))) (dw_or1 (dt_val (d_isi_str (by rfl) B.isinstance B.str (dv 1)))))) (ds_one (ds_ret (d_and (d_isi_str (by rfl) B.isinstance B.str (dv 0)) (d_and (d_isi_str (by rfl) B.isinstance B.str (dv 1)) (d_one (d_cmp (o_eqK K hr.units) (dv 0) (dv 1))))))) ds_nil)
      (ds_one (ds_ret (d_and (d_cmp o_isN (dv 0) d_non) (d_one (d_cmp o_isN (dv 1) d_non))))))))), fun ds QD ED hl0 h => ?_⟩
  obtain ⟨d, rfl, hd, q⟩ := h
  have seqC : ∀ (es : List D) (ρ1 : En) (QQ : S → En → Prop), es.length ≤ 100000 → (∀ e ∈ es, ∀ (Q : S → Prop) (E : Str → Prop), Q (.fz (.bl true)) → dp [e, e] Q E) → ρ1 = [some (.fz d), some (.fz d), none, none] → (d = .lst es ∨ d = .tup es) →
      QQ (.ow ((List.replicate es.length true).map D.bl)) ρ1 → xLc (xZip (xCons (xVar 0) (xCons (xVar 1) xNil))) (xGTup 2 (xGCons (xName 2) (xGCons (xName 3) xGNil))) (fun ρ Q => Q true ρ) (xCall 2 dp (fun x => False) (xCons (xVar 2) (xCons (xVar 3) xNil))) [2, 3] ρ1 QQ := fun es ρ1 QQ hl he e1 e2 hq => by
    subst e1
    refine lc_pure es (fun e => .tup [e, e]) (fun _ => true) (fun _ => .bl true) [some (.fz d), some (.fz d), none, none] (fun QL hq => ?_) hl (fun a ha QD QN h1 h2 => ?_) ?_
    · simp only [xSeq, xSet, xRet, xIf, xExpr, xNext, xNever, xC, xNil, xCons, xTup, xLst, xOp, xEq, xNe, xUn, xNot, xAnd, xOr, xIfE, xCB, xCall, xCallB, xName, xAsg, xIsi3, toD_fz, toD_ow, toD_od, toD_bg, rd_var, rd_getv1, rd_getv2, rd_getv3, rd_test, rd_onB, rd_onI, rd_onSB, rd_andV, rd_orV, rd_notV, rd_chain, rd_II, rd_II0, rd_add1, rd_add2, rd_add3, rd_mul1, rd_mul2, rd_mul3, rd_isN, rd_notN, rd_isN1, rd_isN2, rd_isN3, rd_neg, rd_ix1, rd_ix2, rd_part, rd_sl, rd_onSl1, rd_onSl2, rd_rev, rd_onRv, rd_len1, rd_len2, rd_max2, rd_min2, rd_int1, rd_int2, rd_lst1, rd_lst2, rd_tup1, rd_tup2, rd_dm, rd_seqI, rd_onSq1, rd_onSq2, rd_rng1, rd_onR1, rd_rng2, rd_onR2, xEnumT, rd_onEt, rd_zip, rd_onZ1, rd_onZ2, rd_par, rd_onP, xPar3, rd_onP3, rd_gtup, rd_gnil, rd_gcons, rd_isi, ini, iniB, wipeD, unw, kf, List.map_cons, List.map_nil, List.replicate_succ, List.replicate_zero, List.cons_append, List.nil_append, List.length_cons, List.length_nil, List.getElem?_cons_zero, List.getElem?_cons_succ, List.set_cons_zero, List.set_cons_succ, decide_eq_true_eq, Nat.zero_add, Nat.reduceAdd, Nat.reduceSub, Nat.reduceLeDiff, true_and, Bool.false_eq_true, if_false, if_true, isi_int_non, isi_int_bl, isi_int_int, isi_int_str, isi_int_lst, isi_int_tup, isi_bool_non, isi_bool_bl, isi_bool_int, isi_bool_str, isi_bool_lst, isi_bool_tup, isi_list_non, isi_list_bl, isi_list_int, isi_list_str, isi_list_lst, isi_list_tup, isi_tuple_non, isi_tuple_bl, isi_tuple_int, isi_tuple_str, isi_tuple_lst, isi_tuple_tup, isi_str_non, isi_str_bl, isi_str_int, isi_str_str, isi_str_lst, isi_str_tup, Bool.not_true, Bool.not_false, Bool.or_false, Bool.or_true, Bool.false_or, Bool.true_or, ite_true, ite_false, Option.some.injEq, true_or, false_or, or_false, and_true]
      rw [← zip_same] at hq
      rcases e2 with rfl | rfl
      · exact hq
      · exact hq
    · simp only [xSeq, xSet, xRet, xIf, xExpr, xNext, xNever, xC, xNil, xCons, xTup, xLst, xOp, xEq, xNe, xUn, xNot, xAnd, xOr, xIfE, xCB, xCall, xCallB, xName, xAsg, xIsi3, toD_fz, toD_ow, toD_od, toD_bg, rd_var, rd_getv1, rd_getv2, rd_getv3, rd_test, rd_onB, rd_onI, rd_onSB, rd_andV, rd_orV, rd_notV, rd_chain, rd_II, rd_II0, rd_add1, rd_add2, rd_add3, rd_mul1, rd_mul2, rd_mul3, rd_isN, rd_notN, rd_isN1, rd_isN2, rd_isN3, rd_neg, rd_ix1, rd_ix2, rd_part, rd_sl, rd_onSl1, rd_onSl2, rd_rev, rd_onRv, rd_len1, rd_len2, rd_max2, rd_min2, rd_int1, rd_int2, rd_lst1, rd_lst2, rd_tup1, rd_tup2, rd_dm, rd_seqI, rd_onSq1, rd_onSq2, rd_rng1, rd_onR1, rd_rng2, rd_onR2, xEnumT, rd_onEt, rd_zip, rd_onZ1, rd_onZ2, rd_par, rd_onP, xPar3, rd_onP3, rd_gtup, rd_gnil, rd_gcons, rd_isi, ini, iniB, wipeD, unw, kf, List.map_cons, List.map_nil, List.replicate_succ, List.replicate_zero, List.cons_append, List.nil_append, List.length_cons, List.length_nil, List.getElem?_cons_zero, List.getElem?_cons_succ, List.set_cons_zero, List.set_cons_succ, decide_eq_true_eq, Nat.zero_add, Nat.reduceAdd, Nat.reduceSub, Nat.reduceLeDiff, true_and, Bool.false_eq_true, if_false, if_true, isi_int_non, isi_int_bl, isi_int_int, isi_int_str, isi_int_lst, isi_int_tup, isi_bool_non, isi_bool_bl, isi_bool_int, isi_bool_str, isi_bool_lst, isi_bool_tup, isi_list_non, isi_list_bl, isi_list_int, isi_list_str, isi_list_lst, isi_list_tup, isi_tuple_non, isi_tuple_bl, isi_tuple_int, isi_tuple_str, isi_tuple_lst, isi_tuple_tup, isi_str_non, isi_str_bl, isi_str_int, isi_str_str, isi_str_lst, isi_str_tup, Bool.not_true, Bool.not_false, Bool.or_false, Bool.or_true, Bool.false_or, Bool.true_or, ite_true, ite_false, Option.some.injEq, true_or, false_or, or_false, and_true]
      exact he a ha _ _ (h1 rfl)
    · simp only [xSeq, xSet, xRet, xIf, xExpr, xNext, xNever, xC, xNil, xCons, xTup, xLst, xOp, xEq, xNe, xUn, xNot, xAnd, xOr, xIfE, xCB, xCall, xCallB, xName, xAsg, xIsi3, toD_fz, toD_ow, toD_od, toD_bg, rd_var, rd_getv1, rd_getv2, rd_getv3, rd_test, rd_onB, rd_onI, rd_onSB, rd_andV, rd_orV, rd_notV, rd_chain, rd_II, rd_II0, rd_add1, rd_add2, rd_add3, rd_mul1, rd_mul2, rd_mul3, rd_isN, rd_notN, rd_isN1, rd_isN2, rd_isN3, rd_neg, rd_ix1, rd_ix2, rd_part, rd_sl, rd_onSl1, rd_onSl2, rd_rev, rd_onRv, rd_len1, rd_len2, rd_max2, rd_min2, rd_int1, rd_int2, rd_lst1, rd_lst2, rd_tup1, rd_tup2, rd_dm, rd_seqI, rd_onSq1, rd_onSq2, rd_rng1, rd_onR1, rd_rng2, rd_onR2, xEnumT, rd_onEt, rd_zip, rd_onZ1, rd_onZ2, rd_par, rd_onP, xPar3, rd_onP3, rd_gtup, rd_gnil, rd_gcons, rd_isi, ini, iniB, wipeD, unw, kf, List.map_cons, List.map_nil, List.replicate_succ, List.replicate_zero, List.cons_append, List.nil_append, List.length_cons, List.length_nil, List.getElem?_cons_zero, List.getElem?_cons_succ, List.set_cons_zero, List.set_cons_succ, decide_eq_true_eq, Nat.zero_add, Nat.reduceAdd, Nat.reduceSub, Nat.reduceLeDiff, true_and, Bool.false_eq_true, if_false, if_true, isi_int_non, isi_int_bl, isi_int_int, isi_int_str, isi_int_lst, isi_int_tup, isi_bool_non, isi_bool_bl, isi_bool_int, isi_bool_str, isi_bool_lst, isi_bool_tup, isi_list_non, isi_list_bl, isi_list_int, isi_list_str, isi_list_lst, isi_list_tup, isi_tuple_non, isi_tuple_bl, isi_tuple_int, isi_tuple_str, isi_tuple_lst, isi_tuple_tup, isi_str_non, isi_str_bl, isi_str_int, isi_str_str, isi_str_lst, isi_str_tup, Bool.not_true, Bool.not_false, Bool.or_false, Bool.or_true, Bool.false_or, Bool.true_or, ite_true, ite_false, Option.some.injEq, true_or, false_or, or_false, and_true]
      have : (es.filter fun _ => true).map (fun _ => D.bl true) = (List.replicate es.length true).map D.bl := by
        rw [List.map_replicate, List.filter_eq_self.mpr (fun _ _ => rfl)]
        exact List.map_const'
      rw [this]
      exact hq
  cases d with
  | non =>
    simp only [xSeq, xSet, xRet, xIf, xExpr, xNext, xNever, xC, xNil, xCons, xTup, xLst, xOp, xEq, xNe, xUn, xNot, xAnd, xOr, xIfE, xCB, xCall, xCallB, xName, xAsg, xIsi3, toD_fz, toD_ow, toD_od, toD_bg, rd_var, rd_getv1, rd_getv2, rd_getv3, rd_test, rd_onB, rd_onI, rd_onSB, rd_andV, rd_orV, rd_notV, rd_chain, rd_II, rd_II0, rd_add1, rd_add2, rd_add3, rd_mul1, rd_mul2, rd_mul3, rd_isN, rd_notN, rd_isN1, rd_isN2, rd_isN3, rd_neg, rd_ix1, rd_ix2, rd_part, rd_sl, rd_onSl1, rd_onSl2, rd_rev, rd_onRv, rd_len1, rd_len2, rd_max2, rd_min2, rd_int1, rd_int2, rd_lst1, rd_lst2, rd_tup1, rd_tup2, rd_dm, rd_seqI, rd_onSq1, rd_onSq2, rd_rng1, rd_onR1, rd_rng2, rd_onR2, xEnumT, rd_onEt, rd_zip, rd_onZ1, rd_onZ2, rd_par, rd_onP, xPar3, rd_onP3, rd_gtup, rd_gnil, rd_gcons, rd_isi, ini, iniB, wipeD, unw, kf, List.map_cons, List.map_nil, List.replicate_succ, List.replicate_zero, List.cons_append, List.nil_append, List.length_cons, List.length_nil, List.getElem?_cons_zero, List.getElem?_cons_succ, List.set_cons_zero, List.set_cons_succ, decide_eq_true_eq, Nat.zero_add, Nat.reduceAdd, Nat.reduceSub, Nat.reduceLeDiff, true_and, Bool.false_eq_true, if_false, if_true, isi_int_non, isi_int_bl, isi_int_int, isi_int_str, isi_int_lst, isi_int_tup, isi_bool_non, isi_bool_bl, isi_bool_int, isi_bool_str, isi_bool_lst, isi_bool_tup, isi_list_non, isi_list_bl, isi_list_int, isi_list_str, isi_list_lst, isi_list_tup, isi_tuple_non, isi_tuple_bl, isi_tuple_int, isi_tuple_str, isi_tuple_lst, isi_tuple_tup, isi_str_non, isi_str_bl, isi_str_int, isi_str_str, isi_str_lst, isi_str_tup, Bool.not_true, Bool.not_false, Bool.or_false, Bool.or_true, Bool.false_or, Bool.true_or, ite_true, ite_false, Option.some.injEq, true_or, false_or, or_false, and_true, rd_isN1]
    exact q
  | bl b =>
    simp only [xSeq, xSet, xRet, xIf, xExpr, xNext, xNever, xC, xNil, xCons, xTup, xLst, xOp, xEq, xNe, xUn, xNot, xAnd, xOr, xIfE, xCB, xCall, xCallB, xName, xAsg, xIsi3, toD_fz, toD_ow, toD_od, toD_bg, rd_var, rd_getv1, rd_getv2, rd_getv3, rd_test, rd_onB, rd_onI, rd_onSB, rd_andV, rd_orV, rd_notV, rd_chain, rd_II, rd_II0, rd_add1, rd_add2, rd_add3, rd_mul1, rd_mul2, rd_mul3, rd_isN, rd_notN, rd_isN1, rd_isN2, rd_isN3, rd_neg, rd_ix1, rd_ix2, rd_part, rd_sl, rd_onSl1, rd_onSl2, rd_rev, rd_onRv, rd_len1, rd_len2, rd_max2, rd_min2, rd_int1, rd_int2, rd_lst1, rd_lst2, rd_tup1, rd_tup2, rd_dm, rd_seqI, rd_onSq1, rd_onSq2, rd_rng1, rd_onR1, rd_rng2, rd_onR2, xEnumT, rd_onEt, rd_zip, rd_onZ1, rd_onZ2, rd_par, rd_onP, xPar3, rd_onP3, rd_gtup, rd_gnil, rd_gcons, rd_isi, ini, iniB, wipeD, unw, kf, List.map_cons, List.map_nil, List.replicate_succ, List.replicate_zero, List.cons_append, List.nil_append, List.length_cons, List.length_nil, List.getElem?_cons_zero, List.getElem?_cons_succ, List.set_cons_zero, List.set_cons_succ, decide_eq_true_eq, Nat.zero_add, Nat.reduceAdd, Nat.reduceSub, Nat.reduceLeDiff, true_and, Bool.false_eq_true, if_false, if_true, isi_int_non, isi_int_bl, isi_int_int, isi_int_str, isi_int_lst, isi_int_tup, isi_bool_non, isi_bool_bl, isi_bool_int, isi_bool_str, isi_bool_lst, isi_bool_tup, isi_list_non, isi_list_bl, isi_list_int, isi_list_str, isi_list_lst, isi_list_tup, isi_tuple_non, isi_tuple_bl, isi_tuple_int, isi_tuple_str, isi_tuple_lst, isi_tuple_tup, isi_str_non, isi_str_bl, isi_str_int, isi_str_str, isi_str_lst, isi_str_tup, Bool.not_true, Bool.not_false, Bool.or_false, Bool.or_true, Bool.false_or, Bool.true_or, ite_true, ite_false, Option.some.injEq, true_or, false_or, or_false, and_true, eqD_bl]
    exact ⟨rfl, rfl, q⟩
  | int i =>
    simp only [xSeq, xSet, xRet, xIf, xExpr, xNext, xNever, xC, xNil, xCons, xTup, xLst, xOp, xEq, xNe, xUn, xNot, xAnd, xOr, xIfE, xCB, xCall, xCallB, xName, xAsg, xIsi3, toD_fz, toD_ow, toD_od, toD_bg, rd_var, rd_getv1, rd_getv2, rd_getv3, rd_test, rd_onB, rd_onI, rd_onSB, rd_andV, rd_orV, rd_notV, rd_chain, rd_II, rd_II0, rd_add1, rd_add2, rd_add3, rd_mul1, rd_mul2, rd_mul3, rd_isN, rd_notN, rd_isN1, rd_isN2, rd_isN3, rd_neg, rd_ix1, rd_ix2, rd_part, rd_sl, rd_onSl1, rd_onSl2, rd_rev, rd_onRv, rd_len1, rd_len2, rd_max2, rd_min2, rd_int1, rd_int2, rd_lst1, rd_lst2, rd_tup1, rd_tup2, rd_dm, rd_seqI, rd_onSq1, rd_onSq2, rd_rng1, rd_onR1, rd_rng2, rd_onR2, xEnumT, rd_onEt, rd_zip, rd_onZ1, rd_onZ2, rd_par, rd_onP, xPar3, rd_onP3, rd_gtup, rd_gnil, rd_gcons, rd_isi, ini, iniB, wipeD, unw, kf, List.map_cons, List.map_nil, List.replicate_succ, List.replicate_zero, List.cons_append, List.nil_append, List.length_cons, List.length_nil, List.getElem?_cons_zero, List.getElem?_cons_succ, List.set_cons_zero, List.set_cons_succ, decide_eq_true_eq, Nat.zero_add, Nat.reduceAdd, Nat.reduceSub, Nat.reduceLeDiff, true_and, Bool.false_eq_true, if_false, if_true, isi_int_non, isi_int_bl, isi_int_int, isi_int_str, isi_int_lst, isi_int_tup, isi_bool_non, isi_bool_bl, isi_bool_int, isi_bool_str, isi_bool_lst, isi_bool_tup, isi_list_non, isi_list_bl, isi_list_int, isi_list_str, isi_list_lst, isi_list_tup, isi_tuple_non, isi_tuple_bl, isi_tuple_int, isi_tuple_str, isi_tuple_lst, isi_tuple_tup, isi_str_non, isi_str_bl, isi_str_int, isi_str_str, isi_str_lst, isi_str_tup, Bool.not_true, Bool.not_false, Bool.or_false, Bool.or_true, Bool.false_or, Bool.true_or, ite_true, ite_false, Option.some.injEq, true_or, false_or, or_false, and_true, eqD_int, decide_true]
    exact ⟨rfl, rfl, q⟩
  | str x =>
    have hx : okD 8 (.str x) = true := by cases m <;> exact hd
    simp only [xSeq, xSet, xRet, xIf, xExpr, xNext, xNever, xC, xNil, xCons, xTup, xLst, xOp, xEq, xNe, xUn, xNot, xAnd, xOr, xIfE, xCB, xCall, xCallB, xName, xAsg, xIsi3, toD_fz, toD_ow, toD_od, toD_bg, rd_var, rd_getv1, rd_getv2, rd_getv3, rd_test, rd_onB, rd_onI, rd_onSB, rd_andV, rd_orV, rd_notV, rd_chain, rd_II, rd_II0, rd_add1, rd_add2, rd_add3, rd_mul1, rd_mul2, rd_mul3, rd_isN, rd_notN, rd_isN1, rd_isN2, rd_isN3, rd_neg, rd_ix1, rd_ix2, rd_part, rd_sl, rd_onSl1, rd_onSl2, rd_rev, rd_onRv, rd_len1, rd_len2, rd_max2, rd_min2, rd_int1, rd_int2, rd_lst1, rd_lst2, rd_tup1, rd_tup2, rd_dm, rd_seqI, rd_onSq1, rd_onSq2, rd_rng1, rd_onR1, rd_rng2, rd_onR2, xEnumT, rd_onEt, rd_zip, rd_onZ1, rd_onZ2, rd_par, rd_onP, xPar3, rd_onP3, rd_gtup, rd_gnil, rd_gcons, rd_isi, ini, iniB, wipeD, unw, kf, List.map_cons, List.map_nil, List.replicate_succ, List.replicate_zero, List.cons_append, List.nil_append, List.length_cons, List.length_nil, List.getElem?_cons_zero, List.getElem?_cons_succ, List.set_cons_zero, List.set_cons_succ, decide_eq_true_eq, Nat.zero_add, Nat.reduceAdd, Nat.reduceSub, Nat.reduceLeDiff, true_and, Bool.false_eq_true, if_false, if_true, isi_int_non, isi_int_bl, isi_int_int, isi_int_str, isi_int_lst, isi_int_tup, isi_bool_non, isi_bool_bl, isi_bool_int, isi_bool_str, isi_bool_lst, isi_bool_tup, isi_list_non, isi_list_bl, isi_list_int, isi_list_str, isi_list_lst, isi_list_tup, isi_tuple_non, isi_tuple_bl, isi_tuple_int, isi_tuple_str, isi_tuple_lst, isi_tuple_tup, isi_str_non, isi_str_bl, isi_str_int, isi_str_str, isi_str_lst, isi_str_tup, Bool.not_true, Bool.not_false, Bool.or_false, Bool.or_true, Bool.false_or, Bool.true_or, ite_true, ite_false, Option.some.injEq, true_or, false_or, or_false, and_true, eqD_str]
    exact ⟨hx, hx, q⟩
  | lst es =>
    cases m with
    | zero => cases hd
    | succ m =>
      simp only [sm, Bool.and_eq_true, decide_eq_true_eq] at hd
      simp only [xSeq, xSet, xRet, xIf, xExpr, xNext, xNever, xC, xNil, xCons, xTup, xLst, xOp, xEq, xNe, xUn, xNot, xAnd, xOr, xIfE, xCB, xCall, xCallB, xName, xAsg, xIsi3, toD_fz, toD_ow, toD_od, toD_bg, rd_var, rd_getv1, rd_getv2, rd_getv3, rd_test, rd_onB, rd_onI, rd_onSB, rd_andV, rd_orV, rd_notV, rd_chain, rd_II, rd_II0, rd_add1, rd_add2, rd_add3, rd_mul1, rd_mul2, rd_mul3, rd_isN, rd_notN, rd_isN1, rd_isN2, rd_isN3, rd_neg, rd_ix1, rd_ix2, rd_part, rd_sl, rd_onSl1, rd_onSl2, rd_rev, rd_onRv, rd_len1, rd_len2, rd_max2, rd_min2, rd_int1, rd_int2, rd_lst1, rd_lst2, rd_tup1, rd_tup2, rd_dm, rd_seqI, rd_onSq1, rd_onSq2, rd_rng1, rd_onR1, rd_rng2, rd_onR2, xEnumT, rd_onEt, rd_zip, rd_onZ1, rd_onZ2, rd_par, rd_onP, xPar3, rd_onP3, rd_gtup, rd_gnil, rd_gcons, rd_isi, ini, iniB, wipeD, unw, kf, List.map_cons, List.map_nil, List.replicate_succ, List.replicate_zero, List.cons_append, List.nil_append, List.length_cons, List.length_nil, List.getElem?_cons_zero, List.getElem?_cons_succ, List.set_cons_zero, List.set_cons_succ, decide_eq_true_eq, Nat.zero_add, Nat.reduceAdd, Nat.reduceSub, Nat.reduceLeDiff, true_and, Bool.false_eq_true, if_false, if_true, isi_int_non, isi_int_bl, isi_int_int, isi_int_str, isi_int_lst, isi_int_tup, isi_bool_non, isi_bool_bl, isi_bool_int, isi_bool_str, isi_bool_lst, isi_bool_tup, isi_list_non, isi_list_bl, isi_list_int, isi_list_str, isi_list_lst, isi_list_tup, isi_tuple_non, isi_tuple_bl, isi_tuple_int, isi_tuple_str, isi_tuple_lst, isi_tuple_tup, isi_str_non, isi_str_bl, isi_str_int, isi_str_str, isi_str_lst, isi_str_tup, Bool.not_true, Bool.not_false, Bool.or_false, Bool.or_true, Bool.false_or, Bool.true_or, ite_true, ite_false, Option.some.injEq, true_or, false_or, or_false, and_true, eqD_int, decide_true]
      refine ⟨rfl, rfl, seqC es _ _ hd.1 (fun e he Q E => hh m rfl e Q E (sms_mem hd.2 e he)) rfl (.inl rfl) ?_⟩
      simp only [xSeq, xSet, xRet, xIf, xExpr, xNext, xNever, xC, xNil, xCons, xTup, xLst, xOp, xEq, xNe, xUn, xNot, xAnd, xOr, xIfE, xCB, xCall, xCallB, xName, xAsg, xIsi3, toD_fz, toD_ow, toD_od, toD_bg, rd_var, rd_getv1, rd_getv2, rd_getv3, rd_test, rd_onB, rd_onI, rd_onSB, rd_andV, rd_orV, rd_notV, rd_chain, rd_II, rd_II0, rd_add1, rd_add2, rd_add3, rd_mul1, rd_mul2, rd_mul3, rd_isN, rd_notN, rd_isN1, rd_isN2, rd_isN3, rd_neg, rd_ix1, rd_ix2, rd_part, rd_sl, rd_onSl1, rd_onSl2, rd_rev, rd_onRv, rd_len1, rd_len2, rd_max2, rd_min2, rd_int1, rd_int2, rd_lst1, rd_lst2, rd_tup1, rd_tup2, rd_dm, rd_seqI, rd_onSq1, rd_onSq2, rd_rng1, rd_onR1, rd_rng2, rd_onR2, xEnumT, rd_onEt, rd_zip, rd_onZ1, rd_onZ2, rd_par, rd_onP, xPar3, rd_onP3, rd_gtup, rd_gnil, rd_gcons, rd_isi, ini, iniB, wipeD, unw, kf, List.map_cons, List.map_nil, List.replicate_succ, List.replicate_zero, List.cons_append, List.nil_append, List.length_cons, List.length_nil, List.getElem?_cons_zero, List.getElem?_cons_succ, List.set_cons_zero, List.set_cons_succ, decide_eq_true_eq, Nat.zero_add, Nat.reduceAdd, Nat.reduceSub, Nat.reduceLeDiff, true_and, Bool.false_eq_true, if_false, if_true, isi_int_non, isi_int_bl, isi_int_int, isi_int_str, isi_int_lst, isi_int_tup, isi_bool_non, isi_bool_bl, isi_bool_int, isi_bool_str, isi_bool_lst, isi_bool_tup, isi_list_non, isi_list_bl, isi_list_int, isi_list_str, isi_list_lst, isi_list_tup, isi_tuple_non, isi_tuple_bl, isi_tuple_int, isi_tuple_str, isi_tuple_lst, isi_tuple_tup, isi_str_non, isi_str_bl, isi_str_int, isi_str_str, isi_str_lst, isi_str_tup, Bool.not_true, Bool.not_false, Bool.or_false, Bool.or_true, Bool.false_or, Bool.true_or, ite_true, ite_false, Option.some.injEq, true_or, false_or, or_false, and_true]
      refine ⟨_, rfl, ?_⟩
      rw [replicate_all]
      exact q
  | tup es =>
    cases m with
    | zero => cases hd
    | succ m =>
      simp only [sm, Bool.and_eq_true, decide_eq_true_eq] at hd
      simp only [xSeq, xSet, xRet, xIf, xExpr, xNext, xNever, xC, xNil, xCons, xTup, xLst, xOp, xEq, xNe, xUn, xNot, xAnd, xOr, xIfE, xCB, xCall, xCallB, xName, xAsg, xIsi3, toD_fz, toD_ow, toD_od, toD_bg, rd_var, rd_getv1, rd_getv2, rd_getv3, rd_test, rd_onB, rd_onI, rd_onSB, rd_andV, rd_orV, rd_notV, rd_chain, rd_II, rd_II0, rd_add1, rd_add2, rd_add3, rd_mul1, rd_mul2, rd_mul3, rd_isN, rd_notN, rd_isN1, rd_isN2, rd_isN3, rd_neg, rd_ix1, rd_ix2, rd_part, rd_sl, rd_onSl1, rd_onSl2, rd_rev, rd_onRv, rd_len1, rd_len2, rd_max2, rd_min2, rd_int1, rd_int2, rd_lst1, rd_lst2, rd_tup1, rd_tup2, rd_dm, rd_seqI, rd_onSq1, rd_onSq2, rd_rng1, rd_onR1, rd_rng2, rd_onR2, xEnumT, rd_onEt, rd_zip, rd_onZ1, rd_onZ2, rd_par, rd_onP, xPar3, rd_onP3, rd_gtup, rd_gnil, rd_gcons, rd_isi, ini, iniB, wipeD, unw, kf, List.map_cons, List.map_nil, List.replicate_succ, List.replicate_zero, List.cons_append, List.nil_append, List.length_cons, List.length_nil, List.getElem?_cons_zero, List.getElem?_cons_succ, List.set_cons_zero, List.set_cons_succ, decide_eq_true_eq, Nat.zero_add, Nat.reduceAdd, Nat.reduceSub, Nat.reduceLeDiff, true_and, Bool.false_eq_true, if_false, if_true, isi_int_non, isi_int_bl, isi_int_int, isi_int_str, isi_int_lst, isi_int_tup, isi_bool_non, isi_bool_bl, isi_bool_int, isi_bool_str, isi_bool_lst, isi_bool_tup, isi_list_non, isi_list_bl, isi_list_int, isi_list_str, isi_list_lst, isi_list_tup, isi_tuple_non, isi_tuple_bl, isi_tuple_int, isi_tuple_str, isi_tuple_lst, isi_tuple_tup, isi_str_non, isi_str_bl, isi_str_int, isi_str_str, isi_str_lst, isi_str_tup, Bool.not_true, Bool.not_false, Bool.or_false, Bool.or_true, Bool.false_or, Bool.true_or, ite_true, ite_false, Option.some.injEq, true_or, false_or, or_false, and_true, eqD_int, decide_true]
      refine ⟨rfl, rfl, seqC es _ _ hd.1 (fun e he Q E => hh m rfl e Q E (sms_mem hd.2 e he)) rfl (.inr rfl) ?_⟩
      simp only [xSeq, xSet, xRet, xIf, xExpr, xNext, xNever, xC, xNil, xCons, xTup, xLst, xOp, xEq, xNe, xUn, xNot, xAnd, xOr, xIfE, xCB, xCall, xCallB, xName, xAsg, xIsi3, toD_fz, toD_ow, toD_od, toD_bg, rd_var, rd_getv1, rd_getv2, rd_getv3, rd_test, rd_onB, rd_onI, rd_onSB, rd_andV, rd_orV, rd_notV, rd_chain, rd_II, rd_II0, rd_add1, rd_add2, rd_add3, rd_mul1, rd_mul2, rd_mul3, rd_isN, rd_notN, rd_isN1, rd_isN2, rd_isN3, rd_neg, rd_ix1, rd_ix2, rd_part, rd_sl, rd_onSl1, rd_onSl2, rd_rev, rd_onRv, rd_len1, rd_len2, rd_max2, rd_min2, rd_int1, rd_int2, rd_lst1, rd_lst2, rd_tup1, rd_tup2, rd_dm, rd_seqI, rd_onSq1, rd_onSq2, rd_rng1, rd_onR1, rd_rng2, rd_onR2, xEnumT, rd_onEt, rd_zip, rd_onZ1, rd_onZ2, rd_par, rd_onP, xPar3, rd_onP3, rd_gtup, rd_gnil, rd_gcons, rd_isi, ini, iniB, wipeD, unw, kf, List.map_cons, List.map_nil, List.replicate_succ, List.replicate_zero, List.cons_append, List.nil_append, List.length_cons, List.length_nil, List.getElem?_cons_zero, List.getElem?_cons_succ, List.set_cons_zero, List.set_cons_succ, decide_eq_true_eq, Nat.zero_add, Nat.reduceAdd, Nat.reduceSub, Nat.reduceLeDiff, true_and, Bool.false_eq_true, if_false, if_true, isi_int_non, isi_int_bl, isi_int_int, isi_int_str, isi_int_lst, isi_int_tup, isi_bool_non, isi_bool_bl, isi_bool_int, isi_bool_str, isi_bool_lst, isi_bool_tup, isi_list_non, isi_list_bl, isi_list_int, isi_list_str, isi_list_lst, isi_list_tup, isi_tuple_non, isi_tuple_bl, isi_tuple_int, isi_tuple_str, isi_tuple_lst, isi_tuple_tup, isi_str_non, isi_str_bl, isi_str_int, isi_str_str, isi_str_lst, isi_str_tup, Bool.not_true, Bool.not_false, Bool.or_false, Bool.or_true, Bool.false_or, Bool.true_or, ite_true, ite_false, Option.some.injEq, true_or, false_or, or_false, and_true]
      refine ⟨_, rfl, ?_⟩
      rw [replicate_all]
      exact q
  | dct ks es => cases m <;> cases hd
theorem ok__law_same {P : Program} {w : World} {K : PySem.W.Frag} {mg : Str → Option Value} {base : Heap} (B : Bt mg) (d : Df K mg "_law_same" s__law_same ["a", "b"]) : Fn P w K mg base "_law_same" 4 2 dp__law_same := by
  have f0 := same_step B d (fn_void (P := P) (w := w) (base := base) 2 d rfl) 0 (fun m' e => by omega)
  have st : ∀ m, ∀ m', m + 1 = m' + 1 → ∀ (d : D) (Q : S → Prop) (E : Str → Prop), sm m' d = true → Q (.fz (.bl true)) → dp_same m [d, d] Q E := fun m m' e d Q E h q => by
    have : m = m' := by omega
    subst this
    exact ⟨d, rfl, h, q⟩
  exact same_step B d (same_step B d (same_step B d f0 1 (st 0)) 2 (st 1)) 3 (st 2)

theorem ks_small {ks : List Int} {top : Int} (hn : ks.Nodup) (h : ∀ k ∈ ks, 1 ≤ k ∧ k ≤ top) : True := trivial
def strictDown (ns : List Int) : Prop := ns.Pairwise (· > ·)
theorem falling_of : ∀ {ns : List Int}, ns.Pairwise (· > ·) → falling ns = true
  | [], _ => rfl
  | [_], _ => rfl
  | x :: y :: r, h => by
    obtain ⟨h1, h2⟩ := List.pairwise_cons.mp h
    simp only [falling, Bool.and_eq_true, decide_eq_true_eq]
    exact ⟨h1 y (by simp), falling_of h2⟩
theorem down_of {ks ys : List Int} (hn : ks.Nodup) (pm : ys.Perm ks) (pw : ys.Pairwise (· ≥ ·)) : ys.Pairwise (· > ·) := by
  have hn2 : ys.Nodup := pm.nodup_iff.mpr hn
  exact (pw.and hn2).imp fun ⟨a, b⟩ => by omega
theorem okAll_iff {top : Int} {ns : List Int} : okAll top ns = true ↔ ∀ x ∈ ns, 1 ≤ x ∧ x ≤ top := by
  unfold okAll
  rw [List.all_map, List.all_eq_true]
  simp
def MarksP (top most : Int) (ns : List Int) : Prop := (ns.length : Int) ≤ most ∧ ns.Pairwise (· > ·) ∧ ∀ x ∈ ns, 1 ≤ x ∧ x ≤ top
theorem MarksP.ok {top most : Int} {ns : List Int} (h : MarksP top most ns) (hm : most ≤ 8) : isMarks top ns = true := by
  unfold isMarks
  rw [decide_eq_true (show ns.length ≤ 8 by have := h.1; omega), Bool.true_and, okAll_iff.mpr h.2.2, Bool.true_and]
  exact falling_of h.2.1
theorem MarksP.sub {top most : Int} {ms ns : List Int} (h : MarksP top most ms) (s : ns.Sublist ms) : MarksP top most ns :=
  ⟨by have := s.length_le; have := h.1; omega, h.2.1.sublist s, fun x hx => h.2.2 x (s.subset hx)⟩
def dp__law_marks : DB := fun bd ds Q => ∃ (m : Nat) (top most : Int), bagOK m bd ∧ m ≤ 900000 ∧ ds = [.int top, .int most] ∧ 1 ≤ top ∧ top ≤ 1000 ∧ 0 ≤ most ∧ most ≤ 100 ∧
  ∀ (ns : List Int) (bd' : List D), MarksP top most ns → bagOK (m + 200) bd' → Q (.fz (.tup (ns.map D.int))) bd'
theorem putKs_nd {ks : List Int} {k : Int} (h : ks.Nodup) : (putKs ks k).Nodup := by
  unfold putKs
  split
  · exact h
  · rename_i hk
    exact List.nodup_append.mpr ⟨h, by simp, fun a ha b hb => by simp at hb; subst hb; exact fun e => hk (e ▸ ha)⟩
theorem putKs_mem {ks : List Int} {k x : Int} (h : x ∈ putKs ks k) : x ∈ ks ∨ x = k := by
  unfold putKs at h
  split at h
  · exact .inl h
  · simpa using h
theorem putKs_le (ks : List Int) (k : Int) : (putKs ks k).length ≤ ks.length + 1 := by
  unfold putKs
  split <;> simp

abbrev s__law_marks : Stmt := topS 38
theorem sc__law_marks : FnScope ["bag", "top", "most", "found", "turn"] ["bag", "top", "most"] (defScope s__law_marks) := ⟨rfl, rfl, rfl, by decide +kernel, rfl, by decide +kernel, by decide +kernel⟩
theorem ok__law_marks {P : Program} {w : World} {K : PySem.W.Frag} {mg : Str → Option Value} {base : Heap} (B : Bt mg) (d : Df K mg "_law_marks" s__law_marks ["bag", "top", "most"]) (h__law_take : FnB P w K mg base "_law_take" 1 1 dp__law_take) : FnB P w K mg base "_law_marks" (1 + 1) 2 dp__law_marks := by
  refine fn_mkB d sc__law_marks rfl (by decide) fun f cdv A outer s H E C hr => ⟨_, _, (ds_cons (ds_set 3 sc__law_marks.nd d_dnew)
      (ds_cons (ds_for PassesOwn.never rfl (di_range1 (by rfl) B.range (da_cons (d_fnBK 0 h__law_take (hr.mono (by decide)) (da_cons (d_op (o_addK K) (dv 2) d_int) da_nil)) da_nil)) (dg_name 4 sc__law_marks.nd) (ds_one (ds_dput 3 (hu_of hr) d_bl (d_op (o_addK K) d_int (d_fnBK 0 h__law_take (hr.mono (by decide)) (da_cons (dv 1) da_nil))))))
      (ds_one (ds_ret (d_callTy (c_tupleK K) (by rfl) B.tuple (by decide +kernel) (da_cons (d_sortedDR rfl (by rfl) B.sorted (da_cons (dv 3) da_nil)) da_nil)))))), fun bd ds QD hl0 h => ?_⟩
  obtain ⟨a0, a1, rfl⟩ : ∃ a0 a1, ds = [a0, a1] := by
    match ds, hl0 with
    | [a0, a1], _ => exact ⟨a0, a1, rfl⟩
  clear hl0
  obtain ⟨m, top, most, hb, hm, e, t1, t2, m1, m2, q⟩ := h
  cases e
  simp only [xSeq, xSet, xRet, xIf, xExpr, xNext, xNever, xC, xNil, xCons, xTup, xLst, xOp, xEq, xNe, xUn, xNot, xAnd, xOr, xIfE, xCB, xCall, xCallB, xName, xAsg, xIsi3, toD_fz, toD_ow, toD_od, toD_bg, rd_var, rd_getv1, rd_getv2, rd_getv3, rd_test, rd_onB, rd_onI, rd_onSB, rd_andV, rd_orV, rd_notV, rd_chain, rd_II, rd_II0, rd_add1, rd_add2, rd_add3, rd_mul1, rd_mul2, rd_mul3, rd_isN, rd_notN, rd_isN1, rd_isN2, rd_isN3, rd_neg, rd_ix1, rd_ix2, rd_part, rd_sl, rd_onSl1, rd_onSl2, rd_rev, rd_onRv, rd_len1, rd_len2, rd_max2, rd_min2, rd_int1, rd_int2, rd_lst1, rd_lst2, rd_tup1, rd_tup2, rd_dm, rd_seqI, rd_onSq1, rd_onSq2, rd_rng1, rd_onR1, rd_rng2, rd_onR2, xEnumT, rd_onEt, rd_zip, rd_onZ1, rd_onZ2, rd_par, rd_onP, xPar3, rd_onP3, rd_gtup, rd_gnil, rd_gcons, rd_isi, ini, iniB, wipeD, unw, kf, List.map_cons, List.map_nil, List.replicate_succ, List.replicate_zero, List.cons_append, List.nil_append, List.length_cons, List.length_nil, List.getElem?_cons_zero, List.getElem?_cons_succ, List.set_cons_zero, List.set_cons_succ, decide_eq_true_eq, Nat.zero_add, Nat.reduceAdd, Nat.reduceSub, Nat.reduceLeDiff, true_and, Bool.false_eq_true, if_false, if_true, isi_int_non, isi_int_bl, isi_int_int, isi_int_str, isi_int_lst, isi_int_tup, isi_bool_non, isi_bool_bl, isi_bool_int, isi_bool_str, isi_bool_lst, isi_bool_tup, isi_list_non, isi_list_bl, isi_list_int, isi_list_str, isi_list_lst, isi_list_tup, isi_tuple_non, isi_tuple_bl, isi_tuple_int, isi_tuple_str, isi_tuple_lst, isi_tuple_tup, isi_str_non, isi_str_bl, isi_str_int, isi_str_str, isi_str_lst, isi_str_tup, Bool.not_true, Bool.not_false, Bool.or_false, Bool.or_true, Bool.false_or, Bool.true_or, ite_true, ite_false, Option.some.injEq, true_or, false_or, or_false, and_true, rd_isOwn, rd_own1, rd_own2, rd_own3, rd_ixO, rd_onIx1, rd_onIx2, rd_store, rd_onStore1, rd_onStore2, ex_eq, xApp, xDput, S.ow.injEq, S.bg.injEq, S.od.injEq, reduceCtorEq, exists_eq_left', exists_eq_left, exists_eq', D.int.injEq, atI_c0, atI_c1, atI_c2, ixN3_0, ixN3_1, ixN3_2, false_and, and_self, xFor]
  refine ⟨m, most + 1, hb, by omega, rfl, by omega, by omega, fun r b1 h0 h1 hb1 => ?_⟩
  simp only [xSeq, xSet, xRet, xIf, xExpr, xNext, xNever, xC, xNil, xCons, xTup, xLst, xOp, xEq, xNe, xUn, xNot, xAnd, xOr, xIfE, xCB, xCall, xCallB, xName, xAsg, xIsi3, toD_fz, toD_ow, toD_od, toD_bg, rd_var, rd_getv1, rd_getv2, rd_getv3, rd_test, rd_onB, rd_onI, rd_onSB, rd_andV, rd_orV, rd_notV, rd_chain, rd_II, rd_II0, rd_add1, rd_add2, rd_add3, rd_mul1, rd_mul2, rd_mul3, rd_isN, rd_notN, rd_isN1, rd_isN2, rd_isN3, rd_neg, rd_ix1, rd_ix2, rd_part, rd_sl, rd_onSl1, rd_onSl2, rd_rev, rd_onRv, rd_len1, rd_len2, rd_max2, rd_min2, rd_int1, rd_int2, rd_lst1, rd_lst2, rd_tup1, rd_tup2, rd_dm, rd_seqI, rd_onSq1, rd_onSq2, rd_rng1, rd_onR1, rd_rng2, rd_onR2, xEnumT, rd_onEt, rd_zip, rd_onZ1, rd_onZ2, rd_par, rd_onP, xPar3, rd_onP3, rd_gtup, rd_gnil, rd_gcons, rd_isi, ini, iniB, wipeD, unw, kf, List.map_cons, List.map_nil, List.replicate_succ, List.replicate_zero, List.cons_append, List.nil_append, List.length_cons, List.length_nil, List.getElem?_cons_zero, List.getElem?_cons_succ, List.set_cons_zero, List.set_cons_succ, decide_eq_true_eq, Nat.zero_add, Nat.reduceAdd, Nat.reduceSub, Nat.reduceLeDiff, true_and, Bool.false_eq_true, if_false, if_true, isi_int_non, isi_int_bl, isi_int_int, isi_int_str, isi_int_lst, isi_int_tup, isi_bool_non, isi_bool_bl, isi_bool_int, isi_bool_str, isi_bool_lst, isi_bool_tup, isi_list_non, isi_list_bl, isi_list_int, isi_list_str, isi_list_lst, isi_list_tup, isi_tuple_non, isi_tuple_bl, isi_tuple_int, isi_tuple_str, isi_tuple_lst, isi_tuple_tup, isi_str_non, isi_str_bl, isi_str_int, isi_str_str, isi_str_lst, isi_str_tup, Bool.not_true, Bool.not_false, Bool.or_false, Bool.or_true, Bool.false_or, Bool.true_or, ite_true, ite_false, Option.some.injEq, true_or, false_or, or_false, and_true, rd_isOwn, rd_own1, rd_own2, rd_own3, rd_ixO, rd_onIx1, rd_onIx2, rd_store, rd_onStore1, rd_onStore2, ex_eq, xApp, xDput, S.ow.injEq, S.bg.injEq, S.od.injEq, reduceCtorEq, exists_eq_left', exists_eq_left, exists_eq', D.int.injEq, atI_c0, atI_c1, atI_c2, ixN3_0, ixN3_1, ixN3_2, false_and, and_self]
  refine ⟨by omega, by omega, fun i ρ => ∃ bd ks vs x, ρ = [some (.bg bd), some (.fz (.int top)), some (.fz (.int most)), some (.od ks vs), x] ∧ bagOK (m + 1 + i) bd ∧ ks.Nodup ∧ ks.length ≤ i ∧ ∀ k ∈ ks, 1 ≤ k ∧ k ≤ top,
    ⟨b1, [], [], none, rfl, hb1, List.nodup_nil, Nat.le_refl _, fun k hk => by cases hk⟩, fun i d ρ hd hI => ?_, fun ρ hI => ?_⟩
  · obtain ⟨bd, ks, vs, x, rfl, hb, nd, hl, hk⟩ := hI
    obtain ⟨hi, rfl⟩ := rngD_get hd
    simp only [xSeq, xSet, xRet, xIf, xExpr, xNext, xNever, xC, xNil, xCons, xTup, xLst, xOp, xEq, xNe, xUn, xNot, xAnd, xOr, xIfE, xCB, xCall, xCallB, xName, xAsg, xIsi3, toD_fz, toD_ow, toD_od, toD_bg, rd_var, rd_getv1, rd_getv2, rd_getv3, rd_test, rd_onB, rd_onI, rd_onSB, rd_andV, rd_orV, rd_notV, rd_chain, rd_II, rd_II0, rd_add1, rd_add2, rd_add3, rd_mul1, rd_mul2, rd_mul3, rd_isN, rd_notN, rd_isN1, rd_isN2, rd_isN3, rd_neg, rd_ix1, rd_ix2, rd_part, rd_sl, rd_onSl1, rd_onSl2, rd_rev, rd_onRv, rd_len1, rd_len2, rd_max2, rd_min2, rd_int1, rd_int2, rd_lst1, rd_lst2, rd_tup1, rd_tup2, rd_dm, rd_seqI, rd_onSq1, rd_onSq2, rd_rng1, rd_onR1, rd_rng2, rd_onR2, xEnumT, rd_onEt, rd_zip, rd_onZ1, rd_onZ2, rd_par, rd_onP, xPar3, rd_onP3, rd_gtup, rd_gnil, rd_gcons, rd_isi, ini, iniB, wipeD, unw, kf, List.map_cons, List.map_nil, List.replicate_succ, List.replicate_zero, List.cons_append, List.nil_append, List.length_cons, List.length_nil, List.getElem?_cons_zero, List.getElem?_cons_succ, List.set_cons_zero, List.set_cons_succ, decide_eq_true_eq, Nat.zero_add, Nat.reduceAdd, Nat.reduceSub, Nat.reduceLeDiff, true_and, Bool.false_eq_true, if_false, if_true, isi_int_non, isi_int_bl, isi_int_int, isi_int_str, isi_int_lst, isi_int_tup, isi_bool_non, isi_bool_bl, isi_bool_int, isi_bool_str, isi_bool_lst, isi_bool_tup, isi_list_non, isi_list_bl, isi_list_int, isi_list_str, isi_list_lst, isi_list_tup, isi_tuple_non, isi_tuple_bl, isi_tuple_int, isi_tuple_str, isi_tuple_lst, isi_tuple_tup, isi_str_non, isi_str_bl, isi_str_int, isi_str_str, isi_str_lst, isi_str_tup, Bool.not_true, Bool.not_false, Bool.or_false, Bool.or_true, Bool.false_or, Bool.true_or, ite_true, ite_false, Option.some.injEq, true_or, false_or, or_false, and_true, rd_isOwn, rd_own1, rd_own2, rd_own3, rd_ixO, rd_onIx1, rd_onIx2, rd_store, rd_onStore1, rd_onStore2, ex_eq, xApp, xDput, S.ow.injEq, S.bg.injEq, S.od.injEq, reduceCtorEq, exists_eq_left', exists_eq_left, exists_eq', D.int.injEq, atI_c0, atI_c1, atI_c2, ixN3_0, ixN3_1, ixN3_2, false_and, and_self]
    refine ⟨⟨ks, vs, rfl, rfl⟩, m + 1 + i, top, hb, by omega, rfl, t1, by omega, fun r2 b2 g0 g1 hb2 => ?_⟩
    simp only [xSeq, xSet, xRet, xIf, xExpr, xNext, xNever, xC, xNil, xCons, xTup, xLst, xOp, xEq, xNe, xUn, xNot, xAnd, xOr, xIfE, xCB, xCall, xCallB, xName, xAsg, xIsi3, toD_fz, toD_ow, toD_od, toD_bg, rd_var, rd_getv1, rd_getv2, rd_getv3, rd_test, rd_onB, rd_onI, rd_onSB, rd_andV, rd_orV, rd_notV, rd_chain, rd_II, rd_II0, rd_add1, rd_add2, rd_add3, rd_mul1, rd_mul2, rd_mul3, rd_isN, rd_notN, rd_isN1, rd_isN2, rd_isN3, rd_neg, rd_ix1, rd_ix2, rd_part, rd_sl, rd_onSl1, rd_onSl2, rd_rev, rd_onRv, rd_len1, rd_len2, rd_max2, rd_min2, rd_int1, rd_int2, rd_lst1, rd_lst2, rd_tup1, rd_tup2, rd_dm, rd_seqI, rd_onSq1, rd_onSq2, rd_rng1, rd_onR1, rd_rng2, rd_onR2, xEnumT, rd_onEt, rd_zip, rd_onZ1, rd_onZ2, rd_par, rd_onP, xPar3, rd_onP3, rd_gtup, rd_gnil, rd_gcons, rd_isi, ini, iniB, wipeD, unw, kf, List.map_cons, List.map_nil, List.replicate_succ, List.replicate_zero, List.cons_append, List.nil_append, List.length_cons, List.length_nil, List.getElem?_cons_zero, List.getElem?_cons_succ, List.set_cons_zero, List.set_cons_succ, decide_eq_true_eq, Nat.zero_add, Nat.reduceAdd, Nat.reduceSub, Nat.reduceLeDiff, true_and, Bool.false_eq_true, if_false, if_true, isi_int_non, isi_int_bl, isi_int_int, isi_int_str, isi_int_lst, isi_int_tup, isi_bool_non, isi_bool_bl, isi_bool_int, isi_bool_str, isi_bool_lst, isi_bool_tup, isi_list_non, isi_list_bl, isi_list_int, isi_list_str, isi_list_lst, isi_list_tup, isi_tuple_non, isi_tuple_bl, isi_tuple_int, isi_tuple_str, isi_tuple_lst, isi_tuple_tup, isi_str_non, isi_str_bl, isi_str_int, isi_str_str, isi_str_lst, isi_str_tup, Bool.not_true, Bool.not_false, Bool.or_false, Bool.or_true, Bool.false_or, Bool.true_or, ite_true, ite_false, Option.some.injEq, true_or, false_or, or_false, and_true, rd_isOwn, rd_own1, rd_own2, rd_own3, rd_ixO, rd_onIx1, rd_onIx2, rd_store, rd_onStore1, rd_onStore2, ex_eq, xApp, xDput, S.ow.injEq, S.bg.injEq, S.od.injEq, reduceCtorEq, exists_eq_left', exists_eq_left, exists_eq', D.int.injEq, atI_c0, atI_c1, atI_c2, ixN3_0, ixN3_1, ixN3_2, false_and, and_self]
    refine ⟨ks, vs, ⟨rfl, rfl⟩, by omega, _, _, _, _, rfl, hb2, putKs_nd nd, ?_, fun k hk2 => ?_⟩
    · have := putKs_le ks (1 + r2)
      omega
    · rcases putKs_mem hk2 with h | rfl
      · exact hk k h
      · omega
  · obtain ⟨bd, ks, vs, x, rfl, hb, nd, hl, hk⟩ := hI
    rw [rngD_len] at hb hl
    simp only [xSeq, xSet, xRet, xIf, xExpr, xNext, xNever, xC, xNil, xCons, xTup, xLst, xOp, xEq, xNe, xUn, xNot, xAnd, xOr, xIfE, xCB, xCall, xCallB, xName, xAsg, xIsi3, toD_fz, toD_ow, toD_od, toD_bg, rd_var, rd_getv1, rd_getv2, rd_getv3, rd_test, rd_onB, rd_onI, rd_onSB, rd_andV, rd_orV, rd_notV, rd_chain, rd_II, rd_II0, rd_add1, rd_add2, rd_add3, rd_mul1, rd_mul2, rd_mul3, rd_isN, rd_notN, rd_isN1, rd_isN2, rd_isN3, rd_neg, rd_ix1, rd_ix2, rd_part, rd_sl, rd_onSl1, rd_onSl2, rd_rev, rd_onRv, rd_len1, rd_len2, rd_max2, rd_min2, rd_int1, rd_int2, rd_lst1, rd_lst2, rd_tup1, rd_tup2, rd_dm, rd_seqI, rd_onSq1, rd_onSq2, rd_rng1, rd_onR1, rd_rng2, rd_onR2, xEnumT, rd_onEt, rd_zip, rd_onZ1, rd_onZ2, rd_par, rd_onP, xPar3, rd_onP3, rd_gtup, rd_gnil, rd_gcons, rd_isi, ini, iniB, wipeD, unw, kf, List.map_cons, List.map_nil, List.replicate_succ, List.replicate_zero, List.cons_append, List.nil_append, List.length_cons, List.length_nil, List.getElem?_cons_zero, List.getElem?_cons_succ, List.set_cons_zero, List.set_cons_succ, decide_eq_true_eq, Nat.zero_add, Nat.reduceAdd, Nat.reduceSub, Nat.reduceLeDiff, true_and, Bool.false_eq_true, if_false, if_true, isi_int_non, isi_int_bl, isi_int_int, isi_int_str, isi_int_lst, isi_int_tup, isi_bool_non, isi_bool_bl, isi_bool_int, isi_bool_str, isi_bool_lst, isi_bool_tup, isi_list_non, isi_list_bl, isi_list_int, isi_list_str, isi_list_lst, isi_list_tup, isi_tuple_non, isi_tuple_bl, isi_tuple_int, isi_tuple_str, isi_tuple_lst, isi_tuple_tup, isi_str_non, isi_str_bl, isi_str_int, isi_str_str, isi_str_lst, isi_str_tup, Bool.not_true, Bool.not_false, Bool.or_false, Bool.or_true, Bool.false_or, Bool.true_or, ite_true, ite_false, Option.some.injEq, true_or, false_or, or_false, and_true, rd_isOwn, rd_own1, rd_own2, rd_own3, rd_ixO, rd_onIx1, rd_onIx2, rd_store, rd_onStore1, rd_onStore2, ex_eq, xApp, xDput, S.ow.injEq, S.bg.injEq, S.od.injEq, reduceCtorEq, exists_eq_left', exists_eq_left, exists_eq', D.int.injEq, atI_c0, atI_c1, atI_c2, ixN3_0, ixN3_1, ixN3_2, false_and, and_self, xSortedDR]
    refine ⟨ks, vs, ⟨rfl, by omega⟩, fun ys pm pw => ?_⟩
    refine q ys bd ⟨?_, down_of nd pm pw, fun x hx => hk x (pm.mem_iff.mp hx)⟩ (hb.mono (by omega))
    rw [pm.length_eq]
    omega

def dp__law_flooded : DP := fun ds Q _ => ∃ ms hs : List Int, ds = [.tup (ms.map D.int), .lst (hs.map D.int)] ∧ ms.length + hs.length ≤ 80000 ∧ Q (.fz (.tup ((floods ms hs).map D.int)))

abbrev s__law_flooded : Stmt := topS 39
theorem sc__law_flooded : FnScope ["marks1", "heights1", "height", "one"] ["marks1", "heights1"] (defScope s__law_flooded) := ⟨rfl, rfl, rfl, by decide +kernel, rfl, by decide +kernel, by decide +kernel⟩
theorem ok__law_flooded {P : Program} {w : World} {K : PySem.W.Frag} {mg : Str → Option Value} {base : Heap} (B : Bt mg) (d : Df K mg "_law_flooded" s__law_flooded ["marks1", "heights1"])  : Fn P w K mg base "_law_flooded" (0 + 1) 2 dp__law_flooded := by
  refine fn_mk d sc__law_flooded rfl (by decide) fun f cdv A outer s H E C hr => ⟨_, _, (ds_cons (ds_for PassesOwn.never rfl (di_seqK K (dv 1)) (dg_name 2 sc__law_flooded.nd) (ds_one (ds_set 0 sc__law_flooded.nd (d_callTy (c_tupleK K) (by rfl) B.tuple (by decide +kernel) (da_cons (d_op (o_addK K) (d_lc [("one", 3)] rfl sc__law_flooded.nd (di_seqK K (dv 0)) (blkOk_by (by show blkC ["marks1", "heights1", "height", "one"] (defScope s__law_flooded) _ [("one", 3)] = true; decide +kernel)) (fun _ _ _ _ _ _ => (dg_name 3 sc__law_flooded.nd)) (fun _ _ _ _ _ _ => (dts_one (dt_cmp o_lt (dv 2) (dv 3)))) (fun _ _ _ _ _ _ => (dv 3))) (d_lst (da_cons (dv 2) da_nil))) da_nil)))))
      (ds_one (ds_ret (dv 0)))), fun ds QD ED hl0 h => ?_⟩
  obtain ⟨a0, a1, rfl⟩ : ∃ a0 a1, ds = [a0, a1] := by
    match ds, hl0 with
    | [a0, a1], _ => exact ⟨a0, a1, rfl⟩
  clear hl0
  obtain ⟨ms, hs, e, hl, q⟩ := h
  cases e
  simp only [xSeq, xSet, xRet, xIf, xExpr, xNext, xNever, xC, xNil, xCons, xTup, xLst, xOp, xEq, xNe, xUn, xNot, xAnd, xOr, xIfE, xCB, xCall, xCallB, xName, xAsg, xIsi3, toD_fz, toD_ow, toD_od, toD_bg, rd_var, rd_getv1, rd_getv2, rd_getv3, rd_test, rd_onB, rd_onI, rd_onSB, rd_andV, rd_orV, rd_notV, rd_chain, rd_II, rd_II0, rd_add1, rd_add2, rd_add3, rd_mul1, rd_mul2, rd_mul3, rd_isN, rd_notN, rd_isN1, rd_isN2, rd_isN3, rd_neg, rd_ix1, rd_ix2, rd_part, rd_sl, rd_onSl1, rd_onSl2, rd_rev, rd_onRv, rd_len1, rd_len2, rd_max2, rd_min2, rd_int1, rd_int2, rd_lst1, rd_lst2, rd_tup1, rd_tup2, rd_dm, rd_seqI, rd_onSq1, rd_onSq2, rd_rng1, rd_onR1, rd_rng2, rd_onR2, xEnumT, rd_onEt, rd_zip, rd_onZ1, rd_onZ2, rd_par, rd_onP, xPar3, rd_onP3, rd_gtup, rd_gnil, rd_gcons, rd_isi, ini, iniB, wipeD, unw, kf, List.map_cons, List.map_nil, List.replicate_succ, List.replicate_zero, List.cons_append, List.nil_append, List.length_cons, List.length_nil, List.getElem?_cons_zero, List.getElem?_cons_succ, List.set_cons_zero, List.set_cons_succ, decide_eq_true_eq, Nat.zero_add, Nat.reduceAdd, Nat.reduceSub, Nat.reduceLeDiff, true_and, Bool.false_eq_true, if_false, if_true, isi_int_non, isi_int_bl, isi_int_int, isi_int_str, isi_int_lst, isi_int_tup, isi_bool_non, isi_bool_bl, isi_bool_int, isi_bool_str, isi_bool_lst, isi_bool_tup, isi_list_non, isi_list_bl, isi_list_int, isi_list_str, isi_list_lst, isi_list_tup, isi_tuple_non, isi_tuple_bl, isi_tuple_int, isi_tuple_str, isi_tuple_lst, isi_tuple_tup, isi_str_non, isi_str_bl, isi_str_int, isi_str_str, isi_str_lst, isi_str_tup, Bool.not_true, Bool.not_false, Bool.or_false, Bool.or_true, Bool.false_or, Bool.true_or, ite_true, ite_false, Option.some.injEq, true_or, false_or, or_false, and_true, xFor]
  refine ⟨fun i ρ => ∃ x, ρ = [some (.fz (.tup ((floods ms (hs.take i)).map D.int))), some (.fz (.lst (hs.map D.int))), x, none], ⟨none, by simp [floods]⟩, fun i d ρ hd hI => ?_, fun ρ hI => ?_⟩
  · obtain ⟨x, rfl⟩ := hI
    rw [List.getElem?_map] at hd
    obtain ⟨hh, he, rfl⟩ := Option.map_eq_some_iff.mp hd
    have hf := floods_len (hs.take i) ms
    rw [List.length_take] at hf
    simp only [xSeq, xSet, xRet, xIf, xExpr, xNext, xNever, xC, xNil, xCons, xTup, xLst, xOp, xEq, xNe, xUn, xNot, xAnd, xOr, xIfE, xCB, xCall, xCallB, xName, xAsg, xIsi3, toD_fz, toD_ow, toD_od, toD_bg, rd_var, rd_getv1, rd_getv2, rd_getv3, rd_test, rd_onB, rd_onI, rd_onSB, rd_andV, rd_orV, rd_notV, rd_chain, rd_II, rd_II0, rd_add1, rd_add2, rd_add3, rd_mul1, rd_mul2, rd_mul3, rd_isN, rd_notN, rd_isN1, rd_isN2, rd_isN3, rd_neg, rd_ix1, rd_ix2, rd_part, rd_sl, rd_onSl1, rd_onSl2, rd_rev, rd_onRv, rd_len1, rd_len2, rd_max2, rd_min2, rd_int1, rd_int2, rd_lst1, rd_lst2, rd_tup1, rd_tup2, rd_dm, rd_seqI, rd_onSq1, rd_onSq2, rd_rng1, rd_onR1, rd_rng2, rd_onR2, xEnumT, rd_onEt, rd_zip, rd_onZ1, rd_onZ2, rd_par, rd_onP, xPar3, rd_onP3, rd_gtup, rd_gnil, rd_gcons, rd_isi, ini, iniB, wipeD, unw, kf, List.map_cons, List.map_nil, List.replicate_succ, List.replicate_zero, List.cons_append, List.nil_append, List.length_cons, List.length_nil, List.getElem?_cons_zero, List.getElem?_cons_succ, List.set_cons_zero, List.set_cons_succ, decide_eq_true_eq, Nat.zero_add, Nat.reduceAdd, Nat.reduceSub, Nat.reduceLeDiff, true_and, Bool.false_eq_true, if_false, if_true, isi_int_non, isi_int_bl, isi_int_int, isi_int_str, isi_int_lst, isi_int_tup, isi_bool_non, isi_bool_bl, isi_bool_int, isi_bool_str, isi_bool_lst, isi_bool_tup, isi_list_non, isi_list_bl, isi_list_int, isi_list_str, isi_list_lst, isi_list_tup, isi_tuple_non, isi_tuple_bl, isi_tuple_int, isi_tuple_str, isi_tuple_lst, isi_tuple_tup, isi_str_non, isi_str_bl, isi_str_int, isi_str_str, isi_str_lst, isi_str_tup, Bool.not_true, Bool.not_false, Bool.or_false, Bool.or_true, Bool.false_or, Bool.true_or, ite_true, ite_false, Option.some.injEq, true_or, false_or, or_false, and_true]
    refine lc_pure (floods ms (hs.take i)) D.int (fun x => decide (hh < x)) D.int [some (.fz (.tup ((floods ms (hs.take i)).map D.int))), some (.fz (.lst (hs.map D.int))), some (.fz (.int hh)), none] (fun QL hq => ?_) (by omega) (fun a ha QD QN h1 h2 => ?_) ?_
    · simp only [xSeq, xSet, xRet, xIf, xExpr, xNext, xNever, xC, xNil, xCons, xTup, xLst, xOp, xEq, xNe, xUn, xNot, xAnd, xOr, xIfE, xCB, xCall, xCallB, xName, xAsg, xIsi3, toD_fz, toD_ow, toD_od, toD_bg, rd_var, rd_getv1, rd_getv2, rd_getv3, rd_test, rd_onB, rd_onI, rd_onSB, rd_andV, rd_orV, rd_notV, rd_chain, rd_II, rd_II0, rd_add1, rd_add2, rd_add3, rd_mul1, rd_mul2, rd_mul3, rd_isN, rd_notN, rd_isN1, rd_isN2, rd_isN3, rd_neg, rd_ix1, rd_ix2, rd_part, rd_sl, rd_onSl1, rd_onSl2, rd_rev, rd_onRv, rd_len1, rd_len2, rd_max2, rd_min2, rd_int1, rd_int2, rd_lst1, rd_lst2, rd_tup1, rd_tup2, rd_dm, rd_seqI, rd_onSq1, rd_onSq2, rd_rng1, rd_onR1, rd_rng2, rd_onR2, xEnumT, rd_onEt, rd_zip, rd_onZ1, rd_onZ2, rd_par, rd_onP, xPar3, rd_onP3, rd_gtup, rd_gnil, rd_gcons, rd_isi, ini, iniB, wipeD, unw, kf, List.map_cons, List.map_nil, List.replicate_succ, List.replicate_zero, List.cons_append, List.nil_append, List.length_cons, List.length_nil, List.getElem?_cons_zero, List.getElem?_cons_succ, List.set_cons_zero, List.set_cons_succ, decide_eq_true_eq, Nat.zero_add, Nat.reduceAdd, Nat.reduceSub, Nat.reduceLeDiff, true_and, Bool.false_eq_true, if_false, if_true, isi_int_non, isi_int_bl, isi_int_int, isi_int_str, isi_int_lst, isi_int_tup, isi_bool_non, isi_bool_bl, isi_bool_int, isi_bool_str, isi_bool_lst, isi_bool_tup, isi_list_non, isi_list_bl, isi_list_int, isi_list_str, isi_list_lst, isi_list_tup, isi_tuple_non, isi_tuple_bl, isi_tuple_int, isi_tuple_str, isi_tuple_lst, isi_tuple_tup, isi_str_non, isi_str_bl, isi_str_int, isi_str_str, isi_str_lst, isi_str_tup, Bool.not_true, Bool.not_false, Bool.or_false, Bool.or_true, Bool.false_or, Bool.true_or, ite_true, ite_false, Option.some.injEq, true_or, false_or, or_false, and_true]
      exact hq
    · simp only [xSeq, xSet, xRet, xIf, xExpr, xNext, xNever, xC, xNil, xCons, xTup, xLst, xOp, xEq, xNe, xUn, xNot, xAnd, xOr, xIfE, xCB, xCall, xCallB, xName, xAsg, xIsi3, toD_fz, toD_ow, toD_od, toD_bg, rd_var, rd_getv1, rd_getv2, rd_getv3, rd_test, rd_onB, rd_onI, rd_onSB, rd_andV, rd_orV, rd_notV, rd_chain, rd_II, rd_II0, rd_add1, rd_add2, rd_add3, rd_mul1, rd_mul2, rd_mul3, rd_isN, rd_notN, rd_isN1, rd_isN2, rd_isN3, rd_neg, rd_ix1, rd_ix2, rd_part, rd_sl, rd_onSl1, rd_onSl2, rd_rev, rd_onRv, rd_len1, rd_len2, rd_max2, rd_min2, rd_int1, rd_int2, rd_lst1, rd_lst2, rd_tup1, rd_tup2, rd_dm, rd_seqI, rd_onSq1, rd_onSq2, rd_rng1, rd_onR1, rd_rng2, rd_onR2, xEnumT, rd_onEt, rd_zip, rd_onZ1, rd_onZ2, rd_par, rd_onP, xPar3, rd_onP3, rd_gtup, rd_gnil, rd_gcons, rd_isi, ini, iniB, wipeD, unw, kf, List.map_cons, List.map_nil, List.replicate_succ, List.replicate_zero, List.cons_append, List.nil_append, List.length_cons, List.length_nil, List.getElem?_cons_zero, List.getElem?_cons_succ, List.set_cons_zero, List.set_cons_succ, decide_eq_true_eq, Nat.zero_add, Nat.reduceAdd, Nat.reduceSub, Nat.reduceLeDiff, true_and, Bool.false_eq_true, if_false, if_true, isi_int_non, isi_int_bl, isi_int_int, isi_int_str, isi_int_lst, isi_int_tup, isi_bool_non, isi_bool_bl, isi_bool_int, isi_bool_str, isi_bool_lst, isi_bool_tup, isi_list_non, isi_list_bl, isi_list_int, isi_list_str, isi_list_lst, isi_list_tup, isi_tuple_non, isi_tuple_bl, isi_tuple_int, isi_tuple_str, isi_tuple_lst, isi_tuple_tup, isi_str_non, isi_str_bl, isi_str_int, isi_str_str, isi_str_lst, isi_str_tup, Bool.not_true, Bool.not_false, Bool.or_false, Bool.or_true, Bool.false_or, Bool.true_or, ite_true, ite_false, Option.some.injEq, true_or, false_or, or_false, and_true]
      exact ite2 (fun h => h1 (decide_eq_true h)) (fun h => h2 (decide_eq_false h))
    · simp only [xSeq, xSet, xRet, xIf, xExpr, xNext, xNever, xC, xNil, xCons, xTup, xLst, xOp, xEq, xNe, xUn, xNot, xAnd, xOr, xIfE, xCB, xCall, xCallB, xName, xAsg, xIsi3, toD_fz, toD_ow, toD_od, toD_bg, rd_var, rd_getv1, rd_getv2, rd_getv3, rd_test, rd_onB, rd_onI, rd_onSB, rd_andV, rd_orV, rd_notV, rd_chain, rd_II, rd_II0, rd_add1, rd_add2, rd_add3, rd_mul1, rd_mul2, rd_mul3, rd_isN, rd_notN, rd_isN1, rd_isN2, rd_isN3, rd_neg, rd_ix1, rd_ix2, rd_part, rd_sl, rd_onSl1, rd_onSl2, rd_rev, rd_onRv, rd_len1, rd_len2, rd_max2, rd_min2, rd_int1, rd_int2, rd_lst1, rd_lst2, rd_tup1, rd_tup2, rd_dm, rd_seqI, rd_onSq1, rd_onSq2, rd_rng1, rd_onR1, rd_rng2, rd_onR2, xEnumT, rd_onEt, rd_zip, rd_onZ1, rd_onZ2, rd_par, rd_onP, xPar3, rd_onP3, rd_gtup, rd_gnil, rd_gcons, rd_isi, ini, iniB, wipeD, unw, kf, List.map_cons, List.map_nil, List.replicate_succ, List.replicate_zero, List.cons_append, List.nil_append, List.length_cons, List.length_nil, List.getElem?_cons_zero, List.getElem?_cons_succ, List.set_cons_zero, List.set_cons_succ, decide_eq_true_eq, Nat.zero_add, Nat.reduceAdd, Nat.reduceSub, Nat.reduceLeDiff, true_and, Bool.false_eq_true, if_false, if_true, isi_int_non, isi_int_bl, isi_int_int, isi_int_str, isi_int_lst, isi_int_tup, isi_bool_non, isi_bool_bl, isi_bool_int, isi_bool_str, isi_bool_lst, isi_bool_tup, isi_list_non, isi_list_bl, isi_list_int, isi_list_str, isi_list_lst, isi_list_tup, isi_tuple_non, isi_tuple_bl, isi_tuple_int, isi_tuple_str, isi_tuple_lst, isi_tuple_tup, isi_str_non, isi_str_bl, isi_str_int, isi_str_str, isi_str_lst, isi_str_tup, Bool.not_true, Bool.not_false, Bool.or_false, Bool.or_true, Bool.false_or, Bool.true_or, ite_true, ite_false, Option.some.injEq, true_or, false_or, or_false, and_true]
      refine ⟨?_, ?_⟩
      · have := List.length_filter_le (fun x => decide (hh < x)) (floods ms (hs.take i))
        simp only [List.length_map]
        omega
      · refine ⟨some (.fz (.int hh)), ?_⟩
        rw [floods_take he]
        simp [flood]
  · obtain ⟨x, rfl⟩ := hI
    simp only [xSeq, xSet, xRet, xIf, xExpr, xNext, xNever, xC, xNil, xCons, xTup, xLst, xOp, xEq, xNe, xUn, xNot, xAnd, xOr, xIfE, xCB, xCall, xCallB, xName, xAsg, xIsi3, toD_fz, toD_ow, toD_od, toD_bg, rd_var, rd_getv1, rd_getv2, rd_getv3, rd_test, rd_onB, rd_onI, rd_onSB, rd_andV, rd_orV, rd_notV, rd_chain, rd_II, rd_II0, rd_add1, rd_add2, rd_add3, rd_mul1, rd_mul2, rd_mul3, rd_isN, rd_notN, rd_isN1, rd_isN2, rd_isN3, rd_neg, rd_ix1, rd_ix2, rd_part, rd_sl, rd_onSl1, rd_onSl2, rd_rev, rd_onRv, rd_len1, rd_len2, rd_max2, rd_min2, rd_int1, rd_int2, rd_lst1, rd_lst2, rd_tup1, rd_tup2, rd_dm, rd_seqI, rd_onSq1, rd_onSq2, rd_rng1, rd_onR1, rd_rng2, rd_onR2, xEnumT, rd_onEt, rd_zip, rd_onZ1, rd_onZ2, rd_par, rd_onP, xPar3, rd_onP3, rd_gtup, rd_gnil, rd_gcons, rd_isi, ini, iniB, wipeD, unw, kf, List.map_cons, List.map_nil, List.replicate_succ, List.replicate_zero, List.cons_append, List.nil_append, List.length_cons, List.length_nil, List.getElem?_cons_zero, List.getElem?_cons_succ, List.set_cons_zero, List.set_cons_succ, decide_eq_true_eq, Nat.zero_add, Nat.reduceAdd, Nat.reduceSub, Nat.reduceLeDiff, true_and, Bool.false_eq_true, if_false, if_true, isi_int_non, isi_int_bl, isi_int_int, isi_int_str, isi_int_lst, isi_int_tup, isi_bool_non, isi_bool_bl, isi_bool_int, isi_bool_str, isi_bool_lst, isi_bool_tup, isi_list_non, isi_list_bl, isi_list_int, isi_list_str, isi_list_lst, isi_list_tup, isi_tuple_non, isi_tuple_bl, isi_tuple_int, isi_tuple_str, isi_tuple_lst, isi_tuple_tup, isi_str_non, isi_str_bl, isi_str_int, isi_str_str, isi_str_lst, isi_str_tup, Bool.not_true, Bool.not_false, Bool.or_false, Bool.or_true, Bool.false_or, Bool.true_or, ite_true, ite_false, Option.some.injEq, true_or, false_or, or_false, and_true]
    rw [List.length_map, List.take_length]
    exact q

theorem rows_snoc (top : Nat) : ∀ n, rowsF top (n + 1) = (rowsF top n).flatMap fun r => (upto top).map fun h => r ++ [h]
  | 0 => by
    show ((upto top).flatMap fun h => [[]].map fun r => h :: r) = [[]].flatMap fun r => (upto top).map fun h => r ++ [h]
    rw [List.flatMap_cons, List.flatMap_nil, List.append_nil]
    induction upto top with
    | nil => rfl
    | cons a l ih => rw [List.flatMap_cons, ih]; rfl
  | n + 1 => by
    have ih := rows_snoc top n
    have e : rowsF top (n + 1 + 1) = (upto top).flatMap fun h => (rowsF top (n + 1)).map fun r => h :: r := rfl
    have e2 : (rowsF top (n + 1)).flatMap (fun r => (upto top).map fun h => r ++ [h]) = (upto top).flatMap fun h => ((rowsF top n).map fun r => h :: r).flatMap fun r => (upto top).map fun h => r ++ [h] := List.flatMap_assoc
    rw [e, e2, ih]
    congr 1
    funext h
    rw [List.map_flatMap, List.flatMap_map]
    congr 1
    funext r
    rw [List.map_map]
    rfl
theorem upto_len (top : Nat) : (upto top).length = top := by simp [upto]
theorem len_fm (top : Nat) (l : List (List Int)) : (l.flatMap fun r => (upto top).map fun h => r ++ [h]).length = l.length * top := by
  rw [List.length_flatMap]
  have : (l.map fun r => ((upto top).map fun h => r ++ [h]).length) = List.replicate l.length top := by
    rw [← List.map_const']
    exact List.map_congr_left fun r _ => by rw [List.length_map, upto_len]
  rw [this, List.sum_replicate_nat]
theorem rows_len (top : Nat) : ∀ n, (rowsF top n).length = top ^ n
  | 0 => rfl
  | n + 1 => by
    rw [rows_snoc, len_fm, rows_len top n, Nat.pow_succ]
def rowL (r : List Int) : D := .lst (r.map D.int)
def dp__law_rows : DP := fun ds Q _ => ∃ (top n : Nat), ds = [.int top, .int n] ∧ 1 ≤ top ∧ top ≤ 90 ∧ n ≤ 90 ∧ top ^ n ≤ 1000 ∧ Q (.fz (.lst ((rowsF top n).map rowL)))

abbrev s__law_rows : Stmt := topS 40
theorem sc__law_rows : FnScope ["top", "many", "found", "turn", "longer", "row", "height"] ["top", "many"] (defScope s__law_rows) := ⟨rfl, rfl, rfl, by decide +kernel, rfl, by decide +kernel, by decide +kernel⟩
theorem ok__law_rows {P : Program} {w : World} {K : PySem.W.Frag} {mg : Str → Option Value} {base : Heap} (B : Bt mg) (d : Df K mg "_law_rows" s__law_rows ["top", "many"])  : Fn P w K mg base "_law_rows" (0 + 1) 2 dp__law_rows := by
  refine fn_mk d sc__law_rows rfl (by decide) fun f cdv A outer s H E C hr => ⟨_, _, (ds_cons (ds_set 2 sc__law_rows.nd (d_lst (da_cons (d_lst da_nil) da_nil)))
      (ds_cons (ds_for PassesOwn.never rfl (di_range1 (by rfl) B.range (da_cons (dv 1) da_nil)) (dg_name 3 sc__law_rows.nd) (ds_cons (ds_set 4 sc__law_rows.nd (d_lst da_nil))
      (ds_cons (ds_for PassesOwn.never rfl (di_seqK K (dv 2)) (dg_name 5 sc__law_rows.nd) (ds_one (ds_set 4 sc__law_rows.nd (d_op (o_addK K) (dv 4) (d_lc [("height", 6)] rfl sc__law_rows.nd (di_range2 (by rfl) B.range (da_cons d_int (da_cons (d_op (o_addK K) (dv 0) d_int) da_nil))) (blkOk_by (by show blkC ["top", "many", "found", "turn", "longer", "row", "height"] (defScope s__law_rows) _ [("height", 6)] = true; decide +kernel)) (fun _ _ _ _ _ _ => (dg_name 6 sc__law_rows.nd)) (fun _ _ _ _ _ _ => dts_nil) (fun _ _ _ _ _ _ => (d_op (o_addK K) (dv 5) (d_lst (da_cons (dv 6) da_nil)))))))))
      (ds_one (ds_set 2 sc__law_rows.nd (dv 4))))))
      (ds_one (ds_ret (dv 2))))), fun ds QD ED hl0 h => ?_⟩
  obtain ⟨a0, a1, rfl⟩ : ∃ a0 a1, ds = [a0, a1] := by
    match ds, hl0 with
    | [a0, a1], _ => exact ⟨a0, a1, rfl⟩
  clear hl0
  obtain ⟨top, n, e, t1, t2, n1, hp, q⟩ := h
  cases e
  have er : rngD 1 ((top : Int) + 1 - 1).toNat = (upto top).map D.int := by
    rw [show ((top : Int) + 1 - 1).toNat = top from by omega]
    unfold rngD upto
    rw [List.map_map]
    rfl
  simp only [xSeq, xSet, xRet, xIf, xExpr, xNext, xNever, xC, xNil, xCons, xTup, xLst, xOp, xEq, xNe, xUn, xNot, xAnd, xOr, xIfE, xCB, xCall, xCallB, xName, xAsg, xIsi3, toD_fz, toD_ow, toD_od, toD_bg, rd_var, rd_getv1, rd_getv2, rd_getv3, rd_test, rd_onB, rd_onI, rd_onSB, rd_andV, rd_orV, rd_notV, rd_chain, rd_II, rd_II0, rd_add1, rd_add2, rd_add3, rd_mul1, rd_mul2, rd_mul3, rd_isN, rd_notN, rd_isN1, rd_isN2, rd_isN3, rd_neg, rd_ix1, rd_ix2, rd_part, rd_sl, rd_onSl1, rd_onSl2, rd_rev, rd_onRv, rd_len1, rd_len2, rd_max2, rd_min2, rd_int1, rd_int2, rd_lst1, rd_lst2, rd_tup1, rd_tup2, rd_dm, rd_seqI, rd_onSq1, rd_onSq2, rd_rng1, rd_onR1, rd_rng2, rd_onR2, xEnumT, rd_onEt, rd_zip, rd_onZ1, rd_onZ2, rd_par, rd_onP, xPar3, rd_onP3, rd_gtup, rd_gnil, rd_gcons, rd_isi, ini, iniB, wipeD, unw, kf, List.map_cons, List.map_nil, List.replicate_succ, List.replicate_zero, List.cons_append, List.nil_append, List.length_cons, List.length_nil, List.getElem?_cons_zero, List.getElem?_cons_succ, List.set_cons_zero, List.set_cons_succ, decide_eq_true_eq, Nat.zero_add, Nat.reduceAdd, Nat.reduceSub, Nat.reduceLeDiff, true_and, Bool.false_eq_true, if_false, if_true, isi_int_non, isi_int_bl, isi_int_int, isi_int_str, isi_int_lst, isi_int_tup, isi_bool_non, isi_bool_bl, isi_bool_int, isi_bool_str, isi_bool_lst, isi_bool_tup, isi_list_non, isi_list_bl, isi_list_int, isi_list_str, isi_list_lst, isi_list_tup, isi_tuple_non, isi_tuple_bl, isi_tuple_int, isi_tuple_str, isi_tuple_lst, isi_tuple_tup, isi_str_non, isi_str_bl, isi_str_int, isi_str_str, isi_str_lst, isi_str_tup, Bool.not_true, Bool.not_false, Bool.or_false, Bool.or_true, Bool.false_or, Bool.true_or, ite_true, ite_false, Option.some.injEq, true_or, false_or, or_false, and_true, rd_isOwn, rd_own1, rd_own2, rd_own3, rd_ixO, rd_onIx1, rd_onIx2, rd_store, rd_onStore1, rd_onStore2, ex_eq, xApp, xDput, S.ow.injEq, S.bg.injEq, S.od.injEq, reduceCtorEq, exists_eq_left', exists_eq_left, exists_eq', D.int.injEq, atI_c0, atI_c1, atI_c2, ixN3_0, ixN3_1, ixN3_2, false_and, and_self, xFor]
  refine ⟨by omega, by omega, fun i ρ => ∃ (y2 : S) (x3 x4 x5 : Option S), ρ = [some (.fz (.int top)), some (.fz (.int n)), some y2, x3, x4, x5, none] ∧ (y2 = .fz (.lst ((rowsF top i).map rowL)) ∨ y2 = .ow ((rowsF top i).map rowL)), ⟨_, _, _, _, rfl, .inr rfl⟩, fun i d ρ hd hI => ?_, fun ρ hI => ?_⟩
  · obtain ⟨y2, x3, x4, x5, rfl, hy⟩ := hI
    obtain ⟨hi, rfl⟩ := rngD_get hd
    rw [Int.toNat_natCast] at hi
    have hpi : (rowsF top i).length ≤ 1000 := by
      rw [rows_len]
      exact Nat.le_trans (Nat.pow_le_pow_right t1 (by omega)) hp
    rcases hy with rfl | rfl
    all_goals
      simp only [xSeq, xSet, xRet, xIf, xExpr, xNext, xNever, xC, xNil, xCons, xTup, xLst, xOp, xEq, xNe, xUn, xNot, xAnd, xOr, xIfE, xCB, xCall, xCallB, xName, xAsg, xIsi3, toD_fz, toD_ow, toD_od, toD_bg, rd_var, rd_getv1, rd_getv2, rd_getv3, rd_test, rd_onB, rd_onI, rd_onSB, rd_andV, rd_orV, rd_notV, rd_chain, rd_II, rd_II0, rd_add1, rd_add2, rd_add3, rd_mul1, rd_mul2, rd_mul3, rd_isN, rd_notN, rd_isN1, rd_isN2, rd_isN3, rd_neg, rd_ix1, rd_ix2, rd_part, rd_sl, rd_onSl1, rd_onSl2, rd_rev, rd_onRv, rd_len1, rd_len2, rd_max2, rd_min2, rd_int1, rd_int2, rd_lst1, rd_lst2, rd_tup1, rd_tup2, rd_dm, rd_seqI, rd_onSq1, rd_onSq2, rd_rng1, rd_onR1, rd_rng2, rd_onR2, xEnumT, rd_onEt, rd_zip, rd_onZ1, rd_onZ2, rd_par, rd_onP, xPar3, rd_onP3, rd_gtup, rd_gnil, rd_gcons, rd_isi, ini, iniB, wipeD, unw, kf, List.map_cons, List.map_nil, List.replicate_succ, List.replicate_zero, List.cons_append, List.nil_append, List.length_cons, List.length_nil, List.getElem?_cons_zero, List.getElem?_cons_succ, List.set_cons_zero, List.set_cons_succ, decide_eq_true_eq, Nat.zero_add, Nat.reduceAdd, Nat.reduceSub, Nat.reduceLeDiff, true_and, Bool.false_eq_true, if_false, if_true, isi_int_non, isi_int_bl, isi_int_int, isi_int_str, isi_int_lst, isi_int_tup, isi_bool_non, isi_bool_bl, isi_bool_int, isi_bool_str, isi_bool_lst, isi_bool_tup, isi_list_non, isi_list_bl, isi_list_int, isi_list_str, isi_list_lst, isi_list_tup, isi_tuple_non, isi_tuple_bl, isi_tuple_int, isi_tuple_str, isi_tuple_lst, isi_tuple_tup, isi_str_non, isi_str_bl, isi_str_int, isi_str_str, isi_str_lst, isi_str_tup, Bool.not_true, Bool.not_false, Bool.or_false, Bool.or_true, Bool.false_or, Bool.true_or, ite_true, ite_false, Option.some.injEq, true_or, false_or, or_false, and_true, rd_isOwn, rd_own1, rd_own2, rd_own3, rd_ixO, rd_onIx1, rd_onIx2, rd_store, rd_onStore1, rd_onStore2, ex_eq, xApp, xDput, S.ow.injEq, S.bg.injEq, S.od.injEq, reduceCtorEq, exists_eq_left', exists_eq_left, exists_eq', D.int.injEq, atI_c0, atI_c1, atI_c2, ixN3_0, ixN3_1, ixN3_2, false_and, and_self]
      refine ⟨fun j ρ => ∃ (y4 : S) (x5 : Option S), ρ = [some (.fz (.int top)), some (.fz (.int n)), some (.fz (.lst ((rowsF top i).map rowL))), some (.fz (.int (0 + (i : Int)))), some y4, x5, none] ∧
        (y4 = .fz (.lst ((((rowsF top i).take j).flatMap fun r => (upto top).map fun h => r ++ [h]).map rowL)) ∨ y4 = .ow ((((rowsF top i).take j).flatMap fun r => (upto top).map fun h => r ++ [h]).map rowL)), ⟨_, _, rfl, .inr rfl⟩, fun j d ρ hd hI => ?_, fun ρ hI => ?_⟩
      · obtain ⟨y4, z5, rfl, hy4⟩ := hI
        rw [List.getElem?_map] at hd
        obtain ⟨r, hr, rfl⟩ := Option.map_eq_some_iff.mp hd
        have hrl := (rows_in (List.mem_of_getElem? hr)).1
        have ll : (((rowsF top i).take j).flatMap fun r => (upto top).map fun h => r ++ [h]).length ≤ 90000 := by
          rw [len_fm]
          have : ((rowsF top i).take j).length ≤ 1000 := by rw [List.length_take]; omega
          exact Nat.mul_le_mul this t2
        have et : ((rowsF top i).take (j + 1)).flatMap (fun r => (upto top).map fun h => r ++ [h]) = (((rowsF top i).take j).flatMap fun r => (upto top).map fun h => r ++ [h]) ++ (upto top).map fun h => r ++ [h] := by
          rw [List.take_add_one, hr, List.flatMap_append]
          simp
        rcases hy4 with rfl | rfl
        all_goals
          simp only [xSeq, xSet, xRet, xIf, xExpr, xNext, xNever, xC, xNil, xCons, xTup, xLst, xOp, xEq, xNe, xUn, xNot, xAnd, xOr, xIfE, xCB, xCall, xCallB, xName, xAsg, xIsi3, toD_fz, toD_ow, toD_od, toD_bg, rd_var, rd_getv1, rd_getv2, rd_getv3, rd_test, rd_onB, rd_onI, rd_onSB, rd_andV, rd_orV, rd_notV, rd_chain, rd_II, rd_II0, rd_add1, rd_add2, rd_add3, rd_mul1, rd_mul2, rd_mul3, rd_isN, rd_notN, rd_isN1, rd_isN2, rd_isN3, rd_neg, rd_ix1, rd_ix2, rd_part, rd_sl, rd_onSl1, rd_onSl2, rd_rev, rd_onRv, rd_len1, rd_len2, rd_max2, rd_min2, rd_int1, rd_int2, rd_lst1, rd_lst2, rd_tup1, rd_tup2, rd_dm, rd_seqI, rd_onSq1, rd_onSq2, rd_rng1, rd_onR1, rd_rng2, rd_onR2, xEnumT, rd_onEt, rd_zip, rd_onZ1, rd_onZ2, rd_par, rd_onP, xPar3, rd_onP3, rd_gtup, rd_gnil, rd_gcons, rd_isi, ini, iniB, wipeD, unw, kf, List.map_cons, List.map_nil, List.replicate_succ, List.replicate_zero, List.cons_append, List.nil_append, List.length_cons, List.length_nil, List.getElem?_cons_zero, List.getElem?_cons_succ, List.set_cons_zero, List.set_cons_succ, decide_eq_true_eq, Nat.zero_add, Nat.reduceAdd, Nat.reduceSub, Nat.reduceLeDiff, true_and, Bool.false_eq_true, if_false, if_true, isi_int_non, isi_int_bl, isi_int_int, isi_int_str, isi_int_lst, isi_int_tup, isi_bool_non, isi_bool_bl, isi_bool_int, isi_bool_str, isi_bool_lst, isi_bool_tup, isi_list_non, isi_list_bl, isi_list_int, isi_list_str, isi_list_lst, isi_list_tup, isi_tuple_non, isi_tuple_bl, isi_tuple_int, isi_tuple_str, isi_tuple_lst, isi_tuple_tup, isi_str_non, isi_str_bl, isi_str_int, isi_str_str, isi_str_lst, isi_str_tup, Bool.not_true, Bool.not_false, Bool.or_false, Bool.or_true, Bool.false_or, Bool.true_or, ite_true, ite_false, Option.some.injEq, true_or, false_or, or_false, and_true, rd_isOwn, rd_own1, rd_own2, rd_own3, rd_ixO, rd_onIx1, rd_onIx2, rd_store, rd_onStore1, rd_onStore2, ex_eq, xApp, xDput, S.ow.injEq, S.bg.injEq, S.od.injEq, reduceCtorEq, exists_eq_left', exists_eq_left, exists_eq', D.int.injEq, atI_c0, atI_c1, atI_c2, ixN3_0, ixN3_1, ixN3_2, false_and, and_self, rowL]
          refine lc_all (upto top) D.int (fun h => rowL (r ++ [h])) (fun QL hq => ?_) (by rw [upto_len]; omega) (fun h hh QD QN h1 => ?_) ?_
          · simp only [xSeq, xSet, xRet, xIf, xExpr, xNext, xNever, xC, xNil, xCons, xTup, xLst, xOp, xEq, xNe, xUn, xNot, xAnd, xOr, xIfE, xCB, xCall, xCallB, xName, xAsg, xIsi3, toD_fz, toD_ow, toD_od, toD_bg, rd_var, rd_getv1, rd_getv2, rd_getv3, rd_test, rd_onB, rd_onI, rd_onSB, rd_andV, rd_orV, rd_notV, rd_chain, rd_II, rd_II0, rd_add1, rd_add2, rd_add3, rd_mul1, rd_mul2, rd_mul3, rd_isN, rd_notN, rd_isN1, rd_isN2, rd_isN3, rd_neg, rd_ix1, rd_ix2, rd_part, rd_sl, rd_onSl1, rd_onSl2, rd_rev, rd_onRv, rd_len1, rd_len2, rd_max2, rd_min2, rd_int1, rd_int2, rd_lst1, rd_lst2, rd_tup1, rd_tup2, rd_dm, rd_seqI, rd_onSq1, rd_onSq2, rd_rng1, rd_onR1, rd_rng2, rd_onR2, xEnumT, rd_onEt, rd_zip, rd_onZ1, rd_onZ2, rd_par, rd_onP, xPar3, rd_onP3, rd_gtup, rd_gnil, rd_gcons, rd_isi, ini, iniB, wipeD, unw, kf, List.map_cons, List.map_nil, List.replicate_succ, List.replicate_zero, List.cons_append, List.nil_append, List.length_cons, List.length_nil, List.getElem?_cons_zero, List.getElem?_cons_succ, List.set_cons_zero, List.set_cons_succ, decide_eq_true_eq, Nat.zero_add, Nat.reduceAdd, Nat.reduceSub, Nat.reduceLeDiff, true_and, Bool.false_eq_true, if_false, if_true, isi_int_non, isi_int_bl, isi_int_int, isi_int_str, isi_int_lst, isi_int_tup, isi_bool_non, isi_bool_bl, isi_bool_int, isi_bool_str, isi_bool_lst, isi_bool_tup, isi_list_non, isi_list_bl, isi_list_int, isi_list_str, isi_list_lst, isi_list_tup, isi_tuple_non, isi_tuple_bl, isi_tuple_int, isi_tuple_str, isi_tuple_lst, isi_tuple_tup, isi_str_non, isi_str_bl, isi_str_int, isi_str_str, isi_str_lst, isi_str_tup, Bool.not_true, Bool.not_false, Bool.or_false, Bool.or_true, Bool.false_or, Bool.true_or, ite_true, ite_false, Option.some.injEq, true_or, false_or, or_false, and_true, rd_isOwn, rd_own1, rd_own2, rd_own3, rd_ixO, rd_onIx1, rd_onIx2, rd_store, rd_onStore1, rd_onStore2, ex_eq, xApp, xDput, S.ow.injEq, S.bg.injEq, S.od.injEq, reduceCtorEq, exists_eq_left', exists_eq_left, exists_eq', D.int.injEq, atI_c0, atI_c1, atI_c2, ixN3_0, ixN3_1, ixN3_2, false_and, and_self]
            exact ⟨⟨by decide, by decide, by omega, by omega⟩, by rw [er]; exact hq⟩
          · unfold rowL at h1
            rw [List.map_append] at h1
            simp only [xSeq, xSet, xRet, xIf, xExpr, xNext, xNever, xC, xNil, xCons, xTup, xLst, xOp, xEq, xNe, xUn, xNot, xAnd, xOr, xIfE, xCB, xCall, xCallB, xName, xAsg, xIsi3, toD_fz, toD_ow, toD_od, toD_bg, rd_var, rd_getv1, rd_getv2, rd_getv3, rd_test, rd_onB, rd_onI, rd_onSB, rd_andV, rd_orV, rd_notV, rd_chain, rd_II, rd_II0, rd_add1, rd_add2, rd_add3, rd_mul1, rd_mul2, rd_mul3, rd_isN, rd_notN, rd_isN1, rd_isN2, rd_isN3, rd_neg, rd_ix1, rd_ix2, rd_part, rd_sl, rd_onSl1, rd_onSl2, rd_rev, rd_onRv, rd_len1, rd_len2, rd_max2, rd_min2, rd_int1, rd_int2, rd_lst1, rd_lst2, rd_tup1, rd_tup2, rd_dm, rd_seqI, rd_onSq1, rd_onSq2, rd_rng1, rd_onR1, rd_rng2, rd_onR2, xEnumT, rd_onEt, rd_zip, rd_onZ1, rd_onZ2, rd_par, rd_onP, xPar3, rd_onP3, rd_gtup, rd_gnil, rd_gcons, rd_isi, ini, iniB, wipeD, unw, kf, List.map_cons, List.map_nil, List.replicate_succ, List.replicate_zero, List.cons_append, List.nil_append, List.length_cons, List.length_nil, List.getElem?_cons_zero, List.getElem?_cons_succ, List.set_cons_zero, List.set_cons_succ, decide_eq_true_eq, Nat.zero_add, Nat.reduceAdd, Nat.reduceSub, Nat.reduceLeDiff, true_and, Bool.false_eq_true, if_false, if_true, isi_int_non, isi_int_bl, isi_int_int, isi_int_str, isi_int_lst, isi_int_tup, isi_bool_non, isi_bool_bl, isi_bool_int, isi_bool_str, isi_bool_lst, isi_bool_tup, isi_list_non, isi_list_bl, isi_list_int, isi_list_str, isi_list_lst, isi_list_tup, isi_tuple_non, isi_tuple_bl, isi_tuple_int, isi_tuple_str, isi_tuple_lst, isi_tuple_tup, isi_str_non, isi_str_bl, isi_str_int, isi_str_str, isi_str_lst, isi_str_tup, Bool.not_true, Bool.not_false, Bool.or_false, Bool.or_true, Bool.false_or, Bool.true_or, ite_true, ite_false, Option.some.injEq, true_or, false_or, or_false, and_true, rd_isOwn, rd_own1, rd_own2, rd_own3, rd_ixO, rd_onIx1, rd_onIx2, rd_store, rd_onStore1, rd_onStore2, ex_eq, xApp, xDput, S.ow.injEq, S.bg.injEq, S.od.injEq, reduceCtorEq, exists_eq_left', exists_eq_left, exists_eq', D.int.injEq, atI_c0, atI_c1, atI_c2, ixN3_0, ixN3_1, ixN3_2, false_and, and_self]
            exact ⟨by simp only [List.length_map]; omega, h1⟩
          · simp only [xSeq, xSet, xRet, xIf, xExpr, xNext, xNever, xC, xNil, xCons, xTup, xLst, xOp, xEq, xNe, xUn, xNot, xAnd, xOr, xIfE, xCB, xCall, xCallB, xName, xAsg, xIsi3, toD_fz, toD_ow, toD_od, toD_bg, rd_var, rd_getv1, rd_getv2, rd_getv3, rd_test, rd_onB, rd_onI, rd_onSB, rd_andV, rd_orV, rd_notV, rd_chain, rd_II, rd_II0, rd_add1, rd_add2, rd_add3, rd_mul1, rd_mul2, rd_mul3, rd_isN, rd_notN, rd_isN1, rd_isN2, rd_isN3, rd_neg, rd_ix1, rd_ix2, rd_part, rd_sl, rd_onSl1, rd_onSl2, rd_rev, rd_onRv, rd_len1, rd_len2, rd_max2, rd_min2, rd_int1, rd_int2, rd_lst1, rd_lst2, rd_tup1, rd_tup2, rd_dm, rd_seqI, rd_onSq1, rd_onSq2, rd_rng1, rd_onR1, rd_rng2, rd_onR2, xEnumT, rd_onEt, rd_zip, rd_onZ1, rd_onZ2, rd_par, rd_onP, xPar3, rd_onP3, rd_gtup, rd_gnil, rd_gcons, rd_isi, ini, iniB, wipeD, unw, kf, List.map_cons, List.map_nil, List.replicate_succ, List.replicate_zero, List.cons_append, List.nil_append, List.length_cons, List.length_nil, List.getElem?_cons_zero, List.getElem?_cons_succ, List.set_cons_zero, List.set_cons_succ, decide_eq_true_eq, Nat.zero_add, Nat.reduceAdd, Nat.reduceSub, Nat.reduceLeDiff, true_and, Bool.false_eq_true, if_false, if_true, isi_int_non, isi_int_bl, isi_int_int, isi_int_str, isi_int_lst, isi_int_tup, isi_bool_non, isi_bool_bl, isi_bool_int, isi_bool_str, isi_bool_lst, isi_bool_tup, isi_list_non, isi_list_bl, isi_list_int, isi_list_str, isi_list_lst, isi_list_tup, isi_tuple_non, isi_tuple_bl, isi_tuple_int, isi_tuple_str, isi_tuple_lst, isi_tuple_tup, isi_str_non, isi_str_bl, isi_str_int, isi_str_str, isi_str_lst, isi_str_tup, Bool.not_true, Bool.not_false, Bool.or_false, Bool.or_true, Bool.false_or, Bool.true_or, ite_true, ite_false, Option.some.injEq, true_or, false_or, or_false, and_true, rd_isOwn, rd_own1, rd_own2, rd_own3, rd_ixO, rd_onIx1, rd_onIx2, rd_store, rd_onStore1, rd_onStore2, ex_eq, xApp, xDput, S.ow.injEq, S.bg.injEq, S.od.injEq, reduceCtorEq, exists_eq_left', exists_eq_left, exists_eq', D.int.injEq, atI_c0, atI_c1, atI_c2, ixN3_0, ixN3_1, ixN3_2, false_and, and_self]
            refine ⟨by simp only [List.length_map, upto_len]; omega, _, _, rfl, .inr ?_⟩
            rw [et, List.map_append, List.map_map]
            rfl
      · obtain ⟨y4, z5, rfl, hy4⟩ := hI
        rw [List.length_map, List.take_length, ← rows_snoc] at hy4
        rcases hy4 with rfl | rfl
        all_goals
          simp only [xSeq, xSet, xRet, xIf, xExpr, xNext, xNever, xC, xNil, xCons, xTup, xLst, xOp, xEq, xNe, xUn, xNot, xAnd, xOr, xIfE, xCB, xCall, xCallB, xName, xAsg, xIsi3, toD_fz, toD_ow, toD_od, toD_bg, rd_var, rd_getv1, rd_getv2, rd_getv3, rd_test, rd_onB, rd_onI, rd_onSB, rd_andV, rd_orV, rd_notV, rd_chain, rd_II, rd_II0, rd_add1, rd_add2, rd_add3, rd_mul1, rd_mul2, rd_mul3, rd_isN, rd_notN, rd_isN1, rd_isN2, rd_isN3, rd_neg, rd_ix1, rd_ix2, rd_part, rd_sl, rd_onSl1, rd_onSl2, rd_rev, rd_onRv, rd_len1, rd_len2, rd_max2, rd_min2, rd_int1, rd_int2, rd_lst1, rd_lst2, rd_tup1, rd_tup2, rd_dm, rd_seqI, rd_onSq1, rd_onSq2, rd_rng1, rd_onR1, rd_rng2, rd_onR2, xEnumT, rd_onEt, rd_zip, rd_onZ1, rd_onZ2, rd_par, rd_onP, xPar3, rd_onP3, rd_gtup, rd_gnil, rd_gcons, rd_isi, ini, iniB, wipeD, unw, kf, List.map_cons, List.map_nil, List.replicate_succ, List.replicate_zero, List.cons_append, List.nil_append, List.length_cons, List.length_nil, List.getElem?_cons_zero, List.getElem?_cons_succ, List.set_cons_zero, List.set_cons_succ, decide_eq_true_eq, Nat.zero_add, Nat.reduceAdd, Nat.reduceSub, Nat.reduceLeDiff, true_and, Bool.false_eq_true, if_false, if_true, isi_int_non, isi_int_bl, isi_int_int, isi_int_str, isi_int_lst, isi_int_tup, isi_bool_non, isi_bool_bl, isi_bool_int, isi_bool_str, isi_bool_lst, isi_bool_tup, isi_list_non, isi_list_bl, isi_list_int, isi_list_str, isi_list_lst, isi_list_tup, isi_tuple_non, isi_tuple_bl, isi_tuple_int, isi_tuple_str, isi_tuple_lst, isi_tuple_tup, isi_str_non, isi_str_bl, isi_str_int, isi_str_str, isi_str_lst, isi_str_tup, Bool.not_true, Bool.not_false, Bool.or_false, Bool.or_true, Bool.false_or, Bool.true_or, ite_true, ite_false, Option.some.injEq, true_or, false_or, or_false, and_true, rd_isOwn, rd_own1, rd_own2, rd_own3, rd_ixO, rd_onIx1, rd_onIx2, rd_store, rd_onStore1, rd_onStore2, ex_eq, xApp, xDput, S.ow.injEq, S.bg.injEq, S.od.injEq, reduceCtorEq, exists_eq_left', exists_eq_left, exists_eq', D.int.injEq, atI_c0, atI_c1, atI_c2, ixN3_0, ixN3_1, ixN3_2, false_and, and_self]
          exact ⟨_, _, _, _, rfl, by first | exact .inl rfl | exact .inr rfl⟩
  · obtain ⟨y2, x3, x4, x5, rfl, hy⟩ := hI
    rw [rngD_len, Int.toNat_natCast] at hy
    rcases hy with rfl | rfl
    all_goals
      simp only [xSeq, xSet, xRet, xIf, xExpr, xNext, xNever, xC, xNil, xCons, xTup, xLst, xOp, xEq, xNe, xUn, xNot, xAnd, xOr, xIfE, xCB, xCall, xCallB, xName, xAsg, xIsi3, toD_fz, toD_ow, toD_od, toD_bg, rd_var, rd_getv1, rd_getv2, rd_getv3, rd_test, rd_onB, rd_onI, rd_onSB, rd_andV, rd_orV, rd_notV, rd_chain, rd_II, rd_II0, rd_add1, rd_add2, rd_add3, rd_mul1, rd_mul2, rd_mul3, rd_isN, rd_notN, rd_isN1, rd_isN2, rd_isN3, rd_neg, rd_ix1, rd_ix2, rd_part, rd_sl, rd_onSl1, rd_onSl2, rd_rev, rd_onRv, rd_len1, rd_len2, rd_max2, rd_min2, rd_int1, rd_int2, rd_lst1, rd_lst2, rd_tup1, rd_tup2, rd_dm, rd_seqI, rd_onSq1, rd_onSq2, rd_rng1, rd_onR1, rd_rng2, rd_onR2, xEnumT, rd_onEt, rd_zip, rd_onZ1, rd_onZ2, rd_par, rd_onP, xPar3, rd_onP3, rd_gtup, rd_gnil, rd_gcons, rd_isi, ini, iniB, wipeD, unw, kf, List.map_cons, List.map_nil, List.replicate_succ, List.replicate_zero, List.cons_append, List.nil_append, List.length_cons, List.length_nil, List.getElem?_cons_zero, List.getElem?_cons_succ, List.set_cons_zero, List.set_cons_succ, decide_eq_true_eq, Nat.zero_add, Nat.reduceAdd, Nat.reduceSub, Nat.reduceLeDiff, true_and, Bool.false_eq_true, if_false, if_true, isi_int_non, isi_int_bl, isi_int_int, isi_int_str, isi_int_lst, isi_int_tup, isi_bool_non, isi_bool_bl, isi_bool_int, isi_bool_str, isi_bool_lst, isi_bool_tup, isi_list_non, isi_list_bl, isi_list_int, isi_list_str, isi_list_lst, isi_list_tup, isi_tuple_non, isi_tuple_bl, isi_tuple_int, isi_tuple_str, isi_tuple_lst, isi_tuple_tup, isi_str_non, isi_str_bl, isi_str_int, isi_str_str, isi_str_lst, isi_str_tup, Bool.not_true, Bool.not_false, Bool.or_false, Bool.or_true, Bool.false_or, Bool.true_or, ite_true, ite_false, Option.some.injEq, true_or, false_or, or_false, and_true, rd_isOwn, rd_own1, rd_own2, rd_own3, rd_ixO, rd_onIx1, rd_onIx2, rd_store, rd_onStore1, rd_onStore2, ex_eq, xApp, xDput, S.ow.injEq, S.bg.injEq, S.od.injEq, reduceCtorEq, exists_eq_left', exists_eq_left, exists_eq', D.int.injEq, atI_c0, atI_c1, atI_c2, ixN3_0, ixN3_1, ixN3_2, false_and, and_self]
      exact q

theorem okD_tupi (n : Nat) (ns : List Int) : okD (n + 1) (.tup (ns.map D.int)) = true := okD_ints n ns
theorem okD_lsti (n : Nat) (ns : List Int) : okD (n + 1) (.lst (ns.map D.int)) = true := okD_ints n ns
theorem down_len : ∀ {ns : List Int} {b : Int}, ns.Pairwise (· > ·) → (∀ x ∈ ns, 1 ≤ x ∧ x ≤ b) → ns.length ≤ b.toNat
  | [], _, _, _ => Nat.zero_le _
  | x :: r, b, h, hb => by
    obtain ⟨h1, h2⟩ := List.pairwise_cons.mp h
    have hx := hb x (by simp)
    have := down_len (b := x - 1) h2 fun y hy => ⟨(hb y (by simp [hy])).1, by have := h1 y hy; omega⟩
    rw [List.length_cons]
    omega
theorem floods_in {top : Int} {ms hs : List Int} (hm : ∀ x ∈ ms, 1 ≤ x ∧ x ≤ top) (hh : ∀ x ∈ hs, 1 ≤ x ∧ x ≤ top) : ∀ x ∈ floods ms hs, 1 ≤ x ∧ x ≤ top := fun x hx =>
  (floods_mem hs ms x hx).elim (hm x) (hh x)
theorem up_rev {ys ns : List Int} (pw : ys.Pairwise (· < ·)) (dn : ns.Pairwise (· > ·)) (hm : ∀ k, k ∈ ys ↔ k ∈ ns) : ys.reverse = ns := by
  have p1 : ys.reverse.Pairwise (· > ·) := List.pairwise_reverse.mpr pw
  have n1 : ys.reverse.Nodup := p1.imp (fun h => by omega)
  have n2 : ns.Nodup := dn.imp (fun h => by omega)
  have pm : ys.reverse.Perm ns := (List.perm_ext_iff_of_nodup n1 n2).mpr fun a => by rw [List.mem_reverse]; exact hm a
  exact pm.eq_of_pairwise (fun a b _ _ h1 h2 => by omega) p1 dn
theorem isMarks_iff {top : Int} {ns : List Int} (h : ns.length ≤ 8) (d : ns.Pairwise (· > ·)) (r : ∀ x ∈ ns, 1 ≤ x ∧ x ≤ top) : isMarks top ns = true :=
  MarksP.ok (top := top) (most := 8) ⟨by omega, d, r⟩ (Int.le_refl 8)
theorem sum_snocI {α : Type} (f : α → Int) {l : List α} {i : Nat} {b : α} (h : l[i]? = some b) : ((l.take (i + 1)).map f).sum = ((l.take i).map f).sum + f b := by
  rw [List.take_add_one, h, List.map_append, List.sum_append]
  simp
theorem cnt_snocI {α : Type} (p : α → Bool) {l : List α} {i : Nat} {b : α} (h : l[i]? = some b) : (((l.take (i + 1)).countP p : Nat) : Int) = ((l.take i).countP p : Nat) + if p b = true then 1 else 0 := by
  rw [List.take_add_one, h, List.countP_append]
  show (((l.take i).countP p + [b].countP p : Nat) : Int) = _
  rw [List.countP_cons, List.countP_nil]
  by_cases e : p b = true
  · rw [if_pos e, if_pos e]; omega
  · rw [if_neg e, if_neg e]; omega
theorem sum_addI {α : Type} (f g : α → Int) : ∀ l : List α, (l.map fun a => f a + g a).sum = (l.map f).sum + (l.map g).sum
  | [] => rfl
  | a :: l => by rw [List.map_cons, List.map_cons, List.map_cons, List.sum_cons, List.sum_cons, List.sum_cons, sum_addI f g l]; omega
theorem sum_mulI {α : Type} (c : Int) (f : α → Int) : ∀ l : List α, (l.map fun a => c * f a).sum = c * (l.map f).sum
  | [] => by simp
  | a :: l => by rw [List.map_cons, List.map_cons, List.sum_cons, List.sum_cons, sum_mulI c f l, Int.mul_add]
theorem sum_zeroI {α : Type} : ∀ l : List α, (l.map fun _ => (0 : Int)).sum = 0
  | [] => rfl
  | a :: l => by rw [List.map_cons, List.sum_cons, sum_zeroI l]; rfl
theorem sum_swapI {α β : Type} (f : α → β → Int) (bs : List β) : ∀ as : List α, (as.map fun a => (bs.map fun b => f a b).sum).sum = (bs.map fun b => (as.map fun a => f a b).sum).sum
  | [] => by simp only [List.map_nil, List.sum_nil]; rw [sum_zeroI]
  | a :: as => by
    rw [List.map_cons, List.sum_cons, sum_swapI f bs as, ← sum_addI]
    congr 1
theorem mem_rows {top : Nat} : ∀ {r : List Int}, (∀ x ∈ r, 1 ≤ x ∧ x ≤ (top : Int)) → r ∈ rowsF top r.length
  | [], _ => by simp [rowsF]
  | x :: r, h => by
    show x :: r ∈ (upto top).flatMap fun h => (rowsF top r.length).map fun r => h :: r
    exact List.mem_flatMap.mpr ⟨x, mem_upto.mpr (h x (by simp)), List.mem_map.mpr ⟨r, mem_rows fun y hy => h y (by simp [hy]), rfl⟩⟩
/-! ### all falling rows -/
def tl : Nat → List (List Int)
  | 0 => [[]]
  | k + 1 => tl k ++ (tl k).map fun r => ((k : Int) + 1) :: r
theorem mem_tl : ∀ {k : Nat} {r : List Int}, r ∈ tl k ↔ downIn k r
  | 0, r => by
    show r ∈ [[]] ↔ _
    rw [List.mem_singleton]
    constructor
    · rintro rfl
      exact ⟨List.Pairwise.nil, fun x hx => by cases hx⟩
    · intro h
      cases r with
      | nil => rfl
      | cons x r =>
        have := h.2 x (by simp)
        omega
  | k + 1, r => by
    show r ∈ tl k ++ (tl k).map (fun r => ((k : Int) + 1) :: r) ↔ _
    rw [List.mem_append, List.mem_map, mem_tl]
    constructor
    · rintro (h | ⟨r', h, rfl⟩)
      · exact ⟨h.1, fun x hx => by have := h.2 x hx; omega⟩
      · have h := mem_tl.mp h
        refine ⟨List.pairwise_cons.mpr ⟨fun y hy => ?_, h.1⟩, fun x hx => ?_⟩
        · have := h.2 y hy
          show y < _
          omega
        · rcases List.mem_cons.mp hx with rfl | hx
          · omega
          · have := h.2 x hx
            omega
    · intro h
      cases r with
      | nil => exact .inl ⟨List.Pairwise.nil, fun x hx => by cases hx⟩
      | cons x r =>
        have hx := h.2 x (by simp)
        obtain ⟨p1, p2⟩ := List.pairwise_cons.mp h.1
        by_cases e : x = (k : Int) + 1
        · refine .inr ⟨r, mem_tl.mpr ⟨p2, fun y hy => ?_⟩, by rw [e]⟩
          have := h.2 y (by simp [hy])
          have := p1 y hy
          omega
        · refine .inl ⟨h.1, fun y hy => ?_⟩
          have h1 := h.2 y hy
          rcases List.mem_cons.mp hy with rfl | hy
          · omega
          · have := p1 y hy
            omega
theorem nd_tl : ∀ k, (tl k).Nodup
  | 0 => by simp [tl]
  | k + 1 => by
    refine List.nodup_append.mpr ⟨nd_tl k, ?_, fun a ha b hb e => ?_⟩
    · exact List.Pairwise.map _ (fun a b hab e => hab (List.cons.inj e).2) (nd_tl k)
    · obtain ⟨r, _, rfl⟩ := List.mem_map.mp hb
      have := (mem_tl.mp ha).2 ((k : Int) + 1) (by rw [e]; simp)
      omega
theorem cnt_tl : ∀ (k j : Nat), (tl k).countP (fun r => decide (r.length ≤ j)) = tF k j
  | 0, j => by
    show ([[]] : List (List Int)).countP _ = 1
    simp
  | k + 1, j => by
    show ((tl k) ++ (tl k).map fun r => ((k : Int) + 1) :: r).countP _ = _
    rw [List.countP_append, cnt_tl k j, List.countP_map]
    cases j with
    | zero =>
      rw [tF_zero, tF_zero]
      have : (tl k).countP ((fun r => decide (r.length ≤ 0)) ∘ fun r => ((k : Int) + 1) :: r) = 0 := List.countP_eq_zero.mpr fun r _ => by simp
      rw [this]
    | succ j =>
      have : (tl k).countP ((fun r => decide (r.length ≤ j + 1)) ∘ fun r => ((k : Int) + 1) :: r) = (tl k).countP fun r => decide (r.length ≤ j) := List.countP_congr fun r _ => by simp
      rw [this, cnt_tl k j]
      rfl
/-- as the law makes them -/
def lotsC (top : Nat) : Nat → List (List Int)
  | 0 => [[]]
  | i + 1 => lotsC top i ++ (lotsC top i).map fun r => r ++ [(top : Int) - (i : Int)]
theorem mem_lotsC {top : Nat} : ∀ {i : Nat} {r : List Int}, r ∈ lotsC top i ↔ r.Pairwise (· > ·) ∧ ∀ x ∈ r, (top : Int) - (i : Int) < x ∧ x ≤ top
  | 0, r => by
    show r ∈ [[]] ↔ _
    rw [List.mem_singleton]
    constructor
    · rintro rfl
      exact ⟨List.Pairwise.nil, fun x hx => by cases hx⟩
    · intro h
      cases r with
      | nil => rfl
      | cons x r =>
        have := h.2 x (by simp)
        omega
  | i + 1, r => by
    show r ∈ lotsC top i ++ (lotsC top i).map (fun r => r ++ [(top : Int) - (i : Int)]) ↔ _
    rw [List.mem_append, List.mem_map]
    constructor
    · rintro (h | ⟨r', h, rfl⟩)
      · have h := mem_lotsC.mp h
        exact ⟨h.1, fun x hx => by have := h.2 x hx; omega⟩
      · have h := mem_lotsC.mp h
        refine ⟨List.pairwise_append.mpr ⟨h.1, List.pairwise_singleton _ _, fun a ha b hb => ?_⟩, fun x hx => ?_⟩
        · rw [List.mem_singleton.mp hb]
          exact (h.2 a ha).1
        · rcases List.mem_append.mp hx with hx | hx
          · have := h.2 x hx
            omega
          · rw [List.mem_singleton.mp hx]
            omega
    · intro h
      rcases List.eq_nil_or_concat r with rfl | ⟨r', x, e⟩
      · exact .inl (mem_lotsC.mpr ⟨List.Pairwise.nil, fun x hx => by cases hx⟩)
      · rw [List.concat_eq_append] at e
        subst e
        obtain ⟨p1, _, p3⟩ := List.pairwise_append.mp h.1
        have hx := h.2 x (by simp)
        by_cases e : x = (top : Int) - (i : Int)
        · refine .inr ⟨r', mem_lotsC.mpr ⟨p1, fun y hy => ?_⟩, by rw [e]⟩
          have h1 := p3 y hy x (by simp)
          have h2 := h.2 y (by simp [hy])
          omega
        · refine .inl (mem_lotsC.mpr ⟨h.1, fun y hy => ?_⟩)
          have h2 := h.2 y hy
          rcases List.mem_append.mp hy with hy | hy
          · have h1 := p3 y hy x (by simp)
            omega
          · rw [List.mem_singleton.mp hy]
            omega
theorem nd_lotsC (top : Nat) : ∀ i, (lotsC top i).Nodup
  | 0 => by simp [lotsC]
  | i + 1 => by
    refine List.nodup_append.mpr ⟨nd_lotsC top i, ?_, fun a ha b hb e => ?_⟩
    · exact List.Pairwise.map _ (fun a b hab e => hab (List.append_inj_left' e rfl)) (nd_lotsC top i)
    · obtain ⟨r, _, rfl⟩ := List.mem_map.mp hb
      have := (mem_lotsC.mp ha).2 ((top : Int) - (i : Int)) (by rw [e]; simp)
      omega
theorem len_lotsC (top : Nat) : ∀ i, (lotsC top i).length = 2 ^ i
  | 0 => rfl
  | i + 1 => by
    show (lotsC top i ++ (lotsC top i).map _).length = _
    rw [List.length_append, List.length_map, len_lotsC top i, Nat.pow_succ]
    omega
theorem lots_perm (top : Nat) : (lotsC top top).Perm (tl top) := (List.perm_ext_iff_of_nodup (nd_lotsC top top) (nd_tl top)).mpr fun r => by
  rw [mem_lotsC, mem_tl]
  unfold downIn
  constructor <;> intro ⟨h1, h2⟩ <;> exact ⟨h1, fun x hx => by have := h2 x hx; omega⟩
/-- each counted once -/
theorem sum_keysG {α κ : Type} [DecidableEq κ] {g : α → κ} {ks : List κ} (nd : ks.Nodup) : ∀ {l : List α}, (∀ r ∈ l, g r ∈ ks) → (ks.map fun k => ((l.countP fun r => decide (g r = k) : Nat) : Int)).sum = (l.length : Nat)
  | [], _ => by
    simp only [List.countP_nil]
    exact sum_zeroI ks
  | a :: l, h => by
    have e : (fun k => (((a :: l).countP fun r => decide (g r = k) : Nat) : Int)) = fun k => ((l.countP fun r => decide (g r = k) : Nat) : Int) + if g a = k then 1 else 0 := by
      funext k
      rw [List.countP_cons]
      by_cases z : g a = k
      · rw [if_pos (decide_eq_true z), if_pos z]; rfl
      · rw [if_neg (by rw [decide_eq_false z]; exact Bool.false_ne_true), if_neg z]; rfl
    rw [e, sum_addI, sum_keysG nd fun r hr => h r (by simp [hr]), List.length_cons]
    have one : (ks.map fun k => if g a = k then (1 : Int) else 0).sum = 1 := by
      have := h a (by simp)
      clear h e
      induction ks with
      | nil => cases this
      | cons k ks ih =>
        obtain ⟨n1, n2⟩ := List.nodup_cons.mp nd
        rw [List.map_cons, List.sum_cons]
        by_cases y : g a = k
        · rw [if_pos y]
          have : (ks.map fun k => if g a = k then (1 : Int) else 0) = ks.map fun _ => 0 := List.map_congr_left fun k' hk' => if_neg fun w => n1 (by rw [← y, w]; exact hk')
          rw [this, sum_zeroI]
          rfl
        · rw [if_neg y, ih n2 ((List.mem_cons.mp this).resolve_left y), Int.zero_add]
    rw [one]
    omega
/-- over all marks, ways add up to all rows -/
theorem all_ways {top : Nat} {ms : List Int} (hd : downIn top ms) (n : Nat) : ((lotsC top top).map fun later => waysF ms later n).sum = ((top ^ n : Nat) : Int) := by
  have e : ((lotsC top top).map fun later => waysF ms later n) = (lotsC top top).map fun later => (((rowsF top n).countP fun r => decide (floods ms r = later) : Nat) : Int) := List.map_congr_left fun later hl => (cnt_ways (by
    have := mem_lotsC.mp hl
    exact ⟨this.1, fun x hx => by have := this.2 x hx; omega⟩) n).symm
  rw [e, sum_keysG (nd_lotsC top top), rows_len]
  intro r hr
  have hr2 := (rows_in hr).2
  refine mem_lotsC.mpr ⟨floods_down hd.1, fun x hx => ?_⟩
  have := floods_in (top := top) hd.2 hr2 x hx
  omega
/-! ### how many marks -/
def phi (ms : List Int) (h : Int) (t : List Int) : List Int := ms.filter (fun x => decide (h < x)) ++ h :: t
/-- a falling row at a mark -/
theorem fall_at {h : Int} : ∀ {ms : List Int}, ms.Pairwise (· > ·) → h ∈ ms → ∃ A B, ms = A ++ h :: B ∧ (∀ x ∈ A, h < x) ∧ (∀ x ∈ B, x < h) ∧ B.Pairwise (· > ·)
  | [], _, hm => by cases hm
  | y :: ms, hp, hm => by
    obtain ⟨p1, p2⟩ := List.pairwise_cons.mp hp
    by_cases e : y = h
    · subst e
      exact ⟨[], ms, rfl, (fun x hx => by cases hx), fun x hx => p1 x hx, p2⟩
    · have hm2 : h ∈ ms := (List.mem_cons.mp hm).resolve_left fun z => e z.symm
      obtain ⟨A, B, rfl, h1, h2, h3⟩ := fall_at p2 hm2
      refine ⟨y :: A, B, rfl, fun x hx => ?_, h2, h3⟩
      rcases List.mem_cons.mp hx with rfl | hx
      · exact p1 h hm2
      · exact h1 x hx
theorem filt_all {α : Type} {p : α → Bool} {l : List α} (h : ∀ x ∈ l, p x = true) : l.filter p = l := List.filter_eq_self.mpr h
theorem filt_none {α : Type} {p : α → Bool} {l : List α} (h : ∀ x ∈ l, p x = false) : l.filter p = [] := List.filter_eq_nil_iff.mpr fun x hx => by rw [h x hx]; exact Bool.false_ne_true
theorem bdH_in {ms A B : List Int} {h : Int} (e : ms = A ++ h :: B) (h1 : ∀ x ∈ A, h < x) (h2 : ∀ x ∈ B, x < h) : bdH ms h = match B.head? with | some m => m | none => 1 := by
  unfold bdH
  rw [if_pos (by rw [e]; simp)]
  have : ms.filter (fun x => decide (x < h)) = B := by
    rw [e, List.filter_append, filt_none (fun x hx => decide_eq_false (by have := h1 x hx; omega)), List.filter_cons_of_neg (by simp), filt_all fun x hx => decide_eq_true (h2 x hx)]
    rfl
  rw [this]
theorem bdH_le {top : Nat} {ms : List Int} (hd : downIn top ms) {h : Int} (h1 : 1 ≤ h) : 1 ≤ bdH ms h ∧ bdH ms h ≤ h := by
  by_cases hm : h ∈ ms
  · obtain ⟨A, B, e, a1, a2, a3⟩ := fall_at hd.1 hm
    rw [bdH_in e a1 a2]
    cases B with
    | nil => exact ⟨by decide, h1⟩
    | cons m B =>
      have := a2 m (by simp)
      have := hd.2 m (by rw [e]; simp)
      show 1 ≤ m ∧ m ≤ h
      omega
  · unfold bdH
    rw [if_neg hm]
    exact ⟨h1, Int.le_refl _⟩
/-- the heights of a told mark: above h those of ms, below it those of t -/
theorem phi_mem {ms t : List Int} {h : Int} (ht : ∀ x ∈ t, x < h) {x : Int} : x ∈ phi ms h t ↔ (x ∈ ms ∧ h < x) ∨ x = h ∨ x ∈ t := by
  unfold phi
  rw [List.mem_append, List.mem_filter, List.mem_cons, decide_eq_true_eq]
theorem phi_one {top : Nat} {ms t t' : List Int} {h h' : Int} (hd : downIn top ms) (h1 : 1 ≤ h) (hlt : h < h') (ht : ∀ x ∈ t, x < bdH ms h) (ht' : ∀ x ∈ t', x < bdH ms h') : phi ms h t ≠ phi ms h' t' := fun e => by
  have b1 := bdH_le hd h1
  have b2 := bdH_le hd (h := h') (by omega)
  have t1 : ∀ x ∈ t, x < h := fun x hx => by have := ht x hx; omega
  have t2 : ∀ x ∈ t', x < h' := fun x hx => by have := ht' x hx; omega
  have m1 : h' ∈ phi ms h t := by rw [e]; exact (phi_mem t2).mpr (.inr (.inl rfl))
  have hm : h' ∈ ms := by
    rcases (phi_mem t1).mp m1 with z | z | z
    · exact z.1
    · omega
    · have := t1 _ z; omega
  have m2 : h ∈ phi ms h' t' := by rw [← e]; exact (phi_mem t1).mpr (.inr (.inl rfl))
  have hT : h ∈ t' := by
    rcases (phi_mem t2).mp m2 with z | z | z
    · omega
    · omega
    · exact z
  obtain ⟨A, B, eAB, a1, a2, a3⟩ := fall_at hd.1 hm
  have hb := ht' h hT
  rw [bdH_in eAB a1 a2] at hb ht'
  cases B with
  | nil =>
    have : h < 1 := hb
    omega
  | cons m B =>
    have hb : h < m := hb
    have hmm : m ∈ ms := by rw [eAB]; simp
    have m3 : m ∈ phi ms h' t' := by rw [← e]; exact (phi_mem t1).mpr (.inl ⟨hmm, hb⟩)
    have mh := a2 m (by simp)
    rcases (phi_mem t2).mp m3 with z | z | z
    · omega
    · omega
    · have : m < m := ht' m z
      omega
theorem phi_down {top : Nat} {ms t : List Int} {h : Int} (hd : downIn top ms) (h1 : 1 ≤ h) (h2 : h ≤ top) (hp : t.Pairwise (· > ·)) (ht : ∀ x ∈ t, 1 ≤ x ∧ x < h) : downIn top (phi ms h t) := by
  refine ⟨List.pairwise_append.mpr ⟨hd.1.filter _, List.pairwise_cons.mpr ⟨fun x hx => (ht x hx).2, hp⟩, fun a ha b hb => ?_⟩, fun x hx => ?_⟩
  · have := of_decide_eq_true (List.mem_filter.mp ha).2
    rcases List.mem_cons.mp hb with rfl | hb
    · exact this
    · have := ht b hb
      show b < a
      omega
  · rcases (phi_mem fun x hx => (ht x hx).2).mp hx with z | z | z
    · exact hd.2 x z.1
    · omega
    · have := ht x z
      omega
theorem floods_fall : ∀ {t M : List Int}, (M ++ t).Pairwise (· > ·) → floods M t = M ++ t
  | [], M, _ => (List.append_nil M).symm
  | x :: t, M, h => by
    have e : flood M x = M ++ [x] := by
      unfold flood
      rw [filt_all fun y hy => decide_eq_true ((List.pairwise_append.mp h).2.2 y hy x (by simp))]
    rw [floods_cons, e, floods_fall (by rw [List.append_assoc]; exact h), List.append_assoc]
    rfl
theorem flood_twice (ms : List Int) (h : Int) : flood (flood ms h) h = flood ms h := by
  unfold flood
  rw [List.filter_append, List.filter_filter]
  simp
theorem floods_rep1 (ms : List Int) (h : Int) : ∀ k, floods ms (List.replicate (k + 1) h) = flood ms h
  | 0 => rfl
  | k + 1 => by
    rw [List.replicate_succ, floods_cons, floods_rep1 (flood ms h) h k, flood_twice]
/-- what can come -/
theorem reach_of {top : Nat} {ms t : List Int} {h : Int} {n : Nat} (hd : downIn top ms) (h1 : 1 ≤ h) (h2 : h ≤ top) (hp : t.Pairwise (· > ·)) (ht : ∀ x ∈ t, 1 ≤ x ∧ x < h) (hl : t.length + 1 ≤ n) : 0 < waysF ms (phi ms h t) n := by
  have hdd := phi_down hd h1 h2 hp ht
  rw [← cnt_ways hdd n]
  have em : (List.replicate (n - t.length - 1 + 1) h ++ t).length = n := by
    rw [List.length_append, List.length_replicate]
    omega
  have hr : List.replicate (n - t.length - 1 + 1) h ++ t ∈ rowsF top n := by
    have := mem_rows (top := top) (r := List.replicate (n - t.length - 1 + 1) h ++ t) fun x hx => by
      rcases List.mem_append.mp hx with z | z
      · rw [(List.mem_replicate.mp z).2]; exact ⟨h1, h2⟩
      · have := ht x z; omega
    rw [em] at this
    exact this
  have hf : floods ms (List.replicate (n - t.length - 1 + 1) h ++ t) = phi ms h t := by
    rw [floods_append, floods_rep1]
    have e2 : flood ms h ++ t = phi ms h t := by
      unfold flood phi
      rw [List.append_assoc]
      rfl
    rw [floods_fall (by rw [e2]; exact hdd.1), e2]
  have : 0 < (rowsF top n).countP fun r => decide (floods ms r = phi ms h t) := List.countP_pos_iff.mpr ⟨_, hr, decide_eq_true hf⟩
  omega
theorem floods_len0 (r : List Int) : (floods [] r).length ≤ r.length := by
  have := floods_len r []
  simpa using this
/-- by the least flood that can be the highest -/
theorem reach_least {top : Nat} {ms : List Int} {n : Nat} (hd : downIn top ms) : ∀ (k : Nat) (t : List Int) (h : Int), t.length ≤ k → 1 ≤ h → h ≤ top → t.Pairwise (· > ·) → (∀ x ∈ t, 1 ≤ x ∧ x < h) → t.length + 1 ≤ n →
    ∃ (h' : Int) (t' : List Int), phi ms h t = phi ms h' t' ∧ 1 ≤ h' ∧ h' ≤ top ∧ t'.Pairwise (· > ·) ∧ (∀ x ∈ t', 1 ≤ x ∧ x < bdH ms h') ∧ t'.length + 1 ≤ n := fun k => by
  induction k with
  | zero =>
    intro t h hk h1 h2 hp ht hl
    have : t = [] := List.length_eq_zero_iff.mp (by omega)
    subst this
    exact ⟨h, [], rfl, h1, h2, hp, (fun x hx => by cases hx), hl⟩
  | succ k ih =>
    intro t h hk h1 h2 hp ht hl
    by_cases hb : ∀ x ∈ t, x < bdH ms h
    · exact ⟨h, t, rfl, h1, h2, hp, fun x hx => ⟨(ht x hx).1, hb x hx⟩, hl⟩
    · cases t with
      | nil => exact absurd (fun x hx => by cases hx) hb
      | cons t0 t' =>
        obtain ⟨p1, p2⟩ := List.pairwise_cons.mp hp
        have t0h := ht t0 (by simp)
        have hge : bdH ms h ≤ t0 := by
          refine Decidable.byContradiction fun z => hb fun x hx => ?_
          rcases List.mem_cons.mp hx with rfl | hx
          · omega
          · have := p1 x hx
            omega
        have hm : h ∈ ms := by
          refine Decidable.byContradiction fun z => ?_
          unfold bdH at hge
          rw [if_neg z] at hge
          omega
        obtain ⟨A, B, eAB, a1, a2, a3⟩ := fall_at hd.1 hm
        rw [bdH_in eAB a1 a2] at hge
        have hB : ∀ x ∈ B, x ≤ t0 := fun x hx => by
          cases B with
          | nil => cases hx
          | cons m B =>
            have hge : m ≤ t0 := hge
            rcases List.mem_cons.mp hx with rfl | hx
            · exact hge
            · have := (List.pairwise_cons.mp a3).1 x hx
              omega
        have e1 : ms.filter (fun x => decide (h < x)) = A := by
          rw [eAB, List.filter_append, filt_all (fun x hx => decide_eq_true (a1 x hx)), filt_none fun x hx => decide_eq_false (by
            rcases List.mem_cons.mp hx with rfl | hx
            · omega
            · have := a2 x hx
              omega), List.append_nil]
        have e2 : ms.filter (fun x => decide (t0 < x)) = A ++ [h] := by
          rw [eAB, List.filter_append, filt_all (fun x hx => decide_eq_true (by have := a1 x hx; omega)), List.filter_cons_of_pos (by simpa using t0h.2), filt_none fun x hx => decide_eq_false (by have := hB x hx; omega)]
        have ep : phi ms h (t0 :: t') = phi ms t0 t' := by
          unfold phi
          rw [e1, e2, List.append_assoc]
          rfl
        rw [ep]
        rw [List.length_cons] at hk hl
        exact ih t' t0 (by omega) t0h.1 (by omega) p2 (fun x hx => ⟨(ht x (by simp [hx])).1, p1 x hx⟩) (by omega)
theorem reach_to {top : Nat} {ms later : List Int} {n : Nat} (hd : downIn top ms) (hl : downIn top later) (hn : n ≠ 0) (hw : 0 < waysF ms later n) : ∃ (h : Int) (t : List Int), later = phi ms h t ∧ 1 ≤ h ∧ h ≤ top ∧ t.Pairwise (· > ·) ∧ (∀ x ∈ t, 1 ≤ x ∧ x < bdH ms h) ∧ t.length + 1 ≤ n := by
  rw [← cnt_ways hl n] at hw
  obtain ⟨r, hr, hq⟩ := List.countP_pos_iff.mp (show 0 < (rowsF top n).countP fun r => decide (floods ms r = later) by omega)
  have hq := of_decide_eq_true hq
  obtain ⟨r1, r2⟩ := rows_in hr
  have hr0 : r ≠ [] := fun z => by rw [z] at r1; exact hn r1.symm
  obtain ⟨m, t, e, hm, hle⟩ := flo_head r hr0
  have dn := floods_down (hs := r) (ms := []) List.Pairwise.nil
  rw [e] at dn
  obtain ⟨p1, p2⟩ := List.pairwise_cons.mp dn
  have ln := floods_len0 r
  rw [e, List.length_cons, r1] at ln
  have tin : ∀ x ∈ t, 1 ≤ x := fun x hx => ((floods_mem r [] x (by rw [e]; simp [hx])).elim (fun z => by cases z) fun z => (r2 x z).1)
  have ef : later = phi ms m t := by
    rw [← hq, floods_split r ms, e]
    unfold phi
    congr 2
    funext x
    exact above_iff e x
  obtain ⟨h', t', e', g1, g2, g3, g4, g5⟩ := reach_least hd t.length t m (Nat.le_refl _) (r2 m hm).1 (r2 m hm).2 p2 (fun x hx => ⟨tin x hx, p1 x hx⟩) ln
  exact ⟨h', t', ef.trans e', g1, g2, g3, g4, g5⟩
theorem phi_inj {ms t t' : List Int} {h : Int} (e : phi ms h t = phi ms h t') : t = t' := (List.cons.inj (List.append_cancel_left e)).2
theorem flat_len {α β : Type} (f : α → List β) : ∀ l : List α, (((l.flatMap f).length : Nat) : Int) = (l.map fun a => ((f a).length : Int)).sum
  | [] => rfl
  | a :: l => by
    rw [List.flatMap_cons, List.length_append, List.map_cons, List.sum_cons, ← flat_len f l]
    omega
/-- HOW MANY MARKS -/
theorem how_marks {top : Nat} {ms : List Int} (hd : downIn top ms) (n : Nat) : (((lotsC top top).countP fun later => decide (0 < waysF ms later n) : Nat) : Int) = hmF top ms n := by
  unfold hmF
  by_cases hn : n = 0
  · subst hn
    rw [if_pos rfl]
    have hm : ms ∈ lotsC top top := mem_lotsC.mpr ⟨hd.1, fun x hx => by have := hd.2 x hx; omega⟩
    have : (lotsC top top).countP (fun later => decide (0 < waysF ms later ((0 : Nat) : Int))) = 1 := countP_one (nd_lotsC top top) hm fun later _ => by
      rw [decide_eq_true_eq]
      unfold waysF
      show (0 < if (0 : Int) = 0 then (if ms = later then (1 : Int) else 0) else _) ↔ _
      rw [if_pos rfl]
      by_cases e : ms = later
      · rw [if_pos e]; exact ⟨fun _ => e.symm, fun _ => by decide⟩
      · rw [if_neg e]; exact ⟨fun z => absurd z (by decide), fun z => absurd z.symm e⟩
    rw [this]
    rfl
  · rw [if_neg hn, List.countP_eq_length_filter]
    have key : ((lotsC top top).filter fun later => decide (0 < waysF ms later n)).Perm ((upto top).flatMap fun h => ((tl (bdH ms h - 1).toNat).filter fun t => decide (t.length ≤ n - 1)).map (phi ms h)) := by
      refine (List.perm_ext_iff_of_nodup ((nd_lotsC top top).filter _) ?_).mpr fun later => ?_
      · refine List.pairwise_flatMap.mpr ⟨fun h _ => ?_, (upto_up top).imp_of_mem fun {h h'} hh hh' hlt x hx y hy => ?_⟩
        · exact List.Pairwise.map _ (fun a b hab e => hab (phi_inj e)) ((nd_tl _).filter _)
        · obtain ⟨t, ht, rfl⟩ := List.mem_map.mp hx
          obtain ⟨t', ht', rfl⟩ := List.mem_map.mp hy
          have u1 := mem_upto.mp hh
          have u2 := mem_upto.mp hh'
          refine phi_one hd u1.1 hlt (fun x hx => ?_) fun x hx => ?_
          · have := (mem_tl.mp (List.mem_filter.mp ht).1).2 x hx
            omega
          · have := (mem_tl.mp (List.mem_filter.mp ht').1).2 x hx
            omega
      · rw [List.mem_filter, mem_lotsC, decide_eq_true_eq, List.mem_flatMap]
        constructor
        · intro ⟨⟨l1, l2⟩, hw⟩
          obtain ⟨h, t, rfl, h1, h2, hp, ht, hl⟩ := reach_to hd ⟨l1, fun x hx => by have := l2 x hx; omega⟩ hn hw
          refine ⟨h, mem_upto.mpr ⟨h1, h2⟩, List.mem_map.mpr ⟨t, List.mem_filter.mpr ⟨mem_tl.mpr ⟨hp, fun x hx => ?_⟩, decide_eq_true (by omega)⟩, rfl⟩⟩
          have := ht x hx
          omega
        · rintro ⟨h, hh, hx⟩
          obtain ⟨t, ht, rfl⟩ := List.mem_map.mp hx
          obtain ⟨t1, t2⟩ := List.mem_filter.mp ht
          obtain ⟨p1, p2⟩ := mem_tl.mp t1
          have t2 := of_decide_eq_true t2
          obtain ⟨h1, h2⟩ := mem_upto.mp hh
          have b := bdH_le hd h1
          have tin : ∀ x ∈ t, 1 ≤ x ∧ x < h := fun x hx => by have := p2 x hx; omega
          have pd := phi_down hd h1 h2 p1 tin
          exact ⟨⟨pd.1, fun x hx => by have := pd.2 x hx; omega⟩, reach_of hd h1 h2 p1 tin (by omega)⟩
    rw [key.length_eq, flat_len]
    unfold sg upto
    rw [List.map_map]
    congr 1
    refine List.map_congr_left fun k _ => ?_
    show (((((tl (bdH ms (1 + (k : Int)) - 1).toNat).filter fun t => decide (t.length ≤ n - 1)).map (phi ms (1 + (k : Int)))).length : Nat) : Int) = _
    rw [List.length_map, ← List.countP_eq_length_filter, cnt_tl]
def dp__law_lots : DP := fun ds Q _ => ∃ top : Nat, ds = [.int top] ∧ 1 ≤ top ∧ top ≤ 10 ∧ Q (.fz (.lst ((lotsC top top).map tupI)))

abbrev s__law_lots : Stmt := topS 41
theorem sc__law_lots : FnScope ["top", "found", "height", "one"] ["top"] (defScope s__law_lots) := ⟨rfl, rfl, rfl, by decide +kernel, rfl, by decide +kernel, by decide +kernel⟩
theorem ok__law_lots {P : Program} {w : World} {K : PySem.W.Frag} {mg : Str → Option Value} {base : Heap} (B : Bt mg) (d : Df K mg "_law_lots" s__law_lots ["top"])  : Fn P w K mg base "_law_lots" (0 + 1) 1 dp__law_lots := by
  refine fn_mk d sc__law_lots rfl (by decide) fun f cdv A outer s H E C hr => ⟨_, _, (ds_cons (ds_set 1 sc__law_lots.nd (d_lst (da_cons (d_tup da_nil) da_nil)))
      (ds_cons (ds_for PassesOwn.never rfl (di_range3 (by rfl) B.range (da_cons (dv 0) (da_cons d_int (da_cons (d_neg d_int) da_nil)))) (dg_name 2 sc__law_lots.nd) (ds_one (ds_set 1 sc__law_lots.nd (d_op (o_addK K) (dv 1) (d_lc [("one", 3)] rfl sc__law_lots.nd (di_seqK K (dv 1)) (blkOk_by (by show blkC ["top", "found", "height", "one"] (defScope s__law_lots) _ [("one", 3)] = true; decide +kernel)) (fun _ _ _ _ _ _ => (dg_name 3 sc__law_lots.nd)) (fun _ _ _ _ _ _ => dts_nil) (fun _ _ _ _ _ _ => (d_op (o_addK K) (dv 3) (d_tup (da_cons (dv 2) da_nil)))))))))
      (ds_one (ds_ret (dv 1))))), fun ds QD ED hl0 h => ?_⟩
  obtain ⟨a0, rfl⟩ : ∃ a0, ds = [a0] := by
    match ds, hl0 with
    | [a0], _ => exact ⟨a0, rfl⟩
  clear hl0
  obtain ⟨top, e, t1, t2, q⟩ := h
  cases e
  simp only [xSeq, xSet, xRet, xIf, xExpr, xNext, xNever, xC, xNil, xCons, xTup, xLst, xOp, xEq, xNe, xUn, xNot, xAnd, xOr, xIfE, xCB, xCall, xCallB, xName, xAsg, xIsi3, toD_fz, toD_ow, toD_od, toD_bg, rd_var, rd_getv1, rd_getv2, rd_getv3, rd_test, rd_onB, rd_onI, rd_onSB, rd_andV, rd_orV, rd_notV, rd_chain, rd_II, rd_II0, rd_add1, rd_add2, rd_add3, rd_mul1, rd_mul2, rd_mul3, rd_isN, rd_notN, rd_isN1, rd_isN2, rd_isN3, rd_neg, rd_ix1, rd_ix2, rd_part, rd_sl, rd_onSl1, rd_onSl2, rd_rev, rd_onRv, rd_len1, rd_len2, rd_max2, rd_min2, rd_int1, rd_int2, rd_lst1, rd_lst2, rd_tup1, rd_tup2, rd_dm, rd_seqI, rd_onSq1, rd_onSq2, rd_rng1, rd_onR1, rd_rng2, rd_onR2, xEnumT, rd_onEt, rd_zip, rd_onZ1, rd_onZ2, rd_par, rd_onP, xPar3, rd_onP3, rd_gtup, rd_gnil, rd_gcons, rd_isi, ini, iniB, wipeD, unw, kf, List.map_cons, List.map_nil, List.replicate_succ, List.replicate_zero, List.cons_append, List.nil_append, List.length_cons, List.length_nil, List.getElem?_cons_zero, List.getElem?_cons_succ, List.set_cons_zero, List.set_cons_succ, decide_eq_true_eq, Nat.zero_add, Nat.reduceAdd, Nat.reduceSub, Nat.reduceLeDiff, true_and, Bool.false_eq_true, if_false, if_true, isi_int_non, isi_int_bl, isi_int_int, isi_int_str, isi_int_lst, isi_int_tup, isi_bool_non, isi_bool_bl, isi_bool_int, isi_bool_str, isi_bool_lst, isi_bool_tup, isi_list_non, isi_list_bl, isi_list_int, isi_list_str, isi_list_lst, isi_list_tup, isi_tuple_non, isi_tuple_bl, isi_tuple_int, isi_tuple_str, isi_tuple_lst, isi_tuple_tup, isi_str_non, isi_str_bl, isi_str_int, isi_str_str, isi_str_lst, isi_str_tup, Bool.not_true, Bool.not_false, Bool.or_false, Bool.or_true, Bool.false_or, Bool.true_or, ite_true, ite_false, Option.some.injEq, true_or, false_or, or_false, and_true, rd_isOwn, rd_own1, rd_own2, rd_own3, rd_ixO, rd_onIx1, rd_onIx2, rd_store, rd_onStore1, rd_onStore2, ex_eq, xApp, xDput, S.ow.injEq, S.bg.injEq, S.od.injEq, reduceCtorEq, exists_eq_left', exists_eq_left, exists_eq', D.int.injEq, atI_c0, atI_c1, atI_c2, ixN3_0, ixN3_1, ixN3_2, false_and, and_self, xFor, xRng3, onR3]
  refine ⟨by omega, fun i ρ => ∃ (y1 : S) (x2 : Option S), ρ = [some (.fz (.int (top : Nat))), some y1, x2, none] ∧ (y1 = .fz (.lst ((lotsC top i).map tupI)) ∨ y1 = .ow ((lotsC top i).map tupI)), ⟨_, none, rfl, .inr rfl⟩, fun i d ρ hd hI => ?_, fun ρ hI => ?_⟩
  · obtain ⟨y1, x2, rfl, h1⟩ := hI
    obtain ⟨hi, rfl⟩ := rngN_get hd
    have hit : i < top := by omega
    have p2 : 2 ^ i ≤ 1024 := Nat.pow_le_pow_right (n := 2) (by decide) (show i ≤ 10 by omega)
    have ll := len_lotsC top i
    rcases h1 with rfl | rfl
    all_goals
      simp only [xSeq, xSet, xRet, xIf, xExpr, xNext, xNever, xC, xNil, xCons, xTup, xLst, xOp, xEq, xNe, xUn, xNot, xAnd, xOr, xIfE, xCB, xCall, xCallB, xName, xAsg, xIsi3, toD_fz, toD_ow, toD_od, toD_bg, rd_var, rd_getv1, rd_getv2, rd_getv3, rd_test, rd_onB, rd_onI, rd_onSB, rd_andV, rd_orV, rd_notV, rd_chain, rd_II, rd_II0, rd_add1, rd_add2, rd_add3, rd_mul1, rd_mul2, rd_mul3, rd_isN, rd_notN, rd_isN1, rd_isN2, rd_isN3, rd_neg, rd_ix1, rd_ix2, rd_part, rd_sl, rd_onSl1, rd_onSl2, rd_rev, rd_onRv, rd_len1, rd_len2, rd_max2, rd_min2, rd_int1, rd_int2, rd_lst1, rd_lst2, rd_tup1, rd_tup2, rd_dm, rd_seqI, rd_onSq1, rd_onSq2, rd_rng1, rd_onR1, rd_rng2, rd_onR2, xEnumT, rd_onEt, rd_zip, rd_onZ1, rd_onZ2, rd_par, rd_onP, xPar3, rd_onP3, rd_gtup, rd_gnil, rd_gcons, rd_isi, ini, iniB, wipeD, unw, kf, List.map_cons, List.map_nil, List.replicate_succ, List.replicate_zero, List.cons_append, List.nil_append, List.length_cons, List.length_nil, List.getElem?_cons_zero, List.getElem?_cons_succ, List.set_cons_zero, List.set_cons_succ, decide_eq_true_eq, Nat.zero_add, Nat.reduceAdd, Nat.reduceSub, Nat.reduceLeDiff, true_and, Bool.false_eq_true, if_false, if_true, isi_int_non, isi_int_bl, isi_int_int, isi_int_str, isi_int_lst, isi_int_tup, isi_bool_non, isi_bool_bl, isi_bool_int, isi_bool_str, isi_bool_lst, isi_bool_tup, isi_list_non, isi_list_bl, isi_list_int, isi_list_str, isi_list_lst, isi_list_tup, isi_tuple_non, isi_tuple_bl, isi_tuple_int, isi_tuple_str, isi_tuple_lst, isi_tuple_tup, isi_str_non, isi_str_bl, isi_str_int, isi_str_str, isi_str_lst, isi_str_tup, Bool.not_true, Bool.not_false, Bool.or_false, Bool.or_true, Bool.false_or, Bool.true_or, ite_true, ite_false, Option.some.injEq, true_or, false_or, or_false, and_true, rd_isOwn, rd_own1, rd_own2, rd_own3, rd_ixO, rd_onIx1, rd_onIx2, rd_store, rd_onStore1, rd_onStore2, ex_eq, xApp, xDput, S.ow.injEq, S.bg.injEq, S.od.injEq, reduceCtorEq, exists_eq_left', exists_eq_left, exists_eq', D.int.injEq, atI_c0, atI_c1, atI_c2, ixN3_0, ixN3_1, ixN3_2, false_and, and_self]
      refine lc_all (lotsC top i) tupI (fun r => tupI (r ++ [(top : Int) - (i : Int)])) (fun QL hq => ?_) (by omega) (fun r hr QD QN h1 => ?_) ?_
      · simp only [xSeq, xSet, xRet, xIf, xExpr, xNext, xNever, xC, xNil, xCons, xTup, xLst, xOp, xEq, xNe, xUn, xNot, xAnd, xOr, xIfE, xCB, xCall, xCallB, xName, xAsg, xIsi3, toD_fz, toD_ow, toD_od, toD_bg, rd_var, rd_getv1, rd_getv2, rd_getv3, rd_test, rd_onB, rd_onI, rd_onSB, rd_andV, rd_orV, rd_notV, rd_chain, rd_II, rd_II0, rd_add1, rd_add2, rd_add3, rd_mul1, rd_mul2, rd_mul3, rd_isN, rd_notN, rd_isN1, rd_isN2, rd_isN3, rd_neg, rd_ix1, rd_ix2, rd_part, rd_sl, rd_onSl1, rd_onSl2, rd_rev, rd_onRv, rd_len1, rd_len2, rd_max2, rd_min2, rd_int1, rd_int2, rd_lst1, rd_lst2, rd_tup1, rd_tup2, rd_dm, rd_seqI, rd_onSq1, rd_onSq2, rd_rng1, rd_onR1, rd_rng2, rd_onR2, xEnumT, rd_onEt, rd_zip, rd_onZ1, rd_onZ2, rd_par, rd_onP, xPar3, rd_onP3, rd_gtup, rd_gnil, rd_gcons, rd_isi, ini, iniB, wipeD, unw, kf, List.map_cons, List.map_nil, List.replicate_succ, List.replicate_zero, List.cons_append, List.nil_append, List.length_cons, List.length_nil, List.getElem?_cons_zero, List.getElem?_cons_succ, List.set_cons_zero, List.set_cons_succ, decide_eq_true_eq, Nat.zero_add, Nat.reduceAdd, Nat.reduceSub, Nat.reduceLeDiff, true_and, Bool.false_eq_true, if_false, if_true, isi_int_non, isi_int_bl, isi_int_int, isi_int_str, isi_int_lst, isi_int_tup, isi_bool_non, isi_bool_bl, isi_bool_int, isi_bool_str, isi_bool_lst, isi_bool_tup, isi_list_non, isi_list_bl, isi_list_int, isi_list_str, isi_list_lst, isi_list_tup, isi_tuple_non, isi_tuple_bl, isi_tuple_int, isi_tuple_str, isi_tuple_lst, isi_tuple_tup, isi_str_non, isi_str_bl, isi_str_int, isi_str_str, isi_str_lst, isi_str_tup, Bool.not_true, Bool.not_false, Bool.or_false, Bool.or_true, Bool.false_or, Bool.true_or, ite_true, ite_false, Option.some.injEq, true_or, false_or, or_false, and_true, rd_isOwn, rd_own1, rd_own2, rd_own3, rd_ixO, rd_onIx1, rd_onIx2, rd_store, rd_onStore1, rd_onStore2, ex_eq, xApp, xDput, S.ow.injEq, S.bg.injEq, S.od.injEq, reduceCtorEq, exists_eq_left', exists_eq_left, exists_eq', D.int.injEq, atI_c0, atI_c1, atI_c2, ixN3_0, ixN3_1, ixN3_2, false_and, and_self]
        exact hq
      · have hm := mem_lotsC.mp hr
        have lr := down_len hm.1 (b := (top : Int)) fun x hx => by have := hm.2 x hx; omega
        have e : tupI (r ++ [(top : Int) - (i : Int)]) = D.tup (r.map D.int ++ [D.int ((top : Int) - (i : Int))]) := by
          unfold tupI
          rw [List.map_append]
          rfl
        rw [e] at h1
        simp only [xSeq, xSet, xRet, xIf, xExpr, xNext, xNever, xC, xNil, xCons, xTup, xLst, xOp, xEq, xNe, xUn, xNot, xAnd, xOr, xIfE, xCB, xCall, xCallB, xName, xAsg, xIsi3, toD_fz, toD_ow, toD_od, toD_bg, rd_var, rd_getv1, rd_getv2, rd_getv3, rd_test, rd_onB, rd_onI, rd_onSB, rd_andV, rd_orV, rd_notV, rd_chain, rd_II, rd_II0, rd_add1, rd_add2, rd_add3, rd_mul1, rd_mul2, rd_mul3, rd_isN, rd_notN, rd_isN1, rd_isN2, rd_isN3, rd_neg, rd_ix1, rd_ix2, rd_part, rd_sl, rd_onSl1, rd_onSl2, rd_rev, rd_onRv, rd_len1, rd_len2, rd_max2, rd_min2, rd_int1, rd_int2, rd_lst1, rd_lst2, rd_tup1, rd_tup2, rd_dm, rd_seqI, rd_onSq1, rd_onSq2, rd_rng1, rd_onR1, rd_rng2, rd_onR2, xEnumT, rd_onEt, rd_zip, rd_onZ1, rd_onZ2, rd_par, rd_onP, xPar3, rd_onP3, rd_gtup, rd_gnil, rd_gcons, rd_isi, ini, iniB, wipeD, unw, kf, List.map_cons, List.map_nil, List.replicate_succ, List.replicate_zero, List.cons_append, List.nil_append, List.length_cons, List.length_nil, List.getElem?_cons_zero, List.getElem?_cons_succ, List.set_cons_zero, List.set_cons_succ, decide_eq_true_eq, Nat.zero_add, Nat.reduceAdd, Nat.reduceSub, Nat.reduceLeDiff, true_and, Bool.false_eq_true, if_false, if_true, isi_int_non, isi_int_bl, isi_int_int, isi_int_str, isi_int_lst, isi_int_tup, isi_bool_non, isi_bool_bl, isi_bool_int, isi_bool_str, isi_bool_lst, isi_bool_tup, isi_list_non, isi_list_bl, isi_list_int, isi_list_str, isi_list_lst, isi_list_tup, isi_tuple_non, isi_tuple_bl, isi_tuple_int, isi_tuple_str, isi_tuple_lst, isi_tuple_tup, isi_str_non, isi_str_bl, isi_str_int, isi_str_str, isi_str_lst, isi_str_tup, Bool.not_true, Bool.not_false, Bool.or_false, Bool.or_true, Bool.false_or, Bool.true_or, ite_true, ite_false, Option.some.injEq, true_or, false_or, or_false, and_true, rd_isOwn, rd_own1, rd_own2, rd_own3, rd_ixO, rd_onIx1, rd_onIx2, rd_store, rd_onStore1, rd_onStore2, ex_eq, xApp, xDput, S.ow.injEq, S.bg.injEq, S.od.injEq, reduceCtorEq, exists_eq_left', exists_eq_left, exists_eq', D.int.injEq, atI_c0, atI_c1, atI_c2, ixN3_0, ixN3_1, ixN3_2, false_and, and_self, tupI]
        exact ⟨by rw [List.length_map]; omega, h1⟩
      simp only [xSeq, xSet, xRet, xIf, xExpr, xNext, xNever, xC, xNil, xCons, xTup, xLst, xOp, xEq, xNe, xUn, xNot, xAnd, xOr, xIfE, xCB, xCall, xCallB, xName, xAsg, xIsi3, toD_fz, toD_ow, toD_od, toD_bg, rd_var, rd_getv1, rd_getv2, rd_getv3, rd_test, rd_onB, rd_onI, rd_onSB, rd_andV, rd_orV, rd_notV, rd_chain, rd_II, rd_II0, rd_add1, rd_add2, rd_add3, rd_mul1, rd_mul2, rd_mul3, rd_isN, rd_notN, rd_isN1, rd_isN2, rd_isN3, rd_neg, rd_ix1, rd_ix2, rd_part, rd_sl, rd_onSl1, rd_onSl2, rd_rev, rd_onRv, rd_len1, rd_len2, rd_max2, rd_min2, rd_int1, rd_int2, rd_lst1, rd_lst2, rd_tup1, rd_tup2, rd_dm, rd_seqI, rd_onSq1, rd_onSq2, rd_rng1, rd_onR1, rd_rng2, rd_onR2, xEnumT, rd_onEt, rd_zip, rd_onZ1, rd_onZ2, rd_par, rd_onP, xPar3, rd_onP3, rd_gtup, rd_gnil, rd_gcons, rd_isi, ini, iniB, wipeD, unw, kf, List.map_cons, List.map_nil, List.replicate_succ, List.replicate_zero, List.cons_append, List.nil_append, List.length_cons, List.length_nil, List.getElem?_cons_zero, List.getElem?_cons_succ, List.set_cons_zero, List.set_cons_succ, decide_eq_true_eq, Nat.zero_add, Nat.reduceAdd, Nat.reduceSub, Nat.reduceLeDiff, true_and, Bool.false_eq_true, if_false, if_true, isi_int_non, isi_int_bl, isi_int_int, isi_int_str, isi_int_lst, isi_int_tup, isi_bool_non, isi_bool_bl, isi_bool_int, isi_bool_str, isi_bool_lst, isi_bool_tup, isi_list_non, isi_list_bl, isi_list_int, isi_list_str, isi_list_lst, isi_list_tup, isi_tuple_non, isi_tuple_bl, isi_tuple_int, isi_tuple_str, isi_tuple_lst, isi_tuple_tup, isi_str_non, isi_str_bl, isi_str_int, isi_str_str, isi_str_lst, isi_str_tup, Bool.not_true, Bool.not_false, Bool.or_false, Bool.or_true, Bool.false_or, Bool.true_or, ite_true, ite_false, Option.some.injEq, true_or, false_or, or_false, and_true, rd_isOwn, rd_own1, rd_own2, rd_own3, rd_ixO, rd_onIx1, rd_onIx2, rd_store, rd_onStore1, rd_onStore2, ex_eq, xApp, xDput, S.ow.injEq, S.bg.injEq, S.od.injEq, reduceCtorEq, exists_eq_left', exists_eq_left, exists_eq', D.int.injEq, atI_c0, atI_c1, atI_c2, ixN3_0, ixN3_1, ixN3_2, false_and, and_self]
      refine ⟨by simp only [List.length_map]; omega, _, _, rfl, .inr ?_⟩
      rw [show lotsC top (i + 1) = lotsC top i ++ (lotsC top i).map fun r => r ++ [(top : Int) - (i : Int)] from rfl, List.map_append, List.map_map]
      rfl
  · obtain ⟨y1, x2, rfl, h1⟩ := hI
    rw [rngN_len, show ((top : Int) - 0).toNat = top by omega] at h1
    rcases h1 with rfl | rfl
    all_goals
      simp only [xSeq, xSet, xRet, xIf, xExpr, xNext, xNever, xC, xNil, xCons, xTup, xLst, xOp, xEq, xNe, xUn, xNot, xAnd, xOr, xIfE, xCB, xCall, xCallB, xName, xAsg, xIsi3, toD_fz, toD_ow, toD_od, toD_bg, rd_var, rd_getv1, rd_getv2, rd_getv3, rd_test, rd_onB, rd_onI, rd_onSB, rd_andV, rd_orV, rd_notV, rd_chain, rd_II, rd_II0, rd_add1, rd_add2, rd_add3, rd_mul1, rd_mul2, rd_mul3, rd_isN, rd_notN, rd_isN1, rd_isN2, rd_isN3, rd_neg, rd_ix1, rd_ix2, rd_part, rd_sl, rd_onSl1, rd_onSl2, rd_rev, rd_onRv, rd_len1, rd_len2, rd_max2, rd_min2, rd_int1, rd_int2, rd_lst1, rd_lst2, rd_tup1, rd_tup2, rd_dm, rd_seqI, rd_onSq1, rd_onSq2, rd_rng1, rd_onR1, rd_rng2, rd_onR2, xEnumT, rd_onEt, rd_zip, rd_onZ1, rd_onZ2, rd_par, rd_onP, xPar3, rd_onP3, rd_gtup, rd_gnil, rd_gcons, rd_isi, ini, iniB, wipeD, unw, kf, List.map_cons, List.map_nil, List.replicate_succ, List.replicate_zero, List.cons_append, List.nil_append, List.length_cons, List.length_nil, List.getElem?_cons_zero, List.getElem?_cons_succ, List.set_cons_zero, List.set_cons_succ, decide_eq_true_eq, Nat.zero_add, Nat.reduceAdd, Nat.reduceSub, Nat.reduceLeDiff, true_and, Bool.false_eq_true, if_false, if_true, isi_int_non, isi_int_bl, isi_int_int, isi_int_str, isi_int_lst, isi_int_tup, isi_bool_non, isi_bool_bl, isi_bool_int, isi_bool_str, isi_bool_lst, isi_bool_tup, isi_list_non, isi_list_bl, isi_list_int, isi_list_str, isi_list_lst, isi_list_tup, isi_tuple_non, isi_tuple_bl, isi_tuple_int, isi_tuple_str, isi_tuple_lst, isi_tuple_tup, isi_str_non, isi_str_bl, isi_str_int, isi_str_str, isi_str_lst, isi_str_tup, Bool.not_true, Bool.not_false, Bool.or_false, Bool.or_true, Bool.false_or, Bool.true_or, ite_true, ite_false, Option.some.injEq, true_or, false_or, or_false, and_true, rd_isOwn, rd_own1, rd_own2, rd_own3, rd_ixO, rd_onIx1, rd_onIx2, rd_store, rd_onStore1, rd_onStore2, ex_eq, xApp, xDput, S.ow.injEq, S.bg.injEq, S.od.injEq, reduceCtorEq, exists_eq_left', exists_eq_left, exists_eq', D.int.injEq, atI_c0, atI_c1, atI_c2, ixN3_0, ixN3_1, ixN3_2, false_and, and_self]
      exact q

def dp__law_all_so : DP := fun ds Q _ => ∃ (top : Nat) (ms : List Int) (n : Nat), ds = [.int top, .tup (ms.map D.int), .int n] ∧ 1 ≤ top ∧ top ≤ 7 ∧ isMarks top ms = true ∧ n ≤ 30 ∧ Q (.fz (.bl true))

abbrev s__law_all_so : Stmt := topS 42
theorem sc__law_all_so : FnScope ["top", "marks1", "many", "whole", "some", "turn", "later", "found"] ["top", "marks1", "many"] (defScope s__law_all_so) := ⟨rfl, rfl, rfl, by decide +kernel, rfl, by decide +kernel, by decide +kernel⟩
theorem ok__law_all_so {P : Program} {w : World} {K : PySem.W.Frag} {mg : Str → Option Value} {base : Heap} (B : Bt mg) (d : Df K mg "_law_all_so" s__law_all_so ["top", "marks1", "many"]) (h_how_many_marks : Fn P w K mg base "how_many_marks" 5 3 dp_how_many_marks) (h__law_lots : Fn P w K mg base "_law_lots" 1 1 dp__law_lots) (h_how_many : Fn P w K mg base "how_many" 6 4 dp_how_many) : Fn P w K mg base "_law_all_so" (6 + 1) 3 dp__law_all_so := by
  refine fn_mk d sc__law_all_so rfl (by decide) fun f cdv A outer s H E C hr => ⟨_, _, (ds_cons (ds_asg (d_tup (da_cons d_int (da_cons d_int da_nil))) (dg_tupK K (n := 2) rfl (dgs_cons (dg_name 3 sc__law_all_so.nd) (dgs_cons (dg_name 4 sc__law_all_so.nd) dgs_nil))))
      (ds_cons (ds_for PassesOwn.never rfl (di_range1 (by rfl) B.range (da_cons (dv 2) da_nil)) (dg_name 5 sc__law_all_so.nd) (ds_one (ds_set 3 sc__law_all_so.nd (d_op (o_mulK K) (dv 3) (dv 0)))))
      (ds_cons (ds_for PassesOwn.never rfl (di_seqK K (d_fnK h__law_lots (hr.mono (by decide)) (da_cons (dv 0) da_nil))) (dg_name 6 sc__law_all_so.nd) (ds_cons (ds_set 7 sc__law_all_so.nd (d_fnK h_how_many (hr.mono (by decide)) (da_cons (dv 0) (da_cons (dv 1) (da_cons (dv 6) (da_cons (dv 2) da_nil))))))
      (ds_one (ds_par 3 4 rfl sc__law_all_so.nd (da_cons (d_op o_sub (dv 3) (dv 7)) (da_cons (d_op (o_addK K) (dv 4) (d_callTy c_int (by rfl) B.int (by decide +kernel) (da_cons (d_cmp o_gt (dv 7) d_int) da_nil))) da_nil))))))
      (ds_one (ds_ret (d_and (d_cmp (o_eqK K hr.units) (dv 3) d_int) (d_one (d_cmp (o_eqK K hr.units) (d_fnK h_how_many_marks (hr.mono (by decide)) (da_cons (dv 0) (da_cons (dv 1) (da_cons (dv 2) da_nil)))) (dv 4))))))))), fun ds QD ED hl0 h => ?_⟩
  obtain ⟨a0, a1, a2, rfl⟩ : ∃ a0 a1 a2, ds = [a0, a1, a2] := by
    match ds, hl0 with
    | [a0, a1, a2], _ => exact ⟨a0, a1, a2, rfl⟩
  clear hl0
  obtain ⟨top, ms, n, e, t1, t2, hm, hn, q⟩ := h
  cases e
  simp only [xSeq, xSet, xRet, xIf, xExpr, xNext, xNever, xC, xNil, xCons, xTup, xLst, xOp, xEq, xNe, xUn, xNot, xAnd, xOr, xIfE, xCB, xCall, xCallB, xName, xAsg, xIsi3, toD_fz, toD_ow, toD_od, toD_bg, rd_var, rd_getv1, rd_getv2, rd_getv3, rd_test, rd_onB, rd_onI, rd_onSB, rd_andV, rd_orV, rd_notV, rd_chain, rd_II, rd_II0, rd_add1, rd_add2, rd_add3, rd_mul1, rd_mul2, rd_mul3, rd_isN, rd_notN, rd_isN1, rd_isN2, rd_isN3, rd_neg, rd_ix1, rd_ix2, rd_part, rd_sl, rd_onSl1, rd_onSl2, rd_rev, rd_onRv, rd_len1, rd_len2, rd_max2, rd_min2, rd_int1, rd_int2, rd_lst1, rd_lst2, rd_tup1, rd_tup2, rd_dm, rd_seqI, rd_onSq1, rd_onSq2, rd_rng1, rd_onR1, rd_rng2, rd_onR2, xEnumT, rd_onEt, rd_zip, rd_onZ1, rd_onZ2, rd_par, rd_onP, xPar3, rd_onP3, rd_gtup, rd_gnil, rd_gcons, rd_isi, ini, iniB, wipeD, unw, kf, List.map_cons, List.map_nil, List.replicate_succ, List.replicate_zero, List.cons_append, List.nil_append, List.length_cons, List.length_nil, List.getElem?_cons_zero, List.getElem?_cons_succ, List.set_cons_zero, List.set_cons_succ, decide_eq_true_eq, Nat.zero_add, Nat.reduceAdd, Nat.reduceSub, Nat.reduceLeDiff, true_and, Bool.false_eq_true, if_false, if_true, isi_int_non, isi_int_bl, isi_int_int, isi_int_str, isi_int_lst, isi_int_tup, isi_bool_non, isi_bool_bl, isi_bool_int, isi_bool_str, isi_bool_lst, isi_bool_tup, isi_list_non, isi_list_bl, isi_list_int, isi_list_str, isi_list_lst, isi_list_tup, isi_tuple_non, isi_tuple_bl, isi_tuple_int, isi_tuple_str, isi_tuple_lst, isi_tuple_tup, isi_str_non, isi_str_bl, isi_str_int, isi_str_str, isi_str_lst, isi_str_tup, Bool.not_true, Bool.not_false, Bool.or_false, Bool.or_true, Bool.false_or, Bool.true_or, ite_true, ite_false, Option.some.injEq, true_or, false_or, or_false, and_true, rd_isOwn, rd_own1, rd_own2, rd_own3, rd_ixO, rd_onIx1, rd_onIx2, rd_store, rd_onStore1, rd_onStore2, ex_eq, xApp, xDput, S.ow.injEq, S.bg.injEq, S.od.injEq, reduceCtorEq, exists_eq_left', exists_eq_left, exists_eq', D.int.injEq, atI_c0, atI_c1, atI_c2, ixN3_0, ixN3_1, ixN3_2, false_and, and_self, xFor]
  have dm := marks_down hm
  have pw : ∀ i, i ≤ n → top ^ i < 2 ^ 100 := fun i hi => Nat.lt_of_le_of_lt (Nat.le_trans (Nat.pow_le_pow_left t2 i) (Nat.pow_le_pow_right (by decide) (show i ≤ 30 by omega))) (by decide +kernel)
  refine ⟨by omega, by omega, fun i ρ => ∃ x5 : Option S, ρ = [some (.fz (.int (top : Nat))), some (.fz (.tup (ms.map D.int))), some (.fz (.int (n : Nat))), some (.fz (.int ((top ^ i : Nat) : Int))), some (.fz (.int 0)), x5, none, none], ⟨none, rfl⟩, fun i d ρ hd hI => ?_, fun ρ hI => ?_⟩
  · obtain ⟨x5, rfl⟩ := hI
    obtain ⟨hi, rfl⟩ := rngD_get hd
    simp only [xSeq, xSet, xRet, xIf, xExpr, xNext, xNever, xC, xNil, xCons, xTup, xLst, xOp, xEq, xNe, xUn, xNot, xAnd, xOr, xIfE, xCB, xCall, xCallB, xName, xAsg, xIsi3, toD_fz, toD_ow, toD_od, toD_bg, rd_var, rd_getv1, rd_getv2, rd_getv3, rd_test, rd_onB, rd_onI, rd_onSB, rd_andV, rd_orV, rd_notV, rd_chain, rd_II, rd_II0, rd_add1, rd_add2, rd_add3, rd_mul1, rd_mul2, rd_mul3, rd_isN, rd_notN, rd_isN1, rd_isN2, rd_isN3, rd_neg, rd_ix1, rd_ix2, rd_part, rd_sl, rd_onSl1, rd_onSl2, rd_rev, rd_onRv, rd_len1, rd_len2, rd_max2, rd_min2, rd_int1, rd_int2, rd_lst1, rd_lst2, rd_tup1, rd_tup2, rd_dm, rd_seqI, rd_onSq1, rd_onSq2, rd_rng1, rd_onR1, rd_rng2, rd_onR2, xEnumT, rd_onEt, rd_zip, rd_onZ1, rd_onZ2, rd_par, rd_onP, xPar3, rd_onP3, rd_gtup, rd_gnil, rd_gcons, rd_isi, ini, iniB, wipeD, unw, kf, List.map_cons, List.map_nil, List.replicate_succ, List.replicate_zero, List.cons_append, List.nil_append, List.length_cons, List.length_nil, List.getElem?_cons_zero, List.getElem?_cons_succ, List.set_cons_zero, List.set_cons_succ, decide_eq_true_eq, Nat.zero_add, Nat.reduceAdd, Nat.reduceSub, Nat.reduceLeDiff, true_and, Bool.false_eq_true, if_false, if_true, isi_int_non, isi_int_bl, isi_int_int, isi_int_str, isi_int_lst, isi_int_tup, isi_bool_non, isi_bool_bl, isi_bool_int, isi_bool_str, isi_bool_lst, isi_bool_tup, isi_list_non, isi_list_bl, isi_list_int, isi_list_str, isi_list_lst, isi_list_tup, isi_tuple_non, isi_tuple_bl, isi_tuple_int, isi_tuple_str, isi_tuple_lst, isi_tuple_tup, isi_str_non, isi_str_bl, isi_str_int, isi_str_str, isi_str_lst, isi_str_tup, Bool.not_true, Bool.not_false, Bool.or_false, Bool.or_true, Bool.false_or, Bool.true_or, ite_true, ite_false, Option.some.injEq, true_or, false_or, or_false, and_true, rd_isOwn, rd_own1, rd_own2, rd_own3, rd_ixO, rd_onIx1, rd_onIx2, rd_store, rd_onStore1, rd_onStore2, ex_eq, xApp, xDput, S.ow.injEq, S.bg.injEq, S.od.injEq, reduceCtorEq, exists_eq_left', exists_eq_left, exists_eq', D.int.injEq, atI_c0, atI_c1, atI_c2, ixN3_0, ixN3_1, ixN3_2, false_and, and_self]
    refine ⟨wide_mul (a := 100) (b := 64) (pw i (by omega)) (by show (top : Int).natAbs < 18446744073709551616; omega) (by decide) (by decide) (by decide), some (.fz (.int (0 + (i : Int)))), ?_⟩
    rw [Nat.pow_succ, Int.natCast_mul]
  · obtain ⟨x5, rfl⟩ := hI
    rw [rngD_len, Int.toNat_natCast]
    simp only [xSeq, xSet, xRet, xIf, xExpr, xNext, xNever, xC, xNil, xCons, xTup, xLst, xOp, xEq, xNe, xUn, xNot, xAnd, xOr, xIfE, xCB, xCall, xCallB, xName, xAsg, xIsi3, toD_fz, toD_ow, toD_od, toD_bg, rd_var, rd_getv1, rd_getv2, rd_getv3, rd_test, rd_onB, rd_onI, rd_onSB, rd_andV, rd_orV, rd_notV, rd_chain, rd_II, rd_II0, rd_add1, rd_add2, rd_add3, rd_mul1, rd_mul2, rd_mul3, rd_isN, rd_notN, rd_isN1, rd_isN2, rd_isN3, rd_neg, rd_ix1, rd_ix2, rd_part, rd_sl, rd_onSl1, rd_onSl2, rd_rev, rd_onRv, rd_len1, rd_len2, rd_max2, rd_min2, rd_int1, rd_int2, rd_lst1, rd_lst2, rd_tup1, rd_tup2, rd_dm, rd_seqI, rd_onSq1, rd_onSq2, rd_rng1, rd_onR1, rd_rng2, rd_onR2, xEnumT, rd_onEt, rd_zip, rd_onZ1, rd_onZ2, rd_par, rd_onP, xPar3, rd_onP3, rd_gtup, rd_gnil, rd_gcons, rd_isi, ini, iniB, wipeD, unw, kf, List.map_cons, List.map_nil, List.replicate_succ, List.replicate_zero, List.cons_append, List.nil_append, List.length_cons, List.length_nil, List.getElem?_cons_zero, List.getElem?_cons_succ, List.set_cons_zero, List.set_cons_succ, decide_eq_true_eq, Nat.zero_add, Nat.reduceAdd, Nat.reduceSub, Nat.reduceLeDiff, true_and, Bool.false_eq_true, if_false, if_true, isi_int_non, isi_int_bl, isi_int_int, isi_int_str, isi_int_lst, isi_int_tup, isi_bool_non, isi_bool_bl, isi_bool_int, isi_bool_str, isi_bool_lst, isi_bool_tup, isi_list_non, isi_list_bl, isi_list_int, isi_list_str, isi_list_lst, isi_list_tup, isi_tuple_non, isi_tuple_bl, isi_tuple_int, isi_tuple_str, isi_tuple_lst, isi_tuple_tup, isi_str_non, isi_str_bl, isi_str_int, isi_str_str, isi_str_lst, isi_str_tup, Bool.not_true, Bool.not_false, Bool.or_false, Bool.or_true, Bool.false_or, Bool.true_or, ite_true, ite_false, Option.some.injEq, true_or, false_or, or_false, and_true, rd_isOwn, rd_own1, rd_own2, rd_own3, rd_ixO, rd_onIx1, rd_onIx2, rd_store, rd_onStore1, rd_onStore2, ex_eq, xApp, xDput, S.ow.injEq, S.bg.injEq, S.od.injEq, reduceCtorEq, exists_eq_left', exists_eq_left, exists_eq', D.int.injEq, atI_c0, atI_c1, atI_c2, ixN3_0, ixN3_1, ixN3_2, false_and, and_self]
    refine ⟨top, rfl, t1, by omega, ?_⟩
    simp only [xSeq, xSet, xRet, xIf, xExpr, xNext, xNever, xC, xNil, xCons, xTup, xLst, xOp, xEq, xNe, xUn, xNot, xAnd, xOr, xIfE, xCB, xCall, xCallB, xName, xAsg, xIsi3, toD_fz, toD_ow, toD_od, toD_bg, rd_var, rd_getv1, rd_getv2, rd_getv3, rd_test, rd_onB, rd_onI, rd_onSB, rd_andV, rd_orV, rd_notV, rd_chain, rd_II, rd_II0, rd_add1, rd_add2, rd_add3, rd_mul1, rd_mul2, rd_mul3, rd_isN, rd_notN, rd_isN1, rd_isN2, rd_isN3, rd_neg, rd_ix1, rd_ix2, rd_part, rd_sl, rd_onSl1, rd_onSl2, rd_rev, rd_onRv, rd_len1, rd_len2, rd_max2, rd_min2, rd_int1, rd_int2, rd_lst1, rd_lst2, rd_tup1, rd_tup2, rd_dm, rd_seqI, rd_onSq1, rd_onSq2, rd_rng1, rd_onR1, rd_rng2, rd_onR2, xEnumT, rd_onEt, rd_zip, rd_onZ1, rd_onZ2, rd_par, rd_onP, xPar3, rd_onP3, rd_gtup, rd_gnil, rd_gcons, rd_isi, ini, iniB, wipeD, unw, kf, List.map_cons, List.map_nil, List.replicate_succ, List.replicate_zero, List.cons_append, List.nil_append, List.length_cons, List.length_nil, List.getElem?_cons_zero, List.getElem?_cons_succ, List.set_cons_zero, List.set_cons_succ, decide_eq_true_eq, Nat.zero_add, Nat.reduceAdd, Nat.reduceSub, Nat.reduceLeDiff, true_and, Bool.false_eq_true, if_false, if_true, isi_int_non, isi_int_bl, isi_int_int, isi_int_str, isi_int_lst, isi_int_tup, isi_bool_non, isi_bool_bl, isi_bool_int, isi_bool_str, isi_bool_lst, isi_bool_tup, isi_list_non, isi_list_bl, isi_list_int, isi_list_str, isi_list_lst, isi_list_tup, isi_tuple_non, isi_tuple_bl, isi_tuple_int, isi_tuple_str, isi_tuple_lst, isi_tuple_tup, isi_str_non, isi_str_bl, isi_str_int, isi_str_str, isi_str_lst, isi_str_tup, Bool.not_true, Bool.not_false, Bool.or_false, Bool.or_true, Bool.false_or, Bool.true_or, ite_true, ite_false, Option.some.injEq, true_or, false_or, or_false, and_true, rd_isOwn, rd_own1, rd_own2, rd_own3, rd_ixO, rd_onIx1, rd_onIx2, rd_store, rd_onStore1, rd_onStore2, ex_eq, xApp, xDput, S.ow.injEq, S.bg.injEq, S.od.injEq, reduceCtorEq, exists_eq_left', exists_eq_left, exists_eq', D.int.injEq, atI_c0, atI_c1, atI_c2, ixN3_0, ixN3_1, ixN3_2, false_and, and_self]
    refine ⟨fun i ρ => ∃ (x6 x7 : Option S), ρ = [some (.fz (.int (top : Nat))), some (.fz (.tup (ms.map D.int))), some (.fz (.int (n : Nat))), some (.fz (.int (((top ^ n : Nat) : Int) - (((lotsC top top).take i).map fun later => waysF ms later n).sum))), some (.fz (.int (((lotsC top top).take i).countP fun later => decide (0 < waysF ms later n) : Nat))), x5, x6, x7], ⟨none, none, by simp⟩, fun i d ρ hd hI => ?_, fun ρ hI => ?_⟩
    · obtain ⟨x6, x7, rfl⟩ := hI
      rw [List.getElem?_map] at hd
      obtain ⟨later, hl, rfl⟩ := Option.map_eq_some_iff.mp hd
      have hmem := mem_lotsC.mp (List.mem_of_getElem? hl)
      have hin : ∀ x ∈ later, 1 ≤ x ∧ x ≤ (top : Int) := fun x hx => by have := hmem.2 x hx; omega
      have len := down_len hmem.1 hin
      have lok : isMarks top later = true := isMarks_iff (by omega) hmem.1 hin
      simp only [xSeq, xSet, xRet, xIf, xExpr, xNext, xNever, xC, xNil, xCons, xTup, xLst, xOp, xEq, xNe, xUn, xNot, xAnd, xOr, xIfE, xCB, xCall, xCallB, xName, xAsg, xIsi3, toD_fz, toD_ow, toD_od, toD_bg, rd_var, rd_getv1, rd_getv2, rd_getv3, rd_test, rd_onB, rd_onI, rd_onSB, rd_andV, rd_orV, rd_notV, rd_chain, rd_II, rd_II0, rd_add1, rd_add2, rd_add3, rd_mul1, rd_mul2, rd_mul3, rd_isN, rd_notN, rd_isN1, rd_isN2, rd_isN3, rd_neg, rd_ix1, rd_ix2, rd_part, rd_sl, rd_onSl1, rd_onSl2, rd_rev, rd_onRv, rd_len1, rd_len2, rd_max2, rd_min2, rd_int1, rd_int2, rd_lst1, rd_lst2, rd_tup1, rd_tup2, rd_dm, rd_seqI, rd_onSq1, rd_onSq2, rd_rng1, rd_onR1, rd_rng2, rd_onR2, xEnumT, rd_onEt, rd_zip, rd_onZ1, rd_onZ2, rd_par, rd_onP, xPar3, rd_onP3, rd_gtup, rd_gnil, rd_gcons, rd_isi, ini, iniB, wipeD, unw, kf, List.map_cons, List.map_nil, List.replicate_succ, List.replicate_zero, List.cons_append, List.nil_append, List.length_cons, List.length_nil, List.getElem?_cons_zero, List.getElem?_cons_succ, List.set_cons_zero, List.set_cons_succ, decide_eq_true_eq, Nat.zero_add, Nat.reduceAdd, Nat.reduceSub, Nat.reduceLeDiff, true_and, Bool.false_eq_true, if_false, if_true, isi_int_non, isi_int_bl, isi_int_int, isi_int_str, isi_int_lst, isi_int_tup, isi_bool_non, isi_bool_bl, isi_bool_int, isi_bool_str, isi_bool_lst, isi_bool_tup, isi_list_non, isi_list_bl, isi_list_int, isi_list_str, isi_list_lst, isi_list_tup, isi_tuple_non, isi_tuple_bl, isi_tuple_int, isi_tuple_str, isi_tuple_lst, isi_tuple_tup, isi_str_non, isi_str_bl, isi_str_int, isi_str_str, isi_str_lst, isi_str_tup, Bool.not_true, Bool.not_false, Bool.or_false, Bool.or_true, Bool.false_or, Bool.true_or, ite_true, ite_false, Option.some.injEq, true_or, false_or, or_false, and_true, rd_isOwn, rd_own1, rd_own2, rd_own3, rd_ixO, rd_onIx1, rd_onIx2, rd_store, rd_onStore1, rd_onStore2, ex_eq, xApp, xDput, S.ow.injEq, S.bg.injEq, S.od.injEq, reduceCtorEq, exists_eq_left', exists_eq_left, exists_eq', D.int.injEq, atI_c0, atI_c1, atI_c2, ixN3_0, ixN3_1, ixN3_2, false_and, and_self, tupI]
      refine ⟨top, ms, later, n, rfl, by omega, by omega, hm, lok, by omega, by omega, ?_⟩
      simp only [xSeq, xSet, xRet, xIf, xExpr, xNext, xNever, xC, xNil, xCons, xTup, xLst, xOp, xEq, xNe, xUn, xNot, xAnd, xOr, xIfE, xCB, xCall, xCallB, xName, xAsg, xIsi3, toD_fz, toD_ow, toD_od, toD_bg, rd_var, rd_getv1, rd_getv2, rd_getv3, rd_test, rd_onB, rd_onI, rd_onSB, rd_andV, rd_orV, rd_notV, rd_chain, rd_II, rd_II0, rd_add1, rd_add2, rd_add3, rd_mul1, rd_mul2, rd_mul3, rd_isN, rd_notN, rd_isN1, rd_isN2, rd_isN3, rd_neg, rd_ix1, rd_ix2, rd_part, rd_sl, rd_onSl1, rd_onSl2, rd_rev, rd_onRv, rd_len1, rd_len2, rd_max2, rd_min2, rd_int1, rd_int2, rd_lst1, rd_lst2, rd_tup1, rd_tup2, rd_dm, rd_seqI, rd_onSq1, rd_onSq2, rd_rng1, rd_onR1, rd_rng2, rd_onR2, xEnumT, rd_onEt, rd_zip, rd_onZ1, rd_onZ2, rd_par, rd_onP, xPar3, rd_onP3, rd_gtup, rd_gnil, rd_gcons, rd_isi, ini, iniB, wipeD, unw, kf, List.map_cons, List.map_nil, List.replicate_succ, List.replicate_zero, List.cons_append, List.nil_append, List.length_cons, List.length_nil, List.getElem?_cons_zero, List.getElem?_cons_succ, List.set_cons_zero, List.set_cons_succ, decide_eq_true_eq, Nat.zero_add, Nat.reduceAdd, Nat.reduceSub, Nat.reduceLeDiff, true_and, Bool.false_eq_true, if_false, if_true, isi_int_non, isi_int_bl, isi_int_int, isi_int_str, isi_int_lst, isi_int_tup, isi_bool_non, isi_bool_bl, isi_bool_int, isi_bool_str, isi_bool_lst, isi_bool_tup, isi_list_non, isi_list_bl, isi_list_int, isi_list_str, isi_list_lst, isi_list_tup, isi_tuple_non, isi_tuple_bl, isi_tuple_int, isi_tuple_str, isi_tuple_lst, isi_tuple_tup, isi_str_non, isi_str_bl, isi_str_int, isi_str_str, isi_str_lst, isi_str_tup, Bool.not_true, Bool.not_false, Bool.or_false, Bool.or_true, Bool.false_or, Bool.true_or, ite_true, ite_false, Option.some.injEq, true_or, false_or, or_false, and_true, rd_isOwn, rd_own1, rd_own2, rd_own3, rd_ixO, rd_onIx1, rd_onIx2, rd_store, rd_onStore1, rd_onStore2, ex_eq, xApp, xDput, S.ow.injEq, S.bg.injEq, S.od.injEq, reduceCtorEq, exists_eq_left', exists_eq_left, exists_eq', D.int.injEq, atI_c0, atI_c1, atI_c2, ixN3_0, ixN3_1, ixN3_2, false_and, and_self]
      have e1 : ((top ^ n : Nat) : Int) - (((lotsC top top).take (i + 1)).map fun later => waysF ms later n).sum = ((top ^ n : Nat) : Int) - (((lotsC top top).take i).map fun later => waysF ms later n).sum - waysF ms later n := by
        rw [sum_snocI _ hl]
        omega
      have e2 := cnt_snocI (fun later => decide (0 < waysF ms later n)) hl
      simp only [decide_eq_true_eq] at e2
      rw [e1, e2]
      exact ⟨_, _, rfl⟩
    · obtain ⟨x6, x7, rfl⟩ := hI
      rw [List.length_map, List.take_length, all_ways dm n]
      simp only [xSeq, xSet, xRet, xIf, xExpr, xNext, xNever, xC, xNil, xCons, xTup, xLst, xOp, xEq, xNe, xUn, xNot, xAnd, xOr, xIfE, xCB, xCall, xCallB, xName, xAsg, xIsi3, toD_fz, toD_ow, toD_od, toD_bg, rd_var, rd_getv1, rd_getv2, rd_getv3, rd_test, rd_onB, rd_onI, rd_onSB, rd_andV, rd_orV, rd_notV, rd_chain, rd_II, rd_II0, rd_add1, rd_add2, rd_add3, rd_mul1, rd_mul2, rd_mul3, rd_isN, rd_notN, rd_isN1, rd_isN2, rd_isN3, rd_neg, rd_ix1, rd_ix2, rd_part, rd_sl, rd_onSl1, rd_onSl2, rd_rev, rd_onRv, rd_len1, rd_len2, rd_max2, rd_min2, rd_int1, rd_int2, rd_lst1, rd_lst2, rd_tup1, rd_tup2, rd_dm, rd_seqI, rd_onSq1, rd_onSq2, rd_rng1, rd_onR1, rd_rng2, rd_onR2, xEnumT, rd_onEt, rd_zip, rd_onZ1, rd_onZ2, rd_par, rd_onP, xPar3, rd_onP3, rd_gtup, rd_gnil, rd_gcons, rd_isi, ini, iniB, wipeD, unw, kf, List.map_cons, List.map_nil, List.replicate_succ, List.replicate_zero, List.cons_append, List.nil_append, List.length_cons, List.length_nil, List.getElem?_cons_zero, List.getElem?_cons_succ, List.set_cons_zero, List.set_cons_succ, decide_eq_true_eq, Nat.zero_add, Nat.reduceAdd, Nat.reduceSub, Nat.reduceLeDiff, true_and, Bool.false_eq_true, if_false, if_true, isi_int_non, isi_int_bl, isi_int_int, isi_int_str, isi_int_lst, isi_int_tup, isi_bool_non, isi_bool_bl, isi_bool_int, isi_bool_str, isi_bool_lst, isi_bool_tup, isi_list_non, isi_list_bl, isi_list_int, isi_list_str, isi_list_lst, isi_list_tup, isi_tuple_non, isi_tuple_bl, isi_tuple_int, isi_tuple_str, isi_tuple_lst, isi_tuple_tup, isi_str_non, isi_str_bl, isi_str_int, isi_str_str, isi_str_lst, isi_str_tup, Bool.not_true, Bool.not_false, Bool.or_false, Bool.or_true, Bool.false_or, Bool.true_or, ite_true, ite_false, Option.some.injEq, true_or, false_or, or_false, and_true, rd_isOwn, rd_own1, rd_own2, rd_own3, rd_ixO, rd_onIx1, rd_onIx2, rd_store, rd_onStore1, rd_onStore2, ex_eq, xApp, xDput, S.ow.injEq, S.bg.injEq, S.od.injEq, reduceCtorEq, exists_eq_left', exists_eq_left, exists_eq', D.int.injEq, atI_c0, atI_c1, atI_c2, ixN3_0, ixN3_1, ixN3_2, false_and, and_self, eqD_int, Int.sub_self]
      refine ⟨rfl, rfl, top, ms, n, rfl, t1, by omega, hm, by omega, ?_⟩
      rw [how_marks dm n]
      simp only [xSeq, xSet, xRet, xIf, xExpr, xNext, xNever, xC, xNil, xCons, xTup, xLst, xOp, xEq, xNe, xUn, xNot, xAnd, xOr, xIfE, xCB, xCall, xCallB, xName, xAsg, xIsi3, toD_fz, toD_ow, toD_od, toD_bg, rd_var, rd_getv1, rd_getv2, rd_getv3, rd_test, rd_onB, rd_onI, rd_onSB, rd_andV, rd_orV, rd_notV, rd_chain, rd_II, rd_II0, rd_add1, rd_add2, rd_add3, rd_mul1, rd_mul2, rd_mul3, rd_isN, rd_notN, rd_isN1, rd_isN2, rd_isN3, rd_neg, rd_ix1, rd_ix2, rd_part, rd_sl, rd_onSl1, rd_onSl2, rd_rev, rd_onRv, rd_len1, rd_len2, rd_max2, rd_min2, rd_int1, rd_int2, rd_lst1, rd_lst2, rd_tup1, rd_tup2, rd_dm, rd_seqI, rd_onSq1, rd_onSq2, rd_rng1, rd_onR1, rd_rng2, rd_onR2, xEnumT, rd_onEt, rd_zip, rd_onZ1, rd_onZ2, rd_par, rd_onP, xPar3, rd_onP3, rd_gtup, rd_gnil, rd_gcons, rd_isi, ini, iniB, wipeD, unw, kf, List.map_cons, List.map_nil, List.replicate_succ, List.replicate_zero, List.cons_append, List.nil_append, List.length_cons, List.length_nil, List.getElem?_cons_zero, List.getElem?_cons_succ, List.set_cons_zero, List.set_cons_succ, decide_eq_true_eq, Nat.zero_add, Nat.reduceAdd, Nat.reduceSub, Nat.reduceLeDiff, true_and, Bool.false_eq_true, if_false, if_true, isi_int_non, isi_int_bl, isi_int_int, isi_int_str, isi_int_lst, isi_int_tup, isi_bool_non, isi_bool_bl, isi_bool_int, isi_bool_str, isi_bool_lst, isi_bool_tup, isi_list_non, isi_list_bl, isi_list_int, isi_list_str, isi_list_lst, isi_list_tup, isi_tuple_non, isi_tuple_bl, isi_tuple_int, isi_tuple_str, isi_tuple_lst, isi_tuple_tup, isi_str_non, isi_str_bl, isi_str_int, isi_str_str, isi_str_lst, isi_str_tup, Bool.not_true, Bool.not_false, Bool.or_false, Bool.or_true, Bool.false_or, Bool.true_or, ite_true, ite_false, Option.some.injEq, true_or, false_or, or_false, and_true, rd_isOwn, rd_own1, rd_own2, rd_own3, rd_ixO, rd_onIx1, rd_onIx2, rd_store, rd_onStore1, rd_onStore2, ex_eq, xApp, xDput, S.ow.injEq, S.bg.injEq, S.od.injEq, reduceCtorEq, exists_eq_left', exists_eq_left, exists_eq', D.int.injEq, atI_c0, atI_c1, atI_c2, ixN3_0, ixN3_1, ixN3_2, false_and, and_self, eqD_int, decide_true]
      exact ⟨rfl, rfl, q⟩

theorem sum_modI {α : Type} (m : Int) (f : α → Int) : ∀ l : List α, (l.map fun a => f a % m).sum % m = (l.map f).sum % m
  | [] => rfl
  | a :: l => by rw [List.map_cons, List.map_cons, List.sum_cons, List.sum_cons, Int.add_emod, sum_modI m f l, Int.emod_emod, ← Int.add_emod]
theorem powM_mod (b m : Int) : ∀ q : Nat, (b % m) ^ q % m = b ^ q % m
  | 0 => by rw [Int.pow_zero, Int.pow_zero]
  | q + 1 => by rw [Int.pow_succ, Int.pow_succ, Int.mul_emod, powM_mod b m q, Int.emod_emod, ← Int.mul_emod]
theorem powD (a : Int) : ∀ q : Nat, a ^ (2 * q) = (a * a) ^ q
  | 0 => by rw [Nat.mul_zero, Int.pow_zero, Int.pow_zero]
  | q + 1 => by
    rw [show 2 * (q + 1) = 2 * q + 1 + 1 from by omega, Int.pow_succ, Int.pow_succ, powD a q, Int.pow_succ, Int.mul_assoc]

abbrev s_law : Stmt := topS 43
theorem sc_law : FnScope ["script", "bag", "top", "marks1", "low", "many", "due", "row", "by", "far1", "parts1", "later", "power", "number", "left"] ["script"] (defScope s_law) := ⟨rfl, rfl, rfl, by decide +kernel, rfl, by decide +kernel, by decide +kernel⟩
def forBody (l : List Stmt) (i : Nat) : List Stmt := match l.getD i (.Pass ⟨0, 0, 0, 0⟩) with
  | .For _ _ b _ _ => b
  | _ => []
def ifTest (l : List Stmt) (i : Nat) : Expr := match l.getD i (.Pass ⟨0, 0, 0, 0⟩) with
  | .If c _ _ _ => c
  | _ => .Constant .none 0 ⟨0, 0, 0, 0⟩
def retVal (l : List Stmt) (i : Nat) : Expr := match l.getD i (.Pass ⟨0, 0, 0, 0⟩) with
  | .Return (some c) _ => c
  | _ => .Constant .none 0 ⟨0, 0, 0, 0⟩
abbrev s_lawBody : List Stmt := forBody (defBody s_law) 0
def FnBags (P : Program) (w : World) (K : PySem.W.Frag) (mg : Str → Option Value) (base : Heap) : Prop := ∃ f fd, FnOk P w K mg base CX0 2 f fd ["script", "most"] (spBags K) ∧ mg "_law_bags" = some (.ref f) ∧ PySem.W.keepIn K (.ref f) = true ∧ Binds K fd ["script", "most"] []
theorem law_body {P : Program} {w : World} {K : PySem.W.Frag} {mg : Str → Option Value} {base : Heap} (B : Bt mg) (h__law_lots : Fn P w K mg base "_law_lots" 1 1 dp__law_lots) (h_rest : Fn P w K mg base "rest" 6 5 dp_rest) (h__law_take : FnB P w K mg base "_law_take" 1 1 dp__law_take) (h__law_same : Fn P w K mg base "_law_same" 4 2 dp__law_same) (h_how_many_marks : Fn P w K mg base "how_many_marks" 5 3 dp_how_many_marks) (h__law_rows : Fn P w K mg base "_law_rows" 1 2 dp__law_rows) (h__law_flooded : Fn P w K mg base "_law_flooded" 1 2 dp__law_flooded) (h__law_marks : FnB P w K mg base "_law_marks" 2 2 dp__law_marks) (h__law_all_so : Fn P w K mg base "_law_all_so" 7 3 dp__law_all_so) (f : Addr) (cdv : Value) (A : Around) (outer : List PySem.Env) (s : Shared) (H : Hp) (E : XK) (hr : Room 7 (A.deeper (envOfC "law" (defScope s_law) s.heap.objs.size f cdv))) :
    ∃ ts t, (∀ C, PSsV (cxOf CX0 P w K mg base ["script", "bag", "top", "marks1", "low", "many", "due", "row", "by", "far1", "parts1", "later", "power", "number", "left"] "law" (defScope s_law) f cdv A outer s H E).nox C s_lawBody ts t) ∧ ∀ bd, bagOK 0 bd → t { nx := fun ρ => ρ.length = 15, ct := fun ρ => ρ.length = 15, rt := fun _ _ => False } (envB 15 1 bd) := by
  refine ⟨_, _, fun C => (ds_cons (ds_set 2 sc_law.nd (d_op (o_addK K) d_int (d_fnBK 1 h__law_take (hr.mono (by decide)) (da_cons d_int da_nil))))
      (ds_cons (ds_set 3 sc_law.nd (d_fnBK 1 h__law_marks (hr.mono (by decide)) (da_cons (dv 2) (da_cons d_int da_nil))))
      (ds_cons (ds_if (dt_not (dt_val (d_fnK h__law_all_so (hr.mono (by decide)) (da_cons (dv 2) (da_cons (dv 3) (da_cons (d_fnBK 1 h__law_take (hr.mono (by decide)) (da_cons d_int da_nil)) da_nil)))))) (ds_one (ds_ret d_bl)) ds_nil)
      (ds_cons (ds_set 4 sc_law.nd (d_op (o_addK K) d_int (d_fnBK 1 h__law_take (hr.mono (by decide)) (da_cons d_int da_nil))))
      (ds_cons (ds_asg (d_tup (da_cons (d_fnBK 1 h__law_marks (hr.mono (by decide)) (da_cons (dv 4) (da_cons d_int da_nil))) (da_cons (d_fnBK 1 h__law_take (hr.mono (by decide)) (da_cons d_int da_nil)) da_nil))) (dg_tupK K (n := 2) rfl (dgs_cons (dg_name 3 sc_law.nd) (dgs_cons (dg_name 5 sc_law.nd) dgs_nil))))
      (ds_cons (ds_set 6 sc_law.nd (d_sortedSetTK K P w rfl hr.units (by rfl) B.sorted (by rfl) B.set (da_cons (d_lc [("row", 7)] rfl sc_law.nd (di_seqK K (d_fnK h__law_rows (hr.mono (by decide)) (da_cons (dv 4) (da_cons (dv 5) da_nil)))) (blkOk_by (by show blkC ["script", "bag", "top", "marks1", "low", "many", "due", "row", "by", "far1", "parts1", "later", "power", "number", "left"] (defScope s_law) _ [("row", 7)] = true; decide +kernel)) (fun _ _ _ _ _ _ => (dg_name 7 sc_law.nd)) (fun _ _ _ _ _ _ => dts_nil) (fun _ _ _ _ _ _ => (d_fnK h__law_flooded (hr.mono (by decide)) (da_cons (dv 3) (da_cons (dv 7) da_nil))))) da_nil)))
      (ds_cons (ds_if (dt_not (dt_val (d_fnK h__law_same (hr.mono (by decide)) (da_cons (d_fnK h_how_many_marks (hr.mono (by decide)) (da_cons (dv 4) (da_cons (dv 3) (da_cons (dv 5) da_nil)))) (da_cons (d_callB (c_lenK K) (by rfl) B.len PySem.boot_len (da_cons (dv 6) da_nil)) da_nil))))) (ds_one (ds_ret d_bl)) ds_nil)
      (ds_cons (ds_asg (d_tup (da_cons (d_op (o_addK K) d_int (d_fnBK 1 h__law_take (hr.mono (by decide)) (da_cons (d_op o_pow d_int d_int) da_nil))) (da_cons (d_op (o_addK K) d_int (d_fnBK 1 h__law_take (hr.mono (by decide)) (da_cons (d_op o_pow d_int d_int) da_nil))) da_nil))) (dg_tupK K (n := 2) rfl (dgs_cons (dg_name 8 sc_law.nd) (dgs_cons (dg_name 9 sc_law.nd) dgs_nil))))
      (ds_cons (ds_setLc 10 [("later", 11)] rfl sc_law.nd (di_seqK K (d_fnK h__law_lots (hr.mono (by decide)) (da_cons (dv 4) da_nil))) (blkOk_by (by show blkC ["script", "bag", "top", "marks1", "low", "many", "due", "row", "by", "far1", "parts1", "later", "power", "number", "left"] (defScope s_law) _ [("later", 11)] = true; decide +kernel)) (fun _ _ _ _ _ _ => (dg_name 11 sc_law.nd)) (fun _ _ _ _ _ _ => dts_nil) (fun _ _ _ _ _ _ => (d_fnK h_rest (hr.mono (by decide)) (da_cons (dv 4) (da_cons (d_tup da_nil) (da_cons (dv 11) (da_cons (dv 9) (da_cons (dv 8) da_nil))))))) (sw_true rfl rfl rfl (by decide +kernel)))
      (ds_cons (ds_par3 12 13 14 rfl sc_law.nd (da_cons d_int (da_cons (dv 4) (da_cons (dv 9) da_nil))))
      (ds_cons (ds_while PassesOwn.never (dt_cmp o_gt (dv 14) d_int) (ds_cons (ds_if (dt_cmp (o_eqK K hr.units) (d_op o_mod (dv 14) d_int) d_int) (ds_one (ds_set 12 sc_law.nd (d_op o_mod (d_op (o_mulK K) (dv 12) (dv 13)) (dv 8)))) ds_nil)
      (ds_one (ds_par 13 14 rfl sc_law.nd (da_cons (d_op o_mod (d_op (o_mulK K) (dv 13) (dv 13)) (dv 8)) (da_cons (d_op o_div (dv 14) d_int) da_nil))))))
      (ds_one (ds_if (dt_cmp (o_neK K hr.units) (d_op o_mod (d_callB (c_sumK K rfl) (by rfl) B.sum (by decide +kernel) (da_cons (dv 10) da_nil)) (dv 8)) (d_op o_mod (dv 12) (dv 8))) (ds_one (ds_ret d_bl)) ds_nil))))))))))))), fun bd hb => ?_⟩
  simp only [envB]
  simp only [xSeq, xSet, xRet, xIf, xExpr, xNext, xNever, xC, xNil, xCons, xTup, xLst, xOp, xEq, xNe, xUn, xNot, xAnd, xOr, xIfE, xCB, xCall, xCallB, xName, xAsg, xIsi3, toD_fz, toD_ow, toD_od, toD_bg, rd_var, rd_getv1, rd_getv2, rd_getv3, rd_test, rd_onB, rd_onI, rd_onSB, rd_andV, rd_orV, rd_notV, rd_chain, rd_II, rd_II0, rd_add1, rd_add2, rd_add3, rd_mul1, rd_mul2, rd_mul3, rd_isN, rd_notN, rd_isN1, rd_isN2, rd_isN3, rd_neg, rd_ix1, rd_ix2, rd_part, rd_sl, rd_onSl1, rd_onSl2, rd_rev, rd_onRv, rd_len1, rd_len2, rd_max2, rd_min2, rd_int1, rd_int2, rd_lst1, rd_lst2, rd_tup1, rd_tup2, rd_dm, rd_seqI, rd_onSq1, rd_onSq2, rd_rng1, rd_onR1, rd_rng2, rd_onR2, xEnumT, rd_onEt, rd_zip, rd_onZ1, rd_onZ2, rd_par, rd_onP, xPar3, rd_onP3, rd_gtup, rd_gnil, rd_gcons, rd_isi, ini, iniB, wipeD, unw, kf, List.map_cons, List.map_nil, List.replicate_succ, List.replicate_zero, List.cons_append, List.nil_append, List.length_cons, List.length_nil, List.getElem?_cons_zero, List.getElem?_cons_succ, List.set_cons_zero, List.set_cons_succ, decide_eq_true_eq, Nat.zero_add, Nat.reduceAdd, Nat.reduceSub, Nat.reduceLeDiff, true_and, Bool.false_eq_true, if_false, if_true, isi_int_non, isi_int_bl, isi_int_int, isi_int_str, isi_int_lst, isi_int_tup, isi_bool_non, isi_bool_bl, isi_bool_int, isi_bool_str, isi_bool_lst, isi_bool_tup, isi_list_non, isi_list_bl, isi_list_int, isi_list_str, isi_list_lst, isi_list_tup, isi_tuple_non, isi_tuple_bl, isi_tuple_int, isi_tuple_str, isi_tuple_lst, isi_tuple_tup, isi_str_non, isi_str_bl, isi_str_int, isi_str_str, isi_str_lst, isi_str_tup, Bool.not_true, Bool.not_false, Bool.or_false, Bool.or_true, Bool.false_or, Bool.true_or, ite_true, ite_false, Option.some.injEq, true_or, false_or, or_false, and_true, rd_isOwn, rd_own1, rd_own2, rd_own3, rd_ixO, rd_onIx1, rd_onIx2, rd_store, rd_onStore1, rd_onStore2, ex_eq, xApp, xDput, S.ow.injEq, S.bg.injEq, S.od.injEq, reduceCtorEq, exists_eq_left', exists_eq_left, exists_eq', D.int.injEq, atI_c0, atI_c1, atI_c2, ixN3_0, ixN3_1, ixN3_2, false_and, and_self]
  refine ⟨0, 7, hb, by decide, rfl, by decide, by decide, fun r0 b0 r0a r0b hb0 => ?_⟩
  simp only [xSeq, xSet, xRet, xIf, xExpr, xNext, xNever, xC, xNil, xCons, xTup, xLst, xOp, xEq, xNe, xUn, xNot, xAnd, xOr, xIfE, xCB, xCall, xCallB, xName, xAsg, xIsi3, toD_fz, toD_ow, toD_od, toD_bg, rd_var, rd_getv1, rd_getv2, rd_getv3, rd_test, rd_onB, rd_onI, rd_onSB, rd_andV, rd_orV, rd_notV, rd_chain, rd_II, rd_II0, rd_add1, rd_add2, rd_add3, rd_mul1, rd_mul2, rd_mul3, rd_isN, rd_notN, rd_isN1, rd_isN2, rd_isN3, rd_neg, rd_ix1, rd_ix2, rd_part, rd_sl, rd_onSl1, rd_onSl2, rd_rev, rd_onRv, rd_len1, rd_len2, rd_max2, rd_min2, rd_int1, rd_int2, rd_lst1, rd_lst2, rd_tup1, rd_tup2, rd_dm, rd_seqI, rd_onSq1, rd_onSq2, rd_rng1, rd_onR1, rd_rng2, rd_onR2, xEnumT, rd_onEt, rd_zip, rd_onZ1, rd_onZ2, rd_par, rd_onP, xPar3, rd_onP3, rd_gtup, rd_gnil, rd_gcons, rd_isi, ini, iniB, wipeD, unw, kf, List.map_cons, List.map_nil, List.replicate_succ, List.replicate_zero, List.cons_append, List.nil_append, List.length_cons, List.length_nil, List.getElem?_cons_zero, List.getElem?_cons_succ, List.set_cons_zero, List.set_cons_succ, decide_eq_true_eq, Nat.zero_add, Nat.reduceAdd, Nat.reduceSub, Nat.reduceLeDiff, true_and, Bool.false_eq_true, if_false, if_true, isi_int_non, isi_int_bl, isi_int_int, isi_int_str, isi_int_lst, isi_int_tup, isi_bool_non, isi_bool_bl, isi_bool_int, isi_bool_str, isi_bool_lst, isi_bool_tup, isi_list_non, isi_list_bl, isi_list_int, isi_list_str, isi_list_lst, isi_list_tup, isi_tuple_non, isi_tuple_bl, isi_tuple_int, isi_tuple_str, isi_tuple_lst, isi_tuple_tup, isi_str_non, isi_str_bl, isi_str_int, isi_str_str, isi_str_lst, isi_str_tup, Bool.not_true, Bool.not_false, Bool.or_false, Bool.or_true, Bool.false_or, Bool.true_or, ite_true, ite_false, Option.some.injEq, true_or, false_or, or_false, and_true, rd_isOwn, rd_own1, rd_own2, rd_own3, rd_ixO, rd_onIx1, rd_onIx2, rd_store, rd_onStore1, rd_onStore2, ex_eq, xApp, xDput, S.ow.injEq, S.bg.injEq, S.od.injEq, reduceCtorEq, exists_eq_left', exists_eq_left, exists_eq', D.int.injEq, atI_c0, atI_c1, atI_c2, ixN3_0, ixN3_1, ixN3_2, false_and, and_self]
  obtain ⟨top, etop⟩ : ∃ top : Nat, (top : Int) = 1 + r0 := ⟨(1 + r0).toNat, by omega⟩
  have t1 : 1 ≤ top := by omega
  have t2 : top ≤ 7 := by omega
  rw [← etop]
  refine ⟨1, top, 7, hb0, by decide, rfl, by omega, by omega, by decide, by decide, fun ms b1 hms hb1 => ?_⟩
  have mok := hms.ok (show (7 : Int) ≤ 8 by decide)
  simp only [xSeq, xSet, xRet, xIf, xExpr, xNext, xNever, xC, xNil, xCons, xTup, xLst, xOp, xEq, xNe, xUn, xNot, xAnd, xOr, xIfE, xCB, xCall, xCallB, xName, xAsg, xIsi3, toD_fz, toD_ow, toD_od, toD_bg, rd_var, rd_getv1, rd_getv2, rd_getv3, rd_test, rd_onB, rd_onI, rd_onSB, rd_andV, rd_orV, rd_notV, rd_chain, rd_II, rd_II0, rd_add1, rd_add2, rd_add3, rd_mul1, rd_mul2, rd_mul3, rd_isN, rd_notN, rd_isN1, rd_isN2, rd_isN3, rd_neg, rd_ix1, rd_ix2, rd_part, rd_sl, rd_onSl1, rd_onSl2, rd_rev, rd_onRv, rd_len1, rd_len2, rd_max2, rd_min2, rd_int1, rd_int2, rd_lst1, rd_lst2, rd_tup1, rd_tup2, rd_dm, rd_seqI, rd_onSq1, rd_onSq2, rd_rng1, rd_onR1, rd_rng2, rd_onR2, xEnumT, rd_onEt, rd_zip, rd_onZ1, rd_onZ2, rd_par, rd_onP, xPar3, rd_onP3, rd_gtup, rd_gnil, rd_gcons, rd_isi, ini, iniB, wipeD, unw, kf, List.map_cons, List.map_nil, List.replicate_succ, List.replicate_zero, List.cons_append, List.nil_append, List.length_cons, List.length_nil, List.getElem?_cons_zero, List.getElem?_cons_succ, List.set_cons_zero, List.set_cons_succ, decide_eq_true_eq, Nat.zero_add, Nat.reduceAdd, Nat.reduceSub, Nat.reduceLeDiff, true_and, Bool.false_eq_true, if_false, if_true, isi_int_non, isi_int_bl, isi_int_int, isi_int_str, isi_int_lst, isi_int_tup, isi_bool_non, isi_bool_bl, isi_bool_int, isi_bool_str, isi_bool_lst, isi_bool_tup, isi_list_non, isi_list_bl, isi_list_int, isi_list_str, isi_list_lst, isi_list_tup, isi_tuple_non, isi_tuple_bl, isi_tuple_int, isi_tuple_str, isi_tuple_lst, isi_tuple_tup, isi_str_non, isi_str_bl, isi_str_int, isi_str_str, isi_str_lst, isi_str_tup, Bool.not_true, Bool.not_false, Bool.or_false, Bool.or_true, Bool.false_or, Bool.true_or, ite_true, ite_false, Option.some.injEq, true_or, false_or, or_false, and_true, rd_isOwn, rd_own1, rd_own2, rd_own3, rd_ixO, rd_onIx1, rd_onIx2, rd_store, rd_onStore1, rd_onStore2, ex_eq, xApp, xDput, S.ow.injEq, S.bg.injEq, S.od.injEq, reduceCtorEq, exists_eq_left', exists_eq_left, exists_eq', D.int.injEq, atI_c0, atI_c1, atI_c2, ixN3_0, ixN3_1, ixN3_2, false_and, and_self]
  refine ⟨201, 31, hb1, by decide, rfl, by decide, by decide, fun r1 b2 r1a r1b hb2 => ?_⟩
  simp only [xSeq, xSet, xRet, xIf, xExpr, xNext, xNever, xC, xNil, xCons, xTup, xLst, xOp, xEq, xNe, xUn, xNot, xAnd, xOr, xIfE, xCB, xCall, xCallB, xName, xAsg, xIsi3, toD_fz, toD_ow, toD_od, toD_bg, rd_var, rd_getv1, rd_getv2, rd_getv3, rd_test, rd_onB, rd_onI, rd_onSB, rd_andV, rd_orV, rd_notV, rd_chain, rd_II, rd_II0, rd_add1, rd_add2, rd_add3, rd_mul1, rd_mul2, rd_mul3, rd_isN, rd_notN, rd_isN1, rd_isN2, rd_isN3, rd_neg, rd_ix1, rd_ix2, rd_part, rd_sl, rd_onSl1, rd_onSl2, rd_rev, rd_onRv, rd_len1, rd_len2, rd_max2, rd_min2, rd_int1, rd_int2, rd_lst1, rd_lst2, rd_tup1, rd_tup2, rd_dm, rd_seqI, rd_onSq1, rd_onSq2, rd_rng1, rd_onR1, rd_rng2, rd_onR2, xEnumT, rd_onEt, rd_zip, rd_onZ1, rd_onZ2, rd_par, rd_onP, xPar3, rd_onP3, rd_gtup, rd_gnil, rd_gcons, rd_isi, ini, iniB, wipeD, unw, kf, List.map_cons, List.map_nil, List.replicate_succ, List.replicate_zero, List.cons_append, List.nil_append, List.length_cons, List.length_nil, List.getElem?_cons_zero, List.getElem?_cons_succ, List.set_cons_zero, List.set_cons_succ, decide_eq_true_eq, Nat.zero_add, Nat.reduceAdd, Nat.reduceSub, Nat.reduceLeDiff, true_and, Bool.false_eq_true, if_false, if_true, isi_int_non, isi_int_bl, isi_int_int, isi_int_str, isi_int_lst, isi_int_tup, isi_bool_non, isi_bool_bl, isi_bool_int, isi_bool_str, isi_bool_lst, isi_bool_tup, isi_list_non, isi_list_bl, isi_list_int, isi_list_str, isi_list_lst, isi_list_tup, isi_tuple_non, isi_tuple_bl, isi_tuple_int, isi_tuple_str, isi_tuple_lst, isi_tuple_tup, isi_str_non, isi_str_bl, isi_str_int, isi_str_str, isi_str_lst, isi_str_tup, Bool.not_true, Bool.not_false, Bool.or_false, Bool.or_true, Bool.false_or, Bool.true_or, ite_true, ite_false, Option.some.injEq, true_or, false_or, or_false, and_true, rd_isOwn, rd_own1, rd_own2, rd_own3, rd_ixO, rd_onIx1, rd_onIx2, rd_store, rd_onStore1, rd_onStore2, ex_eq, xApp, xDput, S.ow.injEq, S.bg.injEq, S.od.injEq, reduceCtorEq, exists_eq_left', exists_eq_left, exists_eq', D.int.injEq, atI_c0, atI_c1, atI_c2, ixN3_0, ixN3_1, ixN3_2, false_and, and_self]
  refine ⟨top, ms, r1.toNat, by rw [Int.toNat_of_nonneg r1a], t1, t2, mok, by omega, ?_⟩
  simp only [xSeq, xSet, xRet, xIf, xExpr, xNext, xNever, xC, xNil, xCons, xTup, xLst, xOp, xEq, xNe, xUn, xNot, xAnd, xOr, xIfE, xCB, xCall, xCallB, xName, xAsg, xIsi3, toD_fz, toD_ow, toD_od, toD_bg, rd_var, rd_getv1, rd_getv2, rd_getv3, rd_test, rd_onB, rd_onI, rd_onSB, rd_andV, rd_orV, rd_notV, rd_chain, rd_II, rd_II0, rd_add1, rd_add2, rd_add3, rd_mul1, rd_mul2, rd_mul3, rd_isN, rd_notN, rd_isN1, rd_isN2, rd_isN3, rd_neg, rd_ix1, rd_ix2, rd_part, rd_sl, rd_onSl1, rd_onSl2, rd_rev, rd_onRv, rd_len1, rd_len2, rd_max2, rd_min2, rd_int1, rd_int2, rd_lst1, rd_lst2, rd_tup1, rd_tup2, rd_dm, rd_seqI, rd_onSq1, rd_onSq2, rd_rng1, rd_onR1, rd_rng2, rd_onR2, xEnumT, rd_onEt, rd_zip, rd_onZ1, rd_onZ2, rd_par, rd_onP, xPar3, rd_onP3, rd_gtup, rd_gnil, rd_gcons, rd_isi, ini, iniB, wipeD, unw, kf, List.map_cons, List.map_nil, List.replicate_succ, List.replicate_zero, List.cons_append, List.nil_append, List.length_cons, List.length_nil, List.getElem?_cons_zero, List.getElem?_cons_succ, List.set_cons_zero, List.set_cons_succ, decide_eq_true_eq, Nat.zero_add, Nat.reduceAdd, Nat.reduceSub, Nat.reduceLeDiff, true_and, Bool.false_eq_true, if_false, if_true, isi_int_non, isi_int_bl, isi_int_int, isi_int_str, isi_int_lst, isi_int_tup, isi_bool_non, isi_bool_bl, isi_bool_int, isi_bool_str, isi_bool_lst, isi_bool_tup, isi_list_non, isi_list_bl, isi_list_int, isi_list_str, isi_list_lst, isi_list_tup, isi_tuple_non, isi_tuple_bl, isi_tuple_int, isi_tuple_str, isi_tuple_lst, isi_tuple_tup, isi_str_non, isi_str_bl, isi_str_int, isi_str_str, isi_str_lst, isi_str_tup, Bool.not_true, Bool.not_false, Bool.or_false, Bool.or_true, Bool.false_or, Bool.true_or, ite_true, ite_false, Option.some.injEq, true_or, false_or, or_false, and_true, rd_isOwn, rd_own1, rd_own2, rd_own3, rd_ixO, rd_onIx1, rd_onIx2, rd_store, rd_onStore1, rd_onStore2, ex_eq, xApp, xDput, S.ow.injEq, S.bg.injEq, S.od.injEq, reduceCtorEq, exists_eq_left', exists_eq_left, exists_eq', D.int.injEq, atI_c0, atI_c1, atI_c2, ixN3_0, ixN3_1, ixN3_2, false_and, and_self]
  refine ⟨202, 4, hb2, by decide, rfl, by decide, by decide, fun r2 b3 r2a r2b hb3 => ?_⟩
  simp only [xSeq, xSet, xRet, xIf, xExpr, xNext, xNever, xC, xNil, xCons, xTup, xLst, xOp, xEq, xNe, xUn, xNot, xAnd, xOr, xIfE, xCB, xCall, xCallB, xName, xAsg, xIsi3, toD_fz, toD_ow, toD_od, toD_bg, rd_var, rd_getv1, rd_getv2, rd_getv3, rd_test, rd_onB, rd_onI, rd_onSB, rd_andV, rd_orV, rd_notV, rd_chain, rd_II, rd_II0, rd_add1, rd_add2, rd_add3, rd_mul1, rd_mul2, rd_mul3, rd_isN, rd_notN, rd_isN1, rd_isN2, rd_isN3, rd_neg, rd_ix1, rd_ix2, rd_part, rd_sl, rd_onSl1, rd_onSl2, rd_rev, rd_onRv, rd_len1, rd_len2, rd_max2, rd_min2, rd_int1, rd_int2, rd_lst1, rd_lst2, rd_tup1, rd_tup2, rd_dm, rd_seqI, rd_onSq1, rd_onSq2, rd_rng1, rd_onR1, rd_rng2, rd_onR2, xEnumT, rd_onEt, rd_zip, rd_onZ1, rd_onZ2, rd_par, rd_onP, xPar3, rd_onP3, rd_gtup, rd_gnil, rd_gcons, rd_isi, ini, iniB, wipeD, unw, kf, List.map_cons, List.map_nil, List.replicate_succ, List.replicate_zero, List.cons_append, List.nil_append, List.length_cons, List.length_nil, List.getElem?_cons_zero, List.getElem?_cons_succ, List.set_cons_zero, List.set_cons_succ, decide_eq_true_eq, Nat.zero_add, Nat.reduceAdd, Nat.reduceSub, Nat.reduceLeDiff, true_and, Bool.false_eq_true, if_false, if_true, isi_int_non, isi_int_bl, isi_int_int, isi_int_str, isi_int_lst, isi_int_tup, isi_bool_non, isi_bool_bl, isi_bool_int, isi_bool_str, isi_bool_lst, isi_bool_tup, isi_list_non, isi_list_bl, isi_list_int, isi_list_str, isi_list_lst, isi_list_tup, isi_tuple_non, isi_tuple_bl, isi_tuple_int, isi_tuple_str, isi_tuple_lst, isi_tuple_tup, isi_str_non, isi_str_bl, isi_str_int, isi_str_str, isi_str_lst, isi_str_tup, Bool.not_true, Bool.not_false, Bool.or_false, Bool.or_true, Bool.false_or, Bool.true_or, ite_true, ite_false, Option.some.injEq, true_or, false_or, or_false, and_true, rd_isOwn, rd_own1, rd_own2, rd_own3, rd_ixO, rd_onIx1, rd_onIx2, rd_store, rd_onStore1, rd_onStore2, ex_eq, xApp, xDput, S.ow.injEq, S.bg.injEq, S.od.injEq, reduceCtorEq, exists_eq_left', exists_eq_left, exists_eq', D.int.injEq, atI_c0, atI_c1, atI_c2, ixN3_0, ixN3_1, ixN3_2, false_and, and_self]
  obtain ⟨low, elow⟩ : ∃ low : Nat, (low : Int) = 1 + r2 := ⟨(1 + r2).toNat, by omega⟩
  have lo1 : 1 ≤ low := by omega
  have lo2 : low ≤ 4 := by omega
  rw [← elow]
  refine ⟨203, low, 4, hb3, by decide, rfl, by omega, by omega, by decide, by decide, fun ns b4 hns hb4 => ?_⟩
  have nok := hns.ok (show (4 : Int) ≤ 8 by decide)
  have dn := marks_down nok
  have nl := hns.1
  simp only [xSeq, xSet, xRet, xIf, xExpr, xNext, xNever, xC, xNil, xCons, xTup, xLst, xOp, xEq, xNe, xUn, xNot, xAnd, xOr, xIfE, xCB, xCall, xCallB, xName, xAsg, xIsi3, toD_fz, toD_ow, toD_od, toD_bg, rd_var, rd_getv1, rd_getv2, rd_getv3, rd_test, rd_onB, rd_onI, rd_onSB, rd_andV, rd_orV, rd_notV, rd_chain, rd_II, rd_II0, rd_add1, rd_add2, rd_add3, rd_mul1, rd_mul2, rd_mul3, rd_isN, rd_notN, rd_isN1, rd_isN2, rd_isN3, rd_neg, rd_ix1, rd_ix2, rd_part, rd_sl, rd_onSl1, rd_onSl2, rd_rev, rd_onRv, rd_len1, rd_len2, rd_max2, rd_min2, rd_int1, rd_int2, rd_lst1, rd_lst2, rd_tup1, rd_tup2, rd_dm, rd_seqI, rd_onSq1, rd_onSq2, rd_rng1, rd_onR1, rd_rng2, rd_onR2, xEnumT, rd_onEt, rd_zip, rd_onZ1, rd_onZ2, rd_par, rd_onP, xPar3, rd_onP3, rd_gtup, rd_gnil, rd_gcons, rd_isi, ini, iniB, wipeD, unw, kf, List.map_cons, List.map_nil, List.replicate_succ, List.replicate_zero, List.cons_append, List.nil_append, List.length_cons, List.length_nil, List.getElem?_cons_zero, List.getElem?_cons_succ, List.set_cons_zero, List.set_cons_succ, decide_eq_true_eq, Nat.zero_add, Nat.reduceAdd, Nat.reduceSub, Nat.reduceLeDiff, true_and, Bool.false_eq_true, if_false, if_true, isi_int_non, isi_int_bl, isi_int_int, isi_int_str, isi_int_lst, isi_int_tup, isi_bool_non, isi_bool_bl, isi_bool_int, isi_bool_str, isi_bool_lst, isi_bool_tup, isi_list_non, isi_list_bl, isi_list_int, isi_list_str, isi_list_lst, isi_list_tup, isi_tuple_non, isi_tuple_bl, isi_tuple_int, isi_tuple_str, isi_tuple_lst, isi_tuple_tup, isi_str_non, isi_str_bl, isi_str_int, isi_str_str, isi_str_lst, isi_str_tup, Bool.not_true, Bool.not_false, Bool.or_false, Bool.or_true, Bool.false_or, Bool.true_or, ite_true, ite_false, Option.some.injEq, true_or, false_or, or_false, and_true, rd_isOwn, rd_own1, rd_own2, rd_own3, rd_ixO, rd_onIx1, rd_onIx2, rd_store, rd_onStore1, rd_onStore2, ex_eq, xApp, xDput, S.ow.injEq, S.bg.injEq, S.od.injEq, reduceCtorEq, exists_eq_left', exists_eq_left, exists_eq', D.int.injEq, atI_c0, atI_c1, atI_c2, ixN3_0, ixN3_1, ixN3_2, false_and, and_self]
  refine ⟨403, 5, hb4, by decide, rfl, by decide, by decide, fun r3 b5 r3a r3b hb5 => ?_⟩
  simp only [xSeq, xSet, xRet, xIf, xExpr, xNext, xNever, xC, xNil, xCons, xTup, xLst, xOp, xEq, xNe, xUn, xNot, xAnd, xOr, xIfE, xCB, xCall, xCallB, xName, xAsg, xIsi3, toD_fz, toD_ow, toD_od, toD_bg, rd_var, rd_getv1, rd_getv2, rd_getv3, rd_test, rd_onB, rd_onI, rd_onSB, rd_andV, rd_orV, rd_notV, rd_chain, rd_II, rd_II0, rd_add1, rd_add2, rd_add3, rd_mul1, rd_mul2, rd_mul3, rd_isN, rd_notN, rd_isN1, rd_isN2, rd_isN3, rd_neg, rd_ix1, rd_ix2, rd_part, rd_sl, rd_onSl1, rd_onSl2, rd_rev, rd_onRv, rd_len1, rd_len2, rd_max2, rd_min2, rd_int1, rd_int2, rd_lst1, rd_lst2, rd_tup1, rd_tup2, rd_dm, rd_seqI, rd_onSq1, rd_onSq2, rd_rng1, rd_onR1, rd_rng2, rd_onR2, xEnumT, rd_onEt, rd_zip, rd_onZ1, rd_onZ2, rd_par, rd_onP, xPar3, rd_onP3, rd_gtup, rd_gnil, rd_gcons, rd_isi, ini, iniB, wipeD, unw, kf, List.map_cons, List.map_nil, List.replicate_succ, List.replicate_zero, List.cons_append, List.nil_append, List.length_cons, List.length_nil, List.getElem?_cons_zero, List.getElem?_cons_succ, List.set_cons_zero, List.set_cons_succ, decide_eq_true_eq, Nat.zero_add, Nat.reduceAdd, Nat.reduceSub, Nat.reduceLeDiff, true_and, Bool.false_eq_true, if_false, if_true, isi_int_non, isi_int_bl, isi_int_int, isi_int_str, isi_int_lst, isi_int_tup, isi_bool_non, isi_bool_bl, isi_bool_int, isi_bool_str, isi_bool_lst, isi_bool_tup, isi_list_non, isi_list_bl, isi_list_int, isi_list_str, isi_list_lst, isi_list_tup, isi_tuple_non, isi_tuple_bl, isi_tuple_int, isi_tuple_str, isi_tuple_lst, isi_tuple_tup, isi_str_non, isi_str_bl, isi_str_int, isi_str_str, isi_str_lst, isi_str_tup, Bool.not_true, Bool.not_false, Bool.or_false, Bool.or_true, Bool.false_or, Bool.true_or, ite_true, ite_false, Option.some.injEq, true_or, false_or, or_false, and_true, rd_isOwn, rd_own1, rd_own2, rd_own3, rd_ixO, rd_onIx1, rd_onIx2, rd_store, rd_onStore1, rd_onStore2, ex_eq, xApp, xDput, S.ow.injEq, S.bg.injEq, S.od.injEq, reduceCtorEq, exists_eq_left', exists_eq_left, exists_eq', D.int.injEq, atI_c0, atI_c1, atI_c2, ixN3_0, ixN3_1, ixN3_2, false_and, and_self]
  obtain ⟨n, rfl⟩ : ∃ n : Nat, r3 = (n : Int) := ⟨r3.toNat, by omega⟩
  have n4 : n ≤ 4 := by omega
  have hp : low ^ n ≤ 256 := Nat.le_trans (Nat.pow_le_pow_left lo2 n) (Nat.le_trans (Nat.pow_le_pow_right (by decide) n4) (by decide))
  have lR : (rowsF low n).length ≤ 256 := by rw [rows_len]; exact hp
  have inL : ∀ r ∈ rowsF low n, floods ns r ∈ lotsC low low := fun r hr => by
    have hr2 := (rows_in hr).2
    refine mem_lotsC.mpr ⟨floods_down dn.1, fun x hx => ?_⟩
    have := floods_in (top := low) dn.2 hr2 x hx
    omega
  simp only [xSeq, xSet, xRet, xIf, xExpr, xNext, xNever, xC, xNil, xCons, xTup, xLst, xOp, xEq, xNe, xUn, xNot, xAnd, xOr, xIfE, xCB, xCall, xCallB, xName, xAsg, xIsi3, toD_fz, toD_ow, toD_od, toD_bg, rd_var, rd_getv1, rd_getv2, rd_getv3, rd_test, rd_onB, rd_onI, rd_onSB, rd_andV, rd_orV, rd_notV, rd_chain, rd_II, rd_II0, rd_add1, rd_add2, rd_add3, rd_mul1, rd_mul2, rd_mul3, rd_isN, rd_notN, rd_isN1, rd_isN2, rd_isN3, rd_neg, rd_ix1, rd_ix2, rd_part, rd_sl, rd_onSl1, rd_onSl2, rd_rev, rd_onRv, rd_len1, rd_len2, rd_max2, rd_min2, rd_int1, rd_int2, rd_lst1, rd_lst2, rd_tup1, rd_tup2, rd_dm, rd_seqI, rd_onSq1, rd_onSq2, rd_rng1, rd_onR1, rd_rng2, rd_onR2, xEnumT, rd_onEt, rd_zip, rd_onZ1, rd_onZ2, rd_par, rd_onP, xPar3, rd_onP3, rd_gtup, rd_gnil, rd_gcons, rd_isi, ini, iniB, wipeD, unw, kf, List.map_cons, List.map_nil, List.replicate_succ, List.replicate_zero, List.cons_append, List.nil_append, List.length_cons, List.length_nil, List.getElem?_cons_zero, List.getElem?_cons_succ, List.set_cons_zero, List.set_cons_succ, decide_eq_true_eq, Nat.zero_add, Nat.reduceAdd, Nat.reduceSub, Nat.reduceLeDiff, true_and, Bool.false_eq_true, if_false, if_true, isi_int_non, isi_int_bl, isi_int_int, isi_int_str, isi_int_lst, isi_int_tup, isi_bool_non, isi_bool_bl, isi_bool_int, isi_bool_str, isi_bool_lst, isi_bool_tup, isi_list_non, isi_list_bl, isi_list_int, isi_list_str, isi_list_lst, isi_list_tup, isi_tuple_non, isi_tuple_bl, isi_tuple_int, isi_tuple_str, isi_tuple_lst, isi_tuple_tup, isi_str_non, isi_str_bl, isi_str_int, isi_str_str, isi_str_lst, isi_str_tup, Bool.not_true, Bool.not_false, Bool.or_false, Bool.or_true, Bool.false_or, Bool.true_or, ite_true, ite_false, Option.some.injEq, true_or, false_or, or_false, and_true, rd_isOwn, rd_own1, rd_own2, rd_own3, rd_ixO, rd_onIx1, rd_onIx2, rd_store, rd_onStore1, rd_onStore2, ex_eq, xApp, xDput, S.ow.injEq, S.bg.injEq, S.od.injEq, reduceCtorEq, exists_eq_left', exists_eq_left, exists_eq', D.int.injEq, atI_c0, atI_c1, atI_c2, ixN3_0, ixN3_1, ixN3_2, false_and, and_self, xSortedSetT]
  refine lc_all (rowsF low n) rowL (fun r => tupI (floods ns r)) (fun QL hq => ?_) (by omega) (fun r hr QD QN h1 => ?_) ?_
  · simp only [xSeq, xSet, xRet, xIf, xExpr, xNext, xNever, xC, xNil, xCons, xTup, xLst, xOp, xEq, xNe, xUn, xNot, xAnd, xOr, xIfE, xCB, xCall, xCallB, xName, xAsg, xIsi3, toD_fz, toD_ow, toD_od, toD_bg, rd_var, rd_getv1, rd_getv2, rd_getv3, rd_test, rd_onB, rd_onI, rd_onSB, rd_andV, rd_orV, rd_notV, rd_chain, rd_II, rd_II0, rd_add1, rd_add2, rd_add3, rd_mul1, rd_mul2, rd_mul3, rd_isN, rd_notN, rd_isN1, rd_isN2, rd_isN3, rd_neg, rd_ix1, rd_ix2, rd_part, rd_sl, rd_onSl1, rd_onSl2, rd_rev, rd_onRv, rd_len1, rd_len2, rd_max2, rd_min2, rd_int1, rd_int2, rd_lst1, rd_lst2, rd_tup1, rd_tup2, rd_dm, rd_seqI, rd_onSq1, rd_onSq2, rd_rng1, rd_onR1, rd_rng2, rd_onR2, xEnumT, rd_onEt, rd_zip, rd_onZ1, rd_onZ2, rd_par, rd_onP, xPar3, rd_onP3, rd_gtup, rd_gnil, rd_gcons, rd_isi, ini, iniB, wipeD, unw, kf, List.map_cons, List.map_nil, List.replicate_succ, List.replicate_zero, List.cons_append, List.nil_append, List.length_cons, List.length_nil, List.getElem?_cons_zero, List.getElem?_cons_succ, List.set_cons_zero, List.set_cons_succ, decide_eq_true_eq, Nat.zero_add, Nat.reduceAdd, Nat.reduceSub, Nat.reduceLeDiff, true_and, Bool.false_eq_true, if_false, if_true, isi_int_non, isi_int_bl, isi_int_int, isi_int_str, isi_int_lst, isi_int_tup, isi_bool_non, isi_bool_bl, isi_bool_int, isi_bool_str, isi_bool_lst, isi_bool_tup, isi_list_non, isi_list_bl, isi_list_int, isi_list_str, isi_list_lst, isi_list_tup, isi_tuple_non, isi_tuple_bl, isi_tuple_int, isi_tuple_str, isi_tuple_lst, isi_tuple_tup, isi_str_non, isi_str_bl, isi_str_int, isi_str_str, isi_str_lst, isi_str_tup, Bool.not_true, Bool.not_false, Bool.or_false, Bool.or_true, Bool.false_or, Bool.true_or, ite_true, ite_false, Option.some.injEq, true_or, false_or, or_false, and_true, rd_isOwn, rd_own1, rd_own2, rd_own3, rd_ixO, rd_onIx1, rd_onIx2, rd_store, rd_onStore1, rd_onStore2, ex_eq, xApp, xDput, S.ow.injEq, S.bg.injEq, S.od.injEq, reduceCtorEq, exists_eq_left', exists_eq_left, exists_eq', D.int.injEq, atI_c0, atI_c1, atI_c2, ixN3_0, ixN3_1, ixN3_2, false_and, and_self]
    refine ⟨low, n, rfl, lo1, by omega, by omega, by omega, ?_⟩
    simp only [xSeq, xSet, xRet, xIf, xExpr, xNext, xNever, xC, xNil, xCons, xTup, xLst, xOp, xEq, xNe, xUn, xNot, xAnd, xOr, xIfE, xCB, xCall, xCallB, xName, xAsg, xIsi3, toD_fz, toD_ow, toD_od, toD_bg, rd_var, rd_getv1, rd_getv2, rd_getv3, rd_test, rd_onB, rd_onI, rd_onSB, rd_andV, rd_orV, rd_notV, rd_chain, rd_II, rd_II0, rd_add1, rd_add2, rd_add3, rd_mul1, rd_mul2, rd_mul3, rd_isN, rd_notN, rd_isN1, rd_isN2, rd_isN3, rd_neg, rd_ix1, rd_ix2, rd_part, rd_sl, rd_onSl1, rd_onSl2, rd_rev, rd_onRv, rd_len1, rd_len2, rd_max2, rd_min2, rd_int1, rd_int2, rd_lst1, rd_lst2, rd_tup1, rd_tup2, rd_dm, rd_seqI, rd_onSq1, rd_onSq2, rd_rng1, rd_onR1, rd_rng2, rd_onR2, xEnumT, rd_onEt, rd_zip, rd_onZ1, rd_onZ2, rd_par, rd_onP, xPar3, rd_onP3, rd_gtup, rd_gnil, rd_gcons, rd_isi, ini, iniB, wipeD, unw, kf, List.map_cons, List.map_nil, List.replicate_succ, List.replicate_zero, List.cons_append, List.nil_append, List.length_cons, List.length_nil, List.getElem?_cons_zero, List.getElem?_cons_succ, List.set_cons_zero, List.set_cons_succ, decide_eq_true_eq, Nat.zero_add, Nat.reduceAdd, Nat.reduceSub, Nat.reduceLeDiff, true_and, Bool.false_eq_true, if_false, if_true, isi_int_non, isi_int_bl, isi_int_int, isi_int_str, isi_int_lst, isi_int_tup, isi_bool_non, isi_bool_bl, isi_bool_int, isi_bool_str, isi_bool_lst, isi_bool_tup, isi_list_non, isi_list_bl, isi_list_int, isi_list_str, isi_list_lst, isi_list_tup, isi_tuple_non, isi_tuple_bl, isi_tuple_int, isi_tuple_str, isi_tuple_lst, isi_tuple_tup, isi_str_non, isi_str_bl, isi_str_int, isi_str_str, isi_str_lst, isi_str_tup, Bool.not_true, Bool.not_false, Bool.or_false, Bool.or_true, Bool.false_or, Bool.true_or, ite_true, ite_false, Option.some.injEq, true_or, false_or, or_false, and_true, rd_isOwn, rd_own1, rd_own2, rd_own3, rd_ixO, rd_onIx1, rd_onIx2, rd_store, rd_onStore1, rd_onStore2, ex_eq, xApp, xDput, S.ow.injEq, S.bg.injEq, S.od.injEq, reduceCtorEq, exists_eq_left', exists_eq_left, exists_eq', D.int.injEq, atI_c0, atI_c1, atI_c2, ixN3_0, ixN3_1, ixN3_2, false_and, and_self]
    exact hq
  · have := (rows_in hr).1
    simp only [xSeq, xSet, xRet, xIf, xExpr, xNext, xNever, xC, xNil, xCons, xTup, xLst, xOp, xEq, xNe, xUn, xNot, xAnd, xOr, xIfE, xCB, xCall, xCallB, xName, xAsg, xIsi3, toD_fz, toD_ow, toD_od, toD_bg, rd_var, rd_getv1, rd_getv2, rd_getv3, rd_test, rd_onB, rd_onI, rd_onSB, rd_andV, rd_orV, rd_notV, rd_chain, rd_II, rd_II0, rd_add1, rd_add2, rd_add3, rd_mul1, rd_mul2, rd_mul3, rd_isN, rd_notN, rd_isN1, rd_isN2, rd_isN3, rd_neg, rd_ix1, rd_ix2, rd_part, rd_sl, rd_onSl1, rd_onSl2, rd_rev, rd_onRv, rd_len1, rd_len2, rd_max2, rd_min2, rd_int1, rd_int2, rd_lst1, rd_lst2, rd_tup1, rd_tup2, rd_dm, rd_seqI, rd_onSq1, rd_onSq2, rd_rng1, rd_onR1, rd_rng2, rd_onR2, xEnumT, rd_onEt, rd_zip, rd_onZ1, rd_onZ2, rd_par, rd_onP, xPar3, rd_onP3, rd_gtup, rd_gnil, rd_gcons, rd_isi, ini, iniB, wipeD, unw, kf, List.map_cons, List.map_nil, List.replicate_succ, List.replicate_zero, List.cons_append, List.nil_append, List.length_cons, List.length_nil, List.getElem?_cons_zero, List.getElem?_cons_succ, List.set_cons_zero, List.set_cons_succ, decide_eq_true_eq, Nat.zero_add, Nat.reduceAdd, Nat.reduceSub, Nat.reduceLeDiff, true_and, Bool.false_eq_true, if_false, if_true, isi_int_non, isi_int_bl, isi_int_int, isi_int_str, isi_int_lst, isi_int_tup, isi_bool_non, isi_bool_bl, isi_bool_int, isi_bool_str, isi_bool_lst, isi_bool_tup, isi_list_non, isi_list_bl, isi_list_int, isi_list_str, isi_list_lst, isi_list_tup, isi_tuple_non, isi_tuple_bl, isi_tuple_int, isi_tuple_str, isi_tuple_lst, isi_tuple_tup, isi_str_non, isi_str_bl, isi_str_int, isi_str_str, isi_str_lst, isi_str_tup, Bool.not_true, Bool.not_false, Bool.or_false, Bool.or_true, Bool.false_or, Bool.true_or, ite_true, ite_false, Option.some.injEq, true_or, false_or, or_false, and_true, rd_isOwn, rd_own1, rd_own2, rd_own3, rd_ixO, rd_onIx1, rd_onIx2, rd_store, rd_onStore1, rd_onStore2, ex_eq, xApp, xDput, S.ow.injEq, S.bg.injEq, S.od.injEq, reduceCtorEq, exists_eq_left', exists_eq_left, exists_eq', D.int.injEq, atI_c0, atI_c1, atI_c2, ixN3_0, ixN3_1, ixN3_2, false_and, and_self, rowL]
    exact ⟨ns, r, rfl, by omega, h1⟩
  refine ⟨(rowsF low n).map (floods ns), lotsC low low, by rw [List.map_map]; rfl, ?_, fun r hr => ?_, ?_, fun ys nd mem => ?_⟩
  · rw [len_lotsC]
    exact Nat.lt_of_le_of_lt (Nat.pow_le_pow_right (by decide) lo2) (by decide)
  · obtain ⟨r', hr', rfl⟩ := List.mem_map.mp hr
    exact inL r' hr'
  · by_cases n0 : n = 0
    · refine .inr ⟨ns, fun r hr => ?_⟩
      obtain ⟨r', hr', rfl⟩ := List.mem_map.mp hr
      rw [n0] at hr'
      have : r' = [] := by simpa [rowsF] using hr'
      rw [this]
      rfl
    · refine .inl fun r hr => ?_
      obtain ⟨r', hr', rfl⟩ := List.mem_map.mp hr
      have hr0 : r' ≠ [] := fun z => by
        have := (rows_in hr').1
        rw [z] at this
        exact n0 this.symm
      obtain ⟨m, t, e, _⟩ := flo_head r' hr0
      rw [floods_split, e]
      simp
  have hys : hmF low ns n = ((ys.length : Nat) : Int) := by
    rw [← how_marks dn n, List.countP_eq_length_filter]
    congr 1
    refine ((List.perm_ext_iff_of_nodup ((nd_lotsC low low).filter _) nd).mpr fun r => ?_).length_eq
    rw [mem, List.mem_filter, decide_eq_true_eq, List.mem_map]
    constructor
    · intro ⟨h1, h2⟩
      have hm := mem_lotsC.mp h1
      rw [← cnt_ways (top := low) ⟨hm.1, fun x hx => by have := hm.2 x hx; omega⟩ n] at h2
      obtain ⟨row, h3, h4⟩ := List.countP_pos_iff.mp (show 0 < (rowsF low n).countP fun row => decide (floods ns row = r) by omega)
      exact ⟨row, h3, of_decide_eq_true h4⟩
    · rintro ⟨row, h3, rfl⟩
      have h1 := inL row h3
      have hm := mem_lotsC.mp h1
      refine ⟨h1, ?_⟩
      rw [← cnt_ways (top := low) ⟨hm.1, fun x hx => by have := hm.2 x hx; omega⟩ n]
      have : 0 < (rowsF low n).countP fun r => decide (floods ns r = floods ns row) := List.countP_pos_iff.mpr ⟨row, h3, decide_eq_true rfl⟩
      omega
  simp only [xSeq, xSet, xRet, xIf, xExpr, xNext, xNever, xC, xNil, xCons, xTup, xLst, xOp, xEq, xNe, xUn, xNot, xAnd, xOr, xIfE, xCB, xCall, xCallB, xName, xAsg, xIsi3, toD_fz, toD_ow, toD_od, toD_bg, rd_var, rd_getv1, rd_getv2, rd_getv3, rd_test, rd_onB, rd_onI, rd_onSB, rd_andV, rd_orV, rd_notV, rd_chain, rd_II, rd_II0, rd_add1, rd_add2, rd_add3, rd_mul1, rd_mul2, rd_mul3, rd_isN, rd_notN, rd_isN1, rd_isN2, rd_isN3, rd_neg, rd_ix1, rd_ix2, rd_part, rd_sl, rd_onSl1, rd_onSl2, rd_rev, rd_onRv, rd_len1, rd_len2, rd_max2, rd_min2, rd_int1, rd_int2, rd_lst1, rd_lst2, rd_tup1, rd_tup2, rd_dm, rd_seqI, rd_onSq1, rd_onSq2, rd_rng1, rd_onR1, rd_rng2, rd_onR2, xEnumT, rd_onEt, rd_zip, rd_onZ1, rd_onZ2, rd_par, rd_onP, xPar3, rd_onP3, rd_gtup, rd_gnil, rd_gcons, rd_isi, ini, iniB, wipeD, unw, kf, List.map_cons, List.map_nil, List.replicate_succ, List.replicate_zero, List.cons_append, List.nil_append, List.length_cons, List.length_nil, List.getElem?_cons_zero, List.getElem?_cons_succ, List.set_cons_zero, List.set_cons_succ, decide_eq_true_eq, Nat.zero_add, Nat.reduceAdd, Nat.reduceSub, Nat.reduceLeDiff, true_and, Bool.false_eq_true, if_false, if_true, isi_int_non, isi_int_bl, isi_int_int, isi_int_str, isi_int_lst, isi_int_tup, isi_bool_non, isi_bool_bl, isi_bool_int, isi_bool_str, isi_bool_lst, isi_bool_tup, isi_list_non, isi_list_bl, isi_list_int, isi_list_str, isi_list_lst, isi_list_tup, isi_tuple_non, isi_tuple_bl, isi_tuple_int, isi_tuple_str, isi_tuple_lst, isi_tuple_tup, isi_str_non, isi_str_bl, isi_str_int, isi_str_str, isi_str_lst, isi_str_tup, Bool.not_true, Bool.not_false, Bool.or_false, Bool.or_true, Bool.false_or, Bool.true_or, ite_true, ite_false, Option.some.injEq, true_or, false_or, or_false, and_true, rd_isOwn, rd_own1, rd_own2, rd_own3, rd_ixO, rd_onIx1, rd_onIx2, rd_store, rd_onStore1, rd_onStore2, ex_eq, xApp, xDput, S.ow.injEq, S.bg.injEq, S.od.injEq, reduceCtorEq, exists_eq_left', exists_eq_left, exists_eq', D.int.injEq, atI_c0, atI_c1, atI_c2, ixN3_0, ixN3_1, ixN3_2, false_and, and_self]
  refine ⟨low, ns, n, rfl, lo1, by omega, nok, by omega, ?_⟩
  rw [hys]
  simp only [xSeq, xSet, xRet, xIf, xExpr, xNext, xNever, xC, xNil, xCons, xTup, xLst, xOp, xEq, xNe, xUn, xNot, xAnd, xOr, xIfE, xCB, xCall, xCallB, xName, xAsg, xIsi3, toD_fz, toD_ow, toD_od, toD_bg, rd_var, rd_getv1, rd_getv2, rd_getv3, rd_test, rd_onB, rd_onI, rd_onSB, rd_andV, rd_orV, rd_notV, rd_chain, rd_II, rd_II0, rd_add1, rd_add2, rd_add3, rd_mul1, rd_mul2, rd_mul3, rd_isN, rd_notN, rd_isN1, rd_isN2, rd_isN3, rd_neg, rd_ix1, rd_ix2, rd_part, rd_sl, rd_onSl1, rd_onSl2, rd_rev, rd_onRv, rd_len1, rd_len2, rd_max2, rd_min2, rd_int1, rd_int2, rd_lst1, rd_lst2, rd_tup1, rd_tup2, rd_dm, rd_seqI, rd_onSq1, rd_onSq2, rd_rng1, rd_onR1, rd_rng2, rd_onR2, xEnumT, rd_onEt, rd_zip, rd_onZ1, rd_onZ2, rd_par, rd_onP, xPar3, rd_onP3, rd_gtup, rd_gnil, rd_gcons, rd_isi, ini, iniB, wipeD, unw, kf, List.map_cons, List.map_nil, List.replicate_succ, List.replicate_zero, List.cons_append, List.nil_append, List.length_cons, List.length_nil, List.getElem?_cons_zero, List.getElem?_cons_succ, List.set_cons_zero, List.set_cons_succ, decide_eq_true_eq, Nat.zero_add, Nat.reduceAdd, Nat.reduceSub, Nat.reduceLeDiff, true_and, Bool.false_eq_true, if_false, if_true, isi_int_non, isi_int_bl, isi_int_int, isi_int_str, isi_int_lst, isi_int_tup, isi_bool_non, isi_bool_bl, isi_bool_int, isi_bool_str, isi_bool_lst, isi_bool_tup, isi_list_non, isi_list_bl, isi_list_int, isi_list_str, isi_list_lst, isi_list_tup, isi_tuple_non, isi_tuple_bl, isi_tuple_int, isi_tuple_str, isi_tuple_lst, isi_tuple_tup, isi_str_non, isi_str_bl, isi_str_int, isi_str_str, isi_str_lst, isi_str_tup, Bool.not_true, Bool.not_false, Bool.or_false, Bool.or_true, Bool.false_or, Bool.true_or, ite_true, ite_false, Option.some.injEq, true_or, false_or, or_false, and_true, rd_isOwn, rd_own1, rd_own2, rd_own3, rd_ixO, rd_onIx1, rd_onIx2, rd_store, rd_onStore1, rd_onStore2, ex_eq, xApp, xDput, S.ow.injEq, S.bg.injEq, S.od.injEq, reduceCtorEq, exists_eq_left', exists_eq_left, exists_eq', D.int.injEq, atI_c0, atI_c1, atI_c2, ixN3_0, ixN3_1, ixN3_2, false_and, and_self, List.length_map]
  refine ⟨.int (ys.length : Nat), rfl, rfl, ?_⟩
  simp only [xSeq, xSet, xRet, xIf, xExpr, xNext, xNever, xC, xNil, xCons, xTup, xLst, xOp, xEq, xNe, xUn, xNot, xAnd, xOr, xIfE, xCB, xCall, xCallB, xName, xAsg, xIsi3, toD_fz, toD_ow, toD_od, toD_bg, rd_var, rd_getv1, rd_getv2, rd_getv3, rd_test, rd_onB, rd_onI, rd_onSB, rd_andV, rd_orV, rd_notV, rd_chain, rd_II, rd_II0, rd_add1, rd_add2, rd_add3, rd_mul1, rd_mul2, rd_mul3, rd_isN, rd_notN, rd_isN1, rd_isN2, rd_isN3, rd_neg, rd_ix1, rd_ix2, rd_part, rd_sl, rd_onSl1, rd_onSl2, rd_rev, rd_onRv, rd_len1, rd_len2, rd_max2, rd_min2, rd_int1, rd_int2, rd_lst1, rd_lst2, rd_tup1, rd_tup2, rd_dm, rd_seqI, rd_onSq1, rd_onSq2, rd_rng1, rd_onR1, rd_rng2, rd_onR2, xEnumT, rd_onEt, rd_zip, rd_onZ1, rd_onZ2, rd_par, rd_onP, xPar3, rd_onP3, rd_gtup, rd_gnil, rd_gcons, rd_isi, ini, iniB, wipeD, unw, kf, List.map_cons, List.map_nil, List.replicate_succ, List.replicate_zero, List.cons_append, List.nil_append, List.length_cons, List.length_nil, List.getElem?_cons_zero, List.getElem?_cons_succ, List.set_cons_zero, List.set_cons_succ, decide_eq_true_eq, Nat.zero_add, Nat.reduceAdd, Nat.reduceSub, Nat.reduceLeDiff, true_and, Bool.false_eq_true, if_false, if_true, isi_int_non, isi_int_bl, isi_int_int, isi_int_str, isi_int_lst, isi_int_tup, isi_bool_non, isi_bool_bl, isi_bool_int, isi_bool_str, isi_bool_lst, isi_bool_tup, isi_list_non, isi_list_bl, isi_list_int, isi_list_str, isi_list_lst, isi_list_tup, isi_tuple_non, isi_tuple_bl, isi_tuple_int, isi_tuple_str, isi_tuple_lst, isi_tuple_tup, isi_str_non, isi_str_bl, isi_str_int, isi_str_str, isi_str_lst, isi_str_tup, Bool.not_true, Bool.not_false, Bool.or_false, Bool.or_true, Bool.false_or, Bool.true_or, ite_true, ite_false, Option.some.injEq, true_or, false_or, or_false, and_true, rd_isOwn, rd_own1, rd_own2, rd_own3, rd_ixO, rd_onIx1, rd_onIx2, rd_store, rd_onStore1, rd_onStore2, ex_eq, xApp, xDput, S.ow.injEq, S.bg.injEq, S.od.injEq, reduceCtorEq, exists_eq_left', exists_eq_left, exists_eq', D.int.injEq, atI_c0, atI_c1, atI_c2, ixN3_0, ixN3_1, ixN3_2, false_and, and_self]
  refine ⟨cpw (by decide) (by decide) (by decide) (by decide), 404, _, hb5, by decide, rfl, by decide, by decide, fun r4 b6 r4a r4b hb6 => ?_⟩
  simp only [xSeq, xSet, xRet, xIf, xExpr, xNext, xNever, xC, xNil, xCons, xTup, xLst, xOp, xEq, xNe, xUn, xNot, xAnd, xOr, xIfE, xCB, xCall, xCallB, xName, xAsg, xIsi3, toD_fz, toD_ow, toD_od, toD_bg, rd_var, rd_getv1, rd_getv2, rd_getv3, rd_test, rd_onB, rd_onI, rd_onSB, rd_andV, rd_orV, rd_notV, rd_chain, rd_II, rd_II0, rd_add1, rd_add2, rd_add3, rd_mul1, rd_mul2, rd_mul3, rd_isN, rd_notN, rd_isN1, rd_isN2, rd_isN3, rd_neg, rd_ix1, rd_ix2, rd_part, rd_sl, rd_onSl1, rd_onSl2, rd_rev, rd_onRv, rd_len1, rd_len2, rd_max2, rd_min2, rd_int1, rd_int2, rd_lst1, rd_lst2, rd_tup1, rd_tup2, rd_dm, rd_seqI, rd_onSq1, rd_onSq2, rd_rng1, rd_onR1, rd_rng2, rd_onR2, xEnumT, rd_onEt, rd_zip, rd_onZ1, rd_onZ2, rd_par, rd_onP, xPar3, rd_onP3, rd_gtup, rd_gnil, rd_gcons, rd_isi, ini, iniB, wipeD, unw, kf, List.map_cons, List.map_nil, List.replicate_succ, List.replicate_zero, List.cons_append, List.nil_append, List.length_cons, List.length_nil, List.getElem?_cons_zero, List.getElem?_cons_succ, List.set_cons_zero, List.set_cons_succ, decide_eq_true_eq, Nat.zero_add, Nat.reduceAdd, Nat.reduceSub, Nat.reduceLeDiff, true_and, Bool.false_eq_true, if_false, if_true, isi_int_non, isi_int_bl, isi_int_int, isi_int_str, isi_int_lst, isi_int_tup, isi_bool_non, isi_bool_bl, isi_bool_int, isi_bool_str, isi_bool_lst, isi_bool_tup, isi_list_non, isi_list_bl, isi_list_int, isi_list_str, isi_list_lst, isi_list_tup, isi_tuple_non, isi_tuple_bl, isi_tuple_int, isi_tuple_str, isi_tuple_lst, isi_tuple_tup, isi_str_non, isi_str_bl, isi_str_int, isi_str_str, isi_str_lst, isi_str_tup, Bool.not_true, Bool.not_false, Bool.or_false, Bool.or_true, Bool.false_or, Bool.true_or, ite_true, ite_false, Option.some.injEq, true_or, false_or, or_false, and_true, rd_isOwn, rd_own1, rd_own2, rd_own3, rd_ixO, rd_onIx1, rd_onIx2, rd_store, rd_onStore1, rd_onStore2, ex_eq, xApp, xDput, S.ow.injEq, S.bg.injEq, S.od.injEq, reduceCtorEq, exists_eq_left', exists_eq_left, exists_eq', D.int.injEq, atI_c0, atI_c1, atI_c2, ixN3_0, ixN3_1, ixN3_2, false_and, and_self]
  have c6 : (10 : Int) ^ Int.toNat 6 = 1000000 := rfl
  have c18 : (10 : Int) ^ Int.toNat 18 = 1000000000000000000 := rfl
  rw [c6] at r4b
  refine ⟨cpw (by decide) (by decide) (by decide) (by decide), 405, _, hb6, by decide, rfl, by decide, by decide, fun r5 b7 r5a r5b hb7 => ?_⟩
  rw [c18] at r5b
  simp only [xSeq, xSet, xRet, xIf, xExpr, xNext, xNever, xC, xNil, xCons, xTup, xLst, xOp, xEq, xNe, xUn, xNot, xAnd, xOr, xIfE, xCB, xCall, xCallB, xName, xAsg, xIsi3, toD_fz, toD_ow, toD_od, toD_bg, rd_var, rd_getv1, rd_getv2, rd_getv3, rd_test, rd_onB, rd_onI, rd_onSB, rd_andV, rd_orV, rd_notV, rd_chain, rd_II, rd_II0, rd_add1, rd_add2, rd_add3, rd_mul1, rd_mul2, rd_mul3, rd_isN, rd_notN, rd_isN1, rd_isN2, rd_isN3, rd_neg, rd_ix1, rd_ix2, rd_part, rd_sl, rd_onSl1, rd_onSl2, rd_rev, rd_onRv, rd_len1, rd_len2, rd_max2, rd_min2, rd_int1, rd_int2, rd_lst1, rd_lst2, rd_tup1, rd_tup2, rd_dm, rd_seqI, rd_onSq1, rd_onSq2, rd_rng1, rd_onR1, rd_rng2, rd_onR2, xEnumT, rd_onEt, rd_zip, rd_onZ1, rd_onZ2, rd_par, rd_onP, xPar3, rd_onP3, rd_gtup, rd_gnil, rd_gcons, rd_isi, ini, iniB, wipeD, unw, kf, List.map_cons, List.map_nil, List.replicate_succ, List.replicate_zero, List.cons_append, List.nil_append, List.length_cons, List.length_nil, List.getElem?_cons_zero, List.getElem?_cons_succ, List.set_cons_zero, List.set_cons_succ, decide_eq_true_eq, Nat.zero_add, Nat.reduceAdd, Nat.reduceSub, Nat.reduceLeDiff, true_and, Bool.false_eq_true, if_false, if_true, isi_int_non, isi_int_bl, isi_int_int, isi_int_str, isi_int_lst, isi_int_tup, isi_bool_non, isi_bool_bl, isi_bool_int, isi_bool_str, isi_bool_lst, isi_bool_tup, isi_list_non, isi_list_bl, isi_list_int, isi_list_str, isi_list_lst, isi_list_tup, isi_tuple_non, isi_tuple_bl, isi_tuple_int, isi_tuple_str, isi_tuple_lst, isi_tuple_tup, isi_str_non, isi_str_bl, isi_str_int, isi_str_str, isi_str_lst, isi_str_tup, Bool.not_true, Bool.not_false, Bool.or_false, Bool.or_true, Bool.false_or, Bool.true_or, ite_true, ite_false, Option.some.injEq, true_or, false_or, or_false, and_true, rd_isOwn, rd_own1, rd_own2, rd_own3, rd_ixO, rd_onIx1, rd_onIx2, rd_store, rd_onStore1, rd_onStore2, ex_eq, xApp, xDput, S.ow.injEq, S.bg.injEq, S.od.injEq, reduceCtorEq, exists_eq_left', exists_eq_left, exists_eq', D.int.injEq, atI_c0, atI_c1, atI_c2, ixN3_0, ixN3_1, ixN3_2, false_and, and_self]
  obtain ⟨m, em⟩ : ∃ m : Int, m = 2 + r4 := ⟨_, rfl⟩
  obtain ⟨N, eN⟩ : ∃ N : Nat, (N : Int) = 1 + r5 := ⟨(1 + r5).toNat, by omega⟩
  rw [← em, ← eN]
  have m1 : 2 ≤ m := by omega
  have m2 : m ≤ 1000000000 := by omega
  have N1 : (N : Int) ≤ 1000000000000000000 := by omega
  have lL := len_lotsC low low
  have l16 : 2 ^ low ≤ 16 := Nat.pow_le_pow_right (n := 2) (by decide) lo2
  refine lc_all (lotsC low low) tupI (fun later => D.int (waysF [] later N % m)) (fun QL hq => ?_) (by omega) (fun later hlat QD QN h1 => ?_) ?_
  · simp only [xSeq, xSet, xRet, xIf, xExpr, xNext, xNever, xC, xNil, xCons, xTup, xLst, xOp, xEq, xNe, xUn, xNot, xAnd, xOr, xIfE, xCB, xCall, xCallB, xName, xAsg, xIsi3, toD_fz, toD_ow, toD_od, toD_bg, rd_var, rd_getv1, rd_getv2, rd_getv3, rd_test, rd_onB, rd_onI, rd_onSB, rd_andV, rd_orV, rd_notV, rd_chain, rd_II, rd_II0, rd_add1, rd_add2, rd_add3, rd_mul1, rd_mul2, rd_mul3, rd_isN, rd_notN, rd_isN1, rd_isN2, rd_isN3, rd_neg, rd_ix1, rd_ix2, rd_part, rd_sl, rd_onSl1, rd_onSl2, rd_rev, rd_onRv, rd_len1, rd_len2, rd_max2, rd_min2, rd_int1, rd_int2, rd_lst1, rd_lst2, rd_tup1, rd_tup2, rd_dm, rd_seqI, rd_onSq1, rd_onSq2, rd_rng1, rd_onR1, rd_rng2, rd_onR2, xEnumT, rd_onEt, rd_zip, rd_onZ1, rd_onZ2, rd_par, rd_onP, xPar3, rd_onP3, rd_gtup, rd_gnil, rd_gcons, rd_isi, ini, iniB, wipeD, unw, kf, List.map_cons, List.map_nil, List.replicate_succ, List.replicate_zero, List.cons_append, List.nil_append, List.length_cons, List.length_nil, List.getElem?_cons_zero, List.getElem?_cons_succ, List.set_cons_zero, List.set_cons_succ, decide_eq_true_eq, Nat.zero_add, Nat.reduceAdd, Nat.reduceSub, Nat.reduceLeDiff, true_and, Bool.false_eq_true, if_false, if_true, isi_int_non, isi_int_bl, isi_int_int, isi_int_str, isi_int_lst, isi_int_tup, isi_bool_non, isi_bool_bl, isi_bool_int, isi_bool_str, isi_bool_lst, isi_bool_tup, isi_list_non, isi_list_bl, isi_list_int, isi_list_str, isi_list_lst, isi_list_tup, isi_tuple_non, isi_tuple_bl, isi_tuple_int, isi_tuple_str, isi_tuple_lst, isi_tuple_tup, isi_str_non, isi_str_bl, isi_str_int, isi_str_str, isi_str_lst, isi_str_tup, Bool.not_true, Bool.not_false, Bool.or_false, Bool.or_true, Bool.false_or, Bool.true_or, ite_true, ite_false, Option.some.injEq, true_or, false_or, or_false, and_true, rd_isOwn, rd_own1, rd_own2, rd_own3, rd_ixO, rd_onIx1, rd_onIx2, rd_store, rd_onStore1, rd_onStore2, ex_eq, xApp, xDput, S.ow.injEq, S.bg.injEq, S.od.injEq, reduceCtorEq, exists_eq_left', exists_eq_left, exists_eq', D.int.injEq, atI_c0, atI_c1, atI_c2, ixN3_0, ixN3_1, ixN3_2, false_and, and_self]
    refine ⟨low, rfl, lo1, by omega, ?_⟩
    simp only [xSeq, xSet, xRet, xIf, xExpr, xNext, xNever, xC, xNil, xCons, xTup, xLst, xOp, xEq, xNe, xUn, xNot, xAnd, xOr, xIfE, xCB, xCall, xCallB, xName, xAsg, xIsi3, toD_fz, toD_ow, toD_od, toD_bg, rd_var, rd_getv1, rd_getv2, rd_getv3, rd_test, rd_onB, rd_onI, rd_onSB, rd_andV, rd_orV, rd_notV, rd_chain, rd_II, rd_II0, rd_add1, rd_add2, rd_add3, rd_mul1, rd_mul2, rd_mul3, rd_isN, rd_notN, rd_isN1, rd_isN2, rd_isN3, rd_neg, rd_ix1, rd_ix2, rd_part, rd_sl, rd_onSl1, rd_onSl2, rd_rev, rd_onRv, rd_len1, rd_len2, rd_max2, rd_min2, rd_int1, rd_int2, rd_lst1, rd_lst2, rd_tup1, rd_tup2, rd_dm, rd_seqI, rd_onSq1, rd_onSq2, rd_rng1, rd_onR1, rd_rng2, rd_onR2, xEnumT, rd_onEt, rd_zip, rd_onZ1, rd_onZ2, rd_par, rd_onP, xPar3, rd_onP3, rd_gtup, rd_gnil, rd_gcons, rd_isi, ini, iniB, wipeD, unw, kf, List.map_cons, List.map_nil, List.replicate_succ, List.replicate_zero, List.cons_append, List.nil_append, List.length_cons, List.length_nil, List.getElem?_cons_zero, List.getElem?_cons_succ, List.set_cons_zero, List.set_cons_succ, decide_eq_true_eq, Nat.zero_add, Nat.reduceAdd, Nat.reduceSub, Nat.reduceLeDiff, true_and, Bool.false_eq_true, if_false, if_true, isi_int_non, isi_int_bl, isi_int_int, isi_int_str, isi_int_lst, isi_int_tup, isi_bool_non, isi_bool_bl, isi_bool_int, isi_bool_str, isi_bool_lst, isi_bool_tup, isi_list_non, isi_list_bl, isi_list_int, isi_list_str, isi_list_lst, isi_list_tup, isi_tuple_non, isi_tuple_bl, isi_tuple_int, isi_tuple_str, isi_tuple_lst, isi_tuple_tup, isi_str_non, isi_str_bl, isi_str_int, isi_str_str, isi_str_lst, isi_str_tup, Bool.not_true, Bool.not_false, Bool.or_false, Bool.or_true, Bool.false_or, Bool.true_or, ite_true, ite_false, Option.some.injEq, true_or, false_or, or_false, and_true, rd_isOwn, rd_own1, rd_own2, rd_own3, rd_ixO, rd_onIx1, rd_onIx2, rd_store, rd_onStore1, rd_onStore2, ex_eq, xApp, xDput, S.ow.injEq, S.bg.injEq, S.od.injEq, reduceCtorEq, exists_eq_left', exists_eq_left, exists_eq', D.int.injEq, atI_c0, atI_c1, atI_c2, ixN3_0, ixN3_1, ixN3_2, false_and, and_self]
    exact hq
  · have hm := mem_lotsC.mp hlat
    have hin : ∀ x ∈ later, 1 ≤ x ∧ x ≤ (low : Int) := fun x hx => by have := hm.2 x hx; omega
    have ll := down_len hm.1 hin
    simp only [xSeq, xSet, xRet, xIf, xExpr, xNext, xNever, xC, xNil, xCons, xTup, xLst, xOp, xEq, xNe, xUn, xNot, xAnd, xOr, xIfE, xCB, xCall, xCallB, xName, xAsg, xIsi3, toD_fz, toD_ow, toD_od, toD_bg, rd_var, rd_getv1, rd_getv2, rd_getv3, rd_test, rd_onB, rd_onI, rd_onSB, rd_andV, rd_orV, rd_notV, rd_chain, rd_II, rd_II0, rd_add1, rd_add2, rd_add3, rd_mul1, rd_mul2, rd_mul3, rd_isN, rd_notN, rd_isN1, rd_isN2, rd_isN3, rd_neg, rd_ix1, rd_ix2, rd_part, rd_sl, rd_onSl1, rd_onSl2, rd_rev, rd_onRv, rd_len1, rd_len2, rd_max2, rd_min2, rd_int1, rd_int2, rd_lst1, rd_lst2, rd_tup1, rd_tup2, rd_dm, rd_seqI, rd_onSq1, rd_onSq2, rd_rng1, rd_onR1, rd_rng2, rd_onR2, xEnumT, rd_onEt, rd_zip, rd_onZ1, rd_onZ2, rd_par, rd_onP, xPar3, rd_onP3, rd_gtup, rd_gnil, rd_gcons, rd_isi, ini, iniB, wipeD, unw, kf, List.map_cons, List.map_nil, List.replicate_succ, List.replicate_zero, List.cons_append, List.nil_append, List.length_cons, List.length_nil, List.getElem?_cons_zero, List.getElem?_cons_succ, List.set_cons_zero, List.set_cons_succ, decide_eq_true_eq, Nat.zero_add, Nat.reduceAdd, Nat.reduceSub, Nat.reduceLeDiff, true_and, Bool.false_eq_true, if_false, if_true, isi_int_non, isi_int_bl, isi_int_int, isi_int_str, isi_int_lst, isi_int_tup, isi_bool_non, isi_bool_bl, isi_bool_int, isi_bool_str, isi_bool_lst, isi_bool_tup, isi_list_non, isi_list_bl, isi_list_int, isi_list_str, isi_list_lst, isi_list_tup, isi_tuple_non, isi_tuple_bl, isi_tuple_int, isi_tuple_str, isi_tuple_lst, isi_tuple_tup, isi_str_non, isi_str_bl, isi_str_int, isi_str_str, isi_str_lst, isi_str_tup, Bool.not_true, Bool.not_false, Bool.or_false, Bool.or_true, Bool.false_or, Bool.true_or, ite_true, ite_false, Option.some.injEq, true_or, false_or, or_false, and_true, rd_isOwn, rd_own1, rd_own2, rd_own3, rd_ixO, rd_onIx1, rd_onIx2, rd_store, rd_onStore1, rd_onStore2, ex_eq, xApp, xDput, S.ow.injEq, S.bg.injEq, S.od.injEq, reduceCtorEq, exists_eq_left', exists_eq_left, exists_eq', D.int.injEq, atI_c0, atI_c1, atI_c2, ixN3_0, ixN3_1, ixN3_2, false_and, and_self, tupI]
    exact ⟨low, [], later, N, m, rfl, by omega, by omega, rfl, isMarks_iff (by omega) hm.1 hin, by omega, N1, m1, m2, h1⟩
  simp only [xSeq, xSet, xRet, xIf, xExpr, xNext, xNever, xC, xNil, xCons, xTup, xLst, xOp, xEq, xNe, xUn, xNot, xAnd, xOr, xIfE, xCB, xCall, xCallB, xName, xAsg, xIsi3, toD_fz, toD_ow, toD_od, toD_bg, rd_var, rd_getv1, rd_getv2, rd_getv3, rd_test, rd_onB, rd_onI, rd_onSB, rd_andV, rd_orV, rd_notV, rd_chain, rd_II, rd_II0, rd_add1, rd_add2, rd_add3, rd_mul1, rd_mul2, rd_mul3, rd_isN, rd_notN, rd_isN1, rd_isN2, rd_isN3, rd_neg, rd_ix1, rd_ix2, rd_part, rd_sl, rd_onSl1, rd_onSl2, rd_rev, rd_onRv, rd_len1, rd_len2, rd_max2, rd_min2, rd_int1, rd_int2, rd_lst1, rd_lst2, rd_tup1, rd_tup2, rd_dm, rd_seqI, rd_onSq1, rd_onSq2, rd_rng1, rd_onR1, rd_rng2, rd_onR2, xEnumT, rd_onEt, rd_zip, rd_onZ1, rd_onZ2, rd_par, rd_onP, xPar3, rd_onP3, rd_gtup, rd_gnil, rd_gcons, rd_isi, ini, iniB, wipeD, unw, kf, List.map_cons, List.map_nil, List.replicate_succ, List.replicate_zero, List.cons_append, List.nil_append, List.length_cons, List.length_nil, List.getElem?_cons_zero, List.getElem?_cons_succ, List.set_cons_zero, List.set_cons_succ, decide_eq_true_eq, Nat.zero_add, Nat.reduceAdd, Nat.reduceSub, Nat.reduceLeDiff, true_and, Bool.false_eq_true, if_false, if_true, isi_int_non, isi_int_bl, isi_int_int, isi_int_str, isi_int_lst, isi_int_tup, isi_bool_non, isi_bool_bl, isi_bool_int, isi_bool_str, isi_bool_lst, isi_bool_tup, isi_list_non, isi_list_bl, isi_list_int, isi_list_str, isi_list_lst, isi_list_tup, isi_tuple_non, isi_tuple_bl, isi_tuple_int, isi_tuple_str, isi_tuple_lst, isi_tuple_tup, isi_str_non, isi_str_bl, isi_str_int, isi_str_str, isi_str_lst, isi_str_tup, Bool.not_true, Bool.not_false, Bool.or_false, Bool.or_true, Bool.false_or, Bool.true_or, ite_true, ite_false, Option.some.injEq, true_or, false_or, or_false, and_true, rd_isOwn, rd_own1, rd_own2, rd_own3, rd_ixO, rd_onIx1, rd_onIx2, rd_store, rd_onStore1, rd_onStore2, ex_eq, xApp, xDput, S.ow.injEq, S.bg.injEq, S.od.injEq, reduceCtorEq, exists_eq_left', exists_eq_left, exists_eq', D.int.injEq, atI_c0, atI_c1, atI_c2, ixN3_0, ixN3_1, ixN3_2, false_and, and_self, xWhile]
  have even : ∀ (b : Int) (w : Nat), b ^ (2 * w) % m = (b * b % m) ^ w % m := fun b w => by rw [powD, powM_mod]
  refine ⟨fun μ ρ => ∃ p b : Int, ρ = [none, some (.bg b7), some (.fz (.int (top : Nat))), some (.fz (.tup (ns.map D.int))), some (.fz (.int (low : Nat))), some (.fz (.int (n : Nat))), some (.fz (.lst (ys.map tupI))), none, some (.fz (.int m)), some (.fz (.int (N : Nat))), some (.ow ((lotsC low low).map fun later => D.int (waysF [] later N % m))), none, some (.fz (.int p)), some (.fz (.int b)), some (.fz (.int (μ : Nat)))] ∧ (0 ≤ p ∧ p ≤ 1000000000) ∧ (0 ≤ b ∧ b ≤ 1000000000) ∧ (μ : Int) ≤ 1000000000000000000 ∧ p * b ^ μ % m = (low : Int) ^ N % m,
    ⟨N, 1, low, rfl, by omega, by omega, N1, by rw [Int.one_mul]⟩, fun μ ρ hI => ?_⟩
  obtain ⟨p, b, rfl, hp1, hb1', hμ, inv⟩ := hI
  have hd : ((μ : Int) / 2) = ((μ / 2 : Nat) : Int) := by omega
  have bb0 := Int.emod_nonneg (b * b) (show m ≠ 0 by omega)
  have bb1 := Int.emod_lt_of_pos (b * b) (show 0 < m by omega)
  have pb0 := Int.emod_nonneg (p * b) (show m ≠ 0 by omega)
  have pb1 := Int.emod_lt_of_pos (p * b) (show 0 < m by omega)
  obtain ⟨w, ew⟩ : ∃ w, w = μ / 2 := ⟨_, rfl⟩
  simp only [xSeq, xSet, xRet, xIf, xExpr, xNext, xNever, xC, xNil, xCons, xTup, xLst, xOp, xEq, xNe, xUn, xNot, xAnd, xOr, xIfE, xCB, xCall, xCallB, xName, xAsg, xIsi3, toD_fz, toD_ow, toD_od, toD_bg, rd_var, rd_getv1, rd_getv2, rd_getv3, rd_test, rd_onB, rd_onI, rd_onSB, rd_andV, rd_orV, rd_notV, rd_chain, rd_II, rd_II0, rd_add1, rd_add2, rd_add3, rd_mul1, rd_mul2, rd_mul3, rd_isN, rd_notN, rd_isN1, rd_isN2, rd_isN3, rd_neg, rd_ix1, rd_ix2, rd_part, rd_sl, rd_onSl1, rd_onSl2, rd_rev, rd_onRv, rd_len1, rd_len2, rd_max2, rd_min2, rd_int1, rd_int2, rd_lst1, rd_lst2, rd_tup1, rd_tup2, rd_dm, rd_seqI, rd_onSq1, rd_onSq2, rd_rng1, rd_onR1, rd_rng2, rd_onR2, xEnumT, rd_onEt, rd_zip, rd_onZ1, rd_onZ2, rd_par, rd_onP, xPar3, rd_onP3, rd_gtup, rd_gnil, rd_gcons, rd_isi, ini, iniB, wipeD, unw, kf, List.map_cons, List.map_nil, List.replicate_succ, List.replicate_zero, List.cons_append, List.nil_append, List.length_cons, List.length_nil, List.getElem?_cons_zero, List.getElem?_cons_succ, List.set_cons_zero, List.set_cons_succ, decide_eq_true_eq, Nat.zero_add, Nat.reduceAdd, Nat.reduceSub, Nat.reduceLeDiff, true_and, Bool.false_eq_true, if_false, if_true, isi_int_non, isi_int_bl, isi_int_int, isi_int_str, isi_int_lst, isi_int_tup, isi_bool_non, isi_bool_bl, isi_bool_int, isi_bool_str, isi_bool_lst, isi_bool_tup, isi_list_non, isi_list_bl, isi_list_int, isi_list_str, isi_list_lst, isi_list_tup, isi_tuple_non, isi_tuple_bl, isi_tuple_int, isi_tuple_str, isi_tuple_lst, isi_tuple_tup, isi_str_non, isi_str_bl, isi_str_int, isi_str_str, isi_str_lst, isi_str_tup, Bool.not_true, Bool.not_false, Bool.or_false, Bool.or_true, Bool.false_or, Bool.true_or, ite_true, ite_false, Option.some.injEq, true_or, false_or, or_false, and_true, rd_isOwn, rd_own1, rd_own2, rd_own3, rd_ixO, rd_onIx1, rd_onIx2, rd_store, rd_onStore1, rd_onStore2, ex_eq, xApp, xDput, S.ow.injEq, S.bg.injEq, S.od.injEq, reduceCtorEq, exists_eq_left', exists_eq_left, exists_eq', D.int.injEq, atI_c0, atI_c1, atI_c2, ixN3_0, ixN3_1, ixN3_2, false_and, and_self, eqD_int, hd]
  refine ite2 (fun h => ?_) fun h => ?_
  · refine ⟨by decide, rfl, rfl, ite2 (fun ho => ?_) fun ho => ?_⟩
    · have eμ : μ = 2 * w + 1 := by omega
      refine ⟨cm64 (by omega) (by omega) (by omega) (by omega), by omega, cm64 (by omega) (by omega) (by omega) (by omega), by omega, cdW (by decide) (by decide), μ / 2, by omega, _, _, rfl, by omega, by omega, by omega, ?_⟩
      rw [← inv, ← ew, Int.mul_emod, Int.emod_emod, ← even, ← Int.mul_emod, eμ, Int.pow_succ, Int.mul_assoc, Int.mul_comm b]
    · have eμ : μ = 2 * w := by omega
      refine ⟨cm64 (by omega) (by omega) (by omega) (by omega), by omega, cdW (by decide) (by decide), μ / 2, by omega, _, _, rfl, by omega, by omega, by omega, ?_⟩
      rw [← inv, ← ew, Int.mul_emod, ← even, ← Int.mul_emod, eμ]
  · have e0 : μ = 0 := by omega
    subst e0
    rw [Int.pow_zero, Int.mul_one] at inv
    refine ⟨(lotsC low low).map fun later => waysF [] later N % m, by rw [List.map_map]; rfl, ?_⟩
    simp only [xSeq, xSet, xRet, xIf, xExpr, xNext, xNever, xC, xNil, xCons, xTup, xLst, xOp, xEq, xNe, xUn, xNot, xAnd, xOr, xIfE, xCB, xCall, xCallB, xName, xAsg, xIsi3, toD_fz, toD_ow, toD_od, toD_bg, rd_var, rd_getv1, rd_getv2, rd_getv3, rd_test, rd_onB, rd_onI, rd_onSB, rd_andV, rd_orV, rd_notV, rd_chain, rd_II, rd_II0, rd_add1, rd_add2, rd_add3, rd_mul1, rd_mul2, rd_mul3, rd_isN, rd_notN, rd_isN1, rd_isN2, rd_isN3, rd_neg, rd_ix1, rd_ix2, rd_part, rd_sl, rd_onSl1, rd_onSl2, rd_rev, rd_onRv, rd_len1, rd_len2, rd_max2, rd_min2, rd_int1, rd_int2, rd_lst1, rd_lst2, rd_tup1, rd_tup2, rd_dm, rd_seqI, rd_onSq1, rd_onSq2, rd_rng1, rd_onR1, rd_rng2, rd_onR2, xEnumT, rd_onEt, rd_zip, rd_onZ1, rd_onZ2, rd_par, rd_onP, xPar3, rd_onP3, rd_gtup, rd_gnil, rd_gcons, rd_isi, ini, iniB, wipeD, unw, kf, List.map_cons, List.map_nil, List.replicate_succ, List.replicate_zero, List.cons_append, List.nil_append, List.length_cons, List.length_nil, List.getElem?_cons_zero, List.getElem?_cons_succ, List.set_cons_zero, List.set_cons_succ, decide_eq_true_eq, Nat.zero_add, Nat.reduceAdd, Nat.reduceSub, Nat.reduceLeDiff, true_and, Bool.false_eq_true, if_false, if_true, isi_int_non, isi_int_bl, isi_int_int, isi_int_str, isi_int_lst, isi_int_tup, isi_bool_non, isi_bool_bl, isi_bool_int, isi_bool_str, isi_bool_lst, isi_bool_tup, isi_list_non, isi_list_bl, isi_list_int, isi_list_str, isi_list_lst, isi_list_tup, isi_tuple_non, isi_tuple_bl, isi_tuple_int, isi_tuple_str, isi_tuple_lst, isi_tuple_tup, isi_str_non, isi_str_bl, isi_str_int, isi_str_str, isi_str_lst, isi_str_tup, Bool.not_true, Bool.not_false, Bool.or_false, Bool.or_true, Bool.false_or, Bool.true_or, ite_true, ite_false, Option.some.injEq, true_or, false_or, or_false, and_true, rd_isOwn, rd_own1, rd_own2, rd_own3, rd_ixO, rd_onIx1, rd_onIx2, rd_store, rd_onStore1, rd_onStore2, ex_eq, xApp, xDput, S.ow.injEq, S.bg.injEq, S.od.injEq, reduceCtorEq, exists_eq_left', exists_eq_left, exists_eq', D.int.injEq, atI_c0, atI_c1, atI_c2, ixN3_0, ixN3_1, ixN3_2, false_and, and_self, eqD_int]
    have es : ((lotsC low low).map fun later => waysF [] later N % m).sum % m = p % m := by
      rw [sum_modI, all_ways (ms := []) ⟨List.Pairwise.nil, fun x hx => by cases hx⟩ N, inv, Int.natCast_pow]
    exact ⟨by omega, by omega, rfl, rfl, by simp [es]⟩

def spLaw (K : PySem.W.Frag) : Sp := fun vs H Q _ => ∃ (a : Addr) (ns : List Int), vs = [.ref a] ∧ SqL K H a (ns.map V.int) ∧ ns.length ≤ 63 ∧ ∀ H', Q (.bl true) H'
theorem ok_law {P : Program} {w : World} {K : PySem.W.Frag} {mg : Str → Option Value} {base : Heap} (B : Bt mg) (h__law_lots : Fn P w K mg base "_law_lots" 1 1 dp__law_lots) (h_rest : Fn P w K mg base "rest" 6 5 dp_rest) (h__law_take : FnB P w K mg base "_law_take" 1 1 dp__law_take) (h__law_same : Fn P w K mg base "_law_same" 4 2 dp__law_same) (h_how_many_marks : Fn P w K mg base "how_many_marks" 5 3 dp_how_many_marks) (h__law_rows : Fn P w K mg base "_law_rows" 1 2 dp__law_rows) (h__law_flooded : Fn P w K mg base "_law_flooded" 1 2 dp__law_flooded) (h__law_marks : FnB P w K mg base "_law_marks" 2 2 dp__law_marks) (h__law_all_so : Fn P w K mg base "_law_all_so" 7 3 dp__law_all_so) (hbags : FnBags P w K mg base) {f : Addr} {fd : FuncData} (F : Fun K "law" "law" s_law f fd) : FnOk P w K mg base CX0 8 f fd ["script"] (spLaw K) := by
  obtain ⟨fb, fdb, Gb, mb, kb, bb⟩ := hbags
  refine F.ok sc_law (fun vs H Q E h => ?_) (fun cdv A outer s H vs Q E hr h => ?_)
  · obtain ⟨a, ns, rfl, _⟩ := h
    rfl
  · obtain ⟨a, ns, rfl, hS, hl, q⟩ := h
    obtain ⟨ts, t, hb, hp⟩ := law_body B h__law_lots h_rest h__law_take h__law_same h_how_many_marks h__law_rows h__law_flooded h__law_marks h__law_all_so f cdv A outer s H E hr
    obtain ⟨tl, dl, hL, eL⟩ : ∃ (te : TE) (de : DE), (∀ C, PV (cxOf CX0 P w K mg base ["script", "bag", "top", "marks1", "low", "many", "due", "row", "by", "far1", "parts1", "later", "power", "number", "left"] "law" (defScope s_law) f cdv A outer s H E).nox C (retVal (defBody s_law) 1) te de) ∧ ∀ ρ, de ρ (fun s _ => s = .fz (.bl true)) := by
      refine ⟨_, _, fun C => (d_cmp (o_eqK K hr.units) (d_fnK h_how_many_marks (hr.mono (by decide)) (da_cons d_int (da_cons (d_tup da_nil) (da_cons d_int da_nil)))) (d_op o_sub (d_op o_pow d_int d_int) d_int)), fun ρ => ?_⟩
      simp only [xSeq, xSet, xRet, xIf, xExpr, xNext, xNever, xC, xNil, xCons, xTup, xLst, xOp, xEq, xNe, xUn, xNot, xAnd, xOr, xIfE, xCB, xCall, xCallB, xName, xAsg, xIsi3, toD_fz, toD_ow, toD_od, toD_bg, rd_var, rd_getv1, rd_getv2, rd_getv3, rd_test, rd_onB, rd_onI, rd_onSB, rd_andV, rd_orV, rd_notV, rd_chain, rd_II, rd_II0, rd_add1, rd_add2, rd_add3, rd_mul1, rd_mul2, rd_mul3, rd_isN, rd_notN, rd_isN1, rd_isN2, rd_isN3, rd_neg, rd_ix1, rd_ix2, rd_part, rd_sl, rd_onSl1, rd_onSl2, rd_rev, rd_onRv, rd_len1, rd_len2, rd_max2, rd_min2, rd_int1, rd_int2, rd_lst1, rd_lst2, rd_tup1, rd_tup2, rd_dm, rd_seqI, rd_onSq1, rd_onSq2, rd_rng1, rd_onR1, rd_rng2, rd_onR2, xEnumT, rd_onEt, rd_zip, rd_onZ1, rd_onZ2, rd_par, rd_onP, xPar3, rd_onP3, rd_gtup, rd_gnil, rd_gcons, rd_isi, ini, iniB, wipeD, unw, kf, List.map_cons, List.map_nil, List.replicate_succ, List.replicate_zero, List.cons_append, List.nil_append, List.length_cons, List.length_nil, List.getElem?_cons_zero, List.getElem?_cons_succ, List.set_cons_zero, List.set_cons_succ, decide_eq_true_eq, Nat.zero_add, Nat.reduceAdd, Nat.reduceSub, Nat.reduceLeDiff, true_and, Bool.false_eq_true, if_false, if_true, isi_int_non, isi_int_bl, isi_int_int, isi_int_str, isi_int_lst, isi_int_tup, isi_bool_non, isi_bool_bl, isi_bool_int, isi_bool_str, isi_bool_lst, isi_bool_tup, isi_list_non, isi_list_bl, isi_list_int, isi_list_str, isi_list_lst, isi_list_tup, isi_tuple_non, isi_tuple_bl, isi_tuple_int, isi_tuple_str, isi_tuple_lst, isi_tuple_tup, isi_str_non, isi_str_bl, isi_str_int, isi_str_str, isi_str_lst, isi_str_tup, Bool.not_true, Bool.not_false, Bool.or_false, Bool.or_true, Bool.false_or, Bool.true_or, ite_true, ite_false, Option.some.injEq, true_or, false_or, or_false, and_true, rd_isOwn, rd_own1, rd_own2, rd_own3, rd_ixO, rd_onIx1, rd_onIx2, rd_store, rd_onStore1, rd_onStore2, ex_eq, xApp, xDput, S.ow.injEq, S.bg.injEq, S.od.injEq, reduceCtorEq, exists_eq_left', exists_eq_left, exists_eq', D.int.injEq, atI_c0, atI_c1, atI_c2, ixN3_0, ixN3_1, ixN3_2, false_and, and_self]
      have c40 : (2 : Int) ^ Int.toNat 40 = 1099511627776 := rfl
      have h40 : hmF 40 [] 40 = 1099511627775 := by
        unfold hmF
        rw [if_neg (by decide)]
        refine (sg_cong (g := fun k => ((2 ^ k : Nat) : Int)) fun k hk => ?_).trans (by decide +kernel)
        have e : bdH [] (1 + (k : Int)) = 1 + (k : Int) := by
          unfold bdH
          rw [if_neg (by simp)]
        rw [e, show (1 + (k : Int) - 1).toNat = k by omega, tF_full k 39 (by omega)]
      refine ⟨40, [], 40, rfl, by decide, by decide, rfl, by decide, ?_⟩
      rw [h40]
      simp only [xSeq, xSet, xRet, xIf, xExpr, xNext, xNever, xC, xNil, xCons, xTup, xLst, xOp, xEq, xNe, xUn, xNot, xAnd, xOr, xIfE, xCB, xCall, xCallB, xName, xAsg, xIsi3, toD_fz, toD_ow, toD_od, toD_bg, rd_var, rd_getv1, rd_getv2, rd_getv3, rd_test, rd_onB, rd_onI, rd_onSB, rd_andV, rd_orV, rd_notV, rd_chain, rd_II, rd_II0, rd_add1, rd_add2, rd_add3, rd_mul1, rd_mul2, rd_mul3, rd_isN, rd_notN, rd_isN1, rd_isN2, rd_isN3, rd_neg, rd_ix1, rd_ix2, rd_part, rd_sl, rd_onSl1, rd_onSl2, rd_rev, rd_onRv, rd_len1, rd_len2, rd_max2, rd_min2, rd_int1, rd_int2, rd_lst1, rd_lst2, rd_tup1, rd_tup2, rd_dm, rd_seqI, rd_onSq1, rd_onSq2, rd_rng1, rd_onR1, rd_rng2, rd_onR2, xEnumT, rd_onEt, rd_zip, rd_onZ1, rd_onZ2, rd_par, rd_onP, xPar3, rd_onP3, rd_gtup, rd_gnil, rd_gcons, rd_isi, ini, iniB, wipeD, unw, kf, List.map_cons, List.map_nil, List.replicate_succ, List.replicate_zero, List.cons_append, List.nil_append, List.length_cons, List.length_nil, List.getElem?_cons_zero, List.getElem?_cons_succ, List.set_cons_zero, List.set_cons_succ, decide_eq_true_eq, Nat.zero_add, Nat.reduceAdd, Nat.reduceSub, Nat.reduceLeDiff, true_and, Bool.false_eq_true, if_false, if_true, isi_int_non, isi_int_bl, isi_int_int, isi_int_str, isi_int_lst, isi_int_tup, isi_bool_non, isi_bool_bl, isi_bool_int, isi_bool_str, isi_bool_lst, isi_bool_tup, isi_list_non, isi_list_bl, isi_list_int, isi_list_str, isi_list_lst, isi_list_tup, isi_tuple_non, isi_tuple_bl, isi_tuple_int, isi_tuple_str, isi_tuple_lst, isi_tuple_tup, isi_str_non, isi_str_bl, isi_str_int, isi_str_str, isi_str_lst, isi_str_tup, Bool.not_true, Bool.not_false, Bool.or_false, Bool.or_true, Bool.false_or, Bool.true_or, ite_true, ite_false, Option.some.injEq, true_or, false_or, or_false, and_true, rd_isOwn, rd_own1, rd_own2, rd_own3, rd_ixO, rd_onIx1, rd_onIx2, rd_store, rd_onStore1, rd_onStore2, ex_eq, xApp, xDput, S.ow.injEq, S.bg.injEq, S.od.injEq, reduceCtorEq, exists_eq_left', exists_eq_left, exists_eq', D.int.injEq, atI_c0, atI_c1, atI_c2, ixN3_0, ixN3_1, ixN3_2, false_and, and_self, eqD_int, c40]
      exact ⟨cpw (by decide) (by decide) (by decide) (by decide), rfl, rfl, rfl⟩

    refine ⟨_, (pss_cons (ps_for PassesOwn.never rfl (pi_list (pe_call Gb (hr.mono (by decide)) (by rfl) mb kb bb .nil pass0 (pa_cons (pv 0) (pa_cons pe_int pa_nil)))) (pg_name (i := 1) sc_law.nd rfl (by first | exact .inl rfl | exact .inr rfl)) (hb ⟨H, H, none⟩).pe)
      (pss_one (ps_ret (hL ⟨H, H, none⟩).pe))), ?_⟩
    refine ⟨.ref a, rfl, a, ns, 6, rfl, hS, hl, by decide, by decide, fun p H' bs sm np hp' hbl nd hbs => ?_⟩
    refine ⟨p, rfl, ⟨_, .inl (.inl hp')⟩, ?_⟩
    refine for_bags (n := 15) (fun C => (hb C).rf) hp (by decide) rfl hp' nd (fun hm => (hbs p hm).2.1 rfl) (fun j b _ hj => ?_) fun σ' H2 sm2 => ?_
    · obtain ⟨_, _, h⟩ := hbs b (List.mem_of_getElem? hj)
      exact h
    · exact post_expr (n := σ'.length) (fun C => (hL C).rf) rfl (eL _) (fun _ _ h => h) fun H' => q H'

theorem all_mk {P : Program} {w : World} {K : PySem.W.Frag} {h : Heap} {mg : Str → Option Value} {fa : Addr} (X : K.In h) (G : h.Ns mainGlobals mg) (hfa : mg "law" = some (.ref fa))
    {f0 : Addr}
    {od0 an0 : Option Addr} {sl0 : Array (Option Value)} {oc0 kV0 dc0 pm0 cd0 ct0 : Value}
    (a0 : PySem.W.nsIn K mainGlobals "is_whole" = some (some (.ref f0)))
    (l0 : K.lookup f0 = some ⟨oc0, od0, .func (PySem.W.fnOf "is_whole" "is_whole" (defArgs s_is_whole) (defBody s_is_whole) (defScope s_is_whole) .none kV0 dc0 pm0 an0 cd0 ct0), sl0⟩)
    (c0 : PySem.W.codeIn K cd0 "is_whole" = true) (k0 : PySem.W.keepIn K (.ref f0) = true)
    {f1 : Addr}
    {od1 an1 : Option Addr} {sl1 : Array (Option Value)} {oc1 kV1 dc1 pm1 cd1 ct1 : Value}
    (a1 : PySem.W.nsIn K mainGlobals "is_within" = some (some (.ref f1)))
    (l1 : K.lookup f1 = some ⟨oc1, od1, .func (PySem.W.fnOf "is_within" "is_within" (defArgs s_is_within) (defBody s_is_within) (defScope s_is_within) .none kV1 dc1 pm1 an1 cd1 ct1), sl1⟩)
    (c1 : PySem.W.codeIn K cd1 "is_within" = true) (k1 : PySem.W.keepIn K (.ref f1) = true)
    {f2 : Addr}
    {od2 an2 : Option Addr} {sl2 : Array (Option Value)} {oc2 kV2 dc2 pm2 cd2 ct2 : Value}
    (a2 : PySem.W.nsIn K mainGlobals "look_at_top" = some (some (.ref f2)))
    (l2 : K.lookup f2 = some ⟨oc2, od2, .func (PySem.W.fnOf "look_at_top" "look_at_top" (defArgs s_look_at_top) (defBody s_look_at_top) (defScope s_look_at_top) .none kV2 dc2 pm2 an2 cd2 ct2), sl2⟩)
    (c2 : PySem.W.codeIn K cd2 "look_at_top" = true) (k2 : PySem.W.keepIn K (.ref f2) = true)
    {f3 : Addr}
    {od3 an3 : Option Addr} {sl3 : Array (Option Value)} {oc3 kV3 dc3 pm3 cd3 ct3 : Value}
    (a3 : PySem.W.nsIn K mainGlobals "falls" = some (some (.ref f3)))
    (l3 : K.lookup f3 = some ⟨oc3, od3, .func (PySem.W.fnOf "falls" "falls" (defArgs s_falls) (defBody s_falls) (defScope s_falls) .none kV3 dc3 pm3 an3 cd3 ct3), sl3⟩)
    (c3 : PySem.W.codeIn K cd3 "falls" = true) (k3 : PySem.W.keepIn K (.ref f3) = true)
    {f4 : Addr}
    {od4 an4 : Option Addr} {sl4 : Array (Option Value)} {oc4 kV4 dc4 pm4 cd4 ct4 : Value}
    (a4 : PySem.W.nsIn K mainGlobals "are_marks_of" = some (some (.ref f4)))
    (l4 : K.lookup f4 = some ⟨oc4, od4, .func (PySem.W.fnOf "are_marks_of" "are_marks_of" (defArgs s_are_marks_of) (defBody s_are_marks_of) (defScope s_are_marks_of) .none kV4 dc4 pm4 an4 cd4 ct4), sl4⟩)
    (c4 : PySem.W.codeIn K cd4 "are_marks_of" = true) (k4 : PySem.W.keepIn K (.ref f4) = true)
    {f5 : Addr}
    {od5 an5 : Option Addr} {sl5 : Array (Option Value)} {oc5 kV5 dc5 pm5 cd5 ct5 : Value}
    (a5 : PySem.W.nsIn K mainGlobals "look_at_marks" = some (some (.ref f5)))
    (l5 : K.lookup f5 = some ⟨oc5, od5, .func (PySem.W.fnOf "look_at_marks" "look_at_marks" (defArgs s_look_at_marks) (defBody s_look_at_marks) (defScope s_look_at_marks) .none kV5 dc5 pm5 an5 cd5 ct5), sl5⟩)
    (c5 : PySem.W.codeIn K cd5 "look_at_marks" = true) (k5 : PySem.W.keepIn K (.ref f5) = true)
    {f6 : Addr}
    {od6 an6 : Option Addr} {sl6 : Array (Option Value)} {oc6 kV6 dc6 pm6 cd6 ct6 : Value}
    (a6 : PySem.W.nsIn K mainGlobals "look_at_many" = some (some (.ref f6)))
    (l6 : K.lookup f6 = some ⟨oc6, od6, .func (PySem.W.fnOf "look_at_many" "look_at_many" (defArgs s_look_at_many) (defBody s_look_at_many) (defScope s_look_at_many) .none kV6 dc6 pm6 an6 cd6 ct6), sl6⟩)
    (c6 : PySem.W.codeIn K cd6 "look_at_many" = true) (k6 : PySem.W.keepIn K (.ref f6) = true)
    {f7 : Addr}
    {od7 an7 : Option Addr} {sl7 : Array (Option Value)} {oc7 kV7 dc7 pm7 cd7 ct7 : Value}
    (a7 : PySem.W.nsIn K mainGlobals "sums_to" = some (some (.ref f7)))
    (l7 : K.lookup f7 = some ⟨oc7, od7, .func (PySem.W.fnOf "sums_to" "sums_to" (defArgs s_sums_to) (defBody s_sums_to) (defScope s_sums_to) .none kV7 dc7 pm7 an7 cd7 ct7), sl7⟩)
    (c7 : PySem.W.codeIn K cd7 "sums_to" = true) (k7 : PySem.W.keepIn K (.ref f7) = true)
    {f8 : Addr}
    {od8 an8 : Option Addr} {sl8 : Array (Option Value)} {oc8 kV8 dc8 pm8 cd8 ct8 : Value}
    (a8 : PySem.W.nsIn K mainGlobals "sum_of" = some (some (.ref f8)))
    (l8 : K.lookup f8 = some ⟨oc8, od8, .func (PySem.W.fnOf "sum_of" "sum_of" (defArgs s_sum_of) (defBody s_sum_of) (defScope s_sum_of) .none kV8 dc8 pm8 an8 cd8 ct8), sl8⟩)
    (c8 : PySem.W.codeIn K cd8 "sum_of" = true) (k8 : PySem.W.keepIn K (.ref f8) = true)
    {f9 : Addr}
    {od9 an9 : Option Addr} {sl9 : Array (Option Value)} {oc9 kV9 dc9 pm9 cd9 ct9 : Value}
    (a9 : PySem.W.nsIn K mainGlobals "times" = some (some (.ref f9)))
    (l9 : K.lookup f9 = some ⟨oc9, od9, .func (PySem.W.fnOf "times" "times" (defArgs s_times) (defBody s_times) (defScope s_times) .none kV9 dc9 pm9 an9 cd9 ct9), sl9⟩)
    (c9 : PySem.W.codeIn K cd9 "times" = true) (k9 : PySem.W.keepIn K (.ref f9) = true)
    {f10 : Addr}
    {od10 an10 : Option Addr} {sl10 : Array (Option Value)} {oc10 kV10 dc10 pm10 cd10 ct10 : Value}
    (a10 : PySem.W.nsIn K mainGlobals "rest_of" = some (some (.ref f10)))
    (l10 : K.lookup f10 = some ⟨oc10, od10, .func (PySem.W.fnOf "rest_of" "rest_of" (defArgs s_rest_of) (defBody s_rest_of) (defScope s_rest_of) .none kV10 dc10 pm10 an10 cd10 ct10), sl10⟩)
    (c10 : PySem.W.codeIn K cd10 "rest_of" = true) (k10 : PySem.W.keepIn K (.ref f10) = true)
    {f11 : Addr}
    {od11 an11 : Option Addr} {sl11 : Array (Option Value)} {oc11 kV11 dc11 pm11 cd11 ct11 : Value}
    (a11 : PySem.W.nsIn K mainGlobals "begins" = some (some (.ref f11)))
    (l11 : K.lookup f11 = some ⟨oc11, od11, .func (PySem.W.fnOf "begins" "begins" (defArgs s_begins) (defBody s_begins) (defScope s_begins) .none kV11 dc11 pm11 an11 cd11 ct11), sl11⟩)
    (c11 : PySem.W.codeIn K cd11 "begins" = true) (k11 : PySem.W.keepIn K (.ref f11) = true)
    {f12 : Addr}
    {od12 an12 : Option Addr} {sl12 : Array (Option Value)} {oc12 kV12 dc12 pm12 cd12 ct12 : Value}
    (a12 : PySem.W.nsIn K mainGlobals "ways" = some (some (.ref f12)))
    (l12 : K.lookup f12 = some ⟨oc12, od12, .func (PySem.W.fnOf "ways" "ways" (defArgs s_ways) (defBody s_ways) (defScope s_ways) .none kV12 dc12 pm12 an12 cd12 ct12), sl12⟩)
    (c12 : PySem.W.codeIn K cd12 "ways" = true) (k12 : PySem.W.keepIn K (.ref f12) = true)
    {f13 : Addr}
    {od13 an13 : Option Addr} {sl13 : Array (Option Value)} {oc13 kV13 dc13 pm13 cd13 ct13 : Value}
    (a13 : PySem.W.nsIn K mainGlobals "look_at_both" = some (some (.ref f13)))
    (l13 : K.lookup f13 = some ⟨oc13, od13, .func (PySem.W.fnOf "look_at_both" "look_at_both" (defArgs s_look_at_both) (defBody s_look_at_both) (defScope s_look_at_both) .none kV13 dc13 pm13 an13 cd13 ct13), sl13⟩)
    (c13 : PySem.W.codeIn K cd13 "look_at_both" = true) (k13 : PySem.W.keepIn K (.ref f13) = true)
    {f14 : Addr}
    {od14 an14 : Option Addr} {sl14 : Array (Option Value)} {oc14 kV14 dc14 pm14 cd14 ct14 : Value}
    (a14 : PySem.W.nsIn K mainGlobals "how_many" = some (some (.ref f14)))
    (l14 : K.lookup f14 = some ⟨oc14, od14, .func (PySem.W.fnOf "how_many" "how_many" (defArgs s_how_many) (defBody s_how_many) (defScope s_how_many) .none kV14 dc14 pm14 an14 cd14 ct14), sl14⟩)
    (c14 : PySem.W.codeIn K cd14 "how_many" = true) (k14 : PySem.W.keepIn K (.ref f14) = true)
    {f15 : Addr}
    {od15 an15 : Option Addr} {sl15 : Array (Option Value)} {oc15 kV15 dc15 pm15 cd15 ct15 : Value}
    (a15 : PySem.W.nsIn K mainGlobals "rest" = some (some (.ref f15)))
    (l15 : K.lookup f15 = some ⟨oc15, od15, .func (PySem.W.fnOf "rest" "rest" (defArgs s_rest) (defBody s_rest) (defScope s_rest) .none kV15 dc15 pm15 an15 cd15 ct15), sl15⟩)
    (c15 : PySem.W.codeIn K cd15 "rest" = true) (k15 : PySem.W.keepIn K (.ref f15) = true)
    {f16 : Addr}
    {od16 an16 : Option Addr} {sl16 : Array (Option Value)} {oc16 kV16 dc16 pm16 cd16 ct16 : Value}
    (a16 : PySem.W.nsIn K mainGlobals "choices" = some (some (.ref f16)))
    (l16 : K.lookup f16 = some ⟨oc16, od16, .func (PySem.W.fnOf "choices" "choices" (defArgs s_choices) (defBody s_choices) (defScope s_choices) .none kV16 dc16 pm16 an16 cd16 ct16), sl16⟩)
    (c16 : PySem.W.codeIn K cd16 "choices" = true) (k16 : PySem.W.keepIn K (.ref f16) = true)
    {f17 : Addr}
    {od17 an17 : Option Addr} {sl17 : Array (Option Value)} {oc17 kV17 dc17 pm17 cd17 ct17 : Value}
    (a17 : PySem.W.nsIn K mainGlobals "how_many_marks" = some (some (.ref f17)))
    (l17 : K.lookup f17 = some ⟨oc17, od17, .func (PySem.W.fnOf "how_many_marks" "how_many_marks" (defArgs s_how_many_marks) (defBody s_how_many_marks) (defScope s_how_many_marks) .none kV17 dc17 pm17 an17 cd17 ct17), sl17⟩)
    (c17 : PySem.W.codeIn K cd17 "how_many_marks" = true) (k17 : PySem.W.keepIn K (.ref f17) = true)
    {f18 : Addr}
    {od18 an18 : Option Addr} {sl18 : Array (Option Value)} {oc18 kV18 dc18 pm18 cd18 ct18 : Value}
    (a18 : PySem.W.nsIn K mainGlobals "_law_well" = some (some (.ref f18)))
    (l18 : K.lookup f18 = some ⟨oc18, od18, .func (PySem.W.fnOf "_law_well" "_law_well" (defArgs s__law_well) (defBody s__law_well) (defScope s__law_well) .none kV18 dc18 pm18 an18 cd18 ct18), sl18⟩)
    (c18 : PySem.W.codeIn K cd18 "_law_well" = true) (k18 : PySem.W.keepIn K (.ref f18) = true)
    {f19 : Addr}
    {od19 an19 : Option Addr} {sl19 : Array (Option Value)} {oc19 kV19 dc19 pm19 cd19 ct19 : Value}
    (a19 : PySem.W.nsIn K mainGlobals "_law_take" = some (some (.ref f19)))
    (l19 : K.lookup f19 = some ⟨oc19, od19, .func (PySem.W.fnOf "_law_take" "_law_take" (defArgs s__law_take) (defBody s__law_take) (defScope s__law_take) .none kV19 dc19 pm19 an19 cd19 ct19), sl19⟩)
    (c19 : PySem.W.codeIn K cd19 "_law_take" = true) (k19 : PySem.W.keepIn K (.ref f19) = true)
    {f20 : Addr}
    {od20 an20 : Option Addr} {sl20 : Array (Option Value)} {oc20 kV20 dc20 pm20 cd20 ct20 : Value}
    (a20 : PySem.W.nsIn K mainGlobals "_law_bags" = some (some (.ref f20)))
    (l20 : K.lookup f20 = some ⟨oc20, od20, .func (PySem.W.fnOf "_law_bags" "_law_bags" (defArgs s__law_bags) (defBody s__law_bags) (defScope s__law_bags) .none kV20 dc20 pm20 an20 cd20 ct20), sl20⟩)
    (c20 : PySem.W.codeIn K cd20 "_law_bags" = true) (k20 : PySem.W.keepIn K (.ref f20) = true)
    {f21 : Addr}
    {od21 an21 : Option Addr} {sl21 : Array (Option Value)} {oc21 kV21 dc21 pm21 cd21 ct21 : Value}
    (a21 : PySem.W.nsIn K mainGlobals "_law_same" = some (some (.ref f21)))
    (l21 : K.lookup f21 = some ⟨oc21, od21, .func (PySem.W.fnOf "_law_same" "_law_same" (defArgs s__law_same) (defBody s__law_same) (defScope s__law_same) .none kV21 dc21 pm21 an21 cd21 ct21), sl21⟩)
    (c21 : PySem.W.codeIn K cd21 "_law_same" = true) (k21 : PySem.W.keepIn K (.ref f21) = true)
    {f22 : Addr}
    {od22 an22 : Option Addr} {sl22 : Array (Option Value)} {oc22 kV22 dc22 pm22 cd22 ct22 : Value}
    (a22 : PySem.W.nsIn K mainGlobals "_law_marks" = some (some (.ref f22)))
    (l22 : K.lookup f22 = some ⟨oc22, od22, .func (PySem.W.fnOf "_law_marks" "_law_marks" (defArgs s__law_marks) (defBody s__law_marks) (defScope s__law_marks) .none kV22 dc22 pm22 an22 cd22 ct22), sl22⟩)
    (c22 : PySem.W.codeIn K cd22 "_law_marks" = true) (k22 : PySem.W.keepIn K (.ref f22) = true)
    {f23 : Addr}
    {od23 an23 : Option Addr} {sl23 : Array (Option Value)} {oc23 kV23 dc23 pm23 cd23 ct23 : Value}
    (a23 : PySem.W.nsIn K mainGlobals "_law_flooded" = some (some (.ref f23)))
    (l23 : K.lookup f23 = some ⟨oc23, od23, .func (PySem.W.fnOf "_law_flooded" "_law_flooded" (defArgs s__law_flooded) (defBody s__law_flooded) (defScope s__law_flooded) .none kV23 dc23 pm23 an23 cd23 ct23), sl23⟩)
    (c23 : PySem.W.codeIn K cd23 "_law_flooded" = true) (k23 : PySem.W.keepIn K (.ref f23) = true)
    {f24 : Addr}
    {od24 an24 : Option Addr} {sl24 : Array (Option Value)} {oc24 kV24 dc24 pm24 cd24 ct24 : Value}
    (a24 : PySem.W.nsIn K mainGlobals "_law_rows" = some (some (.ref f24)))
    (l24 : K.lookup f24 = some ⟨oc24, od24, .func (PySem.W.fnOf "_law_rows" "_law_rows" (defArgs s__law_rows) (defBody s__law_rows) (defScope s__law_rows) .none kV24 dc24 pm24 an24 cd24 ct24), sl24⟩)
    (c24 : PySem.W.codeIn K cd24 "_law_rows" = true) (k24 : PySem.W.keepIn K (.ref f24) = true)
    {f25 : Addr}
    {od25 an25 : Option Addr} {sl25 : Array (Option Value)} {oc25 kV25 dc25 pm25 cd25 ct25 : Value}
    (a25 : PySem.W.nsIn K mainGlobals "_law_lots" = some (some (.ref f25)))
    (l25 : K.lookup f25 = some ⟨oc25, od25, .func (PySem.W.fnOf "_law_lots" "_law_lots" (defArgs s__law_lots) (defBody s__law_lots) (defScope s__law_lots) .none kV25 dc25 pm25 an25 cd25 ct25), sl25⟩)
    (c25 : PySem.W.codeIn K cd25 "_law_lots" = true) (k25 : PySem.W.keepIn K (.ref f25) = true)
    {f26 : Addr}
    {od26 an26 : Option Addr} {sl26 : Array (Option Value)} {oc26 kV26 dc26 pm26 cd26 ct26 : Value}
    (a26 : PySem.W.nsIn K mainGlobals "_law_all_so" = some (some (.ref f26)))
    (l26 : K.lookup f26 = some ⟨oc26, od26, .func (PySem.W.fnOf "_law_all_so" "_law_all_so" (defArgs s__law_all_so) (defBody s__law_all_so) (defScope s__law_all_so) .none kV26 dc26 pm26 an26 cd26 ct26), sl26⟩)
    (c26 : PySem.W.codeIn K cd26 "_law_all_so" = true) (k26 : PySem.W.keepIn K (.ref f26) = true)
    {f27 : Addr}
    {od27 an27 : Option Addr} {sl27 : Array (Option Value)} {oc27 kV27 dc27 pm27 cd27 ct27 : Value}
    (a27 : PySem.W.nsIn K mainGlobals "law" = some (some (.ref f27)))
    (l27 : K.lookup f27 = some ⟨oc27, od27, .func (PySem.W.fnOf "law" "law" (defArgs s_law) (defBody s_law) (defScope s_law) .none kV27 dc27 pm27 an27 cd27 ct27), sl27⟩)
    (c27 : PySem.W.codeIn K cd27 "law" = true) (k27 : PySem.W.keepIn K (.ref f27) = true)
    (z0 : PySem.W.nsIn K mainGlobals "isinstance" = some none)
    (z1 : PySem.W.nsIn K mainGlobals "int" = some none)
    (z2 : PySem.W.nsIn K mainGlobals "bool" = some none)
    (z3 : PySem.W.nsIn K mainGlobals "list" = some none)
    (z4 : PySem.W.nsIn K mainGlobals "tuple" = some none)
    (z5 : PySem.W.nsIn K mainGlobals "str" = some none)
    (z6 : PySem.W.nsIn K mainGlobals "len" = some none)
    (z7 : PySem.W.nsIn K mainGlobals "all" = some none)
    (z8 : PySem.W.nsIn K mainGlobals "zip" = some none)
    (z9 : PySem.W.nsIn K mainGlobals "range" = some none)
    (z10 : PySem.W.nsIn K mainGlobals "enumerate" = some none)
    (z11 : PySem.W.nsIn K mainGlobals "sum" = some none)
    (z12 : PySem.W.nsIn K mainGlobals "min" = some none)
    (z13 : PySem.W.nsIn K mainGlobals "sorted" = some none)
    (z14 : PySem.W.nsIn K mainGlobals "set" = some none)
    {t0 : Tok} (v0 : PySem.W.nsIn K mainGlobals "MOST_TOP" = some (some (.int 40 t0)))
    {t1 : Tok} (v1 : PySem.W.nsIn K mainGlobals "MOST_MARKS" = some (some (.int 8 t1)))
    {t2 : Tok} (v2 : PySem.W.nsIn K mainGlobals "MOST_FLOODS" = some (some (.int 40 t2)))
    {t3 : Tok} (v3 : PySem.W.nsIn K mainGlobals "MOST_FAR" = some (some (.int 1000000000000000000 t3)))
    {t4 : Tok} (v4 : PySem.W.nsIn K mainGlobals "MOST_BY" = some (some (.int 1000000000 t4))) :
    ∃ fd : FuncData, (∀ (s : Shared) (v : Value), BindsTo s fd ⟨[v], []⟩ [("script", v)]) ∧ ∀ base : Heap, K.In base → base.Ns mainGlobals mg → FnOk P w K mg base CX0 8 fa fd ["script"] (spLaw K) := by
  have e := hfa.symm.trans (PySem.W.mg_of X G a27)
  cases e
  have B : Bt mg := ⟨PySem.W.mg_none_of X G z0, PySem.W.mg_none_of X G z1, PySem.W.mg_none_of X G z2, PySem.W.mg_none_of X G z3, PySem.W.mg_none_of X G z4, PySem.W.mg_none_of X G z5, PySem.W.mg_none_of X G z6, PySem.W.mg_none_of X G z7, PySem.W.mg_none_of X G z8, PySem.W.mg_none_of X G z9, PySem.W.mg_none_of X G z10, PySem.W.mg_none_of X G z11, PySem.W.mg_none_of X G z12, PySem.W.mg_none_of X G z13, PySem.W.mg_none_of X G z14, ⟨_, PySem.W.mg_of X G v0⟩, ⟨_, PySem.W.mg_of X G v1⟩, ⟨_, PySem.W.mg_of X G v2⟩, ⟨_, PySem.W.mg_of X G v3⟩, ⟨_, PySem.W.mg_of X G v4⟩⟩
  have F0 := fun_mk (st := s_is_whole) l0 c0 k0
  have b0 := F0.binds (ps := ["thing"]) fun _ _ _ _ _ _ us hl => match us, hl with | [_], _ => rfl
  have d0 : Df K mg "is_whole" s_is_whole ["thing"] := ⟨_, _, F0, PySem.W.mg_of X G a0, b0⟩
  have F1 := fun_mk (st := s_is_within) l1 c1 k1
  have b1 := F1.binds (ps := ["thing", "low", "high"]) fun _ _ _ _ _ _ us hl => match us, hl with | [_, _, _], _ => rfl
  have d1 : Df K mg "is_within" s_is_within ["thing", "low", "high"] := ⟨_, _, F1, PySem.W.mg_of X G a1, b1⟩
  have F2 := fun_mk (st := s_look_at_top) l2 c2 k2
  have b2 := F2.binds (ps := ["top"]) fun _ _ _ _ _ _ us hl => match us, hl with | [_], _ => rfl
  have d2 : Df K mg "look_at_top" s_look_at_top ["top"] := ⟨_, _, F2, PySem.W.mg_of X G a2, b2⟩
  have F3 := fun_mk (st := s_falls) l3 c3 k3
  have b3 := F3.binds (ps := ["things"]) fun _ _ _ _ _ _ us hl => match us, hl with | [_], _ => rfl
  have d3 : Df K mg "falls" s_falls ["things"] := ⟨_, _, F3, PySem.W.mg_of X G a3, b3⟩
  have F4 := fun_mk (st := s_are_marks_of) l4 c4 k4
  have b4 := F4.binds (ps := ["top", "thing"]) fun _ _ _ _ _ _ us hl => match us, hl with | [_, _], _ => rfl
  have d4 : Df K mg "are_marks_of" s_are_marks_of ["top", "thing"] := ⟨_, _, F4, PySem.W.mg_of X G a4, b4⟩
  have F5 := fun_mk (st := s_look_at_marks) l5 c5 k5
  have b5 := F5.binds (ps := ["top", "marks"]) fun _ _ _ _ _ _ us hl => match us, hl with | [_, _], _ => rfl
  have d5 : Df K mg "look_at_marks" s_look_at_marks ["top", "marks"] := ⟨_, _, F5, PySem.W.mg_of X G a5, b5⟩
  have F6 := fun_mk (st := s_look_at_many) l6 c6 k6
  have b6 := F6.binds (ps := ["many", "most"]) fun _ _ _ _ _ _ us hl => match us, hl with | [_, _], _ => rfl
  have d6 : Df K mg "look_at_many" s_look_at_many ["many", "most"] := ⟨_, _, F6, PySem.W.mg_of X G a6, b6⟩
  have F7 := fun_mk (st := s_sums_to) l7 c7 k7
  have b7 := F7.binds (ps := ["heights", "most"]) fun _ _ _ _ _ _ us hl => match us, hl with | [_, _], _ => rfl
  have d7 : Df K mg "sums_to" s_sums_to ["heights", "most"] := ⟨_, _, F7, PySem.W.mg_of X G a7, b7⟩
  have F8 := fun_mk (st := s_sum_of) l8 c8 k8
  have b8 := F8.binds (ps := ["heights", "many"]) fun _ _ _ _ _ _ us hl => match us, hl with | [_, _], _ => rfl
  have d8 : Df K mg "sum_of" s_sum_of ["heights", "many"] := ⟨_, _, F8, PySem.W.mg_of X G a8, b8⟩
  have F9 := fun_mk (st := s_times) l9 c9 k9
  have b9 := F9.binds (ps := ["one", "other", "by"]) fun _ _ _ _ _ _ us hl => match us, hl with | [_, _, _], _ => rfl
  have d9 : Df K mg "times" s_times ["one", "other", "by"] := ⟨_, _, F9, PySem.W.mg_of X G a9, b9⟩
  have F10 := fun_mk (st := s_rest_of) l10 c10 k10
  have b10 := F10.binds (ps := ["heights", "many", "by"]) fun _ _ _ _ _ _ us hl => match us, hl with | [_, _, _], _ => rfl
  have d10 : Df K mg "rest_of" s_rest_of ["heights", "many", "by"] := ⟨_, _, F10, PySem.W.mg_of X G a10, b10⟩
  have F11 := fun_mk (st := s_begins) l11 c11 k11
  have b11 := F11.binds (ps := ["marks", "later"]) fun _ _ _ _ _ _ us hl => match us, hl with | [_, _], _ => rfl
  have d11 : Df K mg "begins" s_begins ["marks", "later"] := ⟨_, _, F11, PySem.W.mg_of X G a11, b11⟩
  have F12 := fun_mk (st := s_ways) l12 c12 k12
  have b12 := F12.binds (ps := ["marks", "later", "many"]) fun _ _ _ _ _ _ us hl => match us, hl with | [_, _, _], _ => rfl
  have d12 : Df K mg "ways" s_ways ["marks", "later", "many"] := ⟨_, _, F12, PySem.W.mg_of X G a12, b12⟩
  have F13 := fun_mk (st := s_look_at_both) l13 c13 k13
  have b13 := F13.binds (ps := ["top", "marks", "later"]) fun _ _ _ _ _ _ us hl => match us, hl with | [_, _, _], _ => rfl
  have d13 : Df K mg "look_at_both" s_look_at_both ["top", "marks", "later"] := ⟨_, _, F13, PySem.W.mg_of X G a13, b13⟩
  have F14 := fun_mk (st := s_how_many) l14 c14 k14
  have b14 := F14.binds (ps := ["top", "marks", "later", "many"]) fun _ _ _ _ _ _ us hl => match us, hl with | [_, _, _, _], _ => rfl
  have d14 : Df K mg "how_many" s_how_many ["top", "marks", "later", "many"] := ⟨_, _, F14, PySem.W.mg_of X G a14, b14⟩
  have F15 := fun_mk (st := s_rest) l15 c15 k15
  have b15 := F15.binds (ps := ["top", "marks", "later", "many", "by"]) fun _ _ _ _ _ _ us hl => match us, hl with | [_, _, _, _, _], _ => rfl
  have d15 : Df K mg "rest" s_rest ["top", "marks", "later", "many", "by"] := ⟨_, _, F15, PySem.W.mg_of X G a15, b15⟩
  have F16 := fun_mk (st := s_choices) l16 c16 k16
  have b16 := F16.binds (ps := ["size", "most"]) fun _ _ _ _ _ _ us hl => match us, hl with | [_, _], _ => rfl
  have d16 : Df K mg "choices" s_choices ["size", "most"] := ⟨_, _, F16, PySem.W.mg_of X G a16, b16⟩
  have F17 := fun_mk (st := s_how_many_marks) l17 c17 k17
  have b17 := F17.binds (ps := ["top", "marks", "many"]) fun _ _ _ _ _ _ us hl => match us, hl with | [_, _, _], _ => rfl
  have d17 : Df K mg "how_many_marks" s_how_many_marks ["top", "marks", "many"] := ⟨_, _, F17, PySem.W.mg_of X G a17, b17⟩
  have F18 := fun_mk (st := s__law_well) l18 c18 k18
  have b18 := F18.binds (ps := ["cell", "turn"]) fun _ _ _ _ _ _ us hl => match us, hl with | [_, _], _ => rfl
  have d18 : Df K mg "_law_well" s__law_well ["cell", "turn"] := ⟨_, _, F18, PySem.W.mg_of X G a18, b18⟩
  have F19 := fun_mk (st := s__law_take) l19 c19 k19
  have b19 := F19.binds (ps := ["bag", "many"]) fun _ _ _ _ _ _ us hl => match us, hl with | [_, _], _ => rfl
  have d19 : Df K mg "_law_take" s__law_take ["bag", "many"] := ⟨_, _, F19, PySem.W.mg_of X G a19, b19⟩
  have F20 := fun_mk (st := s__law_bags) l20 c20 k20
  have b20 := F20.binds (ps := ["script", "most"]) fun _ _ _ _ _ _ us hl => match us, hl with | [_, _], _ => rfl
  have d20 : Df K mg "_law_bags" s__law_bags ["script", "most"] := ⟨_, _, F20, PySem.W.mg_of X G a20, b20⟩
  have F21 := fun_mk (st := s__law_same) l21 c21 k21
  have b21 := F21.binds (ps := ["a", "b"]) fun _ _ _ _ _ _ us hl => match us, hl with | [_, _], _ => rfl
  have d21 : Df K mg "_law_same" s__law_same ["a", "b"] := ⟨_, _, F21, PySem.W.mg_of X G a21, b21⟩
  have F22 := fun_mk (st := s__law_marks) l22 c22 k22
  have b22 := F22.binds (ps := ["bag", "top", "most"]) fun _ _ _ _ _ _ us hl => match us, hl with | [_, _, _], _ => rfl
  have d22 : Df K mg "_law_marks" s__law_marks ["bag", "top", "most"] := ⟨_, _, F22, PySem.W.mg_of X G a22, b22⟩
  have F23 := fun_mk (st := s__law_flooded) l23 c23 k23
  have b23 := F23.binds (ps := ["marks1", "heights1"]) fun _ _ _ _ _ _ us hl => match us, hl with | [_, _], _ => rfl
  have d23 : Df K mg "_law_flooded" s__law_flooded ["marks1", "heights1"] := ⟨_, _, F23, PySem.W.mg_of X G a23, b23⟩
  have F24 := fun_mk (st := s__law_rows) l24 c24 k24
  have b24 := F24.binds (ps := ["top", "many"]) fun _ _ _ _ _ _ us hl => match us, hl with | [_, _], _ => rfl
  have d24 : Df K mg "_law_rows" s__law_rows ["top", "many"] := ⟨_, _, F24, PySem.W.mg_of X G a24, b24⟩
  have F25 := fun_mk (st := s__law_lots) l25 c25 k25
  have b25 := F25.binds (ps := ["top"]) fun _ _ _ _ _ _ us hl => match us, hl with | [_], _ => rfl
  have d25 : Df K mg "_law_lots" s__law_lots ["top"] := ⟨_, _, F25, PySem.W.mg_of X G a25, b25⟩
  have F26 := fun_mk (st := s__law_all_so) l26 c26 k26
  have b26 := F26.binds (ps := ["top", "marks1", "many"]) fun _ _ _ _ _ _ us hl => match us, hl with | [_, _, _], _ => rfl
  have d26 : Df K mg "_law_all_so" s__law_all_so ["top", "marks1", "many"] := ⟨_, _, F26, PySem.W.mg_of X G a26, b26⟩
  have F27 := fun_mk (st := s_law) l27 c27 k27
  refine ⟨PySem.W.fnOf "law" "law" (defArgs s_law) (defBody s_law) (defScope s_law) .none kV27 dc27 pm27 an27 cd27 ct27, fun s v => .of_eq rfl, fun base _ _ => ?_⟩
  have h_is_whole := ok_is_whole (P := P) (w := w) (base := base) B d0 
  have h_is_within := ok_is_within (P := P) (w := w) (base := base) B d1 h_is_whole
  have h_look_at_top := ok_look_at_top (P := P) (w := w) (base := base) B d2 h_is_within
  have h_falls := ok_falls (P := P) (w := w) (base := base) B d3 
  have h_are_marks_of := ok_are_marks_of (P := P) (w := w) (base := base) B d4 h_falls h_is_within
  have h_look_at_marks := ok_look_at_marks (P := P) (w := w) (base := base) B d5 h_are_marks_of h_look_at_top
  have h_look_at_many := ok_look_at_many (P := P) (w := w) (base := base) B d6 h_is_within
  have h_sums_to := ok_sums_to (P := P) (w := w) (base := base) B d7 
  have h_sum_of := ok_sum_of (P := P) (w := w) (base := base) B d8 h_sums_to
  have h_times := ok_times (P := P) (w := w) (base := base) B d9 
  have h_rest_of := ok_rest_of (P := P) (w := w) (base := base) B d10 h_times
  have h_begins := ok_begins (P := P) (w := w) (base := base) B d11 
  have h_ways := ok_ways (P := P) (w := w) (base := base) B d12 h_begins h_sum_of
  have h_look_at_both := ok_look_at_both (P := P) (w := w) (base := base) B d13 h_look_at_marks
  have h_how_many := ok_how_many (P := P) (w := w) (base := base) B d14 h_ways h_look_at_many h_look_at_both
  have h_rest := ok_rest (P := P) (w := w) (base := base) B d15 h_begins h_rest_of h_is_within h_look_at_many h_look_at_both
  have h_choices := ok_choices (P := P) (w := w) (base := base) B d16 
  have h_how_many_marks := ok_how_many_marks (P := P) (w := w) (base := base) B d17 h_choices h_look_at_many h_look_at_marks
  have h__law_well := ok__law_well (P := P) (w := w) (base := base) B d18 
  have h__law_take := ok__law_take (P := P) (w := w) (base := base) B d19 
  have hbags : FnBags P w K mg base := ⟨_, _, ok__law_bags B h__law_well F20, PySem.W.mg_of X G a20, k20, b20⟩
  have h__law_same := ok__law_same (P := P) (w := w) (base := base) B d21 
  have h__law_marks := ok__law_marks (P := P) (w := w) (base := base) B d22 h__law_take
  have h__law_flooded := ok__law_flooded (P := P) (w := w) (base := base) B d23 
  have h__law_rows := ok__law_rows (P := P) (w := w) (base := base) B d24 
  have h__law_lots := ok__law_lots (P := P) (w := w) (base := base) B d25 
  have h__law_all_so := ok__law_all_so (P := P) (w := w) (base := base) B d26 h_how_many_marks h__law_lots h_how_many
  exact ok_law B h__law_lots h_rest h__law_take h__law_same h_how_many_marks h__law_rows h__law_flooded h__law_marks h__law_all_so hbags F27
end FM
open PySem PySem.W PyProof.Rows
set_option maxHeartbeats 0 in
theorem PySem.Challenge.cw_floodmarks_k07_whole_all_ways_together_holds : PySem.Challenge.rw_floodmarks_k07_whole_all_ways_together.Holds := by
  w_on; o_law; k_head; (case hw => w_witness2)
  k_fill
  refine L2.walk_of (l := PySem.Challenge.rw_floodmarks_k07_whole_all_ways_together) (n := 63) (k := 8) (x := "script") (CX := fun _ => L2.CX0) (sp := fun w => FM.spLaw _) rfl (by decide) rfl ⟨rfl, by decide, by decide⟩ (fun w h Y => PySem.W.kIn_of Y) ?F (fun _ _ a ns hl _ hS => ⟨a, ns, rfl, hS, hl, fun _ => rfl⟩) (fun _ _ _ _ _ h => h)
  case F =>
    intro w mg fa h KX G hmg
    refine' FM.all_mk KX G hmg ?a0 ?l0 ?c0 ?k0 ?a1 ?l1 ?c1 ?k1 ?a2 ?l2 ?c2 ?k2 ?a3 ?l3 ?c3 ?k3 ?a4 ?l4 ?c4 ?k4 ?a5 ?l5 ?c5 ?k5 ?a6 ?l6 ?c6 ?k6 ?a7 ?l7 ?c7 ?k7 ?a8 ?l8 ?c8 ?k8 ?a9 ?l9 ?c9 ?k9 ?a10 ?l10 ?c10 ?k10 ?a11 ?l11 ?c11 ?k11 ?a12 ?l12 ?c12 ?k12 ?a13 ?l13 ?c13 ?k13 ?a14 ?l14 ?c14 ?k14 ?a15 ?l15 ?c15 ?k15 ?a16 ?l16 ?c16 ?k16 ?a17 ?l17 ?c17 ?k17 ?a18 ?l18 ?c18 ?k18 ?a19 ?l19 ?c19 ?k19 ?a20 ?l20 ?c20 ?k20 ?a21 ?l21 ?c21 ?k21 ?a22 ?l22 ?c22 ?k22 ?a23 ?l23 ?c23 ?k23 ?a24 ?l24 ?c24 ?k24 ?a25 ?l25 ?c25 ?k25 ?a26 ?l26 ?c26 ?k26 ?a27 ?l27 ?c27 ?k27 ?z0 ?z1 ?z2 ?z3 ?z4 ?z5 ?z6 ?z7 ?z8 ?z9 ?z10 ?z11 ?z12 ?z13 ?z14 ?v0 ?v1 ?v2 ?v3 ?v4
    (case a0 => k_is); (case l0 => k_is); (case c0 => k_is); (case k0 => k_is); (case a1 => k_is); (case l1 => k_is); (case c1 => k_is); (case k1 => k_is); (case a2 => k_is); (case l2 => k_is); (case c2 => k_is); (case k2 => k_is); (case a3 => k_is); (case l3 => k_is); (case c3 => k_is); (case k3 => k_is); (case a4 => k_is); (case l4 => k_is); (case c4 => k_is); (case k4 => k_is); (case a5 => k_is); (case l5 => k_is); (case c5 => k_is); (case k5 => k_is); (case a6 => k_is); (case l6 => k_is); (case c6 => k_is); (case k6 => k_is); (case a7 => k_is); (case l7 => k_is); (case c7 => k_is); (case k7 => k_is); (case a8 => k_is); (case l8 => k_is); (case c8 => k_is); (case k8 => k_is); (case a9 => k_is); (case l9 => k_is); (case c9 => k_is); (case k9 => k_is); (case a10 => k_is); (case l10 => k_is); (case c10 => k_is); (case k10 => k_is); (case a11 => k_is); (case l11 => k_is); (case c11 => k_is); (case k11 => k_is); (case a12 => k_is); (case l12 => k_is); (case c12 => k_is); (case k12 => k_is); (case a13 => k_is); (case l13 => k_is); (case c13 => k_is); (case k13 => k_is); (case a14 => k_is); (case l14 => k_is); (case c14 => k_is); (case k14 => k_is); (case a15 => k_is); (case l15 => k_is); (case c15 => k_is); (case k15 => k_is); (case a16 => k_is); (case l16 => k_is); (case c16 => k_is); (case k16 => k_is); (case a17 => k_is); (case l17 => k_is); (case c17 => k_is); (case k17 => k_is); (case a18 => k_is); (case l18 => k_is); (case c18 => k_is); (case k18 => k_is); (case a19 => k_is); (case l19 => k_is); (case c19 => k_is); (case k19 => k_is); (case a20 => k_is); (case l20 => k_is); (case c20 => k_is); (case k20 => k_is); (case a21 => k_is); (case l21 => k_is); (case c21 => k_is); (case k21 => k_is); (case a22 => k_is); (case l22 => k_is); (case c22 => k_is); (case k22 => k_is); (case a23 => k_is); (case l23 => k_is); (case c23 => k_is); (case k23 => k_is); (case a24 => k_is); (case l24 => k_is); (case c24 => k_is); (case k24 => k_is); (case a25 => k_is); (case l25 => k_is); (case c25 => k_is); (case k25 => k_is); (case a26 => k_is); (case l26 => k_is); (case c26 => k_is); (case k26 => k_is); (case a27 => k_is); (case l27 => k_is); (case c27 => k_is); (case k27 => k_is); (case z0 => k_is); (case z1 => k_is); (case z2 => k_is); (case z3 => k_is); (case z4 => k_is); (case z5 => k_is); (case z6 => k_is); (case z7 => k_is); (case z8 => k_is); (case z9 => k_is); (case z10 => k_is); (case z11 => k_is); (case z12 => k_is); (case z13 => k_is); (case z14 => k_is); (case v0 => k_is); (case v1 => k_is); (case v2 => k_is); (case v3 => k_is); (case v4 => k_is)