import PyProof.Rows.All
import HandS.ForMost
import HandS.ForExc
import HandS.Lambda
import HandS.TupAny
import HandS.TupMul
import HandS.Wide
import HandS.Style
import HandS.Zip
import HandS.IsInst
import HandS.SortKw
import HandS.More
import HandS.Strs
import HandS.SetFor
import PyProof.MinMaxWalk
import PyProof.EnumMake
import PyProof.Draws
import HandS.Zip0
import KE.DataCmp
import KE.SortData
import HandS.TupSets
import HandS.SetFor
import KE.SortCalls
import KE.SortData
import HandS.Exc
import HandS.ExcOwn
import HandS.ExcCtx
import HandS.Nested
import HandS.HotCalls
import HandS.Zip
import HandS.ExcIs
import HandS.ExcCtx
import HandS.HotCalls
import HandS.Style
import HandS.TupMul
import HandS.Conv
import HandS.TupAny
import HandS.EndTab
import HandS.EndOwn
import HandS.Text
import PySem.Challenge.RW_floodmarks_k01_what_are_marks_and_who_is
set_option Elab.async false
set_option linter.all false
set_option maxRecDepth 100000
set_option maxHeartbeats 1000000
/-! L3: a layer of plain data over the hand layer: what a piece of text computes, said without addresses. -/
namespace L3
open PySem PySem.Spec PyProof.Rows L2

/-- plain data -/
inductive D where
  | non | bl (b : Bool) | int (i : Int) | str (x : Str) | lst (xs : List D) | tup (xs : List D) | dct (ks : List Int) (ds : List D) | obj (φ : Addr → Hp → Prop)

def mkK (ks : List Int) (vs : List V) : List (Key × V) := (ks.zip vs).map fun p => (Sum.inl p.1, p.2)

mutual
def Dat (H : Hp) : D → V → Prop
  | .non, v => v = .non
  | .bl b, v => v = .bl b
  | .int i, v => v = .int i
  | .str x, v => v = .str x
  | .lst ds, v => ∃ a vs, v = .ref a ∧ H a = some (.lst vs) ∧ Dats H ds vs
  | .tup ds, v => ∃ a vs, v = .ref a ∧ H a = some (.tup vs) ∧ Dats H ds vs
  | .dct ks ds, v => ∃ a vs, v = .ref a ∧ H a = some (.dK (mkK ks vs)) ∧ ks.length = vs.length ∧ Dats H ds vs
  | .obj φ, v => ∃ a, v = .ref a ∧ ∀ H', Same H H' → φ a H'
def Dats (H : Hp) : List D → List V → Prop
  | [], vs => vs = []
  | d :: ds, vs => ∃ v r, vs = v :: r ∧ Dat H d v ∧ Dats H ds r
end

mutual
theorem Dat.mono {H H' : Hp} (e : Same H H') : ∀ (d : D) (v : V), Dat H d v → Dat H' d v
  | .non, _, h => h
  | .bl _, _, h => h
  | .int _, _, h => h
  | .str _, _, h => h
  | .lst ds, _, ⟨a, vs, h1, h2, h3⟩ => ⟨a, vs, h1, e _ _ h2, Dats.mono e ds vs h3⟩
  | .tup ds, _, ⟨a, vs, h1, h2, h3⟩ => ⟨a, vs, h1, e _ _ h2, Dats.mono e ds vs h3⟩
  | .dct ks ds, _, ⟨a, vs, h1, h2, h4, h3⟩ => ⟨a, vs, h1, e _ _ h2, h4, Dats.mono e ds vs h3⟩
  | .obj φ, _, ⟨a, h1, h2⟩ => ⟨a, h1, fun H' s => h2 H' (e.trans s)⟩
theorem Dats.mono {H H' : Hp} (e : Same H H') : ∀ (ds : List D) (vs : List V), Dats H ds vs → Dats H' ds vs
  | [], _, h => h
  | d :: ds, _, ⟨v, r, h1, h2, h3⟩ => ⟨v, r, h1, Dat.mono e d v h2, Dats.mono e ds r h3⟩
end

theorem Dats.nil {H : Hp} : Dats H [] [] := rfl
theorem Dats.cons {H : Hp} {d : D} {ds : List D} {v : V} {vs : List V} (h : Dat H d v) (t : Dats H ds vs) : Dats H (d :: ds) (v :: vs) := ⟨v, vs, rfl, h, t⟩
theorem Dats.length {H : Hp} : ∀ {ds : List D} {vs : List V}, Dats H ds vs → ds.length = vs.length
  | [], _, h => by cases h; rfl
  | d :: ds, _, ⟨v, r, h1, h2, h3⟩ => by subst h1; simp [Dats.length h3]
theorem Dats.get {H : Hp} : ∀ {ds : List D} {vs : List V} {i : Nat} {d : D}, Dats H ds vs → ds[i]? = some d → ∃ v, vs[i]? = some v ∧ Dat H d v
  | [], _, i, d, h, e => by simp at e
  | x :: ds, _, 0, d, ⟨v, r, h1, h2, h3⟩, e => by
    subst h1
    simp at e; subst e
    exact ⟨v, rfl, h2⟩
  | x :: ds, _, i + 1, d, ⟨v, r, h1, h2, h3⟩, e => by
    subst h1
    simp at e
    simpa using Dats.get h3 e
theorem Dats.getV {H : Hp} : ∀ {ds : List D} {vs : List V} {i : Nat} {v : V}, Dats H ds vs → vs[i]? = some v → ∃ d, ds[i]? = some d ∧ Dat H d v := fun {ds vs i v} h e => by
  have hl := h.length
  have hi : i < ds.length := by
    have := (List.getElem?_eq_some_iff.mp e).1
    omega
  obtain ⟨v', e', q⟩ := h.get (List.getElem?_eq_getElem hi)
  rw [e] at e'; cases e'
  exact ⟨_, List.getElem?_eq_getElem hi, q⟩
theorem Dats.append {H : Hp} : ∀ {ds es : List D} {vs us : List V}, Dats H ds vs → Dats H es us → Dats H (ds ++ es) (vs ++ us)
  | [], _, _, _, h, k => by cases h; exact k
  | d :: ds, _, _, _, ⟨v, r, h1, h2, h3⟩, k => by subst h1; exact ⟨v, _, rfl, h2, Dats.append h3 k⟩
theorem Dats.take {H : Hp} : ∀ {ds : List D} {vs : List V} (n : Nat), Dats H ds vs → Dats H (ds.take n) (vs.take n)
  | _, _, 0, _ => by rw [List.take_zero, List.take_zero]; exact rfl
  | [], _, n + 1, h => by cases h; exact rfl
  | d :: ds, _, n + 1, ⟨v, r, h1, h2, h3⟩ => by subst h1; exact ⟨v, _, rfl, h2, Dats.take n h3⟩
theorem Dats.drop {H : Hp} : ∀ {ds : List D} {vs : List V} (n : Nat), Dats H ds vs → Dats H (ds.drop n) (vs.drop n)
  | _, _, 0, h => h
  | [], _, n + 1, h => by cases h; exact rfl
  | d :: ds, _, n + 1, ⟨v, r, h1, h2, h3⟩ => by subst h1; exact Dats.drop n h3
theorem Dats.set {H : Hp} {d : D} {v : V} (q : Dat H d v) : ∀ {ds : List D} {vs : List V} (n : Nat), Dats H ds vs → Dats H (ds.set n d) (vs.set n v)
  | [], _, n, h => by cases h; exact rfl
  | x :: ds, _, 0, ⟨v', r, h1, h2, h3⟩ => by subst h1; exact ⟨v, _, rfl, q, h3⟩
  | x :: ds, _, n + 1, ⟨v', r, h1, h2, h3⟩ => by subst h1; exact ⟨v', _, rfl, h2, Dats.set q n h3⟩
theorem Dats.rep {H : Hp} {ds : List D} {vs : List V} (h : Dats H ds vs) : ∀ n : Nat, Dats H (List.replicate n ds).flatten (List.replicate n vs).flatten
  | 0 => rfl
  | n + 1 => by rw [List.replicate_succ, List.replicate_succ, List.flatten_cons, List.flatten_cons]; exact h.append (Dats.rep h n)
theorem Dats.reverse {H : Hp} : ∀ {ds : List D} {vs : List V}, Dats H ds vs → Dats H ds.reverse vs.reverse
  | [], _, h => by cases h; exact rfl
  | d :: ds, _, ⟨v, r, h1, h2, h3⟩ => by
    subst h1
    rw [List.reverse_cons, List.reverse_cons]
    exact (Dats.reverse h3).append ⟨v, [], rfl, h2, rfl⟩
theorem Dats.ints {H : Hp} : ∀ {ns : List Int} {vs : List V}, Dats H (ns.map D.int) vs → vs = ns.map V.int
  | [], _, h => h
  | n :: ns, _, ⟨v, r, h1, h2, h3⟩ => by
    have h2 : v = .int n := h2
    subst h1 h2
    rw [Dats.ints h3]; rfl
theorem Dats.of_ints {H : Hp} : ∀ (ns : List Int), Dats H (ns.map D.int) (ns.map V.int)
  | [] => rfl
  | n :: ns => ⟨.int n, _, rfl, rfl, Dats.of_ints ns⟩
theorem Dats.bls {H : Hp} : ∀ {ns : List Bool} {vs : List V}, Dats H (ns.map D.bl) vs → vs = ns.map V.bl
  | [], _, h => h
  | n :: ns, _, ⟨v, r, h1, h2, h3⟩ => by
    have h2 : v = .bl n := h2
    subst h1 h2
    rw [Dats.bls h3]; rfl

/-- a def's entry: its heap, what of it stands for good, its bag -/
structure FC where
  H0 : Hp
  G0 : Hp
  bag : Option Addr
  T : List (Addr × Str)
/-- no table is frozen -/
def NoTb (G : Hp) : Prop := ∀ p ps, G p ≠ some (.tbl ps)
theorem NoTb.upd {G : Hp} (h : NoTb G) {p : Addr} {o : HO} (no : ∀ ps, o ≠ .tbl ps) : NoTb (upd G p o) := fun b ps e => by
  by_cases hb : b = p
  · subst hb; rw [upd_same] at e; exact no ps (Option.some.inj e)
  · rw [upd_ne hb] at e; exact h b ps e
/-- an object that is no table, no other thing -/
def Plain : HO → Prop
  | .tbl _ => False
  | .ext _ => False
  | _ => True
theorem Plain.no {o : HO} (h : Plain o) : ∀ ps, o ≠ .tbl ps := fun ps z => by subst z; exact h
theorem tabs_new {T : List (Addr × Str)} {H : Hp} (t : LamX.Tabs T H) {p : Addr} {o : HO} (hp : H p = none) : LamX.Tabs T (upd H p o) := t.ext fun b x e => by
  rw [upd_ne (ne_of_none e hp)]; exact e
/-- all but a plain object stays -/
theorem tabs_keep {T : List (Addr × Str)} {H H' : Hp} (t : LamX.Tabs T H) {p : Addr} {o : HO} (hp : H p = some o) (pl : Plain o) (k : ∀ b u, b ≠ p → H b = some u → H' b = some u) : LamX.Tabs T H' := fun x hx => by
  obtain ⟨ps, h1, h2, h3⟩ := t x hx
  have ne : ∀ b u, H b = some u → ¬ Plain u → b ≠ p := fun b u e n z => by subst z; rw [hp] at e; cases e; exact n pl
  refine ⟨ps, k _ _ (ne _ _ h1 (fun z => z)) h1, h2, fun pos cv hc => ?_⟩
  obtain ⟨c, e1, e2⟩ := h3 pos cv hc
  exact ⟨c, e1, k _ _ (ne _ _ e2 (fun z => z)) e2⟩
theorem tabs_but {T : List (Addr × Str)} {H H' : Hp} (t : LamX.Tabs T H) {p : Addr} {o : HO} (hp : H p = some o) (pl : Plain o) (k : ∀ b, b ≠ p → H' b = H b) : LamX.Tabs T H' := tabs_keep t hp pl fun b u hb e => (k b hb).trans e

/-! ### what a slot holds -/
inductive S where
  | fz (d : D) | ow (ds : List D) | od (ks : List Int) (ds : List D) | bg (ds : List D)
def S.toD : S → D
  | .fz d => d
  | .ow ds => .lst ds
  | .od ks ds => .dct ks ds
  | .bg ds => .lst ds
def S.own : S → Bool
  | .fz _ => false
  | _ => true
def S.isBg : S → Bool
  | .bg _ => true
  | _ => false
abbrev En := List (Option S)

/-- an own object at p -/
def OwnAt (G H : Hp) (p : Addr) : S → Prop
  | .fz _ => False
  | .ow ds => ∃ vs, H p = some (.lst vs) ∧ Dats G ds vs
  | .od ks ds => ∃ vs, H p = some (.dK (mkK ks vs)) ∧ ks.length = vs.length ∧ Dats G ds vs
  | .bg ds => ∃ vs, H p = some (.lst vs) ∧ Dats G ds vs
theorem OwnAt.some {G H : Hp} {p : Addr} {s : S} (h : OwnAt G H p s) : ∃ o, H p = some o := by
  cases s with
  | fz d => exact h.elim
  | ow ds => obtain ⟨vs, e, _⟩ := h; exact ⟨_, e⟩
  | od ks ds => obtain ⟨vs, e, _⟩ := h; exact ⟨_, e⟩
  | bg ds => obtain ⟨vs, e, _⟩ := h; exact ⟨_, e⟩
theorem plain_own {G H : Hp} {p : Addr} {s : S} (h : OwnAt G H p s) : ∃ o, H p = some o ∧ Plain o := by
  cases s with
  | fz d => exact h.elim
  | ow ds => obtain ⟨vs, e, _⟩ := h; exact ⟨_, e, trivial⟩
  | od ks ds => obtain ⟨vs, e, _⟩ := h; exact ⟨_, e, trivial⟩
  | bg ds => obtain ⟨vs, e, _⟩ := h; exact ⟨_, e, trivial⟩
theorem OwnAt.mono {G H G' H' : Hp} {p : Addr} {s : S} (h : OwnAt G H p s) (e : Same G G') (k : H' p = H p) : OwnAt G' H' p s := by
  cases s with
  | fz d => exact h.elim
  | ow ds => obtain ⟨vs, e1, q⟩ := h; exact ⟨vs, k.trans e1, Dats.mono e _ _ q⟩
  | od ks ds => obtain ⟨vs, e1, z, q⟩ := h; exact ⟨vs, k.trans e1, z, Dats.mono e _ _ q⟩
  | bg ds => obtain ⟨vs, e1, q⟩ := h; exact ⟨vs, k.trans e1, Dats.mono e _ _ q⟩

structure Rep (C : FC) (G H : Hp) (σ : L2.St) (ρ : En) : Prop where
  len : ρ.length = σ.length
  sub : Same G H
  g0 : Same C.G0 G
  keep : ∀ p o, C.H0 p = some o → C.bag ≠ some p → H p = some o
  new : ∀ p o, G p = some o → C.G0 p = some o ∨ C.H0 p = none
  bl : ∀ p, C.bag = some p → G p = none ∧ C.H0 p ≠ none ∧ ∃ vs, H p = some (.lst vs)
  fz : ∀ (i : Nat) (d : D), ρ[i]? = some (some (.fz d)) → ∃ v, σ[i]? = some (some v) ∧ Dat G d v
  ow : ∀ (i : Nat) (s : S), ρ[i]? = some (some s) → s.own = true → ∃ p, σ[i]? = some (some (.ref p)) ∧ OwnAt G H p s ∧ G p = none ∧ ((C.H0 p = none ∧ (s.isBg = true → C.bag = none)) ∨ (C.bag = some p ∧ s.isBg = true))
  ap : ∀ (i j : Nat) (s s' : S) (p : Addr), i ≠ j → ρ[i]? = some (some s) → s.own = true → ρ[j]? = some (some s') → s'.own = true → σ[i]? = some (some (.ref p)) → σ[j]? = some (some (.ref p)) → False
  nt : NoTb G
  tab : LamX.Tabs C.T H

theorem Same.new {H : Hp} {p : Addr} {o : HO} (h : H p = none) : Same H (upd H p o) := fun b x e => by
  rw [upd_ne (ne_of_none e h)]
  exact e
theorem Same.none {H H' : Hp} (e : Same H H') {p : Addr} (h : H' p = none) : H p = none := e.free h

section
variable {C : FC} {G H : Hp} {σ : L2.St} {ρ : En}
theorem Rep.h0 (R : Rep C G H σ ρ) {p : Addr} (h : H p = none) : C.H0 p = none := by
  cases e : C.H0 p with
  | none => rfl
  | some o =>
    by_cases hb : C.bag = some p
    · obtain ⟨_, _, _, e1⟩ := R.bl p hb
      rw [h] at e1; cases e1
    · rw [R.keep p o e hb] at h; cases h
theorem Rep.gn (R : Rep C G H σ ρ) {p : Addr} (h : H p = none) : G p = none := R.sub.free h
/-- a result: frozen, or an object of its own, apart from the slots -/
def RV (C : FC) (G H : Hp) (σ : L2.St) (ρ : En) (s : S) (v : V) : Prop :=
  match s with
  | .fz d => Dat G d v
  | s => ∃ p, v = .ref p ∧ OwnAt G H p s ∧ G p = none ∧ C.H0 p = none ∧ s.isBg = false ∧ ∀ (j : Nat) (s' : S), ρ[j]? = some (some s') → s'.own = true → σ[j]? ≠ some (some (.ref p))
theorem RV.own {s : S} {v : V} (h : RV C G H σ ρ s v) (o : s.own = true) : ∃ p, v = .ref p ∧ OwnAt G H p s ∧ G p = none ∧ C.H0 p = none ∧ s.isBg = false ∧ ∀ (j : Nat) (s' : S), ρ[j]? = some (some s') → s'.own = true → σ[j]? ≠ some (some (.ref p)) := by
  cases s with
  | fz d => cases o
  | ow ds => exact h
  | od ks ds => exact h
  | bg ds => exact h
/-- what G knows grows by an own object p of H that no slot holds -/
theorem Rep.freezeAt (R : Rep C G H σ ρ) {p : Addr} {o : HO} (no : ∀ ps, o ≠ .tbl ps) (hp : H p = some o) (hg : G p = none) (h0 : C.H0 p = none) (ha : ∀ (j : Nat) (s' : S), ρ[j]? = some (some s') → s'.own = true → σ[j]? ≠ some (some (.ref p))) :
    Rep C (upd G p o) H σ ρ := by
  have gs : Same G (upd G p o) := Same.new hg
  refine ⟨R.len, fun b x e => ?_, R.g0.trans gs, R.keep, fun b x e => ?_, fun b e => ?_, fun i d e => ?_, fun i s e os => ?_, R.ap, R.nt.upd no, R.tab⟩
  · by_cases hb : b = p
    · subst hb; rw [upd_same] at e; cases e; exact hp
    · rw [upd_ne hb] at e; exact R.sub b x e
  · by_cases hb : b = p
    · subst hb; exact .inr h0
    · rw [upd_ne hb] at e; exact R.new b x e
  · obtain ⟨a, b', c⟩ := R.bl b e
    refine ⟨?_, b', c⟩
    by_cases hb : b = p
    · subst hb; exact absurd h0 b'
    · rw [upd_ne hb]; exact a
  · obtain ⟨v, h1, h2⟩ := R.fz i d e
    exact ⟨v, h1, Dat.mono gs d v h2⟩
  · obtain ⟨q, h1, h2, h3, h4⟩ := R.ow i s e os
    have hq : q ≠ p := fun z => ha i s e os (z ▸ h1)
    exact ⟨q, h1, h2.mono gs rfl, by rw [upd_ne hq]; exact h3, h4⟩
theorem Rep.freeze (R : Rep C G H σ ρ) {s : S} {v : V} (h : RV C G H σ ρ s v) : ∃ G', Rep C G' H σ ρ ∧ Same G G' ∧ Dat G' s.toD v := by
  cases s with
  | fz d => exact ⟨G, R, Same.refl G, h⟩
  | ow ds =>
    obtain ⟨p, rfl, ⟨vs, hp, hd⟩, hg, h0, hb, ha⟩ := h
    exact ⟨_, R.freezeAt (fun _ z => by cases z) hp hg h0 ha, Same.new hg, p, vs, rfl, upd_same, Dats.mono (Same.new hg) _ _ hd⟩
  | od ks ds =>
    obtain ⟨p, rfl, ⟨vs, hp, hl, hd⟩, hg, h0, hb, ha⟩ := h
    exact ⟨_, R.freezeAt (fun _ z => by cases z) hp hg h0 ha, Same.new hg, p, vs, rfl, upd_same, hl, Dats.mono (Same.new hg) _ _ hd⟩
  | bg ds =>
    obtain ⟨p, _, _, _, _, hb, _⟩ := h
    cases hb
/-- a new object, frozen at once -/
theorem Rep.newFz (R : Rep C G H σ ρ) {p : Addr} {o : HO} (hp : H p = none) (no : ∀ ps, o ≠ .tbl ps := by intro _ z; cases z) : Rep C (upd G p o) (upd H p o) σ ρ := by
  have hg := R.gn hp
  have h0 := R.h0 hp
  have gs : Same G (upd G p o) := Same.new hg
  have hs : Same H (upd H p o) := Same.new hp
  refine ⟨R.len, fun b x e => ?_, R.g0.trans gs, fun b x e z => hs _ _ (R.keep b x e z), fun b x e => ?_, fun b e => ?_, fun i d e => ?_, fun i s e os => ?_, R.ap, R.nt.upd no, tabs_new R.tab hp⟩
  · by_cases hb : b = p
    · subst hb; rw [upd_same] at e ⊢; exact e
    · rw [upd_ne hb] at e ⊢; exact R.sub b x e
  · by_cases hb : b = p
    · subst hb; exact .inr h0
    · rw [upd_ne hb] at e; exact R.new b x e
  · obtain ⟨a, b', c⟩ := R.bl b e
    have hb : b ≠ p := fun z => by subst z; obtain ⟨_, e1⟩ := c; rw [hp] at e1; cases e1
    refine ⟨?_, b', ?_⟩
    · rw [upd_ne hb]; exact a
    · rw [upd_ne hb]; exact c
  · obtain ⟨v, h1, h2⟩ := R.fz i d e
    exact ⟨v, h1, Dat.mono gs d v h2⟩
  · obtain ⟨q, h1, h2, h3, h4⟩ := R.ow i s e os
    obtain ⟨x, hx⟩ := h2.some
    have hq : q ≠ p := ne_of_none hx hp
    exact ⟨q, h1, h2.mono gs (upd_ne hq), by rw [upd_ne hq]; exact h3, h4⟩
/-- a new object, known to nobody yet -/
theorem Rep.newOw (R : Rep C G H σ ρ) {p : Addr} {o : HO} (hp : H p = none) : Rep C G (upd H p o) σ ρ := by
  have hs : Same H (upd H p o) := Same.new hp
  refine ⟨R.len, R.sub.trans hs, R.g0, fun b x e z => hs _ _ (R.keep b x e z), R.new, fun b e => ?_, R.fz, fun i s e os => ?_, R.ap, R.nt, tabs_new R.tab hp⟩
  · obtain ⟨a, b', c⟩ := R.bl b e
    have hb : b ≠ p := fun z => by subst z; obtain ⟨_, e1⟩ := c; rw [hp] at e1; cases e1
    exact ⟨a, b', by rw [upd_ne hb]; exact c⟩
  · obtain ⟨q, h1, h2, h3, h4⟩ := R.ow i s e os
    obtain ⟨x, hx⟩ := h2.some
    have hq : q ≠ p := ne_of_none hx hp
    exact ⟨q, h1, h2.mono (Same.refl G) (upd_ne hq), h3, h4⟩
theorem Rep.apart (R : Rep C G H σ ρ) {p : Addr} (hp : H p = none) : ∀ (j : Nat) (s' : S), ρ[j]? = some (some s') → s'.own = true → σ[j]? ≠ some (some (.ref p)) := fun j s' e os z => by
  obtain ⟨q, h1, h2, _⟩ := R.ow j s' e os
  rw [z] at h1; cases h1
  obtain ⟨x, hx⟩ := h2.some
  rw [hx] at hp; cases hp
/-- a new list as a result -/
theorem Rep.resL (R : Rep C G H σ ρ) {p : Addr} {vs : List V} {ds : List D} (hp : H p = none) (hd : Dats G ds vs) : Rep C G (upd H p (.lst vs)) σ ρ ∧ RV C G (upd H p (.lst vs)) σ ρ (.ow ds) (.ref p) :=
  ⟨R.newOw hp, p, rfl, ⟨vs, upd_same, hd⟩, R.gn hp, R.h0 hp, rfl, R.apart hp⟩

theorem get_set {α : Type} {l : List (Option α)} {i j : Nat} {x y : α} (h : (l.set i (some x))[j]? = some (some y)) : (j = i ∧ y = x) ∨ (j ≠ i ∧ l[j]? = some (some y)) := by
  by_cases e : i = j
  · subst e
    by_cases hl : i < l.length
    · rw [List.getElem?_set_self hl] at h
      exact .inl ⟨rfl, (Option.some.inj (Option.some.inj h)).symm⟩
    · rw [List.getElem?_eq_none (by simpa using hl)] at h; cases h
  · rw [List.getElem?_set_ne e] at h
    exact .inr ⟨fun z => e z.symm, h⟩
theorem get_setN {α : Type} {l : List (Option α)} {i j : Nat} {y : α} (h : (l.set i none)[j]? = some (some y)) : j ≠ i ∧ l[j]? = some (some y) := by
  by_cases e : i = j
  · subst e
    by_cases hl : i < l.length
    · rw [List.getElem?_set_self hl] at h
      cases h
    · rw [List.getElem?_eq_none (by simpa using hl)] at h; cases h
  · rw [List.getElem?_set_ne e] at h
    exact ⟨fun z => e z.symm, h⟩
theorem set_at {α : Type} {l : List (Option α)} {i j : Nat} {x : Option α} (h : j ≠ i) : (l.set i x)[j]? = l[j]? := List.getElem?_set_ne (Ne.symm h)
theorem Rep.lt (R : Rep C G H σ ρ) {i : Nat} {s : S} (h : (ρ.set i (some s))[i]? = some (some s)) : i < σ.length := by
  have := (List.getElem?_eq_some_iff.mp h).1
  rw [List.length_set] at this
  rw [← R.len]; exact this
theorem set_self_lt {α : Type} {l : List (Option α)} {i : Nat} {x : α} (h : i < l.length) : (l.set i (some x))[i]? = some (some x) := List.getElem?_set_self h
theorem lt_of_set {α : Type} {l : List (Option α)} {i : Nat} {x y : α} (h : (l.set i (some x))[i]? = some (some y)) : i < l.length := by
  have := (List.getElem?_eq_some_iff.mp h).1
  simpa using this
theorem own_fz {s : S} {d : D} (h : s.own = true) : s ≠ .fz d := fun e => by subst e; cases h
/-- a slot stored -/
theorem Rep.set (R : Rep C G H σ ρ) {s : S} {v : V} (i : Nat) (h : RV C G H σ ρ s v) : Rep C G H (σ.set i (some v)) (ρ.set i (some s)) := by
  have lt : ∀ {y : S}, (ρ.set i (some s))[i]? = some (some y) → i < σ.length := fun h => by rw [← R.len]; exact lt_of_set h
  refine ⟨by rw [List.length_set, List.length_set]; exact R.len, R.sub, R.g0, R.keep, R.new, R.bl, fun j d e => ?_, fun j s' e os => ?_, fun j k s1 s2 p ne e1 o1 e2 o2 z1 z2 => ?_, R.nt, R.tab⟩
  · rcases get_set e with ⟨rfl, e'⟩ | ⟨hj, e'⟩
    · cases s with
      | fz d' => cases e'; exact ⟨v, set_self_lt (lt e), h⟩
      | _ => cases e'
    · obtain ⟨u, h1, h2⟩ := R.fz j d e'
      exact ⟨u, by rw [set_at hj]; exact h1, h2⟩
  · rcases get_set e with ⟨rfl, rfl⟩ | ⟨hj, e'⟩
    · obtain ⟨p, rfl, h2, h3, h4, h5, h6⟩ := h.own os
      exact ⟨p, set_self_lt (lt e), h2, h3, .inl ⟨h4, fun z => by rw [h5] at z; cases z⟩⟩
    · obtain ⟨q, h1, h2⟩ := R.ow j s' e' os
      exact ⟨q, by rw [set_at hj]; exact h1, h2⟩
  · rcases get_set e1 with ⟨rfl, rfl⟩ | ⟨hj, e1'⟩
    · obtain ⟨q, rfl, h2, h3, h4, h5, h6⟩ := h.own o1
      rcases get_set e2 with ⟨rfl, rfl⟩ | ⟨hk, e2'⟩
      · exact ne rfl
      · rw [set_at hk] at z2
        rw [set_self_lt (lt e1)] at z1
        cases z1
        exact h6 k s2 e2' o2 z2
    · rw [set_at hj] at z1
      rcases get_set e2 with ⟨rfl, rfl⟩ | ⟨hk, e2'⟩
      · obtain ⟨q, rfl, h2, h3, h4, h5, h6⟩ := h.own o2
        rw [set_self_lt (lt e2)] at z2
        cases z2
        exact h6 j s1 e1' o1 z1
      · rw [set_at hk] at z2
        exact R.ap j k s1 s2 p ne e1' o1 e2' o2 z1 z2
/-- an own slot frozen where it stands -/
theorem Rep.freezeSlot (R : Rep C G H σ ρ) {i : Nat} {s : S} (e : ρ[i]? = some (some s)) (os : s.own = true) (nb : s.isBg = false) :
    ∃ G' v, Rep C G' H σ (ρ.set i (some (.fz s.toD))) ∧ Same G G' ∧ σ[i]? = some (some v) ∧ Dat G' s.toD v := by
  obtain ⟨p, h1, h2, h3, h4⟩ := R.ow i s e os
  have h0 : C.H0 p = none := by
    rcases h4 with h | ⟨_, h⟩
    · exact h.1
    · rw [nb] at h; cases h
  -- first forget the slot
  have R1 : Rep C G H σ (ρ.set i none) := by
    refine ⟨by rw [List.length_set]; exact R.len, R.sub, R.g0, R.keep, R.new, R.bl, fun j d e => ?_, fun j s' e os => ?_, fun j k s1 s2 p ne e1 o1 e2 o2 z1 z2 => ?_, R.nt, R.tab⟩
    · exact R.fz j d (get_setN e).2
    · exact R.ow j s' (get_setN e).2 os
    · exact R.ap j k s1 s2 p ne (get_setN e1).2 o1 (get_setN e2).2 o2 z1 z2
  have ha : ∀ (j : Nat) (s' : S), (ρ.set i none)[j]? = some (some s') → s'.own = true → σ[j]? ≠ some (some (.ref p)) := fun j s' e' o' z =>
    R.ap i j s s' p (fun q => (get_setN e').1 q.symm) e os (get_setN e').2 o' h1 z
  have rv : RV C G H σ (ρ.set i none) s (.ref p) := by
    cases s with
    | fz d => cases os
    | ow ds => exact ⟨p, rfl, h2, h3, h0, rfl, ha⟩
    | od ks ds => exact ⟨p, rfl, h2, h3, h0, rfl, ha⟩
    | bg ds => cases nb
  obtain ⟨G', R2, gs, hd⟩ := R1.freeze rv
  refine ⟨G', _, ?_, gs, h1, hd⟩
  have R3 := R2.set i (s := .fz s.toD) (v := .ref p) hd
  rw [List.set_set] at R3
  have es : σ.set i (some (.ref p)) = σ := by
    obtain ⟨hl, ee⟩ := List.getElem?_eq_some_iff.mp h1
    rw [← ee]; exact List.set_getElem_self hl
  rw [es] at R3
  exact R3
end
end L3

namespace L3
open PySem PySem.Spec PyProof.Rows L2

/-! ### readings over plain data -/
abbrev DE := En → (S → En → Prop) → Prop
abbrev DT := En → (Bool → En → Prop) → Prop
abbrev DA := En → (List D → En → Prop) → Prop
structure DEnds where
  nx : En → Prop
  bk : En → Prop := fun _ => False
  ct : En → Prop := fun _ => False
  rt : S → En → Prop
abbrev DS := DEnds → En → Prop

def Rf (C : FC) (te : TE) (t : DE) : Prop := ∀ (G H : Hp) (σ : L2.St) (ρ : En) (QD : S → En → Prop) (Q : VK), Rep C G H σ ρ → t ρ QD →
  (∀ v s G' H' ρ', Rep C G' H' σ ρ' → Same G G' → RV C G' H' σ ρ' s v → QD s ρ' → Q v H') → te σ H Q
def RfT (C : FC) (tt : TT) (t : DT) : Prop := ∀ (G H : Hp) (σ : L2.St) (ρ : En) (QD : Bool → En → Prop) (Q : Bool → Hp → Prop), Rep C G H σ ρ → t ρ QD →
  (∀ b G' H' ρ', Rep C G' H' σ ρ' → Same G G' → QD b ρ' → Q b H') → tt σ H Q
def RfA (C : FC) (ta : TA) (t : DA) : Prop := ∀ (G H : Hp) (σ : L2.St) (ρ : En) (QD : List D → En → Prop) (Q : List V → Hp → Prop), Rep C G H σ ρ → t ρ QD →
  (∀ vs ds G' H' ρ', Rep C G' H' σ ρ' → Same G G' → Dats G' ds vs → QD ds ρ' → Q vs H') → ta σ H Q
structure EndsOk (C : FC) (G : Hp) (DD : DEnds) (E : Ends) : Prop where
  nx : ∀ G' H' σ' ρ', Rep C G' H' σ' ρ' → Same G G' → DD.nx ρ' → E.nx σ' H'
  bk : ∀ G' H' σ' ρ', Rep C G' H' σ' ρ' → Same G G' → DD.bk ρ' → E.bk σ' H'
  ct : ∀ G' H' σ' ρ', Rep C G' H' σ' ρ' → Same G G' → DD.ct ρ' → E.ct σ' H'
  rt : ∀ v s G' H' σ' ρ', Rep C G' H' σ' ρ' → Same G G' → RV C G' H' σ' ρ' s v → DD.rt s ρ' → E.rt v H'
def RfS (C : FC) (ts : TS) (t : DS) : Prop := ∀ (G H : Hp) (σ : L2.St) (ρ : En) (DD : DEnds) (E : Ends), Rep C G H σ ρ → t DD ρ → EndsOk C G DD E → ts E σ H
theorem EndsOk.mono {C : FC} {G G' : Hp} {DD : DEnds} {E : Ends} (e : EndsOk C G DD E) (s : Same G G') : EndsOk C G' DD E :=
  ⟨fun _ _ _ _ R s' => e.nx _ _ _ _ R (s.trans s'), fun _ _ _ _ R s' => e.bk _ _ _ _ R (s.trans s'), fun _ _ _ _ R s' => e.ct _ _ _ _ R (s.trans s'), fun _ _ _ _ _ _ R s' => e.rt _ _ _ _ _ _ R (s.trans s')⟩

structure PV (X : Cx) (C : FC) (e : Expr) (te : TE) (t : DE) : Prop where
  pe : PE X e te
  rf : Rf C te t
structure PTV (X : Cx) (C : FC) (e : Expr) (tt : TT) (t : DT) : Prop where
  pe : PT X e tt
  rf : RfT C tt t
structure PAV (X : Cx) (C : FC) (es : List Expr) (ta : TA) (t : DA) : Prop where
  pe : PA X es ta
  rf : RfA C ta t
structure PSV (X : Cx) (C : FC) (st : Stmt) (ts : TS) (t : DS) : Prop where
  pe : PS X st ts
  rf : RfS C ts t
structure PSsV (X : Cx) (C : FC) (st : List Stmt) (ts : TS) (t : DS) : Prop where
  pe : PSs X st ts
  rf : RfS C ts t

section
variable {X : Cx} {C : FC}
/-- the value taken, frozen -/
theorem Rf.go {te : TE} {t : DE} (h : Rf C te t) {G H : Hp} {σ : L2.St} {ρ : En} {QD : D → En → Prop} {Q : VK} (R : Rep C G H σ ρ) (q : t ρ fun s ρ' => QD s.toD ρ')
    (k : ∀ v d G' H' ρ', Rep C G' H' σ ρ' → Same G G' → Dat G' d v → QD d ρ' → Q v H') : te σ H Q :=
  h G H σ ρ _ Q R q fun v s G' H' ρ' R' sm rv qd => by
    obtain ⟨G2, R2, s2, hd⟩ := R'.freeze rv
    exact k v s.toD G2 H' ρ' R2 (sm.trans s2) hd qd

theorem rvf {G H : Hp} {σ : L2.St} {ρ : En} {d : D} {v : V} (h : Dat G d v) : RV C G H σ ρ (.fz d) v := h
/-! ### names, constants -/
def xVar (i : Nat) : DE := fun ρ Q => match ρ[i]? with
  | some (some (.fz d)) => Q (.fz d) ρ
  | some (some (.ow ds)) => Q (.fz (.lst ds)) (ρ.set i (some (.fz (.lst ds))))
  | some (some (.od ks ds)) => Q (.fz (.dct ks ds)) (ρ.set i (some (.fz (.dct ks ds))))
  | _ => False
theorem rf_var (i : Nat) : Rf C (tVar i) (xVar i) := fun G H σ ρ QD Q R h k => by
  unfold xVar at h
  split at h
  · rename_i d e
    obtain ⟨v, h1, h2⟩ := R.fz i d e
    exact ⟨v, h1, k v _ G H ρ R (Same.refl G) (rvf h2) h⟩
  · rename_i ds e
    obtain ⟨G', v, R', sm, h1, h2⟩ := R.freezeSlot e rfl rfl
    exact ⟨v, h1, k v _ G' H _ R' sm (rvf h2) h⟩
  · rename_i ks ds e
    obtain ⟨G', v, R', sm, h1, h2⟩ := R.freezeSlot e rfl rfl
    exact ⟨v, h1, k v _ G' H _ R' sm (rvf h2) h⟩
  · exact h.elim
theorem dv (i : Nat) {x : Str} {pos : Pos} (hN : X.N[i]? = some x := by rfl) (hv : Vis X.env.scope x := by first | exact Or.inl rfl | exact Or.inr (Or.inl rfl) | exact Or.inr (Or.inr rfl)) (hd : (x == ("__debug__" : Str)) = false := by decide)
    (hcd : (x == ("__classdict__" : Str)) = false := by decide) : PV X C (.Name x pos) (tVar i) (xVar i) := ⟨pe_var hN hv hd hcd, rf_var i⟩
def xC (d : D) : DE := fun ρ Q => Q (.fz d) ρ
theorem rf_c {v : V} {d : D} (h : ∀ G, Dat G d v) : Rf C (tC v) (xC d) := fun G H σ ρ QD Q R q k => k v _ G H ρ R (Same.refl G) (rvf (h G)) q
theorem d_int {i j pos} : PV X C (.Constant (.int i) j pos) (tC (.int i)) (xC (.int i)) := ⟨pe_int, rf_c fun _ => rfl⟩
theorem d_bl {b j pos} : PV X C (.Constant (.bool b) j pos) (tC (.bl b)) (xC (.bl b)) := ⟨pe_bl, rf_c fun _ => rfl⟩
theorem d_non {j pos} : PV X C (.Constant .none j pos) (tC .non) (xC .non) := ⟨pe_non, rf_c fun _ => rfl⟩
theorem d_str {x j pos} : PV X C (.Constant (.str x) j pos) (tC (.str x)) (xC (.str x)) := ⟨pe_str, rf_c fun _ => rfl⟩
theorem d_globI {x : Str} {i : Int} {pos : Pos} (hg : Gl X x) (hm : ∃ t, X.mg x = some (.int i t)) (hd : (x == ("__debug__" : Str)) = false := by decide) : PV X C (.Name x pos) (tC (.int i)) (xC (.int i)) :=
  ⟨let ⟨t, hm⟩ := hm; pe_glob hg hm ⟨t, rfl⟩ hd, rf_c fun _ => rfl⟩

/-! ### arguments, displays -/
def xNil : DA := fun ρ Q => Q [] ρ
def xCons (t : DE) (u : DA) : DA := fun ρ Q => t ρ fun s ρ1 => u ρ1 fun ds ρ2 => Q (s.toD :: ds) ρ2
theorem da_nil : PAV X C [] tNil xNil := ⟨pa_nil, fun G H σ ρ QD Q R q k => k [] [] G H ρ R (Same.refl G) rfl q⟩
theorem rf_cons {te : TE} {ta : TA} {t : DE} {u : DA} (h1 : Rf C te t) (h2 : RfA C ta u) : RfA C (tCons te ta) (xCons t u) := fun G H σ ρ QD Q R q k =>
  h1.go (QD := fun d ρ1 => u ρ1 fun ds ρ2 => QD (d :: ds) ρ2) R q fun v d G1 H1 ρ1 R1 s1 hd q1 =>
    h2 G1 H1 σ ρ1 _ _ R1 q1 fun vs ds G2 H2 ρ2 R2 s2 hds q2 => k (v :: vs) (d :: ds) G2 H2 ρ2 R2 (s1.trans s2) (.cons (Dat.mono s2 d v hd) hds) q2
theorem da_cons {e : Expr} {es : List Expr} {te : TE} {ta : TA} {t : DE} {u : DA} (h1 : PV X C e te t) (h2 : PAV X C es ta u) (hs : starEach (e :: es) X.env = (false, eval e X.env) :: starEach es X.env := by rfl) : PAV X C (e :: es) (tCons te ta) (xCons t u) :=
  ⟨pa_cons h1.pe h2.pe hs, rf_cons h1.rf h2.rf⟩
def xTup (t : DA) : DE := fun ρ Q => t ρ fun ds ρ1 => ds.length ≤ 100000 ∧ Q (.fz (.tup ds)) ρ1
def xLst (t : DA) : DE := fun ρ Q => t ρ fun ds ρ1 => ds.length ≤ 100000 ∧ Q (.ow ds) ρ1
theorem line5 {n : Nat} (h : n ≤ 100000) : n ≤ sizeLine := Nat.le_trans h (by decide)
theorem Rep.resT {G H : Hp} {σ : L2.St} {ρ : En} (R : Rep C G H σ ρ) {p : Addr} {vs : List V} {ds : List D} (hp : H p = none) (hd : Dats G ds vs) : Rep C (upd G p (.tup vs)) (upd H p (.tup vs)) σ ρ ∧ Same G (upd G p (.tup vs)) ∧ RV C (upd G p (.tup vs)) (upd H p (.tup vs)) σ ρ (.fz (.tup ds)) (.ref p) :=
  have gs : Same G (upd G p (.tup vs)) := Same.new (R.gn hp)
  ⟨R.newFz hp, gs, p, vs, rfl, upd_same, Dats.mono gs _ _ hd⟩
theorem rf_tup {ta : TA} {u : DA} (h : RfA C ta u) : Rf C (tTup ta) (xTup u) := fun G H σ ρ QD Q R q k =>
  h G H σ ρ _ _ R q fun vs ds G1 H1 ρ1 R1 s1 hd ⟨hl, q1⟩ => ⟨by rw [← hd.length]; exact line5 hl, fun p hp => by
    obtain ⟨R2, gs, rv⟩ := R1.resT hp hd
    exact k _ _ _ _ _ R2 (s1.trans gs) rv q1⟩
theorem rf_lst {ta : TA} {u : DA} (h : RfA C ta u) : Rf C (tLst ta) (xLst u) := fun G H σ ρ QD Q R q k =>
  h G H σ ρ _ _ R q fun vs ds G1 H1 ρ1 R1 s1 hd ⟨hl, q1⟩ => ⟨by rw [← hd.length]; exact line5 hl, fun p hp => by
    obtain ⟨R2, rv⟩ := R1.resL hp hd
    exact k _ _ _ _ _ R2 s1 rv q1⟩
theorem d_tup {es : List Expr} {x1} {pos : Pos} {ta : TA} {u : DA} (h : PAV X C es ta u) : PV X C (.Tuple es x1 pos) (tTup ta) (xTup u) := ⟨pe_tup h.pe, rf_tup h.rf⟩
theorem d_lst {es : List Expr} {pos : Pos} {ta : TA} {u : DA} (h : PAV X C es ta u) : PV X C (.List es pos) (tLst ta) (xLst u) := ⟨pe_lst h.pe, rf_lst h.rf⟩

/-! ### operators -/
abbrev DO1 := D → (S → Prop) → Prop
abbrev DO2 := D → D → (S → Prop) → Prop
def RfO (C : FC) (r : R2) (rd : DO2) : Prop := ∀ (G H : Hp) (σ : L2.St) (ρ : En) (x y : V) (dx dy : D) (QD : S → Prop) (Q : VK), Rep C G H σ ρ → Dat G dx x → Dat G dy y → rd dx dy QD →
  (∀ v s G' H', Rep C G' H' σ ρ → Same G G' → RV C G' H' σ ρ s v → QD s → Q v H') → r x y H Q
def xOp (rd : DO2) (a b : DE) : DE := fun ρ Q => a ρ fun s ρ1 => b ρ1 fun s' ρ2 => rd s.toD s'.toD fun z => Q z ρ2
theorem rf_op {r : R2} {rd : DO2} {ta tb : TE} {a b : DE} (ho : RfO C r rd) (ha : Rf C ta a) (hb : Rf C tb b) : Rf C (tOp r ta tb) (xOp rd a b) := fun G H σ ρ QD Q R q k =>
  ha.go (QD := fun d ρ1 => b ρ1 fun s' ρ2 => rd d s'.toD fun z => QD z ρ2) R q fun v d G1 H1 ρ1 R1 s1 hd q1 =>
    hb.go (QD := fun d' ρ2 => rd d d' fun z => QD z ρ2) R1 q1 fun v' d' G2 H2 ρ2 R2 s2 hd' q2 =>
      ho G2 H2 σ ρ2 v v' d d' _ Q R2 (Dat.mono s2 d v hd) hd' q2 fun z s G3 H3 R3 s3 rv q3 => k z s G3 H3 ρ2 R3 ((s1.trans s2).trans s3) rv q3
theorem RfO.or {r r' : R2} {rd rd' : DO2} (h : RfO C r rd) (h' : RfO C r' rd') : RfO C (fun x y H Q => r x y H Q ∨ r' x y H Q) (fun x y Q => rd x y Q ∨ rd' x y Q) := fun G H σ ρ x y dx dy QD Q R hx hy q k => by
  rcases q with q | q
  · exact .inl (h G H σ ρ x y dx dy QD Q R hx hy q k)
  · exact .inr (h' G H σ ρ x y dx dy QD Q R hx hy q k)
theorem RfO.imp {r : R2} {rd rd' : DO2} (h : RfO C r rd) (i : ∀ x y Q, rd' x y Q → rd x y Q) : RfO C r rd' := fun G H σ ρ x y dx dy QD Q R hx hy q k => h G H σ ρ x y dx dy QD Q R hx hy (i _ _ _ q) k
structure OV (X : Cx) (C : FC) (f : Value → Value → Sem Value) (r : R2) (rd : DO2) : Prop where
  op : OpR X f r
  rf : RfO C r rd
theorem d_op {op : Operator} {r : R2} {rd : DO2} {e1 e2 : Expr} {ta tb : TE} {a b : DE} {pos : Pos} (ho : OV X C (binaryOp op) r rd) (ha : PV X C e1 ta a) (hb : PV X C e2 tb b) : PV X C (.BinOp e1 op e2 pos) (tOp r ta tb) (xOp rd a b) :=
  ⟨pe_op ho.op ha.pe hb.pe, rf_op ho.rf ha.rf hb.rf⟩
theorem d_cmp {op : CmpOp} {r : R2} {rd : DO2} {e1 e2 : Expr} {ta tb : TE} {a b : DE} {pos : Pos} (ho : OV X C (compareOp op) r rd) (ha : PV X C e1 ta a) (hb : PV X C e2 tb b) (hm : behindInMarks op e2 = false := by first | exact nomark _ | rfl) : PV X C (.Compare e1 [op] [e2] pos) (tOp r ta tb) (xOp rd a b) :=
  ⟨pe_cmpR ho.op ha.pe hb.pe hm, rf_op ho.rf ha.rf hb.rf⟩
/-- two ints -/
def xII (c : Int → Int → Prop) (f : Int → Int → D) : DO2 := fun x y Q => match x, y with
  | .int i, .int j => c i j ∧ Q (.fz (f i j))
  | _, _ => False
theorem rf_II {c : Int → Int → Prop} {g : Int → Int → V} {f : Int → Int → D} (h : ∀ G i j, Dat G (f i j) (g i j)) : RfO C (rI c g) (xII c f) := fun G H σ ρ x y dx dy QD Q R hx hy q k => by
  unfold xII at q
  split at q
  · rename_i i j
    cases (show x = _ from hx)
    cases (show y = _ from hy)
    exact ⟨i, j, rfl, rfl, q.1, k _ _ G H R (Same.refl G) (rvf (h G i j)) q.2⟩
  · exact q.elim
def xII0 (f : Int → Int → D) : DO2 := fun x y Q => match x, y with
  | .int i, .int j => Q (.fz (f i j))
  | _, _ => False
theorem rf_II0 {g : Int → Int → V} {f : Int → Int → D} (h : ∀ G i j, Dat G (f i j) (g i j)) : RfO C (rI0 g) (xII0 f) := fun G H σ ρ x y dx dy QD Q R hx hy q k => by
  unfold xII0 at q
  split at q
  · rename_i i j
    cases (show x = _ from hx)
    cases (show y = _ from hy)
    exact ⟨i, j, rfl, rfl, k _ _ G H R (Same.refl G) (rvf (h G i j)) q⟩
  · exact q.elim
def xAdd : DO2 := fun x y Q => match x, y with
  | .int i, .int j => Q (.fz (.int (i + j)))
  | .lst xs, .lst ys => xs.length + ys.length ≤ 100000 ∧ Q (.ow (xs ++ ys))
  | .tup xs, .tup ys => xs.length + ys.length ≤ 100000 ∧ Q (.fz (.tup (xs ++ ys)))
  | _, _ => False
theorem o_add : OV X C (binaryOp .Add) (fun x y H Q => rI0 (fun i j => .int (i + j)) x y H Q ∨ rCat x y H Q ∨ rCatA X.K x y H Q) xAdd := by
  refine ⟨op_add.or (op_cat.or op_catA), fun G H σ ρ x y dx dy QD Q R hx hy q k => ?_⟩
  unfold xAdd at q
  split at q
  · rename_i i j
    cases (show x = _ from hx)
    cases (show y = _ from hy)
    exact .inl ⟨i, j, rfl, rfl, k _ _ G H R (Same.refl G) (rvf (d := .int (i + j)) rfl) q⟩
  · rename_i xs ys
    obtain ⟨a, vs, rfl, h1, h2⟩ := hx
    obtain ⟨b, us, rfl, h3, h4⟩ := hy
    refine .inr (.inl ⟨a, b, vs, us, rfl, rfl, R.sub _ _ h1, R.sub _ _ h3, ?_, fun p hp => ?_⟩)
    · rw [← h2.length, ← h4.length]; exact line5 q.1
    · obtain ⟨R2, rv⟩ := R.resL hp (h2.append h4)
      exact k _ _ _ _ R2 (Same.refl G) rv q.2
  · rename_i xs ys
    obtain ⟨a, vs, rfl, h1, h2⟩ := hx
    obtain ⟨b, us, rfl, h3, h4⟩ := hy
    refine .inr (.inr ⟨a, b, vs, us, rfl, rfl, SqT.of (R.sub _ _ h1), SqT.of (R.sub _ _ h3), ?_, ?_⟩)
    · rw [← h2.length, ← h4.length]; exact line5 q.1
    · refine ⟨fun e => ?_, fun _ e => ?_, fun _ _ p hp => ?_⟩
      · subst e
        have ex : xs = [] := List.eq_nil_of_length_eq_zero h2.length
        subst ex
        exact k _ _ G H R (Same.refl G) (rvf (d := .tup ys) ⟨b, us, rfl, h3, h4⟩) q.2
      · subst e
        have ex : ys = [] := List.eq_nil_of_length_eq_zero h4.length
        subst ex
        rw [List.append_nil] at q
        exact k _ _ G H R (Same.refl G) (rvf (d := .tup xs) ⟨a, vs, rfl, h1, h2⟩) q.2
      · obtain ⟨R2, gs, rv⟩ := R.resT hp (h2.append h4)
        exact k _ _ _ _ R2 gs rv q.2
  · exact q.elim
end
end L3

namespace L3
open PySem PySem.Spec PyProof.Rows L2

/-! ### plain data as the library's -/
mutual
def toP : D → PyData
  | .non => .none
  | .bl b => .bool b
  | .int i => .int i
  | .str x => .str x
  | .lst ds => .list (toPs ds)
  | .tup ds => .tuple (toPs ds)
  | .dct _ _ => .none
  | .obj _ => .none
def toPs : List D → List PyData
  | [] => []
  | d :: ds => toP d :: toPs ds
end
mutual
def okD : Nat → D → Bool
  | _, .non => true
  | _, .bl _ => true
  | _, .int _ => true
  | _, .str x => PyData.strOk x
  | 0, .lst _ => false
  | 0, .tup _ => false
  | n + 1, .lst ds => okDs n ds
  | n + 1, .tup ds => okDs n ds
  | _, .dct _ _ => false
  | _, .obj _ => false
def okDs : Nat → List D → Bool
  | _, [] => true
  | n, d :: ds => okD n d && okDs n ds
end
mutual
theorem okD.dp {K : PySem.W.Frag} {G H : Hp} (sm : Same G H) : ∀ (n : Nat) (d : D) (v : V), okD n d = true → Dat G d v → Dp K H v (toP d)
  | _, .non, _, _, h => by cases (show _ = _ from h); exact .non
  | _, .bl b, _, _, h => by cases (show _ = _ from h); exact .bl b
  | _, .int i, _, _, h => by cases (show _ = _ from h); exact .int i
  | _, .str x, _, _, h => by cases (show _ = _ from h); exact .str x
  | n + 1, .lst ds, _, o, ⟨a, vs, h1, h2, h3⟩ => by
    subst h1
    exact .lst (SqL.of (sm _ _ h2)) (okDs.dp sm n ds vs (by simpa [okD] using o) h3)
  | n + 1, .tup ds, _, o, ⟨a, vs, h1, h2, h3⟩ => by
    subst h1
    exact .tup (SqT.of (sm _ _ h2)) (okDs.dp sm n ds vs (by simpa [okD] using o) h3)
  | 0, .lst _, _, o, _ => by simp [okD] at o
  | 0, .tup _, _, o, _ => by simp [okD] at o
  | _, .dct _ _, _, o, _ => by simp [okD] at o
theorem okDs.dp {K : PySem.W.Frag} {G H : Hp} (sm : Same G H) : ∀ (n : Nat) (ds : List D) (vs : List V), okDs n ds = true → Dats G ds vs → DpAll K H vs (toPs ds)
  | _, [], _, _, h => by cases (show _ = _ from h); exact .nil
  | n, d :: ds, _, o, ⟨v, r, h1, h2, h3⟩ => by
    subst h1
    simp only [okDs, Bool.and_eq_true] at o
    exact .cons (okD.dp sm n d v o.1 h2) (okDs.dp sm n ds r o.2 h3)
end
mutual
theorem okD.lay : ∀ (n : Nat) (d : D), okD n d = true → (toP d).canLay0 = true ∧ (toP d).depth ≤ n
  | n, .non, _ => by simp [toP, PyData.canLay0, PyData.depth]
  | n, .bl _, _ => by simp [toP, PyData.canLay0, PyData.depth]
  | n, .int _, _ => by simp [toP, PyData.canLay0, PyData.depth]
  | n, .str x, o => by simpa [toP, PyData.canLay0, PyData.depth, okD] using o
  | n + 1, .lst ds, o => by
    obtain ⟨a, b⟩ := okDs.lay n ds (by simpa [okD] using o)
    simp only [toP, PyData.canLay0, PyData.depth]
    exact ⟨a, by omega⟩
  | n + 1, .tup ds, o => by
    obtain ⟨a, b⟩ := okDs.lay n ds (by simpa [okD] using o)
    simp only [toP, PyData.canLay0, PyData.depth]
    exact ⟨a, by omega⟩
  | 0, .lst _, o => by simp [okD] at o
  | 0, .tup _, o => by simp [okD] at o
  | _, .dct _ _, o => by simp [okD] at o
  | _, .obj _, o => by simp [okD] at o
theorem okDs.lay : ∀ (n : Nat) (ds : List D), okDs n ds = true → PyData.canLayAll0 (toPs ds) = true ∧ PyData.depthAll (toPs ds) ≤ n
  | n, [], _ => by simp [toPs, PyData.canLayAll0, PyData.depthAll]
  | n, d :: ds, o => by
    simp only [okDs, Bool.and_eq_true] at o
    obtain ⟨a, b⟩ := okD.lay n d o.1
    obtain ⟨c, e⟩ := okDs.lay n ds o.2
    simp only [toPs, PyData.canLayAll0, PyData.depthAll, a, c, Bool.and_self, true_and]
    omega
end
theorem okD.shaped {d : D} (o : okD 8 d = true) : SeqAt.shaped (toP d) = true := by
  obtain ⟨a, b⟩ := okD.lay 8 d o
  unfold SeqAt.shaped
  rw [a, Bool.true_and]
  exact decide_eq_true (by omega)
/-- equality as Python has it -/
def eqD (x y : D) : Bool := PyData.eqv (toP x) (toP y)
theorem okD_ints : ∀ (n : Nat) (ns : List Int), okDs n (ns.map D.int) = true
  | _, [] => rfl
  | n, x :: ns => by
    rw [List.map_cons]
    simp only [okDs, okD, Bool.true_and]
    exact okD_ints n ns
theorem eqv_ints : ∀ (ns ms : List Int), PyData.eqvAll (toPs (ns.map D.int)) (toPs (ms.map D.int)) = decide (ns = ms)
  | [], [] => rfl
  | [], _ :: _ => rfl
  | _ :: _, [] => rfl
  | x :: ns, y :: ms => by
    simp only [List.map_cons, toPs, toP, PyData.eqvAll, PyData.eqv, eqv_ints ns ms, List.cons.injEq]
    by_cases h : x = y
    · subst h; simp
    · simp [h]
theorem eqD_tup_ints (ns ms : List Int) : eqD (.tup (ns.map D.int)) (.tup (ms.map D.int)) = decide (ns = ms) := by
  simp only [eqD, toP, PyData.eqv]
  exact eqv_ints ns ms
theorem eqD_lst_ints (ns ms : List Int) : eqD (.lst (ns.map D.int)) (.lst (ms.map D.int)) = decide (ns = ms) := by
  simp only [eqD, toP, PyData.eqv]
  exact eqv_ints ns ms
theorem eqD_int (i j : Int) : eqD (.int i) (.int j) = decide (i = j) := by
  simp only [eqD, toP, PyData.eqv]
  by_cases h : i = j
  · subst h; simp
  · simp [h]

section
variable {X : Cx} {C : FC}
def xEq : DO2 := fun x y Q => okD 8 x = true ∧ okD 8 y = true ∧ Q (.fz (.bl (eqD x y)))
def xNe : DO2 := fun x y Q => okD 8 x = true ∧ okD 8 y = true ∧ Q (.fz (.bl (!eqD x y)))
theorem o_eq (hu : X.A.units + 64 < cLine) : OV X C (compareOp .Eq) (rEqD X.K) xEq := ⟨op_eqD hu, fun G H σ ρ x y dx dy QD Q R hx hy ⟨h1, h2, q⟩ k =>
  ⟨toP dx, toP dy, okD.dp R.sub 8 _ _ h1 hx, okD.dp R.sub 8 _ _ h2 hy, okD.shaped h1, okD.shaped h2, k _ _ G H R (Same.refl G) (rvf (d := .bl _) rfl) q⟩⟩
theorem o_ne (hu : X.A.units + 64 < cLine) : OV X C (compareOp .NotEq) (rNeD X.K) xNe := ⟨op_neD hu, fun G H σ ρ x y dx dy QD Q R hx hy ⟨h1, h2, q⟩ k =>
  ⟨toP dx, toP dy, okD.dp R.sub 8 _ _ h1 hx, okD.dp R.sub 8 _ _ h2 hy, okD.shaped h1, okD.shaped h2, k _ _ G H R (Same.refl G) (rvf (d := .bl _) rfl) q⟩⟩
theorem o_lt : OV X C (compareOp .Lt) (rI0 fun i j => .bl (decide (i < j))) (xII0 fun i j => .bl (decide (i < j))) := ⟨op_lt, rf_II0 fun _ _ _ => rfl⟩
theorem o_le : OV X C (compareOp .LtE) (rI0 fun i j => .bl (decide (i ≤ j))) (xII0 fun i j => .bl (decide (i ≤ j))) := ⟨op_le, rf_II0 fun _ _ _ => rfl⟩
theorem o_gt : OV X C (compareOp .Gt) (rI0 fun i j => .bl (decide (j < i))) (xII0 fun i j => .bl (decide (j < i))) := ⟨op_gt, rf_II0 fun _ _ _ => rfl⟩
theorem o_ge : OV X C (compareOp .GtE) (rI0 fun i j => .bl (decide (j ≤ i))) (xII0 fun i j => .bl (decide (j ≤ i))) := ⟨op_ge, rf_II0 fun _ _ _ => rfl⟩
theorem o_sub : OV X C (binaryOp .Sub) (rI0 fun i j => .int (i - j)) (xII0 fun i j => .int (i - j)) := ⟨op_sub, rf_II0 fun _ _ _ => rfl⟩
/-- % by a positive number -/
theorem o_mod : OV X C (binaryOp .Mod) (rI (fun _ j => 0 < j) fun i j => .int (i % j)) (xII (fun _ j => 0 < j) fun i j => .int (i % j)) := ⟨op_mod, rf_II fun _ _ _ => rfl⟩
theorem o_div : OV X C (binaryOp .FloorDiv) (rI CDivW fun i j => .int (i / j)) (xII CDivW fun i j => .int (i / j)) := ⟨op_fdivW, rf_II fun _ _ _ => rfl⟩
theorem o_pow : OV X C (binaryOp .Pow) (rI CPow fun i j => .int (i ^ j.toNat)) (xII CPow fun i j => .int (i ^ j.toNat)) := ⟨op_pow, rf_II fun _ _ _ => rfl⟩
def xMul : DO2 := fun x y Q => match x, y with
  | .int i, .int j => CMulW i j ∧ Q (.fz (.int (i * j)))
  | .lst xs, .int k => xs.length * k.toNat ≤ 100000 ∧ k < 100000 ∧ -100000 < k ∧ Q (.ow (List.replicate k.toNat xs).flatten)
  | .tup xs, .int k => xs ≠ [] ∧ 2 ≤ k ∧ k ≤ 1000 ∧ xs.length ≤ 1000 ∧ Q (.fz (.tup (List.replicate k.toNat xs).flatten))
  | _, _ => False
theorem o_mul : OV X C (binaryOp .Mult) (fun x y H Q => rI CMulW (fun i j => .int (i * j)) x y H Q ∨ rRep x y H Q ∨ rRepT X.K x y H Q) xMul := by
  refine ⟨op_mulW.or (op_rep.or op_repT), fun G H σ ρ x y dx dy QD Q R hx hy q k => ?_⟩
  unfold xMul at q
  split at q
  · rename_i i j
    cases (show x = _ from hx)
    cases (show y = _ from hy)
    exact .inl ⟨i, j, rfl, rfl, q.1, k _ _ G H R (Same.refl G) (rvf (d := .int (i * j)) rfl) q.2⟩
  · rename_i xs i
    obtain ⟨a, vs, rfl, h1, h2⟩ := hx
    cases (show y = _ from hy)
    refine .inr (.inl ⟨a, i, vs, rfl, rfl, R.sub _ _ h1, by omega, by omega, ?_, fun p hp => ?_⟩)
    · rw [← h2.length]; exact line5 q.1
    · obtain ⟨R2, rv⟩ := R.resL hp (h2.rep i.toNat)
      exact k _ _ _ _ R2 (Same.refl G) rv q.2.2.2
  · rename_i xs i
    obtain ⟨a, vs, rfl, h1, h2⟩ := hx
    cases (show y = _ from hy)
    obtain ⟨q1, q2, q3, q4, q5⟩ := q
    refine .inr (.inr ⟨a, i, vs, rfl, rfl, SqT.of (R.sub _ _ h1), fun e => q1 ?_, q2, q3, by rw [← h2.length]; exact q4, fun p hp => ?_⟩)
    · subst e; exact List.eq_nil_of_length_eq_zero h2.length
    · obtain ⟨R2, gs, rv⟩ := R.resT hp (h2.rep i.toNat)
      exact k _ _ _ _ R2 gs rv q5
  · exact q.elim
def isNonD : D → Bool
  | .non => true
  | _ => false
theorem isNon_of {G : Hp} {d : D} {v : V} (h : Dat G d v) : decide (v = V.non) = isNonD d := by
  cases d with
  | non => cases (show v = _ from h); rfl
  | bl b => cases (show v = _ from h); rfl
  | int i => cases (show v = _ from h); rfl
  | str x => cases (show v = _ from h); rfl
  | lst ds => obtain ⟨a, vs, rfl, _⟩ := h; rfl
  | tup ds => obtain ⟨a, vs, rfl, _⟩ := h; rfl
  | dct ks ds => obtain ⟨a, vs, rfl, _⟩ := h; rfl
  | obj φ => obtain ⟨a, rfl, _⟩ := h; rfl
def xIsN : DO2 := fun x y Q => match y with
  | .non => Q (.fz (.bl (isNonD x)))
  | _ => False
def xNotN : DO2 := fun x y Q => match y with
  | .non => Q (.fz (.bl (!isNonD x)))
  | _ => False
theorem o_isN : OV X C (compareOp .Is) (fun x y H Q => y = .non ∧ Q (.bl (decide (x = .non))) H) xIsN := ⟨op_isN, fun G H σ ρ x y dx dy QD Q R hx hy q k => by
  unfold xIsN at q
  split at q
  · cases (show y = _ from hy)
    refine ⟨rfl, ?_⟩
    rw [isNon_of hx]
    exact k _ _ G H R (Same.refl G) (rvf (d := .bl _) rfl) q
  · exact q.elim⟩
theorem o_notN : OV X C (compareOp .IsNot) (fun x y H Q => y = .non ∧ Q (.bl (!decide (x = .non))) H) xNotN := ⟨op_notN, fun G H σ ρ x y dx dy QD Q R hx hy q k => by
  unfold xNotN at q
  split at q
  · cases (show y = _ from hy)
    refine ⟨rfl, ?_⟩
    rw [isNon_of hx]
    exact k _ _ G H R (Same.refl G) (rvf (d := .bl _) rfl) q
  · exact q.elim⟩
/-- in, not in: ints in a list, a tuple of ints -/
theorem inV_ints (i : Int) : ∀ ns : List Int, inV (.int i) (ns.map V.int) = decide (i ∈ ns)
  | [] => rfl
  | n :: ns => by
    have ih := inV_ints i ns
    unfold inV at ih ⊢
    rw [List.map_cons, List.any_cons, ih]
    have e : eqV (.int n) (.int i) = decide (i = n) := by
      simp only [eqV]
      by_cases h : i = n
      · subst h; simp
      · simp [h, Ne.symm h]
    rw [e]
    by_cases h1 : i = n <;> by_cases h2 : i ∈ ns <;> simp [h1, h2]
theorem flat_ints : ∀ ns : List Int, (ns.map V.int).all flatV = true
  | [] => rfl
  | n :: ns => by rw [List.map_cons, List.all_cons, flat_ints ns]; rfl
def xIn (neg : Bool) : DO2 := fun x y Q => ∃ (i : Int) (ns : List Int), x = .int i ∧ (y = .lst (ns.map D.int) ∨ y = .tup (ns.map D.int)) ∧ Q (.fz (.bl (if neg then !decide (i ∈ ns) else decide (i ∈ ns))))
theorem rf_in (K : PySem.W.Frag) (neg : Bool) : RfO C (rIn K neg) (xIn neg) := fun G H σ ρ x y dx dy QD Q R hx hy q k => by
  obtain ⟨i, ns, rfl, hd, q⟩ := q
  cases (show x = _ from hx)
  rcases hd with rfl | rfl
  · obtain ⟨a, vs, rfl, h1, h2⟩ := hy
    cases h2.ints
    refine ⟨a, _, rfl, .inl (SqL.of (R.sub _ _ h1)), rfl, flat_ints ns, ?_⟩
    rw [inV_ints]
    exact k _ _ G H R (Same.refl G) (rvf (d := .bl _) rfl) q
  · obtain ⟨a, vs, rfl, h1, h2⟩ := hy
    cases h2.ints
    refine ⟨a, _, rfl, .inr (SqT.of (R.sub _ _ h1)), rfl, flat_ints ns, ?_⟩
    rw [inV_ints]
    exact k _ _ G H R (Same.refl G) (rvf (d := .bl _) rfl) q
theorem o_in : OV X C (compareOp .In) (rIn X.K false) (xIn false) := ⟨op_in_seq, rf_in _ _⟩
theorem o_notIn : OV X C (compareOp .NotIn) (rIn X.K true) (xIn true) := ⟨op_notIn_seq, rf_in _ _⟩
/-- -a -/
def xNeg : DO1 := fun x Q => match x with
  | .int i => Q (.fz (.int (-i)))
  | _ => False
def xUn (rd : DO1) (a : DE) : DE := fun ρ Q => a ρ fun s ρ1 => rd s.toD fun z => Q z ρ1
theorem d_neg {e : Expr} {te : TE} {t : DE} {pos : Pos} (h : PV X C e te t) : PV X C (.UnaryOp .USub e pos) (tUn (rU fun i => .int (-i)) te) (xUn xNeg t) := ⟨pe_un un_neg h.pe, fun G H σ ρ QD Q R q k =>
  h.rf.go (QD := fun d ρ1 => xNeg d fun z => QD z ρ1) R q fun v d G1 H1 ρ1 R1 s1 hd q1 => by
    unfold xNeg at q1
    split at q1
    · rename_i i
      exact ⟨i, hd, k _ _ G1 H1 ρ1 R1 s1 (rvf (d := .int (-i)) rfl) q1⟩
    · exact q1.elim⟩

/-! ### subscripts, slices -/
theorem atI_len {α β : Type} {xs : List α} {ys : List β} {i : Int} {x : α} (hl : xs.length = ys.length) (h : atI xs i = some x) : ∃ j, ixN ys.length i = some j ∧ xs[j]? = some x := by
  unfold atI at h
  cases e : ixN xs.length i with
  | none => rw [e] at h; cases h
  | some j => rw [e] at h; exact ⟨j, by rw [← hl]; exact e, h⟩
theorem Dats.atI {G : Hp} {ds : List D} {vs : List V} {i : Int} {d : D} (h : Dats G ds vs) (e : atI ds i = some d) : ∃ v, L2.atI vs i = some v ∧ Dat G d v := by
  obtain ⟨j, h1, h2⟩ := atI_len h.length e
  obtain ⟨v, h3, h4⟩ := h.get h2
  exact ⟨v, by unfold L2.atI; rw [h1]; exact h3, h4⟩
def xIx : DO2 := fun x y Q => match x, y with
  | .lst ds, .int i => ∃ d, atI ds i = some d ∧ Q (.fz d)
  | .tup ds, .int i => ∃ d, atI ds i = some d ∧ Q (.fz d)
  | _, _ => False
theorem rf_ix (K : PySem.W.Frag) : RfO C (rIx K) xIx := fun G H σ ρ x y dx dy QD Q R hx hy q k => by
  unfold xIx at q
  split at q
  · rename_i ds i
    obtain ⟨d, e, q⟩ := q
    obtain ⟨a, vs, rfl, h1, h2⟩ := hx
    cases (show y = _ from hy)
    obtain ⟨v, h3, h4⟩ := h2.atI e
    exact .inl ⟨a, vs, i, v, rfl, rfl, SqL.of (R.sub _ _ h1), h3, k _ _ G H R (Same.refl G) (rvf h4) q⟩
  · rename_i ds i
    obtain ⟨d, e, q⟩ := q
    obtain ⟨a, vs, rfl, h1, h2⟩ := hx
    cases (show y = _ from hy)
    obtain ⟨v, h3, h4⟩ := h2.atI e
    exact .inr (.inl ⟨a, vs, i, v, rfl, rfl, SqT.of (R.sub _ _ h1), h3, k _ _ G H R (Same.refl G) (rvf h4) q⟩)
  · exact q.elim
theorem d_ix {a b : Expr} {ta tb : TE} {da db : DE} {pos : Pos} (ha : PV X C a ta da) (hb : PV X C b tb db) (hs : PlainIx b := by exact fun _ _ => rfl) : PV X C (.Subscript a b pos) (tOp (rIx X.K) ta tb) (xOp xIx da db) :=
  ⟨pe_ix ix_seq ha.pe hb.pe hs, rf_op (rf_ix _) ha.rf hb.rf⟩
/-- of an own slot, that stays -/
def xIxO (i : Nat) (b : DE) : DE := fun ρ Q => b ρ fun s ρ1 => ∃ ds k d, (ρ1[i]? = some (some (.ow ds)) ∨ ρ1[i]? = some (some (.bg ds))) ∧ s.toD = .int k ∧ atI ds k = some d ∧ Q (.fz d) ρ1
def isOwn (ρ : En) (i : Nat) : Prop := ∃ s, ρ[i]? = some (some s) ∧ s.own = true
theorem rf_ixO {K : PySem.W.Frag} {i : Nat} {tb : TE} {db : DE} (hb : Rf C tb db) : Rf C (tOp (rIx K) (tVar i) tb) (fun ρ Q => isOwn ρ i ∧ xIxO i db ρ Q) := fun G H σ ρ QD Q R ⟨⟨s0, e0, o0⟩, q⟩ k => by
  obtain ⟨p, h1, _⟩ := R.ow i s0 e0 o0
  refine ⟨.ref p, h1, hb.go (QD := fun d' ρ1 => ∃ ds k d, (ρ1[i]? = some (some (.ow ds)) ∨ ρ1[i]? = some (some (.bg ds))) ∧ d' = .int k ∧ atI ds k = some d ∧ QD (.fz d) ρ1) R q fun v d' G1 H1 ρ1 R1 s1 hd q1 => ?_⟩
  obtain ⟨ds, n, d, hs, rfl, e, q2⟩ := q1
  cases (show v = _ from hd)
  have : ∃ vs, H1 p = some (.lst vs) ∧ Dats G1 ds vs := by
    rcases hs with hs | hs
    · obtain ⟨p', h1', ⟨vs, h2, h3⟩, _⟩ := R1.ow i _ hs rfl
      rw [h1] at h1'; cases h1'
      exact ⟨vs, h2, h3⟩
    · obtain ⟨p', h1', ⟨vs, h2, h3⟩, _⟩ := R1.ow i _ hs rfl
      rw [h1] at h1'; cases h1'
      exact ⟨vs, h2, h3⟩
  obtain ⟨vs, h2, h3⟩ := this
  obtain ⟨u, h4, h5⟩ := h3.atI e
  exact .inl ⟨p, vs, n, u, rfl, rfl, SqL.of h2, h4, k _ _ G1 H1 ρ1 R1 s1 (rvf h5) q2⟩
theorem d_ixO (i : Nat) {x : Str} {b : Expr} {tb : TE} {db : DE} {p pos : Pos} (hb : PV X C b tb db) (hs : PlainIx b := by exact fun _ _ => rfl) (hN : X.N[i]? = some x := by rfl) (hv : Vis X.env.scope x := by first | exact Or.inl rfl | exact Or.inr (Or.inl rfl) | exact Or.inr (Or.inr rfl))
    (hd : (x == ("__debug__" : Str)) = false := by decide) (hcd : (x == ("__classdict__" : Str)) = false := by decide) : PV X C (.Subscript (.Name x p) b pos) (tOp (rIx X.K) (tVar i) tb) (fun ρ Q => isOwn ρ i ∧ xIxO i db ρ Q) :=
  ⟨pe_ix ix_seq (pe_var hN hv hd hcd) hb.pe hs, rf_ixO hb.rf⟩
abbrev DO := En → (Option Int → En → Prop) → Prop
def RfP (C : FC) (to : TO) (t : DO) : Prop := ∀ (G H : Hp) (σ : L2.St) (ρ : En) (QD : Option Int → En → Prop) (Q : Option Int → Hp → Prop), Rep C G H σ ρ → t ρ QD →
  (∀ o G' H' ρ', Rep C G' H' σ ρ' → Same G G' → QD o ρ' → Q o H') → to σ H Q
structure POV (X : Cx) (C : FC) (e : Option Expr) (to : TO) (t : DO) : Prop where
  pe : PO X e to
  rf : RfP C to t
theorem do_none : POV X C none tNoPart (fun ρ Q => Q none ρ) := ⟨po_none, fun G H σ ρ QD Q R q k => k none G H ρ R (Same.refl G) q⟩
def xPart (t : DE) : DO := fun ρ Q => t ρ fun s ρ1 => match s.toD with
  | .int i => Q (some i) ρ1
  | _ => False
theorem do_some {e : Expr} {te : TE} {t : DE} (h : PV X C e te t) : POV X C (some e) (tPart te) (xPart t) := ⟨po_some h.pe, fun G H σ ρ QD Q R q k =>
  h.rf.go (QD := fun d ρ1 => match d with | .int i => QD (some i) ρ1 | _ => False) R q fun v d G1 H1 ρ1 R1 s1 hd q1 => by
    split at q1
    · rename_i i
      exact ⟨i, hd, k _ G1 H1 ρ1 R1 s1 q1⟩
    · exact q1.elim⟩
def cutD (xs : List D) (lo hi : Option Int) : List D := (xs.drop (HT.sIx xs.length 0 lo)).take (HT.sIx xs.length xs.length hi - HT.sIx xs.length 0 lo)
theorem Dats.cut {G : Hp} {ds : List D} {vs : List V} (h : Dats G ds vs) (lo hi : Option Int) : Dats G (cutD ds lo hi) (cutV vs lo hi) := by
  unfold cutD cutV
  rw [h.length]
  exact (h.drop _).take _
def xSl (a : DE) (lo hi : DO) : DE := fun ρ Q => a ρ fun s ρ1 => lo ρ1 fun l ρ2 => hi ρ2 fun h ρ3 => match s.toD with
  | .lst ds => Q (.ow (cutD ds l h)) ρ3
  | .tup ds => Q (.fz (.tup (cutD ds l h))) ρ3
  | _ => False
theorem d_sl {e : Expr} {lo hi : Option Expr} {te : TE} {tl th : TO} {t : DE} {dl dh : DO} {p2 pos : Pos} (h : PV X C e te t) (hl : POV X C lo tl dl) (hh : POV X C hi th dh) :
    PV X C (.Subscript e (.Slice lo hi none p2) pos) (tSl (fun x lo hi H Q => rSlL X.K x lo hi H Q ∨ rSlA X.K x lo hi H Q) te tl th) (xSl t dl dh) := by
  refine ⟨pe_slice (sl_list.or sl_tupA) h.pe hl.pe hh.pe, fun G H σ ρ QD Q R q k => ?_⟩
  refine h.rf.go (QD := fun d ρ1 => dl ρ1 fun l ρ2 => dh ρ2 fun h ρ3 => match d with | .lst ds => QD (.ow (cutD ds l h)) ρ3 | .tup ds => QD (.fz (.tup (cutD ds l h))) ρ3 | _ => False) R q fun v d G1 H1 ρ1 R1 s1 hd q1 => ?_
  refine hl.rf G1 H1 σ ρ1 _ _ R1 q1 fun l G2 H2 ρ2 R2 s2 q2 => ?_
  refine hh.rf G2 H2 σ ρ2 _ _ R2 q2 fun u G3 H3 ρ3 R3 s3 q3 => ?_
  have sm := (s1.trans s2).trans s3
  have hd3 := Dat.mono s3 d v (Dat.mono s2 d v hd)
  split at q3
  · rename_i ds
    obtain ⟨a, vs, rfl, h1, h2⟩ := hd3
    refine .inl ⟨a, vs, rfl, SqL.of (R3.sub _ _ h1), fun p hp => ?_⟩
    obtain ⟨R4, rv⟩ := R3.resL hp (h2.cut l u)
    exact k _ _ _ _ _ R4 sm rv q3
  · rename_i ds
    obtain ⟨a, vs, rfl, h1, h2⟩ := hd3
    refine .inr ⟨a, vs, rfl, SqT.of (R3.sub _ _ h1), fun e => ?_, fun _ p hp => ?_⟩
    · have ec : cutD ds l u = ds := by
        unfold cutD
        rw [h2.length, e.1, e.2]
        rw [← h2.length]
        simp
      rw [ec] at q3
      exact k _ _ _ _ _ R3 sm (rvf (d := .tup ds) ⟨a, vs, rfl, h1, h2⟩) q3
    · obtain ⟨R4, gs, rv⟩ := R3.resT hp (h2.cut l u)
      exact k _ _ _ _ _ R4 (sm.trans gs) rv q3
  · exact q3.elim
/-- l[::-1] -/
def xRevL (a : DE) : DE := fun ρ Q => a ρ fun s ρ1 => match s.toD with
  | .lst ds => Q (.ow ds.reverse) ρ1
  | _ => False
theorem d_revL {e : Expr} {te : TE} {t : DE} {k : Nat} {p1 p2 p3 pos : Pos} (h : PV X C e te t) : PV X C (.Subscript e (.Slice none none (some (.UnaryOp .USub (.Constant (.int 1) k p1) p2)) p3) pos) (tRevL X.K te) (xRevL t) := by
  refine ⟨pe_revL h.pe, fun G H σ ρ QD Q R q k => ?_⟩
  refine h.rf.go (QD := fun d ρ1 => match d with | .lst ds => QD (.ow ds.reverse) ρ1 | _ => False) R q fun v d G1 H1 ρ1 R1 s1 hd q1 => ?_
  split at q1
  · rename_i ds
    obtain ⟨a, vs, rfl, h1, h2⟩ := hd
    refine ⟨a, vs, rfl, SqL.of (R1.sub _ _ h1), fun p hp => ?_⟩
    obtain ⟨R2, rv⟩ := R1.resL hp h2.reverse
    exact k _ _ _ _ _ R2 s1 rv q1
  · exact q1.elim
end
end L3

namespace L3
open PySem PySem.Spec PyProof.Rows L2

section
variable {X : Cx} {C : FC}
/-! ### tests -/
def xTest (t : DE) : DT := fun ρ Q => t ρ fun s ρ1 => match s.toD with
  | .bl b => Q b ρ1
  | _ => False
theorem rf_test {te : TE} {t : DE} (h : Rf C te t) : RfT C (tTest te) (xTest t) := fun G H σ ρ QD Q R q k =>
  h.go (QD := fun d ρ1 => match d with | .bl b => QD b ρ1 | _ => False) R q fun v d G1 H1 ρ1 R1 s1 hd q1 => by
    split at q1
    · rename_i b
      exact ⟨b, hd, k b G1 H1 ρ1 R1 s1 q1⟩
    · exact q1.elim
theorem dt_cmp {op : CmpOp} {r : R2} {rd : DO2} {e1 e2 : Expr} {ta tb : TE} {a b : DE} {pos : Pos} (ho : OV X C (compareOp op) r rd) (ha : PV X C e1 ta a) (hb : PV X C e2 tb b) (hm : behindInMarks op e2 = false := by first | exact nomark _ | rfl) : PTV X C (.Compare e1 [op] [e2] pos) (tTest (tOp r ta tb)) (xTest (xOp rd a b)) :=
  ⟨pt_cmpR ho.op ha.pe hb.pe hm, rf_test (rf_op ho.rf ha.rf hb.rf)⟩
theorem dt_val {e : Expr} {te : TE} {t : DE} (h : PV X C e te t) (he : ∀ whole, isTrue e X.env whole = (do let v ← whole; standAt e.pos; holding [v] (truthy v)) := by intro _; rfl) : PTV X C e (tB te) (xTest t) :=
  ⟨pt_val h.pe he, fun G H σ ρ QD Q R q k => rf_test h.rf G H σ ρ QD Q R q k⟩
def xNot (t : DT) : DT := fun ρ Q => t ρ fun b ρ1 => Q (!b) ρ1
theorem dt_not {e : Expr} {tt : TT} {t : DT} {pos : Pos} (h : PTV X C e tt t) : PTV X C (.UnaryOp .Not e pos) (tNot tt) (xNot t) :=
  ⟨pt_not h.pe, fun G H σ ρ QD Q R q k => h.rf G H σ ρ _ _ R q fun b G1 H1 ρ1 R1 s1 q1 => k _ _ _ _ R1 s1 q1⟩
structure PWV (X : Cx) (C : FC) (e : Expr) (tt : TT) (t : DT) : Prop where
  pe : PW X e tt
  rf : RfT C tt t
theorem PWV.pt {e : Expr} {tt : TT} {t : DT} (h : PWV X C e tt t) : PTV X C e tt t := ⟨h.pe.pt, h.rf⟩
def xAnd (t u : DT) : DT := fun ρ Q => t ρ fun b ρ1 => if b = true then u ρ1 Q else Q false ρ1
def xOr (t u : DT) : DT := fun ρ Q => t ρ fun b ρ1 => if b = true then Q true ρ1 else u ρ1 Q
theorem rf_and {tt uu : TT} {t u : DT} (h1 : RfT C tt t) (h2 : RfT C uu u) : RfT C (tAnd tt uu) (xAnd t u) := fun G H σ ρ QD Q R q k =>
  h1 G H σ ρ _ _ R q fun b G1 H1 ρ1 R1 s1 q1 => by
    cases b with
    | true => exact h2 G1 H1 σ ρ1 _ _ R1 q1 fun b G2 H2 ρ2 R2 s2 q2 => k b G2 H2 ρ2 R2 (s1.trans s2) q2
    | false => exact k false G1 H1 ρ1 R1 s1 q1
theorem rf_or {tt uu : TT} {t u : DT} (h1 : RfT C tt t) (h2 : RfT C uu u) : RfT C (tOr tt uu) (xOr t u) := fun G H σ ρ QD Q R q k =>
  h1 G H σ ρ _ _ R q fun b G1 H1 ρ1 R1 s1 q1 => by
    cases b with
    | false => exact h2 G1 H1 σ ρ1 _ _ R1 q1 fun b G2 H2 ρ2 R2 s2 q2 => k b G2 H2 ρ2 R2 (s1.trans s2) q2
    | true => exact k true G1 H1 ρ1 R1 s1 q1
theorem dw_and1 {a : Expr} {tt : TT} {t : DT} {pos : Pos} (h : PTV X C a tt t) : PWV X C (.BoolOp .And [a] pos) tt t := ⟨pw_and1 h.pe, h.rf⟩
theorem dw_or1 {a : Expr} {tt : TT} {t : DT} {pos : Pos} (h : PTV X C a tt t) : PWV X C (.BoolOp .Or [a] pos) tt t := ⟨pw_or1 h.pe, h.rf⟩
theorem dw_and {a b : Expr} {rest : List Expr} {tt uu : TT} {t u : DT} {pos : Pos} (h : PTV X C a tt t) (h2 : PWV X C (.BoolOp .And (b :: rest) pos) uu u) : PWV X C (.BoolOp .And (a :: b :: rest) pos) (tAnd tt uu) (xAnd t u) := ⟨pw_and h.pe h2.pe, rf_and h.rf h2.rf⟩
theorem dw_or {a b : Expr} {rest : List Expr} {tt uu : TT} {t u : DT} {pos : Pos} (h : PTV X C a tt t) (h2 : PWV X C (.BoolOp .Or (b :: rest) pos) uu u) : PWV X C (.BoolOp .Or (a :: b :: rest) pos) (tOr tt uu) (xOr t u) := ⟨pw_or h.pe h2.pe, rf_or h.rf h2.rf⟩
/-- as values; all but the last are truths -/
def xAndV (t u : DE) : DE := fun ρ Q => t ρ fun s ρ1 => match s.toD with
  | .bl b => if b = true then u ρ1 Q else Q (.fz (.bl false)) ρ1
  | _ => False
def xOrV (t u : DE) : DE := fun ρ Q => t ρ fun s ρ1 => match s.toD with
  | .bl b => if b = true then Q (.fz (.bl true)) ρ1 else u ρ1 Q
  | _ => False
def xNotV (t : DE) : DE := fun ρ Q => t ρ fun s ρ1 => match s.toD with
  | .bl b => Q (.fz (.bl (!b))) ρ1
  | _ => False
theorem rf_andV {ta tb : TE} {t u : DE} (h1 : Rf C ta t) (h2 : Rf C tb u) : Rf C (tAndV ta tb) (xAndV t u) := fun G H σ ρ QD Q R q k =>
  h1.go (QD := fun d ρ1 => match d with | .bl b => if b = true then u ρ1 QD else QD (.fz (.bl false)) ρ1 | _ => False) R q fun v d G1 H1 ρ1 R1 s1 hd q1 => by
    split at q1
    · rename_i b
      refine ⟨b, hd, ?_⟩
      cases b with
      | true => exact h2 G1 H1 σ ρ1 _ _ R1 q1 fun v s G2 H2 ρ2 R2 s2 rv q2 => k v s G2 H2 ρ2 R2 (s1.trans s2) rv q2
      | false => exact k _ _ G1 H1 ρ1 R1 s1 (rvf (d := .bl false) rfl) q1
    · exact q1.elim
theorem rf_orV {ta tb : TE} {t u : DE} (h1 : Rf C ta t) (h2 : Rf C tb u) : Rf C (tOrV ta tb) (xOrV t u) := fun G H σ ρ QD Q R q k =>
  h1.go (QD := fun d ρ1 => match d with | .bl b => if b = true then QD (.fz (.bl true)) ρ1 else u ρ1 QD | _ => False) R q fun v d G1 H1 ρ1 R1 s1 hd q1 => by
    split at q1
    · rename_i b
      refine ⟨b, hd, ?_⟩
      cases b with
      | false => exact h2 G1 H1 σ ρ1 _ _ R1 q1 fun v s G2 H2 ρ2 R2 s2 rv q2 => k v s G2 H2 ρ2 R2 (s1.trans s2) rv q2
      | true => exact k _ _ G1 H1 ρ1 R1 s1 (rvf (d := .bl true) rfl) q1
    · exact q1.elim
theorem d_one {op} {a : Expr} {te : TE} {t : DE} {pos : Pos} (h : PV X C a te t) : PV X C (.BoolOp op [a] pos) te t := ⟨pe_one h.pe, h.rf⟩
theorem d_and {a b : Expr} {rest : List Expr} {ta tb : TE} {t u : DE} {pos : Pos} (h : PV X C a ta t) (h2 : PV X C (.BoolOp .And (b :: rest) pos) tb u) : PV X C (.BoolOp .And (a :: b :: rest) pos) (tAndV ta tb) (xAndV t u) := ⟨pe_and h.pe h2.pe, rf_andV h.rf h2.rf⟩
theorem d_or {a b : Expr} {rest : List Expr} {ta tb : TE} {t u : DE} {pos : Pos} (h : PV X C a ta t) (h2 : PV X C (.BoolOp .Or (b :: rest) pos) tb u) : PV X C (.BoolOp .Or (a :: b :: rest) pos) (tOrV ta tb) (xOrV t u) := ⟨pe_or h.pe h2.pe, rf_orV h.rf h2.rf⟩
theorem d_not {a : Expr} {ta : TE} {t : DE} {pos : Pos} (h : PV X C a ta t) : PV X C (.UnaryOp .Not a pos) (tNotV ta) (xNotV t) := ⟨pe_not h.pe, fun G H σ ρ QD Q R q k =>
  h.rf.go (QD := fun d ρ1 => match d with | .bl b => QD (.fz (.bl (!b))) ρ1 | _ => False) R q fun v d G1 H1 ρ1 R1 s1 hd q1 => by
    split at q1
    · rename_i b
      exact ⟨b, hd, k _ _ G1 H1 ρ1 R1 s1 (rvf (d := .bl (!b)) rfl) q1⟩
    · exact q1.elim⟩
def xIfE (c : DT) (t u : DE) : DE := fun ρ Q => c ρ fun b ρ1 => if b = true then t ρ1 Q else u ρ1 Q
theorem d_if {c a b : Expr} {tt : TT} {ta tb : TE} {tc : DT} {t u : DE} {pos : Pos} (hc : PTV X C c tt tc) (h : PV X C a ta t) (h2 : PV X C b tb u) : PV X C (.IfExp c a b pos) (tIf tt ta tb) (xIfE tc t u) :=
  ⟨pe_ifExp hc.pe h.pe h2.pe, fun G H σ ρ QD Q R q k => hc.rf G H σ ρ _ _ R q fun b G1 H1 ρ1 R1 s1 q1 => by
    cases b with
    | true => exact h.rf G1 H1 σ ρ1 _ _ R1 q1 fun v s G2 H2 ρ2 R2 s2 rv q2 => k v s G2 H2 ρ2 R2 (s1.trans s2) rv q2
    | false => exact h2.rf G1 H1 σ ρ1 _ _ R1 q1 fun v s G2 H2 ρ2 R2 s2 rv q2 => k v s G2 H2 ρ2 R2 (s1.trans s2) rv q2⟩
/-- a < b < c -/
def xChain (rd rd' : DO2) (a b c : DE) : DE := fun ρ Q => a ρ fun s ρ1 => b ρ1 fun s' ρ2 => rd s.toD s'.toD fun z => match z with
  | .fz (.bl k) => if k = true then c ρ2 fun s'' ρ3 => rd' s'.toD s''.toD fun z => Q z ρ3 else Q (.fz (.bl false)) ρ2
  | _ => False
theorem rf_chain {r r' : R2} {rd rd' : DO2} {ta tb tc : TE} {a b c : DE} (ho : RfO C r rd) (ho' : RfO C r' rd') (ha : Rf C ta a) (hb : Rf C tb b) (hc : Rf C tc c) : Rf C (tChain r r' ta tb tc) (xChain rd rd' a b c) := fun G H σ ρ QD Q R q k => by
  refine ha.go (QD := fun d ρ1 => b ρ1 fun s' ρ2 => rd d s'.toD fun z => match z with
    | .fz (.bl k) => if k = true then c ρ2 fun s'' ρ3 => rd' s'.toD s''.toD fun z => QD z ρ3 else QD (.fz (.bl false)) ρ2
    | _ => False) R q fun v d G1 H1 ρ1 R1 s1 hd q1 => ?_
  refine hb.go (QD := fun d' ρ2 => rd d d' fun z => match z with
    | .fz (.bl k) => if k = true then c ρ2 fun s'' ρ3 => rd' d' s''.toD fun z => QD z ρ3 else QD (.fz (.bl false)) ρ2
    | _ => False) R1 q1 fun v' d' G2 H2 ρ2 R2 s2 hd' q2 => ?_
  refine ho G2 H2 σ ρ2 v v' d d' _ _ R2 (Dat.mono s2 d v hd) hd' q2 fun z s G3 H3 R3 s3 rv q3 => ?_
  split at q3
  · rename_i k'
    refine ⟨k', rv, ?_⟩
    cases k' with
    | true =>
      refine hc.go (QD := fun d'' ρ3 => rd' d' d'' fun z => QD z ρ3) R3 q3 fun v'' d'' G4 H4 ρ4 R4 s4 hd'' q4 => ?_
      exact ho' G4 H4 σ ρ4 v' v'' d' d'' _ Q R4 (Dat.mono s4 _ _ (Dat.mono s3 _ _ hd')) hd'' q4 fun z s G5 H5 R5 s5 rv q5 => k z s G5 H5 ρ4 R5 ((((s1.trans s2).trans s3).trans s4).trans s5) rv q5
    | false => exact k _ _ G3 H3 ρ2 R3 ((s1.trans s2).trans s3) (rvf (d := .bl false) rfl) q3
  · exact q3.elim
theorem d_chain {op op' : CmpOp} {r r' : R2} {rd rd' : DO2} {e1 e2 e3 : Expr} {ta tb tc : TE} {a b c : DE} {pos : Pos} (ho : OV X C (compareOp op) r rd) (ho' : OV X C (compareOp op') r' rd') (ha : PV X C e1 ta a) (hb : PV X C e2 tb b) (hc : PV X C e3 tc c)
    (hm : lastMarks [op, op'] [e2, e3] = false := by with_unfolding_all rfl) : PV X C (.Compare e1 [op, op'] [e2, e3] pos) (tChain r r' ta tb tc) (xChain rd rd' a b c) :=
  ⟨pe_chain ho.op ho'.op ha.pe hb.pe hc.pe hm, rf_chain ho.rf ho'.rf ha.rf hb.rf hc.rf⟩
theorem dt_chain {op op' : CmpOp} {r r' : R2} {rd rd' : DO2} {e1 e2 e3 : Expr} {ta tb tc : TE} {a b c : DE} {pos : Pos} (ho : OV X C (compareOp op) r rd) (ho' : OV X C (compareOp op') r' rd') (ha : PV X C e1 ta a) (hb : PV X C e2 tb b) (hc : PV X C e3 tc c)
    (hm : lastMarks [op, op'] [e2, e3] = false := by with_unfolding_all rfl) : PTV X C (.Compare e1 [op, op'] [e2, e3] pos) (tTest (tChain r r' ta tb tc)) (xTest (xChain rd rd' a b c)) :=
  ⟨pt_chain ho.op ho'.op ha.pe hb.pe hc.pe hm, rf_test (rf_chain ho.rf ho'.rf ha.rf hb.rf hc.rf)⟩

/-! ### built-ins -/
abbrev DC := List D → (S → Prop) → Prop
def RfC (C : FC) (r : List V → Hp → VK → Prop) (rd : DC) : Prop := ∀ (G H : Hp) (σ : L2.St) (ρ : En) (vs : List V) (ds : List D) (QD : S → Prop) (Q : VK), Rep C G H σ ρ → Dats G ds vs → rd ds QD →
  (∀ v s G' H', Rep C G' H' σ ρ → Same G G' → RV C G' H' σ ρ s v → QD s → Q v H') → r vs H Q
structure CV (X : Cx) (C : FC) (f : Value) (r : List V → Hp → VK → Prop) (rd : DC) : Prop where
  op : CallR X f r
  rf : RfC C r rd
def xCB (rd : DC) (a : DA) : DE := fun ρ Q => a ρ fun ds ρ1 => rd ds fun s => Q s ρ1
theorem rf_cb {r : List V → Hp → VK → Prop} {rd : DC} {ta : TA} {a : DA} (hc : RfC C r rd) (ha : RfA C ta a) : Rf C (tCB r ta) (xCB rd a) := fun G H σ ρ QD Q R q k =>
  ha G H σ ρ _ _ R q fun vs ds G1 H1 ρ1 R1 s1 hd q1 => hc G1 H1 σ ρ1 vs ds _ Q R1 hd q1 fun v s G2 H2 R2 s2 rv q2 => k v s G2 H2 ρ1 R2 (s1.trans s2) rv q2
theorem d_callB {id : String} {x : Str} {p pos : Pos} {e : Expr} {es : List Expr} {r : List V → Hp → VK → Prop} {rd : DC} {ta : TA} {a : DA} (hc : CV X C (.builtin id) r rd) (hg : Gl X x) (hm : X.mg x = none) (hv : bootBuiltins x = some (.builtin id)) (ha : PAV X C (e :: es) ta a)
    (hn : x ≠ "__name__" := by decide) (hdb : (x == ("__debug__" : Str)) = false := by decide) (he : starEach (e :: es) X.env = (false, eval e X.env) :: starEach es X.env := by rfl) (hpl : (backTo pos (starEach es X.env)).any (·.1) = false := by rfl) :
    PV X C (.Call (.Name x p) (e :: es) [] pos) (tCB r ta) (xCB rd a) := ⟨pe_callB hc.op hg hm hv ha.pe hn hdb he hpl, rf_cb hc.rf ha.rf⟩
theorem d_callTy {T : String} {x : Str} {p pos : Pos} {e : Expr} {es : List Expr} {r : List V → Hp → VK → Prop} {rd : DC} {ta : TA} {a : DA} (hc : CV X C (.type T) r rd) (hg : Gl X x) (hm : X.mg x = none) (hv : bootBuiltins x = some (.type T)) (ha : PAV X C (e :: es) ta a)
    (hn : x ≠ "__name__" := by decide) (hdb : (x == ("__debug__" : Str)) = false := by decide) (he : starEach (e :: es) X.env = (false, eval e X.env) :: starEach es X.env := by rfl) (hpl : (backTo pos (starEach es X.env)).any (·.1) = false := by rfl) :
    PV X C (.Call (.Name x p) (e :: es) [] pos) (tCB r ta) (xCB rd a) := ⟨pe_callTy hc.op hg hm hv ha.pe hn hdb he hpl, rf_cb hc.rf ha.rf⟩
theorem Dats.one {G : Hp} {d : D} {vs : List V} (h : Dats G [d] vs) : ∃ v, vs = [v] ∧ Dat G d v := by
  obtain ⟨v, r, rfl, h1, h2⟩ := h
  cases (show r = [] from h2)
  exact ⟨v, rfl, h1⟩
theorem Dats.two {G : Hp} {d e : D} {vs : List V} (h : Dats G [d, e] vs) : ∃ v u, vs = [v, u] ∧ Dat G d v ∧ Dat G e u := by
  obtain ⟨v, r, rfl, h1, h2⟩ := h
  obtain ⟨u, rfl, h3⟩ := Dats.one h2
  exact ⟨v, u, rfl, h1, h3⟩
def xLen : DC := fun ds Q => match ds with
  | [.lst xs] => Q (.fz (.int xs.length))
  | [.tup xs] => Q (.fz (.int xs.length))
  | _ => False
theorem c_len : CV X C (.builtin "len") (fun xs H Q => ∃ p ys, xs = [.ref p] ∧ (SqL X.K H p ys ∨ SqT X.K H p ys) ∧ Q (.int ys.length) H) xLen := ⟨call_len_seq, fun G H σ ρ vs ds QD Q R hd q k => by
  unfold xLen at q
  split at q
  · rename_i xs
    obtain ⟨v, rfl, a, us, rfl, h1, h2⟩ := hd.one
    refine ⟨a, us, rfl, .inl (SqL.of (R.sub _ _ h1)), ?_⟩
    rw [← h2.length]
    exact k _ _ G H R (Same.refl G) (rvf (d := .int _) rfl) q
  · rename_i xs
    obtain ⟨v, rfl, a, us, rfl, h1, h2⟩ := hd.one
    refine ⟨a, us, rfl, .inr (SqT.of (R.sub _ _ h1)), ?_⟩
    rw [← h2.length]
    exact k _ _ G H R (Same.refl G) (rvf (d := .int _) rfl) q
  · exact q.elim⟩
/-- len of an own slot, that stays -/
theorem d_lenO (i : Nat) {x : Str} {p p2 pos : Pos} (hg : Gl X "len") (hm : X.mg "len" = none) (hN : X.N[i]? = some x := by rfl) (hv : Vis X.env.scope x := by first | exact Or.inl rfl | exact Or.inr (Or.inl rfl) | exact Or.inr (Or.inr rfl))
    (hd : (x == ("__debug__" : Str)) = false := by decide) (hcd : (x == ("__classdict__" : Str)) = false := by decide) (hs : starEach [.Name x p2] X.env = (false, eval (.Name x p2) X.env) :: starEach [] X.env := by rfl) (hpl : (backTo pos (starEach [] X.env)).any (·.1) = false := by rfl) :
    PV X C (.Call (.Name "len" p) [.Name x p2] [] pos) (tCB (fun xs H Q => ∃ p ys, xs = [.ref p] ∧ (SqL X.K H p ys ∨ SqT X.K H p ys) ∧ Q (.int ys.length) H) (tCons (tVar i) tNil)) (fun ρ Q => ∃ ds, (ρ[i]? = some (some (.ow ds)) ∨ ρ[i]? = some (some (.bg ds))) ∧ Q (.fz (.int ds.length)) ρ) := by
  refine ⟨pe_callB call_len_seq hg hm PySem.boot_len (pa_cons (pe_var hN hv hd hcd) pa_nil hs) (by decide) (by decide) hs hpl, fun G H σ ρ QD Q R ⟨ds, hs, q⟩ k => ?_⟩
  have : ∃ p vs, σ[i]? = some (some (.ref p)) ∧ H p = some (.lst vs) ∧ Dats G ds vs := by
    rcases hs with hs | hs
    · obtain ⟨p', h1', ⟨vs, h2, h3⟩, _⟩ := R.ow i _ hs rfl
      exact ⟨_, vs, h1', h2, h3⟩
    · obtain ⟨p', h1', ⟨vs, h2, h3⟩, _⟩ := R.ow i _ hs rfl
      exact ⟨_, vs, h1', h2, h3⟩
  obtain ⟨a, vs, h1, h2, h3⟩ := this
  refine ⟨.ref a, h1, a, vs, rfl, .inl (SqL.of h2), ?_⟩
  rw [← h3.length]
  exact k _ _ G H ρ R (Same.refl G) (rvf (d := .int _) rfl) q
def xSum : DC := fun ds Q => ∃ ns : List Int, ds = [.lst (ns.map D.int)] ∧ Q (.fz (.int ns.sum))
theorem c_sum (hc : X.calm = true) : CV X C (.builtin "sum") (rSum X.K) xSum := ⟨cr_sum hc, fun G H σ ρ vs ds QD Q R hd ⟨ns, e, q⟩ k => by
  subst e
  obtain ⟨v, rfl, a, us, rfl, h1, h2⟩ := hd.one
  cases h2.ints
  exact ⟨a, ns, rfl, SqL.of (R.sub _ _ h1), k _ _ G H R (Same.refl G) (rvf (d := .int _) rfl) q⟩⟩
def xMaxL : DC := fun ds Q => ∃ ns : List Int, ds = [.lst (ns.map D.int)] ∧ ns ≠ [] ∧ ∀ m, m ∈ ns → (∀ y ∈ ns, y ≤ m) → Q (.fz (.int m))
theorem c_max (hc : X.calm = true) : CV X C (.builtin "max") (rMax X.K) xMaxL := ⟨cr_max hc, fun G H σ ρ vs ds QD Q R hd ⟨ns, e, ne, q⟩ k => by
  subst e
  obtain ⟨v, rfl, a, us, rfl, h1, h2⟩ := hd.one
  cases h2.ints
  exact ⟨a, ns, rfl, SqL.of (R.sub _ _ h1), List.length_pos_iff.mpr ne, fun m hm hle => k _ _ G H R (Same.refl G) (rvf (d := .int _) rfl) (q m hm hle)⟩⟩
def xMax2 : DC := fun ds Q => match ds with
  | [.int i, .int j] => Q (.fz (.int (if j > i then j else i)))
  | _ => False
def xMin2 : DC := fun ds Q => match ds with
  | [.int i, .int j] => Q (.fz (.int (if j < i then j else i)))
  | _ => False
theorem c_max2 (hc : X.calm = true) : CV X C (.builtin "max") (fun xs H Q => ∃ i j, xs = [.int i, .int j] ∧ Q (.int (if j > i then j else i)) H) xMax2 := ⟨call_max2 hc, fun G H σ ρ vs ds QD Q R hd q k => by
  unfold xMax2 at q
  split at q
  · rename_i i j
    obtain ⟨v, u, rfl, h1, h2⟩ := hd.two
    cases (show v = _ from h1)
    cases (show u = _ from h2)
    exact ⟨i, j, rfl, k _ _ G H R (Same.refl G) (rvf (d := .int _) rfl) q⟩
  · exact q.elim⟩
theorem c_min2 (hc : X.calm = true) : CV X C (.builtin "min") (fun xs H Q => ∃ i j, xs = [.int i, .int j] ∧ Q (.int (if j < i then j else i)) H) xMin2 := ⟨call_min2 hc, fun G H σ ρ vs ds QD Q R hd q k => by
  unfold xMin2 at q
  split at q
  · rename_i i j
    obtain ⟨v, u, rfl, h1, h2⟩ := hd.two
    cases (show v = _ from h1)
    cases (show u = _ from h2)
    exact ⟨i, j, rfl, k _ _ G H R (Same.refl G) (rvf (d := .int _) rfl) q⟩
  · exact q.elim⟩
def xAll : DC := fun ds Q => ∃ bs : List Bool, ds = [.lst (bs.map D.bl)] ∧ Q (.fz (.bl (bs.all id)))
theorem c_all (hc : X.calm = true) : CV X C (.builtin "all") (rAll X.K) xAll := ⟨cr_all hc, fun G H σ ρ vs ds QD Q R hd ⟨ns, e, q⟩ k => by
  subst e
  obtain ⟨v, rfl, a, us, rfl, h1, h2⟩ := hd.one
  cases h2.bls
  exact ⟨a, ns, rfl, SqL.of (R.sub _ _ h1), k _ _ G H R (Same.refl G) (rvf (d := .bl _) rfl) q⟩⟩
def xIntOf : DC := fun ds Q => match ds with
  | [.int i] => Q (.fz (.int i))
  | [.bl b] => Q (.fz (.int (if b then 1 else 0)))
  | _ => False
theorem c_int : CV X C (.type "int") (fun xs H Q => (∃ i, xs = [.int i] ∧ Q (.int i) H) ∨ ∃ k, xs = [.bl k] ∧ Q (.int (if k then 1 else 0)) H) xIntOf := ⟨call_int1, fun G H σ ρ vs ds QD Q R hd q k => by
  unfold xIntOf at q
  split at q
  · rename_i i
    obtain ⟨v, rfl, h1⟩ := hd.one
    cases (show v = _ from h1)
    exact .inl ⟨i, rfl, k _ _ G H R (Same.refl G) (rvf (d := .int _) rfl) q⟩
  · rename_i i
    obtain ⟨v, rfl, h1⟩ := hd.one
    cases (show v = _ from h1)
    exact .inr ⟨i, rfl, k _ _ G H R (Same.refl G) (rvf (d := .int _) rfl) q⟩
  · exact q.elim⟩
def xListOf : DC := fun ds Q => match ds with
  | [.lst xs] => Q (.ow xs)
  | [.tup xs] => Q (.ow xs)
  | _ => False
theorem c_list : CV X C (.type "list") (fun xs H Q => ∃ p ys, xs = [.ref p] ∧ (SqL X.K H p ys ∨ SqT X.K H p ys) ∧ ∀ l, H l = none → Q (.ref l) (upd H l (.lst ys))) xListOf := ⟨call_list_of, fun G H σ ρ vs ds QD Q R hd q k => by
  unfold xListOf at q
  split at q
  · rename_i xs
    obtain ⟨v, rfl, a, us, rfl, h1, h2⟩ := hd.one
    refine ⟨a, us, rfl, .inl (SqL.of (R.sub _ _ h1)), fun l hl => ?_⟩
    obtain ⟨R2, rv⟩ := R.resL hl h2
    exact k _ _ _ _ R2 (Same.refl G) rv q
  · rename_i xs
    obtain ⟨v, rfl, a, us, rfl, h1, h2⟩ := hd.one
    refine ⟨a, us, rfl, .inr (SqT.of (R.sub _ _ h1)), fun l hl => ?_⟩
    obtain ⟨R2, rv⟩ := R.resL hl h2
    exact k _ _ _ _ R2 (Same.refl G) rv q
  · exact q.elim⟩
def xTupOf : DC := fun ds Q => match ds with
  | [.lst xs] => Q (.fz (.tup xs))
  | [.tup xs] => Q (.fz (.tup xs))
  | _ => False
theorem c_tuple : CV X C (.type "tuple") (fun xs H Q => ∃ p ys, xs = [.ref p] ∧ ((SqL X.K H p ys ∧ ∀ l, H l = none → Q (.ref l) (upd H l (.tup ys))) ∨ (SqT X.K H p ys ∧ Q (.ref p) H))) xTupOf := ⟨call_tuple_of, fun G H σ ρ vs ds QD Q R hd q k => by
  unfold xTupOf at q
  split at q
  · rename_i xs
    obtain ⟨v, rfl, a, us, rfl, h1, h2⟩ := hd.one
    refine ⟨a, us, rfl, .inl ⟨SqL.of (R.sub _ _ h1), fun l hl => ?_⟩⟩
    obtain ⟨R2, gs, rv⟩ := R.resT hl h2
    exact k _ _ _ _ R2 gs rv q
  · rename_i xs
    obtain ⟨v, rfl, a, us, rfl, h1, h2⟩ := hd.one
    exact ⟨a, us, rfl, .inr ⟨SqT.of (R.sub _ _ h1), k _ _ G H R (Same.refl G) (rvf (d := .tup xs) ⟨a, us, rfl, h1, h2⟩) q⟩⟩
  · exact q.elim⟩

/-! ### statements -/
def xNext : DS := fun D ρ => D.nx ρ
def xSeq (t u : DS) : DS := fun D ρ => t { D with nx := u D } ρ
theorem ds_nil : PSsV X C [] tNext xNext := ⟨pss_nil, fun G H σ ρ DD E R q k => k.nx G H σ ρ R (Same.refl G) q⟩
theorem ds_cons {st : Stmt} {rest : List Stmt} {ts us : TS} {t u : DS} (h : PSV X C st ts t) (h2 : PSsV X C rest us u) : PSsV X C (st :: rest) (tSeq ts us) (xSeq t u) :=
  ⟨pss_cons h.pe h2.pe, fun G H σ ρ DD E R q k => h.rf G H σ ρ { DD with nx := u DD } { E with nx := us E } R q ⟨fun G' H' σ' ρ' R' s' q' => h2.rf G' H' σ' ρ' DD E R' q' (k.mono s'), k.bk, k.ct, k.rt⟩⟩
theorem ds_one {st : Stmt} {ts : TS} {t : DS} (h : PSV X C st ts t) : PSsV X C [st] ts t := ⟨pss_one h.pe, h.rf⟩
def xExpr (te : DE) : DS := fun D ρ => te ρ fun _ ρ1 => D.nx ρ1
theorem ds_expr {e : Expr} {te : TE} {t : DE} {pos : Pos} (h : PV X C e te t) (hs : swapsWith e none pos.line X.env = pure false := by rfl) : PSV X C (.Expr e pos) (tDrop te) (xExpr t) :=
  ⟨ps_expr h.pe hs, fun G H σ ρ DD E R q k => h.rf G H σ ρ _ _ R q fun v s G1 H1 ρ1 R1 s1 rv q1 => k.nx G1 H1 σ ρ1 R1 s1 q1⟩
def xRet (te : DE) : DS := fun D ρ => te ρ D.rt
theorem ds_ret {e : Expr} {te : TE} {t : DE} {pos : Pos} (h : PV X C e te t) : PSV X C (.Return (some e) pos) (tRet te) (xRet t) :=
  ⟨ps_ret h.pe, fun G H σ ρ DD E R q k => h.rf G H σ ρ _ _ R q fun v s G1 H1 ρ1 R1 s1 rv q1 => k.rt v s G1 H1 σ ρ1 R1 s1 rv q1⟩
def xIf (c : DT) (t u : DS) : DS := fun D ρ => c ρ fun b ρ1 => if b = true then t D ρ1 else u D ρ1
theorem ds_if {c : Expr} {a b : List Stmt} {tt : TT} {tc : DT} {ta tb : TS} {t u : DS} {pos : Pos} (hc : PTV X C c tt tc) (h : PSsV X C a ta t) (h2 : PSsV X C b tb u) : PSV X C (.If c a b pos) (tIfS tt ta tb) (xIf tc t u) :=
  ⟨ps_if hc.pe h.pe h2.pe, fun G H σ ρ DD E R q k => hc.rf G H σ ρ _ _ R q fun b G1 H1 ρ1 R1 s1 q1 => by
    cases b with
    | true => exact h.rf G1 H1 σ ρ1 DD E R1 q1 (k.mono s1)
    | false => exact h2.rf G1 H1 σ ρ1 DD E R1 q1 (k.mono s1)⟩
def xNever : DS := fun _ _ => False
theorem ds_never {st : Stmt} : PSV X C st tNever xNever := ⟨ps_never, fun _ _ _ _ _ _ _ q _ => q.elim⟩
/-- name = e -/
def xSet (i : Nat) (t : DE) : DS := fun D ρ => t ρ fun s ρ1 => D.nx (ρ1.set i (some s))
theorem rf_set {i : Nat} {te : TE} {t : DE} (h : Rf C te t) : RfS C (tAsg te (gName i)) (xSet i t) := fun G H σ ρ DD E R q k =>
  h G H σ ρ _ _ R q fun v s G1 H1 ρ1 R1 s1 rv q1 => k.nx G1 H1 _ _ (R1.set i rv) s1 q1
theorem ds_set (i : Nat) {x : Str} {e : Expr} {te : TE} {t : DE} {pos' pos : Pos} (hN : X.N.Nodup) (h : PV X C e te t) (hi : X.N[i]? = some x := by rfl) (hx : Loc X.env.scope x := by first | exact Or.inl rfl | exact Or.inr rfl)
    (hs : swapsWith e (some (.Name x pos')) pos.line X.env = pure false := by rfl) (hf : X.fn x = true ∨ X.env.scope.names.lookup x = some .local := by first | exact .inl rfl | exact .inr rfl) : PSV X C (.Assign [.Name x pos'] e pos) (tAsg te (gName i)) (xSet i t) :=
  ⟨ps_set hN hi hx h.pe hs hf, rf_set h.rf⟩
/-! ### targets -/
abbrev DG := D → En → (En → Prop) → Prop
structure PGV (X : Cx) (C : FC) (tg : Expr) (g : TG) (gd : DG) (is : List Nat) : Prop where
  pe : PG X tg g
  rf : ∀ (G H : Hp) (σ : L2.St) (ρ : En) (v : V) (d : D) (QD : En → Prop) (Q : L2.St → Hp → Prop), Rep C G H σ ρ → Dat G d v → gd d ρ QD →
    (∀ G' H' σ' ρ', Rep C G' H' σ' ρ' → Same G G' → H' = H → (∀ vs : List Nat, (∀ k ∈ is, k ∈ vs) → wipe σ' vs = wipe σ vs) → QD ρ' → Q σ' H') → g v σ H Q
def xName (i : Nat) : DG := fun d ρ Q => Q (ρ.set i (some (.fz d)))
theorem wipe_set {σ : L2.St} {i : Nat} {x : Option V} : ∀ {vs : List Nat}, i ∈ vs → wipe (σ.set i x) vs = wipe σ vs
  | v :: vs, h => by
    unfold wipe
    by_cases e : i = v
    · subst e
      by_cases h2 : i ∈ vs
      · rw [wipe_set h2]
      · have : ∀ {ws : List Nat}, i ∉ ws → wipe (σ.set i x) ws = (wipe σ ws).set i x := by
          intro ws
          induction ws with
          | nil => intro _; rfl
          | cons w ws ih =>
            intro hn
            simp only [List.mem_cons, not_or] at hn
            unfold wipe
            rw [ih hn.2, List.set_comm _ _ hn.1]
        rw [this h2, List.set_set]
    · rw [wipe_set ((List.mem_cons.mp h).resolve_left e)]
theorem dg_name (i : Nat) {x : Str} {pos : Pos} (hN : X.N.Nodup) (hi : X.N[i]? = some x := by rfl) (hx : Loc X.env.scope x := by first | exact Or.inl rfl | exact Or.inr rfl)
    (hf : X.fn x = true ∨ X.env.scope.names.lookup x = some .local := by first | exact .inl rfl | exact .inr rfl) : PGV X C (.Name x pos) (gName i) (xName i) [i] :=
  ⟨pg_name hN hi hx hf, fun G H σ ρ v d QD Q R hd q k => k G H _ _ (R.set i (s := .fz d) hd) (Same.refl G) rfl (fun vs hv => wipe_set (hv i (by simp))) q⟩
abbrev DGs := List D → En → (En → Prop) → Prop
structure PGsV (X : Cx) (C : FC) (ts : List Expr) (g : TGs) (gd : DGs) (is : List Nat) : Prop where
  pe : PGs X ts g
  rf : ∀ (G H : Hp) (σ : L2.St) (ρ : En) (vs : List V) (ds : List D) (QD : En → Prop) (Q : L2.St → Hp → Prop), Rep C G H σ ρ → Dats G ds vs → gd ds ρ QD →
    (∀ G' H' σ' ρ', Rep C G' H' σ' ρ' → Same G G' → H' = H → (∀ vs : List Nat, (∀ k ∈ is, k ∈ vs) → wipe σ' vs = wipe σ vs) → QD ρ' → Q σ' H') → g vs σ H Q
def xGNil : DGs := fun ds ρ Q => match ds with
  | [] => Q ρ
  | _ => False
def xGCons (g : DG) (gs : DGs) : DGs := fun ds ρ Q => match ds with
  | d :: r => g d ρ fun ρ1 => gs r ρ1 Q
  | [] => False
theorem dgs_nil : PGsV X C [] gNil xGNil [] := ⟨pgs_nil, fun G H σ ρ vs ds QD Q R hd q k => by
  unfold xGNil at q
  split at q
  · exact ⟨hd, k G H σ ρ R (Same.refl G) rfl (fun _ _ => rfl) q⟩
  · exact q.elim⟩
theorem dgs_cons {e : Expr} {es : List Expr} {g : TG} {gs : TGs} {gd : DG} {gsd : DGs} {is js : List Nat} (h1 : PGV X C e g gd is) (h2 : PGsV X C es gs gsd js) (hs : (assignEach (e :: es) X.env).map (·.2) = assign e X.env :: (assignEach es X.env).map (·.2) := by rfl) :
    PGsV X C (e :: es) (gCons g gs) (xGCons gd gsd) (is ++ js) := ⟨pgs_cons h1.pe h2.pe hs, fun G H σ ρ vs ds QD Q R hd q k => by
  unfold xGCons at q
  split at q
  · rename_i d r
    obtain ⟨v, us, rfl, hd1, hd2⟩ := hd
    refine ⟨v, us, rfl, h1.rf G H σ ρ v d _ _ R hd1 q fun G1 H1 σ1 ρ1 R1 s1 e1 w1 q1 => ?_⟩
    exact h2.rf G1 H1 σ1 ρ1 us r _ _ R1 (Dats.mono s1 _ _ hd2) q1 fun G2 H2 σ2 ρ2 R2 s2 e2 w2 q2 => k G2 H2 σ2 ρ2 R2 (s1.trans s2) (e2.trans e1)
      (fun vs hv => (w2 vs fun k hk => hv k (List.mem_append_right _ hk)).trans (w1 vs fun k hk => hv k (List.mem_append_left _ hk))) q2
  · exact q.elim⟩
def xGTup (n : Nat) (g : DGs) : DG := fun d ρ Q => match d with
  | .tup ds => ds.length = n ∧ g ds ρ Q
  | _ => False
theorem dg_tup {es : List Expr} {k : Nat} {g : TGs} {gd : DGs} {n : Nat} {is : List Nat} {pos : Pos} (hc : X.calm = true) (h : PGsV X C es g gd is)
    (hn : (assignEach es X.env).length = n := by rfl) (hst : (assignEach es X.env).findIdx? (·.1) = none := by rfl) : PGV X C (.Tuple es k pos) (gTup X.K n g) (xGTup n gd) is :=
  ⟨pg_tup hc h.pe hn hst, fun G H σ ρ v d QD Q R hd q kk => by
    unfold xGTup at q
    split at q
    · rename_i ds
      obtain ⟨a, vs, rfl, h1, h2⟩ := hd
      exact ⟨a, vs, rfl, SqT.of (R.sub _ _ h1), by rw [← h2.length]; exact q.1, h.rf G H σ ρ vs ds QD Q R h2 q.2 kk⟩
    · exact q.elim⟩
/-- target = e, of any form -/
def xAsg (t : DE) (g : DG) : DS := fun D ρ => t ρ fun s ρ1 => g s.toD ρ1 D.nx
theorem ds_asg {tg e : Expr} {te : TE} {t : DE} {g : TG} {gd : DG} {is : List Nat} {pos : Pos} (h : PV X C e te t) (hg : PGV X C tg g gd is) (hs : swapsWithSole [tg] e pos.line X.env = pure false := by rfl) (hw : swappedStores [tg] e X.env = pure none := by rfl)
    (h1 : (assignEach [tg] X.env).map (·.2) = [assign tg X.env] := by rfl) : PSV X C (.Assign [tg] e pos) (tAsg te g) (xAsg t gd) :=
  ⟨ps_asg h.pe hg.pe hs hw h1, fun G H σ ρ DD E R q k => h.rf.go (QD := fun d ρ1 => gd d ρ1 DD.nx) R q fun v d G1 H1 ρ1 R1 s1 hd q1 =>
    hg.rf G1 H1 σ ρ1 v d _ _ R1 hd q1 fun G2 H2 σ2 ρ2 R2 s2 _ _ q2 => k.nx G2 H2 σ2 ρ2 R2 (s1.trans s2) q2⟩
/-- x[k] = e, x an own slot -/
def xStore (i : Nat) (te ti : DE) : DS := fun Z ρ => te ρ fun s ρ1 => isOwn ρ1 i ∧ ti ρ1 fun s' ρ2 => ∃ (ds : List D) (k : Int) (j : Nat), s'.toD = .int k ∧ ixN ds.length k = some j ∧
  ((ρ2[i]? = some (some (.ow ds)) ∧ Z.nx (ρ2.set i (some (.ow (ds.set j s.toD))))) ∨ (ρ2[i]? = some (some (.bg ds)) ∧ Z.nx (ρ2.set i (some (.bg (ds.set j s.toD))))))
/-- the own object of a slot changes -/
theorem Rep.write {C : FC} {G H : Hp} {σ : L2.St} {ρ : En} (R : Rep C G H σ ρ) {i : Nat} {s s' : S} {p : Addr} {o : HO} (e : ρ[i]? = some (some s)) (os : s.own = true) (hp : σ[i]? = some (some (.ref p))) (os' : s'.own = true) (eb : s'.isBg = s.isBg) (h : OwnAt G (upd H p o) p s') :
    Rep C G (upd H p o) σ (ρ.set i (some s')) := by
  obtain ⟨p', h1, h2, h3, h4⟩ := R.ow i s e os
  rw [hp] at h1; cases h1
  have hi : i < ρ.length := (List.getElem?_eq_some_iff.mp e).1
  obtain ⟨o0, ho0, pl0⟩ := plain_own h2
  refine ⟨by rw [List.length_set]; exact R.len, fun b x q => ?_, R.g0, fun b x q z => ?_, R.new, fun b q => ?_, fun j d q => ?_, fun j s2 q o2 => ?_, fun j k s1 s2 q ne e1 o1 e2 o2 z1 z2 => ?_, R.nt, tabs_but R.tab ho0 pl0 fun b hb => upd_ne hb⟩
  · have : b ≠ p := fun z => by subst z; rw [h3] at q; cases q
    rw [upd_ne this]; exact R.sub b x q
  · have : b ≠ p := fun z' => by
      subst z'
      rcases h4 with ⟨h4, _⟩ | ⟨h4, _⟩
      · rw [h4] at q; cases q
      · exact z h4
    rw [upd_ne this]; exact R.keep b x q z
  · obtain ⟨a, b', c⟩ := R.bl b q
    refine ⟨a, b', ?_⟩
    by_cases z : b = p
    · subst z
      have hb : s'.isBg = true := by
        rw [eb]
        rcases h4 with ⟨h4, _⟩ | ⟨_, h4⟩
        · exact absurd h4 b'
        · exact h4
      cases s' with
      | bg ds => obtain ⟨vs, e1, _⟩ := h; exact ⟨vs, e1⟩
      | _ => cases hb
    · rw [upd_ne z]; exact c
  · rcases get_set q with ⟨rfl, q'⟩ | ⟨hj, q'⟩
    · subst q'; cases os'
    · exact R.fz j d q'
  · rcases get_set q with ⟨rfl, q'⟩ | ⟨hj, q'⟩
    · subst q'
      refine ⟨p, hp, h, h3, ?_⟩
      rw [eb]; exact h4
    · obtain ⟨q1, z1, z2, z3, z4⟩ := R.ow j s2 q' o2
      have : q1 ≠ p := fun z => by subst z; exact R.ap i j s s2 q1 (Ne.symm hj) e os q' o2 hp z1
      exact ⟨q1, z1, z2.mono (Same.refl G) (upd_ne this), z3, z4⟩
  · rcases get_set e1 with ⟨rfl, e1'⟩ | ⟨hj, e1'⟩
    · rcases get_set e2 with ⟨rfl, e2'⟩ | ⟨hk, e2'⟩
      · exact ne rfl
      · exact R.ap j k s s2 q ne e os e2' o2 z1 z2
    · rcases get_set e2 with ⟨rfl, e2'⟩ | ⟨hk, e2'⟩
      · exact R.ap j k s1 s q ne e1' o1 e os z1 z2
      · exact R.ap j k s1 s2 q ne e1' o1 e2' o2 z1 z2
theorem ds_store (i : Nat) {x : Str} {b e : Expr} {te tb : TE} {t tt : DE} {p0 p1 pos : Pos} (h : PV X C e te t) (hb : PV X C b tb tt) (hN : X.N[i]? = some x := by rfl) (hv : Vis X.env.scope x := by first | exact Or.inl rfl | exact Or.inr (Or.inl rfl) | exact Or.inr (Or.inr rfl))
    (hd : (x == ("__debug__" : Str)) = false := by decide) (hcd : (x == ("__classdict__" : Str)) = false := by decide)
    (ha : ∀ v, assign (.Subscript (.Name x p0) b p1) X.env v = (do
      let ov ← holding [v] (eval (.Name x p0) X.env)
      let iv ← holding [v, ov] (eval b X.env)
      standAt p1
      holding [v, ov, iv] (setItem ov iv v)
      release [v, ov, iv] []) := by intro _; rfl)
    (hs : swapsWithSole [.Subscript (.Name x p0) b p1] e pos.line X.env = pure false := by rfl) (hw : swappedStores [.Subscript (.Name x p0) b p1] e X.env = pure none := by rfl)
    (h1 : (assignEach [.Subscript (.Name x p0) b p1] X.env).map (·.2) = [assign (.Subscript (.Name x p0) b p1) X.env] := by rfl) :
    PSV X C (.Assign [.Subscript (.Name x p0) b p1] e pos) (tAsg te (gSub (tVar i) tb rSetL)) (xStore i t tt) := by
  refine ⟨ps_asg h.pe (pg_sub (pe_var hN hv hd hcd) hb.pe set_list ha) hs hw h1, fun G H σ ρ DD E R q k => ?_⟩
  refine h.rf.go (QD := fun d ρ1 => isOwn ρ1 i ∧ tt ρ1 fun s' ρ2 => ∃ (ds : List D) (k : Int) (j : Nat), s'.toD = .int k ∧ ixN ds.length k = some j ∧
    ((ρ2[i]? = some (some (.ow ds)) ∧ DD.nx (ρ2.set i (some (.ow (ds.set j d))))) ∨ (ρ2[i]? = some (some (.bg ds)) ∧ DD.nx (ρ2.set i (some (.bg (ds.set j d))))))) R q fun v d G1 H1 ρ1 R1 s1 hd1 q1 => ?_
  obtain ⟨⟨s0, e0, o0⟩, q1⟩ := q1
  obtain ⟨p, hp, _⟩ := R1.ow i s0 e0 o0
  refine ⟨.ref p, hp, hb.rf.go (QD := fun d' ρ2 => ∃ (ds : List D) (k : Int) (j : Nat), d' = .int k ∧ ixN ds.length k = some j ∧
    ((ρ2[i]? = some (some (.ow ds)) ∧ DD.nx (ρ2.set i (some (.ow (ds.set j d))))) ∨ (ρ2[i]? = some (some (.bg ds)) ∧ DD.nx (ρ2.set i (some (.bg (ds.set j d))))))) R1 q1 fun v' d' G2 H2 ρ2 R2 s2 hd2 q2 => ?_⟩
  obtain ⟨ds, n, j, rfl, hj, q2⟩ := q2
  cases (show v' = _ from hd2)
  rcases q2 with ⟨e2, q2⟩ | ⟨e2, q2⟩
  · obtain ⟨p', hp', ⟨vs, h2, h3⟩, _⟩ := R2.ow i _ e2 rfl
    rw [hp] at hp'; cases hp'
    refine ⟨p, vs, n, j, rfl, rfl, h2, by rw [← h3.length]; exact hj, ?_⟩
    exact k.nx G2 _ σ _ (R2.write e2 rfl hp (s' := .ow (ds.set j d)) rfl rfl ⟨_, upd_same, h3.set (Dat.mono s2 _ _ hd1) j⟩) (s1.trans s2) q2
  · obtain ⟨p', hp', ⟨vs, h2, h3⟩, _⟩ := R2.ow i _ e2 rfl
    rw [hp] at hp'; cases hp'
    refine ⟨p, vs, n, j, rfl, rfl, h2, by rw [← h3.length]; exact hj, ?_⟩
    exact k.nx G2 _ σ _ (R2.write e2 rfl hp (s' := .bg (ds.set j d)) rfl rfl ⟨_, upd_same, h3.set (Dat.mono s2 _ _ hd1) j⟩) (s1.trans s2) q2
/-- x.append(e), x an own slot -/
def xApp (i : Nat) (te : DE) : DE := fun ρ Q => (∃ ds, ρ[i]? = some (some (.ow ds))) ∧ te ρ fun s ρ1 => ∃ ds, ρ1[i]? = some (some (.ow ds)) ∧ ds.length < 100000 ∧ Q (.fz .non) (ρ1.set i (some (.ow (ds ++ [s.toD]))))
theorem d_app (i : Nat) {x : Str} {e : Expr} {te : TE} {t : DE} {p0 apos pos : Pos} (h : PV X C e te t) (hN : X.N[i]? = some x := by rfl) (hv : Vis X.env.scope x := by first | exact Or.inl rfl | exact Or.inr (Or.inl rfl) | exact Or.inr (Or.inr rfl))
    (hd : (x == ("__debug__" : Str)) = false := by decide) (hcd : (x == ("__classdict__" : Str)) = false := by decide)
    (hbase : attributeBase (.Name x p0) "append" X.env (eval (.Name x p0) X.env) = eval (.Name x p0) X.env := by rfl)
    (hfew : ((backTo pos (starEach [e] X.env)).all (fun x => !x.1) && (backToKw pos (keywordEach [] X.env)).all (fun x => x.1.isSome)
      && decide ([e].length + ([] : List Keyword).length + (if ([] : List Keyword).isEmpty then 0 else 1) < 30)) = true := by rfl)
    (hline : (apos.endLine == pos.line) = true := by rfl) (hs : starEach [e] X.env = (false, eval e X.env) :: starEach [] X.env := by rfl) (hpl : (backTo pos (starEach [] X.env)).any (·.1) = false := by rfl) :
    PV X C (.Call (.Attribute (.Name x p0) "append" apos) [e] [] pos) (tBM X.K "list" rAppend (tVar i) (tCons te tNil)) (xApp i t) := by
  refine ⟨pe_bm PySem.F.plainAttrs_list PySem.F.slot_list_append PySem.F.type_list_append mt_append (pe_var hN hv hd hcd) (pa_cons h.pe pa_nil hs) hbase hfew hline hs hpl, fun G H σ ρ QD Q R ⟨⟨ds0, e0⟩, q⟩ k => ?_⟩
  obtain ⟨p, hp, ⟨vs0, hat, _⟩, _⟩ := R.ow i _ e0 rfl
  refine ⟨.ref p, hp, .inl ⟨rfl, vs0, SqL.of hat⟩, ?_⟩
  refine h.rf.go (QD := fun d ρ1 => ∃ ds, ρ1[i]? = some (some (.ow ds)) ∧ ds.length < 100000 ∧ QD (.fz .non) (ρ1.set i (some (.ow (ds ++ [d]))))) R q fun v d G1 H1 ρ1 R1 s1 hd1 q1 => ?_
  obtain ⟨ds, e1, hl, q1⟩ := q1
  obtain ⟨p', hp', ⟨vs, h2, h3⟩, _⟩ := R1.ow i _ e1 rfl
  rw [hp] at hp'; cases hp'
  refine ⟨p, vs, v, rfl, rfl, h2, by rw [← h3.length]; exact Nat.lt_of_lt_of_le hl (by decide), ?_⟩
  exact k _ _ G1 _ _ (R1.write e1 rfl hp (s' := .ow (ds ++ [d])) rfl rfl ⟨_, upd_same, h3.append ⟨v, [], rfl, hd1, rfl⟩⟩) s1 (rvf (d := .non) rfl) q1
end
end L3

namespace L3
open PySem PySem.Spec PyProof.Rows L2

/-! ### what is walked -/
def Ex1 (G H G' H' : Hp) : Prop := (G' = G ∧ H' = H) ∨ ∃ T o, H T = none ∧ G' = upd G T o ∧ H' = upd H T o ∧ ∀ ps, o ≠ .tbl ps
theorem Rep.ex1 {C : FC} {G H G' H' : Hp} {σ : L2.St} {ρ : En} (R : Rep C G H σ ρ) (e : Ex1 G H G' H') : Rep C G' H' σ ρ ∧ Same G G' := by
  rcases e with ⟨rfl, rfl⟩ | ⟨T, o, hT, rfl, rfl, no⟩
  · exact ⟨R, Same.refl _⟩
  · exact ⟨R.newFz hT no, Same.new (R.gn hT)⟩
def JR (G : Hp) (J : It) (items : List D) : Prop := ∀ G1 H1, Same G G1 → Same G1 H1 →
  J.stop items.length H1 ∧ ∀ (i : Nat) (d : D), items[i]? = some d → J.go i H1 ∧ ∀ x H2, J.yld i H1 x H2 → ∃ G2, Ex1 G1 H1 G2 H2 ∧ Dat G2 d x
abbrev DI := En → (List D → En → Prop) → Prop
def RfI (C : FC) (wi : TI) (t : DI) : Prop := ∀ (G H : Hp) (σ : L2.St) (ρ : En) (QD : List D → En → Prop) (R' : It → Hp → Prop), Rep C G H σ ρ → t ρ QD →
  (∀ J items G' H' ρ', Rep C G' H' σ ρ' → Same G G' → JR G' J items → QD items ρ' → R' J H') → wi σ H R'
structure PIV (X : Cx) (C : FC) (tg iter : Expr) (wi : TI) (t : DI) : Prop where
  pe : PI X tg iter wi
  rf : RfI C wi t
section
variable {X : Cx} {C : FC}
/-- a list or a tuple -/
def iSeq (K : PySem.W.Frag) (tl : TE) : TI := fun σ H R => tl σ H fun x H1 => ∃ a, x = .ref a ∧ (((∃ xs, SqL K H1 a xs) ∧ R (Itl K a) H1) ∨ ((∃ xs, SqT K H1 a xs) ∧ R (Itt K a) H1))
theorem pi_seq {tg l : Expr} {tl : TE} (hl : PE X l tl) : PI X tg l (iSeq X.K tl) := by
  refine ⟨fun pins s σ H R I h => ?_⟩
  refine thn (hl.run pins s σ H _ I h) fun v s1 ⟨x, H1, I1, r1, q1⟩ => ?_
  obtain ⟨a, e, q⟩ := q1
  subst e
  cases r1
  rcases q with ⟨⟨xs, hq⟩, q⟩ | ⟨⟨xs, hq⟩, q⟩
  · obtain ⟨its, rv, p, hz⟩ := I1.list hq
    refine wpAny_pyIter_list p.isList ?_
    refine ⟨s1.heap.objs.size, [s1.heap.objs.size], _, _, H1, rfl, I1.kept (t' := s1.toks) fun b o e => Heap.get?_push_of_some _ e, turn_list a _, ⟨_, Heap.get?_push_size _ rfl, rfl, rfl⟩, fun b hb => ?_, q⟩
    have e : b = s1.heap.objs.size := by simpa using hb
    subst e
    exact I1.fpOk (Nat.le_refl _) (I1.hok.fresh (Nat.le_refl _))
  · obtain ⟨its, rv, p, hz⟩ := I1.tuple hq
    refine wpAny_pyIter_tuple (show s1.heap.IsTuple a its.toArray from p) ?_
    refine ⟨s1.heap.objs.size, [s1.heap.objs.size], _, _, H1, rfl, I1.kept (t' := s1.toks) fun b o e => Heap.get?_push_of_some _ e, turn_tuple a _, ⟨_, Heap.get?_push_size _ rfl, rfl, rfl⟩, fun b hb => ?_, q⟩
    have e : b = s1.heap.objs.size := by simpa using hb
    subst e
    exact I1.fpOk (Nat.le_refl _) (I1.hok.fresh (Nat.le_refl _))
theorem rdL {K : PySem.W.Frag} {H : Hp} {a : Addr} {vs xs : List V} (h : H a = some (.lst vs)) : SqL K H a vs := SqL.of h
/-- items of a list -/
theorem jr_list {K : PySem.W.Frag} {G : Hp} {a : Addr} {vs : List V} {ds : List D} (h : G a = some (.lst vs)) (hd : Dats G ds vs) : JR G (Itl K a) ds := fun G1 H1 s1 s2 => by
  have ha : SqL K H1 a vs := SqL.of (s2 _ _ (s1 _ _ h))
  refine ⟨⟨vs, ha, by rw [hd.length]; exact Nat.le_refl _⟩, fun i d e => ?_⟩
  obtain ⟨v, h3, h4⟩ := hd.get e
  refine ⟨⟨vs, v, ha, h3⟩, fun x H2 ⟨e2, hy⟩ => ⟨G1, .inl ⟨rfl, e2⟩, ?_⟩⟩
  have := hy vs ha
  rw [h3] at this; cases this
  exact Dat.mono s1 _ _ h4
theorem jr_tup {K : PySem.W.Frag} {G : Hp} {a : Addr} {vs : List V} {ds : List D} (h : G a = some (.tup vs)) (hd : Dats G ds vs) : JR G (Itt K a) ds := fun G1 H1 s1 s2 => by
  have ha : SqT K H1 a vs := SqT.of (s2 _ _ (s1 _ _ h))
  refine ⟨⟨vs, ha, by rw [hd.length]; exact Nat.le_refl _⟩, fun i d e => ?_⟩
  obtain ⟨v, h3, h4⟩ := hd.get e
  refine ⟨⟨vs, v, ha, h3⟩, fun x H2 ⟨e2, hy⟩ => ⟨G1, .inl ⟨rfl, e2⟩, ?_⟩⟩
  have := hy vs ha
  rw [h3] at this; cases this
  exact Dat.mono s1 _ _ h4
def xSeqI (t : DE) : DI := fun ρ Q => t ρ fun s ρ1 => match s.toD with
  | .lst ds => Q ds ρ1
  | .tup ds => Q ds ρ1
  | _ => False
theorem di_seq {tg l : Expr} {tl : TE} {t : DE} (h : PV X C l tl t) : PIV X C tg l (iSeq X.K tl) (xSeqI t) := ⟨pi_seq h.pe, fun G H σ ρ QD R' R q k => by
  refine h.rf.go (QD := fun d ρ1 => match d with | .lst ds => QD ds ρ1 | .tup ds => QD ds ρ1 | _ => False) R q fun v d G1 H1 ρ1 R1 s1 hd q1 => ?_
  split at q1
  · rename_i ds
    obtain ⟨a, vs, rfl, h1, h2⟩ := hd
    exact ⟨a, rfl, .inl ⟨⟨vs, SqL.of (R1.sub _ _ h1)⟩, k _ _ G1 H1 ρ1 R1 s1 (jr_list h1 h2) q1⟩⟩
  · rename_i ds
    obtain ⟨a, vs, rfl, h1, h2⟩ := hd
    exact ⟨a, rfl, .inr ⟨⟨vs, SqT.of (R1.sub _ _ h1)⟩, k _ _ G1 H1 ρ1 R1 s1 (jr_tup h1 h2) q1⟩⟩
  · exact q1.elim⟩
/-- lo, lo + 1, .. -/
def rngD (lo : Int) (n : Nat) : List D := (List.range n).map fun i : Nat => D.int (lo + i)
theorem rngD_len (lo : Int) (n : Nat) : (rngD lo n).length = n := by simp [rngD]
theorem rngD_get {lo : Int} {n i : Nat} {d : D} (h : (rngD lo n)[i]? = some d) : i < n ∧ d = .int (lo + i) := by
  have hi : i < n := by
    have := (List.getElem?_eq_some_iff.mp h).1
    rwa [rngD_len] at this
  refine ⟨hi, ?_⟩
  unfold rngD at h
  rw [List.getElem?_map, List.getElem?_range hi] at h
  exact (Option.some.inj h).symm
theorem jr_range {G : Hp} {lo : Int} {n : Nat} : JR G (Itr lo n) (rngD lo n) := fun G1 H1 s1 s2 => by
  refine ⟨by rw [rngD_len]; exact Nat.le_refl n, fun i d e => ?_⟩
  obtain ⟨hi, rfl⟩ := rngD_get e
  exact ⟨hi, fun x H2 ⟨e2, e3⟩ => ⟨G1, .inl ⟨rfl, e2⟩, e3⟩⟩
def xRng1 (t : DA) : DI := fun ρ Q => t ρ fun ds ρ1 => match ds with
  | [.int j] => -1000000000000 < j ∧ j < 1000000000000 ∧ Q (rngD 0 j.toNat) ρ1
  | _ => False
theorem di_range1 {tg a : Expr} {ta : TA} {t : DA} {p pos : Pos} (hg : Gl X "range") (hm : X.mg "range" = none) (ha : PAV X C [a] ta t) (hs : starEach [a] X.env = [(false, eval a X.env)] := by rfl) : PIV X C tg (.Call (.Name "range" p) [a] [] pos) (iRng1 ta) (xRng1 t) :=
  ⟨pi_range1 hg hm ha.pe hs, fun G H σ ρ QD R' R q k => ha.rf G H σ ρ _ _ R q fun vs ds G1 H1 ρ1 R1 s1 hd q1 => by
    split at q1
    · rename_i j
      obtain ⟨v, rfl, h1⟩ := hd.one
      cases (show v = _ from h1)
      exact ⟨j, rfl, by omega, by omega, k _ _ G1 H1 ρ1 R1 s1 jr_range q1.2.2⟩
    · exact q1.elim⟩
def xRng2 (t : DA) : DI := fun ρ Q => t ρ fun ds ρ1 => match ds with
  | [.int i, .int j] => (-1000000000000 < i ∧ i < 1000000000000 ∧ -1000000000000 < j ∧ j < 1000000000000) ∧ Q (rngD i (j - i).toNat) ρ1
  | _ => False
theorem di_range2 {tg a b : Expr} {ta : TA} {t : DA} {p pos : Pos} (hg : Gl X "range") (hm : X.mg "range" = none) (ha : PAV X C [a, b] ta t) (hs : starEach [a, b] X.env = [(false, eval a X.env), (false, eval b X.env)] := by rfl) (hs2 : starEach [b] X.env = [(false, eval b X.env)] := by rfl) :
    PIV X C tg (.Call (.Name "range" p) [a, b] [] pos) (iRng2 ta) (xRng2 t) :=
  ⟨pi_range2 hg hm ha.pe hs hs2, fun G H σ ρ QD R' R q k => ha.rf G H σ ρ _ _ R q fun vs ds G1 H1 ρ1 R1 s1 hd q1 => by
    split at q1
    · rename_i i j
      obtain ⟨v, u, rfl, h1, h2⟩ := hd.two
      cases (show v = _ from h1)
      cases (show u = _ from h2)
      obtain ⟨⟨b1, b2, b3, b4⟩, q1⟩ := q1
      exact ⟨i, j, rfl, ⟨by omega, by omega, by omega, by omega⟩, k _ _ G1 H1 ρ1 R1 s1 jr_range q1⟩
    · exact q1.elim⟩
def zipD (xs ys : List D) : List D := (xs.zip ys).map fun p => .tup [p.1, p.2]
theorem zipD_len (xs ys : List D) : (zipD xs ys).length = min xs.length ys.length := by simp [zipD]
theorem zipD_get {xs ys : List D} {i : Nat} {d : D} (h : (zipD xs ys)[i]? = some d) : ∃ x y, xs[i]? = some x ∧ ys[i]? = some y ∧ d = .tup [x, y] := by
  unfold zipD at h
  rw [List.getElem?_map] at h
  cases e : (xs.zip ys)[i]? with
  | none => rw [e] at h; cases h
  | some p =>
    rw [e] at h
    obtain ⟨h1, h2⟩ := List.getElem?_zip_eq_some.mp e
    exact ⟨p.1, p.2, h1, h2, (Option.some.inj h).symm⟩
theorem pair_new {G1 H1 : Hp} {T : Addr} {x y : V} {a b : D} (sm : Same G1 H1) (hT : H1 T = none) (ha : Dat G1 a x) (hb : Dat G1 b y) : ∃ G2, Ex1 G1 H1 G2 (upd H1 T (.tup [x, y])) ∧ Dat G2 (.tup [a, b]) (.ref T) := by
  have gs : Same G1 (upd G1 T (.tup [x, y])) := Same.new (sm.free hT)
  exact ⟨_, .inr ⟨T, _, hT, rfl, rfl, fun _ z => by cases z⟩, T, [x, y], rfl, upd_same, x, [y], rfl, Dat.mono gs _ _ ha, y, [], rfl, Dat.mono gs _ _ hb, rfl⟩
theorem jr_zipL {K : PySem.W.Frag} {G : Hp} {a b : Addr} {vs us : List V} {ds es : List D} (h : G a = some (.lst vs)) (hd : Dats G ds vs) (h' : G b = some (.lst us)) (hd' : Dats G es us) : JR G (Itz K a b) (zipD ds es) := fun G1 H1 s1 s2 => by
  have ha : SqL K H1 a vs := SqL.of (s2 _ _ (s1 _ _ h))
  have hb : SqL K H1 b us := SqL.of (s2 _ _ (s1 _ _ h'))
  refine ⟨⟨vs, us, ha, hb, ?_⟩, fun i d e => ?_⟩
  · rw [zipD_len, ← hd.length, ← hd'.length]; omega
  · obtain ⟨x, y, e1, e2, rfl⟩ := zipD_get e
    obtain ⟨v, h3, h4⟩ := hd.get e1
    obtain ⟨u, h5, h6⟩ := hd'.get e2
    refine ⟨⟨vs, us, v, u, ha, hb, h3, h5⟩, fun z H2 hy => ?_⟩
    obtain ⟨T, x', y', rfl, hT, rfl, f1, f2⟩ := hy
    have := f1 vs ha
    rw [h3] at this; cases this
    have := f2 us hb
    rw [h5] at this; cases this
    exact pair_new s2 hT (Dat.mono s1 _ _ h4) (Dat.mono s1 _ _ h6)
theorem jr_zipT {K : PySem.W.Frag} {G : Hp} {a b : Addr} {vs us : List V} {ds es : List D} (h : G a = some (.tup vs)) (hd : Dats G ds vs) (h' : G b = some (.tup us)) (hd' : Dats G es us) : JR G (RZ.ItzT K a b) (zipD ds es) := fun G1 H1 s1 s2 => by
  have ha : SqT K H1 a vs := SqT.of (s2 _ _ (s1 _ _ h))
  have hb : SqT K H1 b us := SqT.of (s2 _ _ (s1 _ _ h'))
  refine ⟨⟨vs, us, ha, hb, ?_⟩, fun i d e => ?_⟩
  · rw [zipD_len, ← hd.length, ← hd'.length]; omega
  · obtain ⟨x, y, e1, e2, rfl⟩ := zipD_get e
    obtain ⟨v, h3, h4⟩ := hd.get e1
    obtain ⟨u, h5, h6⟩ := hd'.get e2
    refine ⟨⟨vs, us, v, u, ha, hb, h3, h5⟩, fun z H2 hy => ?_⟩
    obtain ⟨T, x', y', rfl, hT, rfl, f1, f2⟩ := hy
    have := f1 vs ha
    rw [h3] at this; cases this
    have := f2 us hb
    rw [h5] at this; cases this
    exact pair_new s2 hT (Dat.mono s1 _ _ h4) (Dat.mono s1 _ _ h6)
def xZip (t : DA) : DI := fun ρ Q => t ρ fun ds ρ1 => match ds with
  | [.lst xs, .lst ys] => Q (zipD xs ys) ρ1
  | [.tup xs, .tup ys] => Q (zipD xs ys) ρ1
  | _ => False
theorem di_zip {e e2 : Expr} {ta : TA} {t : DA} {p pos tpos : Pos} {elts : List Expr} {kk : Nat} (hg : Gl X "zip") (hm : X.mg "zip" = none) (ha : PAV X C [e, e2] ta t)
    (hs : starEach [e, e2] X.env = (false, eval e X.env) :: starEach [e2] X.env := by rfl) (hpl : (backTo pos (starEach [e2] X.env)).any (·.1) = false := by rfl) : PIV X C (.Tuple elts kk tpos) (.Call (.Name "zip" p) [e, e2] [] pos) (RZ.iZipA X.K ta) (xZip t) :=
  ⟨RZ.pi_zipA hg hm ha.pe hs hpl, fun G H σ ρ QD R' R q k => ha.rf G H σ ρ _ _ R q fun vs ds G1 H1 ρ1 R1 s1 hd q1 => by
    split at q1
    · rename_i xs ys
      obtain ⟨v, u, rfl, ⟨a, us, rfl, h1, h2⟩, ⟨b, ws, rfl, h3, h4⟩⟩ := hd.two
      exact ⟨a, b, us, ws, rfl, .inl ⟨SqL.of (R1.sub _ _ h1), SqL.of (R1.sub _ _ h3), k _ _ G1 H1 ρ1 R1 s1 (jr_zipL h1 h2 h3 h4) q1⟩⟩
    · rename_i xs ys
      obtain ⟨v, u, rfl, ⟨a, us, rfl, h1, h2⟩, ⟨b, ws, rfl, h3, h4⟩⟩ := hd.two
      exact ⟨a, b, us, ws, rfl, .inr ⟨SqT.of (R1.sub _ _ h1), SqT.of (R1.sub _ _ h3), k _ _ G1 H1 ρ1 R1 s1 (jr_zipT h1 h2 h3 h4) q1⟩⟩
    · exact q1.elim⟩
def enumD (xs : List D) : List D := (xs.zipIdx).map fun p => .tup [.int (p.2 : Nat), p.1]
theorem enumD_len (xs : List D) : (enumD xs).length = xs.length := by simp [enumD]
theorem enumD_get {xs : List D} {i : Nat} {d : D} (h : (enumD xs)[i]? = some d) : ∃ x, xs[i]? = some x ∧ d = .tup [.int (i : Nat), x] := by
  unfold enumD at h
  rw [List.getElem?_map, List.getElem?_zipIdx] at h
  cases e : xs[i]? with
  | none => rw [e] at h; cases h
  | some p =>
    rw [e] at h
    refine ⟨p, rfl, ?_⟩
    have := (Option.some.inj h).symm
    simpa using this
theorem jr_enum {K : PySem.W.Frag} {G : Hp} {a : Addr} {vs : List V} {ds : List D} (h : G a = some (.lst vs)) (hd : Dats G ds vs) : JR G (Ite K a) (enumD ds) := fun G1 H1 s1 s2 => by
  have ha : SqL K H1 a vs := SqL.of (s2 _ _ (s1 _ _ h))
  refine ⟨⟨vs, ha, by rw [enumD_len, hd.length]; exact Nat.le_refl _⟩, fun i d e => ?_⟩
  obtain ⟨x, e1, rfl⟩ := enumD_get e
  obtain ⟨v, h3, h4⟩ := hd.get e1
  refine ⟨⟨vs, v, ha, h3⟩, fun z H2 hy => ?_⟩
  obtain ⟨T, x', rfl, hT, rfl, f1⟩ := hy
  have := f1 vs ha
  rw [h3] at this; cases this
  exact pair_new s2 hT rfl (Dat.mono s1 _ _ h4)

/-! ### loops -/
def xFor (ti : DI) (g : DG) (tb : DS) : DS := fun Z ρ => ti ρ fun items ρ1 => ∃ Inv : Nat → En → Prop, Inv 0 ρ1 ∧
  (∀ (i : Nat) (d : D) (ρ : En), items[i]? = some d → Inv i ρ → g d ρ fun ρ2 => tb { nx := Inv (i + 1), ct := Inv (i + 1), bk := Z.nx, rt := Z.rt } ρ2) ∧ ∀ ρ, Inv items.length ρ → Z.nx ρ
theorem ds_for {tg iter : Expr} {body : List Stmt} {wi : TI} {ti : DI} {g : TG} {gd : DG} {is : List Nat} {tb : TS} {t : DS} {pos : Pos} (hp : PassesOwn (model X.prog X.w) X.A X.env X.xe) (hc : X.calm = true) (hi : PIV X C tg iter wi ti) (hg : PGV X C tg g gd is) (hb : PSsV X C body tb t)
    (hs : ∀ x, foldedSetIterable iter X.env x = pure x := by intro _; rfl) : PSV X C (.For tg iter body [] pos) (tFor wi g tb) (xFor ti gd t) := by
  refine ⟨ps_for hp hc hi.pe hg.pe hb.pe hs, fun G H σ ρ DD E R q k => ?_⟩
  refine hi.rf G H σ ρ _ _ R q fun J items G1 H1 ρ1 R1 s1 jr ⟨Iv, i0, istep, iend⟩ => ?_
  refine ⟨fun i m σ' H' => m = items.length - i ∧ i ≤ items.length ∧ ∃ G' ρ', Rep C G' H' σ' ρ' ∧ Same G1 G' ∧ Iv i ρ', ⟨_, rfl, Nat.zero_le _, G1, ρ1, R1, Same.refl _, i0⟩, ?_⟩
  rintro i m σ' H' ⟨rfl, hi', G', ρ', R', s', iv⟩
  obtain ⟨jst, jgo⟩ := jr G' H' s' R'.sub
  by_cases hlt : i < items.length
  · obtain ⟨go, yl⟩ := jgo i items[i] (List.getElem?_eq_getElem hlt)
    refine .inr ⟨go, fun σ2 H2 => ∃ G2 ρ2, Rep C G2 H2 σ2 ρ2 ∧ Same G1 G2 ∧ Iv (i + 1) ρ2, fun σ2 H2 ⟨G2, ρ2, R2, s2, iv2⟩ => ⟨items.length - (i + 1), by omega, rfl, hlt, G2, ρ2, R2, s2, iv2⟩, fun x H2 hy => ?_⟩
    obtain ⟨G2, e2, hd⟩ := yl x H2 hy
    obtain ⟨R2, s2⟩ := R'.ex1 e2
    refine hg.rf G2 H2 σ' ρ' x items[i] _ _ R2 hd (istep i items[i] ρ' (List.getElem?_eq_getElem hlt) iv) fun G3 H3 σ3 ρ3 R3 s3 _ _ q3 => ?_
    have sm : Same G1 G3 := (s'.trans s2).trans s3
    exact hb.rf G3 H3 σ3 ρ3 _ _ R3 q3 ⟨fun _ _ _ _ R4 s4 q4 => ⟨_, _, R4, sm.trans s4, q4⟩, fun _ _ _ _ R4 s4 q4 => k.nx _ _ _ _ R4 ((s1.trans sm).trans s4) q4, fun _ _ _ _ R4 s4 q4 => ⟨_, _, R4, sm.trans s4, q4⟩,
      fun _ _ _ _ _ _ R4 s4 rv q4 => k.rt _ _ _ _ _ _ R4 ((s1.trans sm).trans s4) rv q4⟩
  · have e : i = items.length := by omega
    subst e
    exact .inl ⟨jst, k.nx _ _ _ _ R' (s1.trans s') (iend ρ' iv)⟩
def xWhile (c : DT) (tb : DS) : DS := fun Z ρ => ∃ Inv : Nat → En → Prop, (∃ m, Inv m ρ) ∧ ∀ m ρ, Inv m ρ → c ρ fun b ρ1 => if b = true then tb { nx := fun ρ' => ∃ m', m' < m ∧ Inv m' ρ', ct := fun ρ' => ∃ m', m' < m ∧ Inv m' ρ', bk := Z.nx, rt := Z.rt } ρ1 else Z.nx ρ1
theorem ds_while {c : Expr} {body : List Stmt} {tt : TT} {tc : DT} {tb : TS} {t : DS} {pos : Pos} (hp : PassesOwn (model X.prog X.w) X.A X.env X.xe) (hc : PTV X C c tt tc) (hb : PSsV X C body tb t) : PSV X C (.While c body [] pos) (tWhile tt tb) (xWhile tc t) := by
  refine ⟨ps_while hp hc.pe hb.pe, fun G H σ ρ DD E R ⟨Iv, ⟨m0, i0⟩, istep⟩ k => ?_⟩
  refine ⟨fun m σ' H' => ∃ G' ρ', Rep C G' H' σ' ρ' ∧ Same G G' ∧ Iv m ρ', ⟨m0, G, ρ, R, Same.refl _, i0⟩, ?_⟩
  rintro m σ' H' ⟨G', ρ', R', s', iv⟩
  refine hc.rf G' H' σ' ρ' _ _ R' (istep m ρ' iv) fun b G1 H1 ρ1 R1 s1 q1 => ?_
  cases b with
  | true =>
    refine ⟨fun σ2 H2 => ∃ m', m' < m ∧ ∃ G2 ρ2, Rep C G2 H2 σ2 ρ2 ∧ Same G G2 ∧ Iv m' ρ2, fun σ2 H2 ⟨m', hm, h⟩ => ⟨m', hm, h⟩, ?_⟩
    have sm := s'.trans s1
    exact hb.rf G1 H1 σ' ρ1 _ _ R1 q1 ⟨fun _ _ _ _ R4 s4 ⟨m', hm, q4⟩ => ⟨m', hm, _, _, R4, sm.trans s4, q4⟩, fun _ _ _ _ R4 s4 q4 => k.nx _ _ _ _ R4 (sm.trans s4) q4, fun _ _ _ _ R4 s4 ⟨m', hm, q4⟩ => ⟨m', hm, _, _, R4, sm.trans s4, q4⟩,
      fun _ _ _ _ _ _ R4 s4 rv q4 => k.rt _ _ _ _ _ _ R4 (sm.trans s4) rv q4⟩
  | false => exact k.nx _ _ _ _ R1 (s'.trans s1) q1

/-! ### comprehensions -/
def wipeD (ρ : En) : List Nat → En
  | [] => ρ
  | v :: vs => (wipeD ρ vs).set v none
def kf (ρ : En) (v : Nat) : Option S := match ρ[v]? with
  | some (some (.fz d)) => some (.fz d)
  | _ => none
def unw (ρ ρb : En) : List Nat → En
  | [] => ρb
  | v :: vs => (unw ρ ρb vs).set v (kf ρ v)
theorem wipeD_get {ρ : En} {j : Nat} {s : S} : ∀ {vs : List Nat}, (wipeD ρ vs)[j]? = some (some s) → ρ[j]? = some (some s) ∧ j ∉ vs
  | [], h => ⟨h, by simp⟩
  | v :: vs, h => by
    unfold wipeD at h
    obtain ⟨h1, h2⟩ := get_setN h
    obtain ⟨h3, h4⟩ := wipeD_get h2
    exact ⟨h3, by simp only [List.mem_cons, not_or]; exact ⟨h1, h4⟩⟩
theorem wipeD_len (ρ : En) : ∀ vs : List Nat, (wipeD ρ vs).length = ρ.length
  | [] => rfl
  | v :: vs => by unfold wipeD; rw [List.length_set, wipeD_len ρ vs]
theorem unw_len (ρ ρb : En) : ∀ vs : List Nat, (unw ρ ρb vs).length = ρb.length
  | [] => rfl
  | v :: vs => by unfold unw; rw [List.length_set, unw_len ρ ρb vs]
theorem kf_some {ρ : En} {v : Nat} {s : S} (h : kf ρ v = some s) : ρ[v]? = some (some s) ∧ s.own = false := by
  unfold kf at h
  split at h
  · rename_i d e
    cases h
    exact ⟨e, rfl⟩
  · cases h
theorem unw_get {ρ ρb : En} {j : Nat} {s : S} : ∀ {vs : List Nat}, (unw ρ ρb vs)[j]? = some (some s) → (ρ[j]? = some (some s) ∧ s.own = false) ∨ (j ∉ vs ∧ ρb[j]? = some (some s))
  | [], h => .inr ⟨by simp, h⟩
  | v :: vs, h => by
    unfold unw at h
    cases e : kf ρ v with
    | none =>
      rw [e] at h
      obtain ⟨h1, h2⟩ := get_setN h
      rcases unw_get h2 with h3 | ⟨h3, h4⟩
      · exact .inl h3
      · exact .inr ⟨by simp only [List.mem_cons, not_or]; exact ⟨h1, h3⟩, h4⟩
    | some s' =>
      rw [e] at h
      rcases get_set h with ⟨rfl, rfl⟩ | ⟨h1, h2⟩
      · exact .inl (kf_some e)
      · rcases unw_get h2 with h3 | ⟨h3, h4⟩
        · exact .inl h3
        · exact .inr ⟨by simp only [List.mem_cons, not_or]; exact ⟨h1, h3⟩, h4⟩
theorem wipe_at {σ : L2.St} {j : Nat} : ∀ {vs : List Nat}, j ∉ vs → (wipe σ vs)[j]? = σ[j]?
  | [], _ => rfl
  | v :: vs, h => by
    simp only [List.mem_cons, not_or] at h
    unfold wipe
    rw [set_at h.1, wipe_at h.2]
theorem Rep.wipe {C : FC} {G H : Hp} {σ : L2.St} {ρ : En} (R : Rep C G H σ ρ) (vs : List Nat) : Rep C G H (wipe σ vs) (wipeD ρ vs) := by
  refine ⟨by rw [wipeD_len, wipe_length]; exact R.len, R.sub, R.g0, R.keep, R.new, R.bl, fun i d e => ?_, fun i s e os => ?_, fun i j s s' p ne e1 o1 e2 o2 z1 z2 => ?_, R.nt, R.tab⟩
  · obtain ⟨h1, h2⟩ := wipeD_get e
    rw [wipe_at h2]; exact R.fz i d h1
  · obtain ⟨h1, h2⟩ := wipeD_get e
    rw [wipe_at h2]; exact R.ow i s h1 os
  · obtain ⟨h1, h2⟩ := wipeD_get e1
    obtain ⟨h3, h4⟩ := wipeD_get e2
    rw [wipe_at h2] at z1
    rw [wipe_at h4] at z2
    exact R.ap i j s s' p ne h1 o1 h3 o2 z1 z2
theorem Rep.unwipe {C : FC} {G1 H1 G H : Hp} {σ : L2.St} {ρ ρb : En} {vs : List Nat} (R1 : Rep C G1 H1 σ ρ) (R : Rep C G H (L2.wipe σ vs) ρb) (sm : Same G1 G) : Rep C G H σ (unw ρ ρb vs) := by
  refine ⟨by rw [unw_len, R.len, wipe_length], R.sub, R.g0, R.keep, R.new, R.bl, fun i d e => ?_, fun i s e os => ?_, fun i j s s' p ne e1 o1 e2 o2 z1 z2 => ?_, R.nt, R.tab⟩
  · rcases unw_get e with ⟨h1, _⟩ | ⟨h1, h2⟩
    · obtain ⟨v, h3, h4⟩ := R1.fz i d h1
      exact ⟨v, h3, Dat.mono sm _ _ h4⟩
    · obtain ⟨v, h3, h4⟩ := R.fz i d h2
      rw [wipe_at h1] at h3
      exact ⟨v, h3, h4⟩
  · rcases unw_get e with ⟨_, h1⟩ | ⟨h1, h2⟩
    · rw [os] at h1; cases h1
    · obtain ⟨p, h3, h4⟩ := R.ow i s h2 os
      rw [wipe_at h1] at h3
      exact ⟨p, h3, h4⟩
  · rcases unw_get e1 with ⟨_, h1⟩ | ⟨h1, h2⟩
    · rw [o1] at h1; cases h1
    · rcases unw_get e2 with ⟨_, h3⟩ | ⟨h3, h4⟩
      · rw [o2] at h3; cases h3
      · rw [← wipe_at h1] at z1
        rw [← wipe_at h3] at z2
        exact R.ap i j s s' p ne h2 o1 h4 o2 z1 z2
/-- an object set aside while other things run -/
def FC.aside (C : FC) (p : Addr) (o : HO) : FC := { C with H0 := upd C.H0 p o }
theorem Rep.aside {C : FC} {G H : Hp} {σ : L2.St} {ρ : En} (R : Rep C G H σ ρ) {p : Addr} {o : HO} (hp : H p = some o) (hg : G p = none) (h0 : C.H0 p = none) (ha : ∀ (j : Nat) (s' : S), ρ[j]? = some (some s') → s'.own = true → σ[j]? ≠ some (some (.ref p))) :
    Rep (C.aside p o) G H σ ρ := by
  refine ⟨R.len, R.sub, R.g0, fun b x e z => ?_, fun b x e => ?_, fun b e => ?_, R.fz, fun i s e os => ?_, R.ap, R.nt, R.tab⟩
  · have e : upd C.H0 p o b = some x := e
    by_cases hb : b = p
    · subst hb; rw [upd_same] at e; cases e; exact hp
    · rw [upd_ne hb] at e; exact R.keep b x e z
  · show C.G0 b = some x ∨ upd C.H0 p o b = none
    have hb : b ≠ p := fun z => by subst z; rw [hg] at e; cases e
    rw [upd_ne hb]; exact R.new b x e
  · obtain ⟨a, b', c⟩ := R.bl b e
    refine ⟨a, ?_, c⟩
    show upd C.H0 p o b ≠ none
    by_cases hb : b = p
    · subst hb; rw [upd_same]; exact fun z => nomatch z
    · rw [upd_ne hb]; exact b'
  · obtain ⟨q, h1, h2, h3, h4⟩ := R.ow i s e os
    have hq : q ≠ p := fun z => ha i s e os (z ▸ h1)
    refine ⟨q, h1, h2, h3, ?_⟩
    show (upd C.H0 p o q = none ∧ _) ∨ _
    rw [upd_ne hq]; exact h4
theorem Rep.back {C : FC} {G H : Hp} {σ : L2.St} {ρ : En} {p : Addr} {o : HO} (hg0 : C.G0 p = none) (h0 : C.H0 p = none) (hb0 : C.bag ≠ some p) (R : Rep (C.aside p o) G H σ ρ) :
    Rep C G H σ ρ ∧ H p = some o ∧ G p = none ∧ ∀ (j : Nat) (s' : S), ρ[j]? = some (some s') → s'.own = true → σ[j]? ≠ some (some (.ref p)) := by
  have hp : H p = some o := R.keep p o (show upd C.H0 p o p = some o from upd_same) hb0
  have hg : G p = none := by
    cases e : G p with
    | none => rfl
    | some x =>
      rcases R.new p x e with z | z
      · rw [show C.G0 p = some x from z] at hg0; cases hg0
      · have this : upd C.H0 p o p = some o := upd_same
        rw [show upd C.H0 p o p = none from z] at this; cases this
  have ha : ∀ (j : Nat) (s' : S), ρ[j]? = some (some s') → s'.own = true → σ[j]? ≠ some (some (.ref p)) := fun j s' e os z => by
    obtain ⟨q, h1, h2, h3, h4⟩ := R.ow j s' e os
    rw [z] at h1; cases h1
    rcases h4 with ⟨h4, _⟩ | ⟨h4, _⟩
    · have : upd C.H0 p o p = some o := upd_same
      rw [show upd C.H0 p o p = none from h4] at this; cases this
    · exact hb0 h4
  refine ⟨⟨R.len, R.sub, R.g0, fun b x e z => ?_, fun b x e => ?_, fun b e => ?_, R.fz, fun i s e os => ?_, R.ap, R.nt, R.tab⟩, hp, hg, ha⟩
  · have hb : b ≠ p := fun z => by subst z; rw [h0] at e; cases e
    exact R.keep b x (show upd C.H0 p o b = some x by rw [upd_ne hb]; exact e) z
  · rcases R.new b x e with z | z
    · exact .inl z
    · have hb : b ≠ p := fun z => by subst z; rw [hg] at e; cases e
      have z' : upd C.H0 p o b = none := z
      rw [upd_ne hb] at z'
      exact .inr z'
  · obtain ⟨a, b', c⟩ := R.bl b e
    have hb : b ≠ p := fun z => by subst z; exact hb0 e
    have z' : upd C.H0 p o b ≠ none := b'
    rw [upd_ne hb] at z'
    exact ⟨a, z', c⟩
  · obtain ⟨q, h1, h2, h3, h4⟩ := R.ow i s e os
    refine ⟨q, h1, h2, h3, ?_⟩
    rcases h4 with ⟨h4, hb4⟩ | h4
    · have hq : q ≠ p := fun z => ha i s e os (z ▸ h1)
      have z' : upd C.H0 p o q = none := h4
      rw [upd_ne hq] at z'
      exact .inl ⟨z', hb4⟩
    · exact .inr h4
def xLc (ti : DI) (g : DG) (tt : DT) (te : DE) (vs : List Nat) : DE := fun ρ Q => ti ρ fun items ρ1 => items.length ≤ 100000 ∧ ∃ Inv : Nat → List D → En → Prop, Inv 0 [] (wipeD ρ1 vs) ∧
  (∀ (i : Nat) (d : D) (acc : List D) (ρb : En), items[i]? = some d → Inv i acc ρb → g d ρb fun ρ2 => tt ρ2 fun b ρ3 => if b = true then te ρ3 fun s ρ4 => Inv (i + 1) (acc ++ [s.toD]) (wipeD ρ4 vs) else Inv (i + 1) acc (wipeD ρ3 vs)) ∧
  ∀ acc ρb, Inv items.length acc ρb → Q (.ow acc) (unw ρ1 ρb vs)
structure PTsV (X : Cx) (C : FC) (ifs : List Expr) (tt : TT) (t : DT) : Prop where
  pe : PTs X ifs tt
  rf : RfT C tt t
theorem dts_nil : PTsV X C [] tYes (fun ρ Q => Q true ρ) := ⟨pts_nil, fun G H σ ρ QD Q R q k => k true G H ρ R (Same.refl G) q⟩
theorem dts_one {c : Expr} {tt : TT} {t : DT} (h : PTV X C c tt t) : PTsV X C [c] tt t := ⟨pts_one h.pe, h.rf⟩
theorem rf_lc {wi : TI} {ti : DI} {g : TG} {gd : DG} {tt : TT} {t : DT} {te : TE} {d : DE} {vs is : List Nat} (hi : RfI C wi ti)
    (hg : ∀ (C : FC) (G H : Hp) (σ : L2.St) (ρ : En) (v : V) (d : D) (QD : En → Prop) (Q : L2.St → Hp → Prop), Rep C G H σ ρ → Dat G d v → gd d ρ QD →
    (∀ G' H' σ' ρ', Rep C G' H' σ' ρ' → Same G G' → H' = H → (∀ vs : List Nat, (∀ k ∈ is, k ∈ vs) → wipe σ' vs = wipe σ vs) → QD ρ' → Q σ' H') → g v σ H Q)
    (ht : ∀ C, RfT C tt t) (he : ∀ C, Rf C te d) (hv : ∀ k ∈ is, k ∈ vs) : Rf C (tLc wi g tt te vs) (xLc ti gd t d vs) := fun G H σ ρ QD Q R q k => by
  refine hi G H σ ρ _ _ R q fun J items G1 H1 ρ1 R1 s1 jr ⟨hlen, Iv, i0, istep, iend⟩ D0 hD => ?_
  have h0 := R1.h0 hD
  have g1 := R1.gn hD
  have g00 : C.G0 D0 = none := R1.g0.free g1
  have b0 : C.bag ≠ some D0 := fun z => (R1.bl _ z).2.1 h0
  have RD : Rep C G1 (upd H1 D0 (.lst [])) σ ρ1 := R1.newOw hD
  have apD := R1.apart hD
  refine ⟨fun i m H' => m = items.length - i ∧ i ≤ items.length ∧ ∃ G' ρb acc accV, Rep C G' H' (wipe σ vs) ρb ∧ Same G1 G' ∧ H' D0 = some (.lst accV) ∧ Dats G' acc accV ∧ G' D0 = none ∧
    (∀ (j : Nat) (s' : S), ρb[j]? = some (some s') → s'.own = true → (wipe σ vs)[j]? ≠ some (some (.ref D0))) ∧ acc.length ≤ i ∧ Iv i acc ρb,
    ⟨_, rfl, Nat.zero_le _, G1, wipeD ρ1 vs, [], [], RD.wipe vs, Same.refl _, upd_same, rfl, g1, fun j s' e os z => ?_, Nat.le_refl _, i0⟩, ?_⟩
  · obtain ⟨h1, h2⟩ := wipeD_get e
    rw [wipe_at h2] at z
    exact apD j s' h1 os z
  rintro i m H' ⟨rfl, hi', G', ρb, acc, accV, R', s', hH, hdat, hG, hap, hal, iv⟩
  obtain ⟨jst, jgo⟩ := jr G' H' s' R'.sub
  by_cases hlt : i < items.length
  · obtain ⟨go, yl⟩ := jgo i items[i] (List.getElem?_eq_getElem hlt)
    refine .inr ⟨go, fun H2 => ∃ G2 ρ2 acc2 accV2, Rep C G2 H2 (wipe σ vs) ρ2 ∧ Same G1 G2 ∧ H2 D0 = some (.lst accV2) ∧ Dats G2 acc2 accV2 ∧ G2 D0 = none ∧
      (∀ (j : Nat) (s' : S), ρ2[j]? = some (some s') → s'.own = true → (wipe σ vs)[j]? ≠ some (some (.ref D0))) ∧ acc2.length ≤ i + 1 ∧ Iv (i + 1) acc2 ρ2,
      fun H2 ⟨G2, ρ2, acc2, accV2, h⟩ => ⟨items.length - (i + 1), by omega, rfl, hlt, G2, ρ2, acc2, accV2, h⟩, fun x H2 hy => ?_⟩
    obtain ⟨G2, e2, hd⟩ := yl x H2 hy
    obtain ⟨R2, s2⟩ := R'.ex1 e2
    have hH2 : H2 D0 = some (.lst accV) := by
      rcases e2 with ⟨_, rfl⟩ | ⟨T, o, hT, _, rfl, _⟩
      · exact hH
      · rw [upd_ne (ne_of_none hH hT)]; exact hH
    have hG2 : G2 D0 = none := by
      rcases e2 with ⟨rfl, _⟩ | ⟨T, o, hT, rfl, _⟩
      · exact hG
      · rw [upd_ne (ne_of_none hH hT)]; exact hG
    have RA := R2.aside hH2 hG2 h0 hap
    refine hg _ G2 H2 (wipe σ vs) ρb x items[i] _ _ RA hd (istep i items[i] acc ρb (List.getElem?_eq_getElem hlt) iv) fun G3 H3 σ3 ρ3 R3 s3 e3 w3 q3 => ?_
    have ew : wipe σ3 vs = wipe σ vs := by
      rw [w3 vs hv]
      have idem : ∀ (ws : List Nat) (us : List Nat), (∀ k ∈ us, k ∈ ws) → wipe (wipe σ us) ws = wipe σ ws := by
        intro ws us
        induction us with
        | nil => intro _; rfl
        | cons u us ih =>
          intro hu
          show wipe ((wipe σ us).set u none) ws = _
          rw [wipe_set (hu u (by simp)), ih fun k hk => hu k (by simp [hk])]
      exact idem vs vs fun k hk => hk
    refine ⟨ew, ht _ G3 H3 σ3 ρ3 _ _ R3 q3 fun b G4 H4 ρ4 R4 s4 q4 => ?_⟩
    cases b with
    | true =>
      refine he _ G4 H4 σ3 ρ4 _ _ R4 q4 fun v s G5 H5 ρ5 R5 s5 rv q5 => ?_
      obtain ⟨G6, R6, s6, hd6⟩ := R5.freeze rv
      obtain ⟨R7, hH7, hG7, ap7⟩ := Rep.back g00 h0 b0 R6
      have sm : Same G' G6 := (((s2.trans s3).trans s4).trans s5).trans s6
      have dacc : Dats G6 (acc ++ [s.toD]) (accV ++ [v]) := (Dats.mono sm _ _ hdat).append ⟨v, [], rfl, hd6, rfl⟩
      refine ⟨accV, hH7, ?_, G6, wipeD ρ5 vs, _, _, ?_, s'.trans sm, upd_same, dacc, hG7, fun j s' e os z => ?_, ?_, q5⟩
      · rw [← hdat.length]
        exact Nat.lt_of_lt_of_le (Nat.lt_of_le_of_lt hal (Nat.lt_of_lt_of_le hlt hlen)) (by decide)
      · rw [← ew]
        refine Rep.wipe (R := ?_) vs
        -- the list D0 written: no slot holds it
        have hk : ∀ b x, b ≠ D0 → H5 b = x → upd H5 D0 (.lst (accV ++ [v])) b = x := fun b x hb e => by rw [upd_ne hb]; exact e
        refine ⟨R7.len, fun b x e => ?_, R7.g0, fun b x e z => ?_, R7.new, fun b e => ?_, R7.fz, fun j s e os => ?_, R7.ap, R7.nt, tabs_but R7.tab hH7 trivial fun b hb => upd_ne hb⟩
        · exact hk b _ (fun z => by subst z; rw [hG7] at e; cases e) (R7.sub b x e)
        · exact hk b _ (fun z => by subst z; rw [h0] at e; cases e) (R7.keep b x e z)
        · obtain ⟨a, b', c⟩ := R7.bl b e
          refine ⟨a, b', ?_⟩
          rw [upd_ne fun z => by subst z; exact b0 e]; exact c
        · obtain ⟨p, z1, z2, z3, z4⟩ := R7.ow j s e os
          have hp : p ≠ D0 := fun z => ap7 j s e os (z ▸ z1)
          exact ⟨p, z1, z2.mono (Same.refl _) (upd_ne hp), z3, z4⟩
      · obtain ⟨h1, h2⟩ := wipeD_get e
        rw [← ew, wipe_at h2] at z
        exact ap7 j s' h1 os z
      · rw [List.length_append]
        show acc.length + 1 ≤ i + 1
        omega
    | false =>
      obtain ⟨R7, hH7, hG7, ap7⟩ := Rep.back g00 h0 b0 R4
      have sm : Same G' G4 := (s2.trans s3).trans s4
      refine ⟨G4, wipeD ρ4 vs, acc, accV, ?_, s'.trans sm, hH7, Dats.mono sm _ _ hdat, hG7, fun j s' e os z => ?_, by omega, q4⟩
      · rw [← ew]; exact R7.wipe vs
      · obtain ⟨h1, h2⟩ := wipeD_get e
        rw [← ew, wipe_at h2] at z
        exact ap7 j s' h1 os z
  · have e : i = items.length := by omega
    subst e
    refine .inl ⟨jst, k _ (.ow acc) G' H' _ (R1.unwipe R' s') (s1.trans s') ⟨D0, rfl, ⟨accV, hH, hdat⟩, hG, h0, rfl, fun j s'' e os z => ?_⟩ (iend acc ρb iv)⟩
    rcases unw_get e with ⟨_, h1⟩ | ⟨h1, h2⟩
    · rw [os] at h1; cases h1
    · rw [← wipe_at h1] at z
      exact hap j s'' h2 os z
end
end L3

namespace L3
open PySem PySem.Spec PyProof.Rows L2

section
variable {X : Cx} {C : FC}
/-! ### comprehensions, as terms -/
theorem d_lc {elt tg iter : Expr} {ifs : List Expr} {scope : Scope} {pos : Pos} {wi : TI} {ti : DI} {g : TG} {gd : DG} {tt : TT} {t : DT} {te : TE} {d : DE} {is : List Nat} (own : List (Str × Nat)) (hc : X.calm = true) (hN : X.N.Nodup) (hi : PIV X C tg iter wi ti) (ok : BlkOk X.N X.env.scope scope own)
    (hg : ∀ (C : FC) (s : Shared) (H : Hp) (c : Addr) (cl : List (Str × Addr)) (fp : List Addr), PGV (X.blk s H scope (compEnvC scope cl c X.env) fp) C tg g gd is) (ht : ∀ (C : FC) (s : Shared) (H : Hp) (c : Addr) (cl : List (Str × Addr)) (fp : List Addr), PTsV (X.blk s H scope (compEnvC scope cl c X.env) fp) C ifs tt t)
    (he : ∀ (C : FC) (s : Shared) (H : Hp) (c : Addr) (cl : List (Str × Addr)) (fp : List Addr), PV (X.blk s H scope (compEnvC scope cl c X.env) fp) C elt te d) (hv : ∀ k ∈ is, k ∈ own.map (·.2) := by decide) (hs : ∀ x, foldedSetIterable iter X.env x = pure x := by intro _; rfl) :
    PV X C (.ListComp elt [⟨tg, iter, ifs, 0⟩] scope pos) (tLc wi g tt te (own.map (·.2))) (xLc ti gd t d (own.map (·.2))) :=
  ⟨pe_lc hc hN hi.pe ok (fun s H c cl fp => (hg C s H c cl fp).pe) (fun s H c cl fp => (ht C s H c cl fp).pe) (fun s H c cl fp => (he C s H c cl fp).pe) hs,
    rf_lc hi.rf (fun C' => (hg C' X.s_0 X.H_0 0 [] []).rf) (fun C' => (ht C' X.s_0 X.H_0 0 [] []).rf) (fun C' => (he C' X.s_0 X.H_0 0 [] []).rf) hv⟩
/-- name = [..], on one line -/
theorem ds_setLc (i : Nat) {y : Str} {py : Pos} {elt tg iter : Expr} {ifs : List Expr} {scope : Scope} {pos spos : Pos} {wi : TI} {ti : DI} {g : TG} {gd : DG} {tt : TT} {t : DT} {te : TE} {d : DE} {is : List Nat} (own : List (Str × Nat)) (hc : X.calm = true) (hN : X.N.Nodup)
    (hi : PIV X C tg iter wi ti) (ok : BlkOk X.N X.env.scope scope own)
    (hg : ∀ (C : FC) (s : Shared) (H : Hp) (c : Addr) (cl : List (Str × Addr)) (fp : List Addr), PGV (X.blk s H scope (compEnvC scope cl c X.env) fp) C tg g gd is) (ht : ∀ (C : FC) (s : Shared) (H : Hp) (c : Addr) (cl : List (Str × Addr)) (fp : List Addr), PTsV (X.blk s H scope (compEnvC scope cl c X.env) fp) C ifs tt t)
    (he : ∀ (C : FC) (s : Shared) (H : Hp) (c : Addr) (cl : List (Str × Addr)) (fp : List Addr), PV (X.blk s H scope (compEnvC scope cl c X.env) fp) C elt te d)
    (hsw : swapsWith (.ListComp elt [⟨tg, iter, ifs, 0⟩] scope pos) (some (.Name y py)) spos.line X.env = pure true)
    (hy : X.N[i]? = some y := by rfl) (hyl : X.env.scope.names.lookup y = some .local := by rfl)
    (hv : ∀ k ∈ is, k ∈ own.map (·.2) := by decide) (hs : ∀ x, foldedSetIterable iter X.env x = pure x := by intro _; rfl) :
    PSV X C (.Assign [.Name y py] (.ListComp elt [⟨tg, iter, ifs, 0⟩] scope pos) spos) (tAsg (tLc wi g tt te (own.map (·.2))) (gName i)) (xSet i (xLc ti gd t d (own.map (·.2)))) :=
  ⟨ps_setLc hc hN hy hyl hsw hi.pe ok (fun s H c cl fp => (hg C s H c cl fp).pe) (fun s H c cl fp => (ht C s H c cl fp).pe) (fun s H c cl fp => (he C s H c cl fp).pe) hs,
    rf_set (rf_lc hi.rf (fun C' => (hg C' X.s_0 X.H_0 0 [] []).rf) (fun C' => (ht C' X.s_0 X.H_0 0 [] []).rf) (fun C' => (he C' X.s_0 X.H_0 0 [] []).rf) hv)⟩
/-- a, b = x, y -/
def xPar (i j : Nat) (ta : DA) : DS := fun Z ρ => ta ρ fun ds ρ1 => match ds with
  | [d, e] => Z.nx ((ρ1.set i (some (.fz d))).set j (some (.fz e)))
  | _ => False
theorem ds_par (i j : Nat) {x y : Str} {a b : Expr} {ta : TA} {t : DA} {px py pt pos : Pos} {kt k2 pt2} (hc : X.calm = true) (hN : X.N.Nodup) (ha : PAV X C [a, b] ta t)
    (hw : swappedStores [.Tuple [.Name x px, .Name y py] kt pt] (.Tuple [a, b] k2 pt2) X.env = pure (some [x, y]) := by rfl)
    (hi : X.N[i]? = some x := by rfl) (hj : X.N[j]? = some y := by rfl) (hij : i ≠ j := by decide)
    (hx : X.env.scope.names.lookup x = some .local := by rfl) (hy : X.env.scope.names.lookup y = some .local := by rfl)
    (hs : swapsWithSole [.Tuple [.Name x px, .Name y py] kt pt] (.Tuple [a, b] k2 pt2) pos.line X.env = pure false := by rfl) :
    PSV X C (.Assign [.Tuple [.Name x px, .Name y py] kt pt] (.Tuple [a, b] k2 pt2) pos) (tPar i j ta) (xPar i j t) :=
  ⟨ps_par hc hN hi hj hij hx hy ha.pe hw hs, fun G H σ ρ DD E R q k => ha.rf G H σ ρ _ _ R q fun vs ds G1 H1 ρ1 R1 s1 hd q1 => by
    split at q1
    · rename_i d e
      obtain ⟨v, u, rfl, h1, h2⟩ := hd.two
      exact ⟨v, u, rfl, k.nx G1 H1 _ _ ((R1.set i (s := .fz d) h1).set j (s := .fz e) h2) s1 q1⟩
    · exact q1.elim⟩
end

/-! ### what a def promises, over plain data -/
/-- arguments, what is told, which exceptions leave (by their classes' names) -/
abbrev DP := List D → (S → Prop) → (Str → Prop) → Prop
/-- what is told: frozen, or a new object -/
def RetV (G H' H : Hp) (s : S) (v : V) : Prop :=
  match s with
  | .fz d => Dat G d v
  | s => ∃ p, v = .ref p ∧ OwnAt G H' p s ∧ G p = none ∧ H p = none ∧ s.isBg = false
structure Post (G H G' H' : Hp) (s : S) (v : V) : Prop where
  g : Same G G'
  h : Same H H'
  sub : Same G' H'
  new : ∀ p o, G' p = some o → G p = some o ∨ H p = none
  ret : RetV G' H' H s v
  nt : NoTb G'
def spD (mg : Str → Option Value) (n : Nat) (dp : DP) : Sp := fun vs H Q E => ∃ (G : Hp) (ds : List D) (QD : S → Prop) (ED : Str → Prop), Same G H ∧ NoTb G ∧ Dats G ds vs ∧ ds.length = n ∧ dp ds QD ED ∧
  (∀ v s G' H', QD s → Post G H G' H' s v → Q v H') ∧ ∀ c Ca H', ED c → mg c = some (.ref Ca) → Same H H' → E (.ref Ca) none H'
theorem spD_len {mg : Str → Option Value} {n : Nat} {dp : DP} {ps : List Str} (h : ps.length = n) : ∀ vs H Q E, spD mg n dp vs H Q E → vs.length = ps.length := fun vs H Q E ⟨G, ds, _, _, _, _, hd, hl, _⟩ => by
  rw [h, ← hl, hd.length]
/-- the bag first: what it holds, the other arguments, what is told with the bag's end -/
abbrev DB := List D → List D → (S → List D → Prop) → Prop
structure PostB (b : Addr) (G H G' H' : Hp) (s : S) (v : V) (bd : List D) : Prop where
  g : Same G G'
  h : ∀ p o, p ≠ b → H p = some o → H' p = some o
  sub : Same G' H'
  new : ∀ p o, G' p = some o → G p = some o ∨ H p = none
  bag : ∃ vs, H' b = some (.lst vs) ∧ Dats G' bd vs
  ret : RetV G' H' H s v
  nt : NoTb G'
def spB (n : Nat) (db : DB) : Sp := fun vs H Q E => ∃ (G : Hp) (b : Addr) (vs' bv : List V) (bd ds : List D) (QD : S → List D → Prop), vs = .ref b :: vs' ∧ (Same G H ∧ NoTb G) ∧ G b = none ∧ H b = some (.lst bv) ∧ Dats G bd bv ∧ Dats G ds vs' ∧ ds.length = n ∧ db bd ds QD ∧
  ∀ v s bd' G' H', QD s bd' → PostB b G H G' H' s v bd' → Q v H'
theorem spB_len {n : Nat} {db : DB} {ps : List Str} (h : ps.length = n + 1) : ∀ vs H Q E, spB n db vs H Q E → vs.length = ps.length := fun vs H Q E ⟨G, b, vs', bv, bd, ds, QD, e, _, _, _, _, hd, hl, _⟩ => by
  subst e
  rw [h, ← hl, hd.length]
  rfl

section
variable {X : Cx} {C : FC}
def xCall (n : Nat) (dp : DP) (ED : Str → Prop) (a : DA) : DE := fun ρ Q => a ρ fun ds ρ1 => ds.length = n ∧ dp ds (fun s => Q s ρ1) ED
theorem Rep.post {G H G' H' : Hp} {σ : L2.St} {ρ : En} {s : S} {v : V} (R : Rep C G H σ ρ) (P : Post G H G' H' s v) : Rep C G' H' σ ρ ∧ RV C G' H' σ ρ s v := by
  have R2 : Rep C G' H' σ ρ := by
    refine ⟨R.len, P.sub, R.g0.trans P.g, fun p o e z => P.h _ _ (R.keep p o e z), fun p o e => ?_, fun p e => ?_, fun i d e => ?_, fun i s e os => ?_, R.ap, P.nt, R.tab.ext P.h⟩
    · rcases P.new p o e with h | h
      · exact R.new p o h
      · exact .inr (R.h0 h)
    · obtain ⟨a, b, c⟩ := R.bl p e
      obtain ⟨vs, ho⟩ := c
      refine ⟨?_, b, vs, P.h _ _ ho⟩
      cases q : G' p with
      | none => rfl
      | some x =>
        rcases P.new p x q with h | h
        · rw [a] at h; cases h
        · rw [ho] at h; cases h
    · obtain ⟨v, h1, h2⟩ := R.fz i d e
      exact ⟨v, h1, Dat.mono P.g _ _ h2⟩
    · obtain ⟨p, h1, h2, h3, h4⟩ := R.ow i s e os
      obtain ⟨o, ho⟩ := h2.some
      refine ⟨p, h1, h2.mono P.g ((P.h _ _ ho).trans ho.symm), ?_, h4⟩
      cases q : G' p with
      | none => rfl
      | some x =>
        rcases P.new p x q with h | h
        · rw [h3] at h; cases h
        · rw [ho] at h; cases h
  refine ⟨R2, ?_⟩
  have rt := P.ret
  cases s with
  | fz d => exact rt
  | ow ds =>
    obtain ⟨p, rfl, h2, h3, h4, h5⟩ := rt
    exact ⟨p, rfl, h2, h3, R.h0 h4, h5, R.apart h4⟩
  | od ks ds =>
    obtain ⟨p, rfl, h2, h3, h4, h5⟩ := rt
    exact ⟨p, rfl, h2, h3, R.h0 h4, h5, R.apart h4⟩
  | bg ds =>
    obtain ⟨p, rfl, h2, h3, h4, h5⟩ := rt
    cases h5
/-- what is wanted of exceptions, over the names -/
def EOk (C : FC) (mg : Str → Option Value) (ED : Str → Prop) (E : XK) : Prop := ∀ c Ca H', ED c → mg c = some (.ref Ca) → (∀ p o, C.H0 p = some o → C.bag ≠ some p → H' p = some o) → E (.ref Ca) none H'
theorem EOk.none {C : FC} {mg : Str → Option Value} {E : XK} : EOk C mg (fun _ => False) E := fun _ _ _ h _ _ => h.elim
theorem rf_call {n : Nat} {dp : DP} {ED : Str → Prop} {E : XK} {mg : Str → Option Value} {ta : TA} {a : DA} (he : EOk C mg ED E) (ha : RfA C ta a) : Rf C (tCall (spD mg n dp) [] E ta) (xCall n dp ED a) := fun G H σ ρ QD Q R q k => by
  refine ha G H σ ρ _ _ R q fun vs ds G1 H1 ρ1 R1 s1 hd ⟨hl, q1⟩ => ?_
  rw [List.append_nil]
  refine ⟨G1, ds, _, ED, R1.sub, R1.nt, hd, hl, q1, fun v s G' H' qs P => ?_, fun c Ca H' h1 h2 h3 => he c Ca H' h1 h2 fun p o e z => h3 _ _ (R1.keep p o e z)⟩
  obtain ⟨R2, rv⟩ := R1.post P
  exact k v s G' H' ρ1 R2 (s1.trans P.g) rv qs
theorem d_call {CX : CXT} {k n : Nat} {f : Addr} {fd : FuncData} {ps : List Str} {dp : DP} {ED : Str → Prop} {E : XK} {x : Str} {p pos : Pos} {e : Expr} {es : List Expr} {ta : TA} {a : DA} (F : FnOk X.prog X.w X.K X.mg X.base CX k f fd ps (spD X.mg n dp)) (hr : Room k X.A)
    (hm : X.mg x = some (.ref f)) (hk : PySem.W.keepIn X.K (.ref f) = true) (hb : Binds X.K fd ps []) (hx : Passes CX X E) (hE : EOk C X.mg ED E) (ha : PAV X C (e :: es) ta a) (hg : Gl X x := by rfl)
    (hdb : (x == ("__debug__" : Str)) = false := by decide) (he : starEach (e :: es) X.env = (false, eval e X.env) :: starEach es X.env := by rfl) (hpl : (backTo pos (starEach es X.env)).any (·.1) = false := by rfl) :
    PV X C (.Call (.Name x p) (e :: es) [] pos) (tCall (spD X.mg n dp) [] E ta) (xCall n dp ED a) := ⟨pe_call F hr hg hm hk hb .nil hx ha.pe hdb he hpl, rf_call hE ha.rf⟩
/-- the bag in slot i handed on -/
def xCallB (i n : Nat) (db : DB) (a : DA) : DE := fun ρ Q => (∃ b, ρ[i]? = some (some (.bg b))) ∧ a ρ fun ds ρ1 => ds.length = n ∧ ∃ b, ρ1[i]? = some (some (.bg b)) ∧ db b ds fun s b' => Q s (ρ1.set i (some (.bg b')))
theorem Rep.postB {G H G' H' : Hp} {σ : L2.St} {ρ : En} {s : S} {v : V} {i : Nat} {bd bd' : List D} {b : Addr} (R : Rep C G H σ ρ) (e : ρ[i]? = some (some (.bg bd))) (hb : σ[i]? = some (some (.ref b))) (P : PostB b G H G' H' s v bd') :
    Rep C G' H' σ (ρ.set i (some (.bg bd'))) ∧ RV C G' H' σ (ρ.set i (some (.bg bd'))) s v := by
  obtain ⟨b1, hb1, h2, h3, h4⟩ := R.ow i _ e rfl
  rw [hb] at hb1; cases hb1
  obtain ⟨ob, hob⟩ := h2.some
  have gb : G' b = none := by
    cases q : G' b with
    | none => rfl
    | some x =>
      rcases P.new b x q with h | h
      · rw [h3] at h; cases h
      · rw [hob] at h; cases h
  have R2 : Rep C G' H' σ (ρ.set i (some (.bg bd'))) := by
    refine ⟨by rw [List.length_set]; exact R.len, P.sub, R.g0.trans P.g, fun p o e z => ?_, fun p o e => ?_, fun p e => ?_, fun j d e => ?_, fun j s e' os => ?_, fun j k s1 s2 q ne e1 o1 e2 o2 z1 z2 => ?_, P.nt, tabs_keep R.tab (plain_own h2).choose_spec.1 (plain_own h2).choose_spec.2 P.h⟩
    · have : p ≠ b := fun z' => by
        subst z'
        rcases h4 with ⟨h4, _⟩ | ⟨h4, _⟩
        · rw [h4] at e; cases e
        · exact z h4
      exact P.h _ _ this (R.keep p o e z)
    · rcases P.new p o e with h | h
      · exact R.new p o h
      · exact .inr (R.h0 h)
    · obtain ⟨a, b', c⟩ := R.bl p e
      obtain ⟨vs0, ho⟩ := c
      refine ⟨?_, b', ?_⟩
      · cases q : G' p with
        | none => rfl
        | some x =>
          rcases P.new p x q with h | h
          · rw [a] at h; cases h
          · rw [ho] at h; cases h
      · by_cases hp : p = b
        · subst hp
          obtain ⟨vs, q, _⟩ := P.bag
          exact ⟨vs, q⟩
        · exact ⟨vs0, P.h _ _ hp ho⟩
    · rcases get_set e with ⟨_, z⟩ | ⟨_, z⟩
      · cases z
      · obtain ⟨v, h1, h2⟩ := R.fz j d z
        exact ⟨v, h1, Dat.mono P.g _ _ h2⟩
    · rcases get_set e' with ⟨rfl, rfl⟩ | ⟨hj, z⟩
      · exact ⟨b, hb, P.bag, gb, h4⟩
      · obtain ⟨p, z1, z2, z3, z4⟩ := R.ow j s z os
        obtain ⟨o, ho⟩ := z2.some
        have hp : p ≠ b := fun q => by subst q; exact R.ap i j _ s p (Ne.symm hj) e rfl z os hb z1
        refine ⟨p, z1, z2.mono P.g ((P.h _ _ hp ho).trans ho.symm), ?_, z4⟩
        cases q : G' p with
        | none => rfl
        | some x =>
          rcases P.new p x q with h | h
          · rw [z3] at h; cases h
          · rw [ho] at h; cases h
    · rcases get_set e1 with ⟨rfl, rfl⟩ | ⟨hj, e1'⟩
      · rcases get_set e2 with ⟨rfl, rfl⟩ | ⟨hk, e2'⟩
        · exact ne rfl
        · exact R.ap j k _ s2 q ne e rfl e2' o2 z1 z2
      · rcases get_set e2 with ⟨rfl, rfl⟩ | ⟨hk, e2'⟩
        · exact R.ap j k s1 _ q ne e1' o1 e rfl z1 z2
        · exact R.ap j k s1 s2 q ne e1' o1 e2' o2 z1 z2
  refine ⟨R2, ?_⟩
  have apn : ∀ {p : Addr}, H p = none → ∀ (j : Nat) (s' : S), (ρ.set i (some (.bg bd')))[j]? = some (some s') → s'.own = true → σ[j]? ≠ some (some (.ref p)) := fun {p} hp j s' e' os z => by
    rcases get_set e' with ⟨rfl, rfl⟩ | ⟨hj, e''⟩
    · rw [hb] at z; cases z
      rw [hob] at hp; cases hp
    · exact R.apart hp j s' e'' os z
  have rt := P.ret
  cases s with
  | fz d => exact rt
  | ow ds =>
    obtain ⟨p, rfl, h2, h3, h4, h5⟩ := rt
    exact ⟨p, rfl, h2, h3, R.h0 h4, h5, apn h4⟩
  | od ks ds =>
    obtain ⟨p, rfl, h2, h3, h4, h5⟩ := rt
    exact ⟨p, rfl, h2, h3, R.h0 h4, h5, apn h4⟩
  | bg ds =>
    obtain ⟨p, rfl, h2, h3, h4, h5⟩ := rt
    cases h5
theorem rf_callB {i n : Nat} {db : DB} {E : XK} {ta : TA} {a : DA} (ha : RfA C ta a) : Rf C (tCall (spB n db) [] E (tCons (tVar i) ta)) (xCallB i n db a) := fun G H σ ρ QD Q R ⟨⟨b0, e0⟩, q⟩ k => by
  obtain ⟨p, hp, _⟩ := R.ow i _ e0 rfl
  refine ⟨.ref p, hp, ha G H σ ρ _ _ R q fun vs ds G1 H1 ρ1 R1 s1 hd ⟨hl, b1, e1, q1⟩ => ?_⟩
  obtain ⟨p', hp', ⟨bv, h2, h3⟩, h4, _⟩ := R1.ow i _ e1 rfl
  rw [hp] at hp'; cases hp'
  rw [List.append_nil]
  refine ⟨G1, p, vs, bv, b1, ds, _, rfl, ⟨R1.sub, R1.nt⟩, h4, h2, h3, hd, hl, q1, fun v s bd' G' H' qs P => ?_⟩
  obtain ⟨R2, rv⟩ := R1.postB e1 hp P
  exact k v s G' H' _ R2 (s1.trans P.g) rv qs
theorem d_callBag (i : Nat) {CX : CXT} {k n : Nat} {f : Addr} {fd : FuncData} {ps : List Str} {db : DB} {E : XK} {x y : Str} {p p2 pos : Pos} {es : List Expr} {ta : TA} {a : DA} (F : FnOk X.prog X.w X.K X.mg X.base CX k f fd ps (spB n db)) (hr : Room k X.A)
    (hm : X.mg x = some (.ref f)) (hk : PySem.W.keepIn X.K (.ref f) = true) (hb : Binds X.K fd ps []) (hx : Passes CX X E) (ha : PAV X C es ta a) (hg : Gl X x := by rfl)
    (hN : X.N[i]? = some y := by rfl) (hv : Vis X.env.scope y := by first | exact Or.inl rfl | exact Or.inr (Or.inl rfl) | exact Or.inr (Or.inr rfl)) (hd : (y == ("__debug__" : Str)) = false := by decide) (hcd : (y == ("__classdict__" : Str)) = false := by decide)
    (hdb : (x == ("__debug__" : Str)) = false := by decide) (he : starEach (.Name y p2 :: es) X.env = (false, eval (.Name y p2) X.env) :: starEach es X.env := by rfl) (hpl : (backTo pos (starEach es X.env)).any (·.1) = false := by rfl) :
    PV X C (.Call (.Name x p) (.Name y p2 :: es) [] pos) (tCall (spB n db) [] E (tCons (tVar i) ta)) (xCallB i n db a) := ⟨pe_call F hr hg hm hk hb .nil hx (pa_cons (pe_var hN hv hd hcd) ha.pe he) hdb he hpl, rf_callB ha.rf⟩
end

/-! ### a def by its body -/
def ini (n : Nat) (ds : List D) : En := ds.map (fun d => some (.fz d)) ++ List.replicate (n - ds.length) none
theorem start_at {N : List Str} {vs : List V} {i : Nat} {v : V} (h : vs[i]? = some v) : (L2.start N vs)[i]? = some (some v) := by
  unfold L2.start
  have hi := (List.getElem?_eq_some_iff.mp h).1
  rw [List.getElem?_append_left (by simpa using hi), List.getElem?_map, h]; rfl
theorem rep_start {N : List Str} {G H : Hp} {vs : List V} {ds : List D} (sm : Same G H) (nt : NoTb G) (hd : Dats G ds vs) (hn : ds.length ≤ N.length) : Rep ⟨H, G, none, []⟩ G H (L2.start N vs) (ini N.length ds) := by
  have hl := hd.length
  have at0 : ∀ (i : Nat) (s : S), (ini N.length ds)[i]? = some (some s) → ∃ d, ds[i]? = some d ∧ s = .fz d := fun i s e => by
    unfold ini at e
    by_cases hi : i < ds.length
    · rw [List.getElem?_append_left (by simpa using hi), List.getElem?_map, List.getElem?_eq_getElem hi] at e
      exact ⟨ds[i], List.getElem?_eq_getElem hi, (Option.some.inj (Option.some.inj e)).symm⟩
    · rw [List.getElem?_append_right (by simpa using hi), List.getElem?_replicate] at e
      split at e <;> cases e
  refine ⟨?_, sm, Same.refl G, fun _ _ e _ => e, fun _ _ e => .inl e, fun p e => (by cases e), fun i d e => ?_, fun i s e os => ?_, fun i j s s' p ne e1 o1 e2 o2 z1 z2 => ?_, nt, fun _ z => nomatch z⟩
  · unfold ini L2.start
    simp only [List.length_append, List.length_map, List.length_replicate]
    omega
  · obtain ⟨d', h1, h2⟩ := at0 i _ e
    cases h2
    obtain ⟨v, h3, h4⟩ := hd.get h1
    exact ⟨v, start_at h3, h4⟩
  · obtain ⟨d', h1, rfl⟩ := at0 i _ e
    cases os
  · obtain ⟨d', h1, rfl⟩ := at0 i _ e1
    cases o1
theorem Rep.ret {G0 H0 G H : Hp} {σ : L2.St} {ρ : En} {s : S} {v : V} (R : Rep ⟨H0, G0, none, []⟩ G H σ ρ) (rv : RV ⟨H0, G0, none, []⟩ G H σ ρ s v) : Post G0 H0 G H s v :=
  ⟨R.g0, fun p o e => R.keep p o e (fun z => nomatch z), R.sub, R.new, by
    cases s with
    | fz d => exact rv
    | ow ds => obtain ⟨p, rfl, h2, h3, h4, h5, _⟩ := rv; exact ⟨p, rfl, h2, h3, h4, h5⟩
    | od ks ds => obtain ⟨p, rfl, h2, h3, h4, h5, _⟩ := rv; exact ⟨p, rfl, h2, h3, h4, h5⟩
    | bg ds => obtain ⟨p, rfl, h2, h3, h4, h5, _⟩ := rv; exact ⟨p, rfl, h2, h3, h4, h5⟩, R.nt⟩
section
variable {P : Program} {w : World} {K : PySem.W.Frag} {mg : Str → Option Value} {base : Heap}
/-- no exception leaves -/
theorem fun_ok {x qual : Str} {st : Stmt} {f : Addr} {fd : FuncData} {N ps : List Str} {k n : Nat} {dp : DP} (F : Fun K x qual st f fd) (Sc : FnScope N ps (defScope st)) (hps : ps.length = n) (hN : n ≤ N.length)
    (h : ∀ (cdv : Value) (A : Around) (outer : List PySem.Env) (s : Shared) (H : Hp) (E : XK) (C : FC), Room k (A.deeper (envOfC qual (defScope st) s.heap.objs.size f cdv)) →
      ∃ ts t, PSsV (cxOf CX0 P w K mg base N qual (defScope st) f cdv A outer s H E).nox C (defBody st) ts t ∧ ∀ ds QD ED, ds.length = n → dp ds QD ED → t { nx := fun _ => QD (.fz .non), rt := fun s _ => QD s } (ini N.length ds)) :
    FnOk P w K mg base CX0 (k + 1) f fd ps (spD mg n dp) := by
  refine F.ok Sc (spD_len hps) fun cdv A outer s H vs Q E hr ⟨G, ds, QD, ED, sm, nt, hd, hl, hdp, hq, _⟩ => ?_
  obtain ⟨ts, t, hb, hrd⟩ := h cdv A outer s H E ⟨H, G, none, []⟩ hr
  refine ⟨ts, hb.pe, hb.rf G H _ _ _ _ (rep_start (N := N) sm nt hd (by omega)) (hrd ds QD ED hl hdp) ⟨fun G' H' σ' ρ' R' s' q => ?_, fun _ _ _ _ _ _ q => q.elim, fun _ _ _ _ _ _ q => q.elim, fun v s G' H' σ' ρ' R' s' rv q => ?_⟩⟩
  · exact hq _ _ G' H' q (R'.ret (s := .fz .non) rfl)
  · exact hq v s G' H' q (R'.ret rv)
def iniB (n : Nat) (bd ds : List D) : En := some (.bg bd) :: (ds.map (fun d => some (.fz d)) ++ List.replicate (n - (ds.length + 1)) none)
theorem rep_startB {N : List Str} {G H : Hp} {vs bv : List V} {bd ds : List D} {b : Addr} (sm : Same G H) (nt : NoTb G) (gb : G b = none) (hb : H b = some (.lst bv)) (hbd : Dats G bd bv) (hd : Dats G ds vs) (hn : ds.length + 1 ≤ N.length) :
    Rep ⟨H, G, some b, []⟩ G H (L2.start N (.ref b :: vs)) (iniB N.length bd ds) := by
  have hl := hd.length
  have at0 : ∀ (i : Nat) (s : S), (iniB N.length bd ds)[i]? = some (some s) → (i = 0 ∧ s = .bg bd) ∨ ∃ j d, i = j + 1 ∧ ds[j]? = some d ∧ s = .fz d := fun i s e => by
    cases i with
    | zero =>
      have e' : some (some (S.bg bd)) = some (some s) := e
      cases e'
      exact .inl ⟨rfl, rfl⟩
    | succ j =>
      have e' : (ds.map (fun d => some (S.fz d)) ++ List.replicate (N.length - (ds.length + 1)) none)[j]? = some (some s) := e
      by_cases hi : j < ds.length
      · rw [List.getElem?_append_left (by simpa using hi), List.getElem?_map, List.getElem?_eq_getElem hi] at e'
        exact .inr ⟨j, ds[j], rfl, List.getElem?_eq_getElem hi, (Option.some.inj (Option.some.inj e')).symm⟩
      · rw [List.getElem?_append_right (by simpa using hi), List.getElem?_replicate] at e'
        split at e' <;> cases e'
  refine ⟨?_, sm, Same.refl G, fun _ _ e _ => e, fun _ _ e => .inl e, fun p e => ?_, fun i d e => ?_, fun i s e os => ?_, fun i j s s' p ne e1 o1 e2 o2 z1 z2 => ?_, nt, fun _ z => nomatch z⟩
  · unfold iniB L2.start
    simp only [List.length_append, List.length_map, List.length_replicate, List.length_cons]
    omega
  · cases e
    exact ⟨gb, (by show H b ≠ none; rw [hb]; exact fun z => nomatch z), _, hb⟩
  · rcases at0 i _ e with ⟨_, z⟩ | ⟨j, d', rfl, h1, h2⟩
    · cases z
    · cases h2
      obtain ⟨v, h3, h4⟩ := hd.get h1
      exact ⟨v, start_at (by simpa using h3), h4⟩
  · rcases at0 i _ e with ⟨rfl, rfl⟩ | ⟨j, d', rfl, h1, rfl⟩
    · exact ⟨b, start_at rfl, ⟨bv, hb, hbd⟩, gb, .inr ⟨rfl, rfl⟩⟩
    · cases os
  · rcases at0 i _ e1 with ⟨rfl, rfl⟩ | ⟨j', d', rfl, h1, rfl⟩
    · rcases at0 j _ e2 with ⟨rfl, rfl⟩ | ⟨j', d', rfl, h1, rfl⟩
      · exact ne rfl
      · cases o2
    · cases o1
/-- a def whose first argument is the bag: the bag's end stands in slot 0 -/
theorem fun_okB {x qual : Str} {st : Stmt} {f : Addr} {fd : FuncData} {N ps : List Str} {k n : Nat} {db : DB} (F : Fun K x qual st f fd) (Sc : FnScope N ps (defScope st)) (hps : ps.length = n + 1) (hN : n + 1 ≤ N.length)
    (h : ∀ (cdv : Value) (A : Around) (outer : List PySem.Env) (s : Shared) (H : Hp) (E : XK) (C : FC), Room k (A.deeper (envOfC qual (defScope st) s.heap.objs.size f cdv)) →
      ∃ ts t, PSsV (cxOf CX0 P w K mg base N qual (defScope st) f cdv A outer s H E).nox C (defBody st) ts t ∧ ∀ bd ds QD, ds.length = n → db bd ds QD →
        t { nx := fun _ => False, rt := fun s ρ => ∃ bd', ρ[0]? = some (some (.bg bd')) ∧ QD s bd' } (iniB N.length bd ds)) :
    FnOk P w K mg base CX0 (k + 1) f fd ps (spB n db) := by
  refine F.ok Sc (spB_len hps) fun cdv A outer s H vs Q E hr ⟨G, b, vs', bv, bd, ds, QD, e, ⟨sm, nt⟩, gb, hb, hbd, hd, hl, hdp, hq⟩ => ?_
  subst e
  obtain ⟨ts, t, hbo, hrd⟩ := h cdv A outer s H E ⟨H, G, some b, []⟩ hr
  have hst : (L2.start N (.ref b :: vs'))[0]? = some (some (.ref b)) := start_at rfl
  refine ⟨ts, hbo.pe, hbo.rf G H _ _ _ _ (rep_startB (N := N) sm nt gb hb hbd hd (by omega)) (hrd bd ds QD hl hdp) ⟨fun _ _ _ _ _ _ q => q.elim, fun _ _ _ _ _ _ q => q.elim, fun _ _ _ _ _ _ q => q.elim, fun v s G' H' σ' ρ' R' s' rv ⟨bd', e0, q⟩ => ?_⟩⟩
  obtain ⟨p, h1, ⟨bv', h2, h3⟩, h4, h5⟩ := R'.ow 0 _ e0 rfl
  have hp : p = b := by
    rcases h5 with ⟨_, h5⟩ | ⟨h5, _⟩
    · cases h5 rfl
    · exact (Option.some.inj h5).symm
  subst hp
  refine hq v s bd' G' H' q ⟨R'.g0, fun q o ne e => R'.keep q o e (fun z => ne (Option.some.inj z).symm), R'.sub, R'.new, ⟨bv', h2, h3⟩, ?_, R'.nt⟩
  cases s with
  | fz d => exact rv
  | ow ds => obtain ⟨q, rfl, h2, h3, h4, h5, _⟩ := rv; exact ⟨q, rfl, h2, h3, h4, h5⟩
  | od ks ds => obtain ⟨q, rfl, h2, h3, h4, h5, _⟩ := rv; exact ⟨q, rfl, h2, h3, h4, h5⟩
  | bg ds => obtain ⟨q, rfl, h2, h3, h4, h5, _⟩ := rv; cases h5
end
end L3

namespace L3
open PySem PySem.Spec PyProof.Rows L2

/-! ### defs of the text, by name -/
def Df (K : PySem.W.Frag) (mg : Str → Option Value) (x : Str) (st : Stmt) (ps : List Str) : Prop := ∃ f fd, Fun K x x st f fd ∧ mg x = some (.ref f) ∧ Binds K fd ps []
def Fn (P : Program) (w : World) (K : PySem.W.Frag) (mg : Str → Option Value) (base : Heap) (x : Str) (k n : Nat) (dp : DP) : Prop :=
  ∃ f fd ps, FnOk P w K mg base CX0 k f fd ps (spD mg n dp) ∧ mg x = some (.ref f) ∧ PySem.W.keepIn K (.ref f) = true ∧ Binds K fd ps []
def FnB (P : Program) (w : World) (K : PySem.W.Frag) (mg : Str → Option Value) (base : Heap) (x : Str) (k n : Nat) (db : DB) : Prop :=
  ∃ f fd ps, FnOk P w K mg base CX0 k f fd ps (spB n db) ∧ mg x = some (.ref f) ∧ PySem.W.keepIn K (.ref f) = true ∧ Binds K fd ps []
section
variable {X : Cx} {C : FC}
theorem d_fn {k n : Nat} {dp : DP} {x : Str} {p pos : Pos} {e : Expr} {es : List Expr} {ta : TA} {a : DA} (F : Fn X.prog X.w X.K X.mg X.base x k n dp) (hr : Room k X.A) (ha : PAV X C (e :: es) ta a) (hg : Gl X x := by rfl)
    (hdb : (x == ("__debug__" : Str)) = false := by decide) (he : starEach (e :: es) X.env = (false, eval e X.env) :: starEach es X.env := by rfl) (hpl : (backTo pos (starEach es X.env)).any (·.1) = false := by rfl) :
    PV X C (.Call (.Name x p) (e :: es) [] pos) (tCall (spD X.mg n dp) [] E0 ta) (xCall n dp (fun _ => False) a) := by
  obtain ⟨f, fd, ps, hF, hm, hk, hb⟩ := F
  exact d_call hF hr hm hk hb pass0 EOk.none ha hg hdb he hpl
theorem d_fnB (i : Nat) {k n : Nat} {db : DB} {x y : Str} {p p2 pos : Pos} {es : List Expr} {ta : TA} {a : DA} (F : FnB X.prog X.w X.K X.mg X.base x k n db) (hr : Room k X.A) (ha : PAV X C es ta a) (hg : Gl X x := by rfl)
    (hN : X.N[i]? = some y := by rfl) (hv : Vis X.env.scope y := by first | exact Or.inl rfl | exact Or.inr (Or.inl rfl) | exact Or.inr (Or.inr rfl)) (hd : (y == ("__debug__" : Str)) = false := by decide) (hcd : (y == ("__classdict__" : Str)) = false := by decide)
    (hdb : (x == ("__debug__" : Str)) = false := by decide) (he : starEach (.Name y p2 :: es) X.env = (false, eval (.Name y p2) X.env) :: starEach es X.env := by rfl) (hpl : (backTo pos (starEach es X.env)).any (·.1) = false := by rfl) :
    PV X C (.Call (.Name x p) (.Name y p2 :: es) [] pos) (tCall (spB n db) [] E0 (tCons (tVar i) ta)) (xCallB i n db a) := by
  obtain ⟨f, fd, ps, hF, hm, hk, hb⟩ := F
  exact d_callBag i hF hr hm hk hb pass0 ha hg hN hv hd hcd hdb he hpl
end
section
variable {P : Program} {w : World} {K : PySem.W.Frag} {mg : Str → Option Value} {base : Heap}
theorem fn_mk {x : Str} {st : Stmt} {N ps : List Str} {k n : Nat} {dp : DP} (d : Df K mg x st ps) (Sc : FnScope N ps (defScope st)) (hps : ps.length = n) (hN : n ≤ N.length)
    (h : ∀ (f : Addr) (cdv : Value) (A : Around) (outer : List PySem.Env) (s : Shared) (H : Hp) (E : XK) (C : FC), Room k (A.deeper (envOfC x (defScope st) s.heap.objs.size f cdv)) →
      ∃ ts t, PSsV (cxOf CX0 P w K mg base N x (defScope st) f cdv A outer s H E).nox C (defBody st) ts t ∧ ∀ ds QD ED, ds.length = n → dp ds QD ED → t { nx := fun _ => QD (.fz .non), rt := fun s _ => QD s } (ini N.length ds)) :
    Fn P w K mg base x (k + 1) n dp := by
  obtain ⟨f, fd, F, hm, hb⟩ := d
  exact ⟨f, fd, ps, fun_ok F Sc hps hN (h f), hm, F.kp, hb⟩
theorem fn_mkB {x : Str} {st : Stmt} {N ps : List Str} {k n : Nat} {db : DB} (d : Df K mg x st ps) (Sc : FnScope N ps (defScope st)) (hps : ps.length = n + 1) (hN : n + 1 ≤ N.length)
    (h : ∀ (f : Addr) (cdv : Value) (A : Around) (outer : List PySem.Env) (s : Shared) (H : Hp) (E : XK) (C : FC), Room k (A.deeper (envOfC x (defScope st) s.heap.objs.size f cdv)) →
      ∃ ts t, PSsV (cxOf CX0 P w K mg base N x (defScope st) f cdv A outer s H E).nox C (defBody st) ts t ∧ ∀ bd ds QD, ds.length = n → db bd ds QD →
        t { nx := fun _ => False, rt := fun s ρ => ∃ bd', ρ[0]? = some (some (.bg bd')) ∧ QD s bd' } (iniB N.length bd ds)) :
    FnB P w K mg base x (k + 1) n db := by
  obtain ⟨f, fd, F, hm, hb⟩ := d
  exact ⟨f, fd, ps, fun_okB F Sc hps hN (h f), hm, F.kp, hb⟩
theorem Fn.imp {x : Str} {k n : Nat} {dp dp' : DP} (F : Fn P w K mg base x k n dp) (h : ∀ ds Q E, dp' ds Q E → dp ds Q E) : Fn P w K mg base x k n dp' := by
  obtain ⟨f, fd, ps, hF, hm, hk, hb⟩ := F
  exact ⟨f, fd, ps, hF.imp fun vs H Q E ⟨G, ds, QD, ED, h1, h2, h3, h4, h5, h6⟩ => ⟨G, ds, QD, ED, h1, h2, h3, h4, h _ _ _ h5, h6⟩, hm, hk, hb⟩
end

/-! ### isinstance -/
def tyN : D → String
  | .non => "NoneType"
  | .bl _ => "bool"
  | .int _ => "int"
  | .str _ => "str"
  | .lst _ => "list"
  | .tup _ => "tuple"
  | .dct _ _ => "dict"
  | .obj _ => "NoneType"
/-- no object of another kind -/
def noO : D → Bool
  | .obj _ => false
  | _ => true
def isiN (T : String) (n : String) : Bool := n == T || (n == "bool" && T == "int")
def isiD (T : String) (d : D) : Bool := isiN T (tyN d)
theorem tyN_cases (d : D) : tyN d ∈ ["NoneType", "bool", "int", "str", "list", "tuple", "dict"] := by cases d <;> simp [tyN]
theorem kit_all : (["NoneType", "bool", "int", "str", "list", "tuple", "dict"].all fun n => ["int", "bool", "list", "tuple", "str"].all fun T => kitB n T == some (isiN T n)) = true := by decide +kernel
theorem kit_of_d {T : String} (hT : T ∈ ["int", "bool", "list", "tuple", "str"]) (d : D) : kitB (tyN d) T = some (isiD T d) := by
  have h := List.all_eq_true.mp (List.all_eq_true.mp kit_all (tyN d) (tyN_cases d)) T hT
  exact eq_of_beq h
theorem tyX_of {K : PySem.W.Frag} {G H : Hp} (sm : Same G H) {d : D} {v : V} (h : Dat G d v) (no : noO d = true) : TyX K H v (.type (tyN d)) := by
  cases d with
  | non => cases (show v = _ from h); exact .base .non
  | bl b => cases (show v = _ from h); exact .base (.bl b)
  | int i => cases (show v = _ from h); exact .base (.int i)
  | str x => cases (show v = _ from h); exact .base (.str x)
  | lst ds => obtain ⟨a, vs, rfl, h1, _⟩ := h; exact .base (.lst (sm _ _ h1))
  | tup ds => obtain ⟨a, vs, rfl, h1, _⟩ := h; exact .base (.tup (sm _ _ h1))
  | dct ks ds => obtain ⟨a, vs, rfl, h1, _⟩ := h; exact .base (.dK (sm _ _ h1))
  | obj φ => cases no
section
variable {X : Cx} {C : FC}
def xIsi (T : String) (t : DE) : DE := fun ρ Q => t ρ fun s ρ1 => noO s.toD = true ∧ Q (.fz (.bl (isiD T s.toD))) ρ1
theorem d_isi (T : String) (hT : T ∈ ["int", "bool", "list", "tuple", "str"]) {y : Str} (hbt : bootBuiltins y = some (.type T)) (hy1 : y ≠ "__name__") (hy2 : (y == ("__debug__" : Str)) = false) {e : Expr} {te : TE} {t : DE} {p p2 pos : Pos} (hg : Gl X "isinstance") (hm : X.mg "isinstance" = none) (hm2 : X.mg y = none) (h : PV X C e te t) (hg2 : Gl X y)
    (he : starEach [e, .Name y p2] X.env = (false, eval e X.env) :: starEach [.Name y p2] X.env) (he2 : starEach [.Name y p2] X.env = (false, eval (.Name y p2) X.env) :: starEach [] X.env)
    (hpl : (backTo pos (starEach [.Name y p2] X.env)).any (·.1) = false) :
    PV X C (.Call (.Name "isinstance" p) [e, .Name y p2] [] pos) (tCB (rIsi X.K) (tCons te (tCons (tC (.ty T)) tNil))) (xIsi T t) := by
  refine ⟨pe_callB call_isi hg hm (by decide +kernel) (pa_cons h.pe (pa_cons (pe_bltn (v := .ty T) hg2 hm2 hbt rfl hy1 hy2) pa_nil he2) he) (by decide) (by decide) he hpl, fun G H σ ρ QD Q R q k => ?_⟩
  refine h.rf.go (QD := fun d ρ1 => noO d = true ∧ QD (.fz (.bl (isiD T d))) ρ1) R q fun v d G1 H1 ρ1 R1 s1 hd ⟨no, q1⟩ => ?_
  exact ⟨v, .ty T, .type (tyN d), .type T, isiD T d, rfl, .ty T, tyX_of R1.sub hd no, kit_ty (kit_of_d hT d), k _ _ G1 H1 ρ1 R1 s1 (rvf (d := .bl _) rfl) q1⟩
theorem d_isi_int {e : Expr} {te : TE} {t : DE} {p p2 pos : Pos} (hg : Gl X "isinstance") (hm : X.mg "isinstance" = none) (hm2 : X.mg "int" = none) (h : PV X C e te t) (hg2 : Gl X "int" := by rfl) (he : starEach [e, .Name "int" p2] X.env = (false, eval e X.env) :: starEach [.Name "int" p2] X.env := by rfl) (he2 : starEach [.Name "int" p2] X.env = (false, eval (.Name "int" p2) X.env) :: starEach [] X.env := by rfl)
    (hpl : (backTo pos (starEach [.Name "int" p2] X.env)).any (·.1) = false := by rfl) : PV X C (.Call (.Name "isinstance" p) [e, .Name "int" p2] [] pos) (tCB (rIsi X.K) (tCons te (tCons (tC (.ty "int")) tNil))) (xIsi "int" t) := d_isi "int" (by decide) (by decide +kernel) (by decide) (by decide) hg hm hm2 h hg2 he he2 hpl
theorem d_isi_bool {e : Expr} {te : TE} {t : DE} {p p2 pos : Pos} (hg : Gl X "isinstance") (hm : X.mg "isinstance" = none) (hm2 : X.mg "bool" = none) (h : PV X C e te t) (hg2 : Gl X "bool" := by rfl) (he : starEach [e, .Name "bool" p2] X.env = (false, eval e X.env) :: starEach [.Name "bool" p2] X.env := by rfl) (he2 : starEach [.Name "bool" p2] X.env = (false, eval (.Name "bool" p2) X.env) :: starEach [] X.env := by rfl)
    (hpl : (backTo pos (starEach [.Name "bool" p2] X.env)).any (·.1) = false := by rfl) : PV X C (.Call (.Name "isinstance" p) [e, .Name "bool" p2] [] pos) (tCB (rIsi X.K) (tCons te (tCons (tC (.ty "bool")) tNil))) (xIsi "bool" t) := d_isi "bool" (by decide) (by decide +kernel) (by decide) (by decide) hg hm hm2 h hg2 he he2 hpl
theorem d_isi_list {e : Expr} {te : TE} {t : DE} {p p2 pos : Pos} (hg : Gl X "isinstance") (hm : X.mg "isinstance" = none) (hm2 : X.mg "list" = none) (h : PV X C e te t) (hg2 : Gl X "list" := by rfl) (he : starEach [e, .Name "list" p2] X.env = (false, eval e X.env) :: starEach [.Name "list" p2] X.env := by rfl) (he2 : starEach [.Name "list" p2] X.env = (false, eval (.Name "list" p2) X.env) :: starEach [] X.env := by rfl)
    (hpl : (backTo pos (starEach [.Name "list" p2] X.env)).any (·.1) = false := by rfl) : PV X C (.Call (.Name "isinstance" p) [e, .Name "list" p2] [] pos) (tCB (rIsi X.K) (tCons te (tCons (tC (.ty "list")) tNil))) (xIsi "list" t) := d_isi "list" (by decide) (by decide +kernel) (by decide) (by decide) hg hm hm2 h hg2 he he2 hpl
theorem d_isi_tuple {e : Expr} {te : TE} {t : DE} {p p2 pos : Pos} (hg : Gl X "isinstance") (hm : X.mg "isinstance" = none) (hm2 : X.mg "tuple" = none) (h : PV X C e te t) (hg2 : Gl X "tuple" := by rfl) (he : starEach [e, .Name "tuple" p2] X.env = (false, eval e X.env) :: starEach [.Name "tuple" p2] X.env := by rfl) (he2 : starEach [.Name "tuple" p2] X.env = (false, eval (.Name "tuple" p2) X.env) :: starEach [] X.env := by rfl)
    (hpl : (backTo pos (starEach [.Name "tuple" p2] X.env)).any (·.1) = false := by rfl) : PV X C (.Call (.Name "isinstance" p) [e, .Name "tuple" p2] [] pos) (tCB (rIsi X.K) (tCons te (tCons (tC (.ty "tuple")) tNil))) (xIsi "tuple" t) := d_isi "tuple" (by decide) (by decide +kernel) (by decide) (by decide) hg hm hm2 h hg2 he he2 hpl
theorem d_isi_str {e : Expr} {te : TE} {t : DE} {p p2 pos : Pos} (hg : Gl X "isinstance") (hm : X.mg "isinstance" = none) (hm2 : X.mg "str" = none) (h : PV X C e te t) (hg2 : Gl X "str" := by rfl) (he : starEach [e, .Name "str" p2] X.env = (false, eval e X.env) :: starEach [.Name "str" p2] X.env := by rfl) (he2 : starEach [.Name "str" p2] X.env = (false, eval (.Name "str" p2) X.env) :: starEach [] X.env := by rfl)
    (hpl : (backTo pos (starEach [.Name "str" p2] X.env)).any (·.1) = false := by rfl) : PV X C (.Call (.Name "isinstance" p) [e, .Name "str" p2] [] pos) (tCB (rIsi X.K) (tCons te (tCons (tC (.ty "str")) tNil))) (xIsi "str" t) := d_isi "str" (by decide) (by decide +kernel) (by decide) (by decide) hg hm hm2 h hg2 he he2 hpl
/-- isinstance(e, (bool, list, tuple)) -/
def xIsi3 (t : DE) : DE := fun ρ Q => t ρ fun s ρ1 => noO s.toD = true ∧ Q (.fz (.bl (isiD "bool" s.toD || (isiD "list" s.toD || isiD "tuple" s.toD)))) ρ1
theorem d_isi_bool_list_tuple {e : Expr} {te : TE} {t : DE} {p p1 p2 p3 p4 pos : Pos} {kk} (hg : Gl X "isinstance") (hm : X.mg "isinstance" = none) (hm1 : X.mg "bool" = none) (hm2 : X.mg "list" = none) (hm3 : X.mg "tuple" = none) (h : PV X C e te t)
    (hg1 : Gl X "bool" := by rfl) (hg2 : Gl X "list" := by rfl) (hg3 : Gl X "tuple" := by rfl)
    (he : starEach [e, .Tuple [.Name "bool" p1, .Name "list" p2, .Name "tuple" p3] kk p4] X.env = (false, eval e X.env) :: starEach [.Tuple [.Name "bool" p1, .Name "list" p2, .Name "tuple" p3] kk p4] X.env := by rfl)
    (hpl : (backTo pos (starEach [.Tuple [.Name "bool" p1, .Name "list" p2, .Name "tuple" p3] kk p4] X.env)).any (·.1) = false := by rfl)
    (e0 : starEach [.Tuple [.Name "bool" p1, .Name "list" p2, .Name "tuple" p3] kk p4] X.env = (false, eval (.Tuple [.Name "bool" p1, .Name "list" p2, .Name "tuple" p3] kk p4) X.env) :: starEach [] X.env := by rfl)
    (e1 : starEach [.Name "bool" p1, .Name "list" p2, .Name "tuple" p3] X.env = (false, eval (.Name "bool" p1) X.env) :: starEach [.Name "list" p2, .Name "tuple" p3] X.env := by rfl)
    (e2 : starEach [.Name "list" p2, .Name "tuple" p3] X.env = (false, eval (.Name "list" p2) X.env) :: starEach [.Name "tuple" p3] X.env := by rfl)
    (e3 : starEach [.Name "tuple" p3] X.env = (false, eval (.Name "tuple" p3) X.env) :: starEach [] X.env := by rfl) :
    PV X C (.Call (.Name "isinstance" p) [e, .Tuple [.Name "bool" p1, .Name "list" p2, .Name "tuple" p3] kk p4] [] pos) (tCB (rIsiT X.K) (tCons te (tCons (tTup (tCons (tC (.ty "bool")) (tCons (tC (.ty "list")) (tCons (tC (.ty "tuple")) tNil)))) tNil))) (xIsi3 t) := by
  have hall := pe_callB (p := p) (pos := pos) (call_isiT (X := X)) hg hm (by decide +kernel) (pa_cons h.pe (pa_cons (pe_tup (x1 := kk) (pos := p4) (pa_cons (pe_bltn (v := .ty "bool") hg1 hm1 (by decide +kernel) rfl) (pa_cons (pe_bltn (v := .ty "list") hg2 hm2 (by decide +kernel) rfl) (pa_cons (pe_bltn (v := .ty "tuple") hg3 hm3 (by decide +kernel) rfl) pa_nil e3) e2) e1)) pa_nil e0) he) (by decide) (by decide) he hpl
  refine ⟨hall, fun G H σ ρ QD Q R q k => ?_⟩
  refine h.rf.go (QD := fun d ρ1 => noO d = true ∧ QD (.fz (.bl (isiD "bool" d || (isiD "list" d || isiD "tuple" d)))) ρ1) R q fun v d G1 H1 ρ1 R1 s1 hd ⟨no, q1⟩ => ?_
  refine ⟨by decide, fun tp hp => ?_⟩
  have R2 := R1.newOw (o := .tup [.ty "bool", .ty "list", .ty "tuple"]) hp
  refine ⟨v, tp, _, .type (tyN d), [.type "bool", .type "list", .type "tuple"], _, rfl, upd_same, .cons (.ty _) (.cons (.ty _) (.cons (.ty _) .nil)), tyX_of R2.sub hd no, ?_, k _ _ G1 _ ρ1 R2 s1 (rvf (d := .bl _) rfl) q1⟩
  have k1 : PySem.W.kitOne X.K (.type (tyN d)) (.type "bool") = some (isiD "bool" d) := kit_ty (kit_of_d (by decide) d)
  have k2 : PySem.W.kitOne X.K (.type (tyN d)) (.type "list") = some (isiD "list" d) := kit_ty (kit_of_d (by decide) d)
  have k3 : PySem.W.kitOne X.K (.type (tyN d)) (.type "tuple") = some (isiD "tuple" d) := kit_ty (kit_of_d (by decide) d)
  refine kitAny_cons k1 (fun e1 => ?_) (fun e1 => by rw [e1, Bool.true_or])
  rw [e1, Bool.false_or]
  refine kitAny_cons k2 (fun e2 => ?_) (fun e2 => by rw [e2, Bool.true_or])
  rw [e2, Bool.false_or]
  exact kitAny_cons k3 (fun e3 => by rw [e3]; exact kitAny_nil) (fun e3 => e3)

/-! ### divmod -/
def xDivmod : DC := fun ds Q => match ds with
  | [.int i, .int j] => (0 < j ∧ j < 1073741824) ∧ Q (.fz (.tup [.int (i / j), .int (i % j)]))
  | _ => False
theorem c_divmod : CV X C (.builtin "divmod") (fun xs H Q => ∃ i j, xs = [.int i, .int j] ∧ CDiv i j ∧ ∀ p, H p = none → Q (.ref p) (upd H p (.tup [.int (i / j), .int (i % j)]))) xDivmod := ⟨call_divmod, fun G H σ ρ vs ds QD Q R hd q k => by
  unfold xDivmod at q
  split at q
  · rename_i i j
    obtain ⟨v, u, rfl, h1, h2⟩ := hd.two
    cases (show v = _ from h1)
    cases (show u = _ from h2)
    refine ⟨i, j, rfl, q.1, fun p hp => ?_⟩
    obtain ⟨R2, gs, rv⟩ := R.resT (ds := [.int (i / j), .int (i % j)]) hp ⟨_, _, rfl, rfl, _, _, rfl, rfl, rfl⟩
    exact k _ _ _ _ R2 gs rv q.2
  · exact q.elim⟩

/-! ### dicts with int keys -/
def putKs (ks : List Int) (k : Int) : List Int := if k ∈ ks then ks else ks ++ [k]
def putVs {α : Type} (ks : List Int) (xs : List α) (k : Int) (x : α) : List α := if k ∈ ks then (ks.zip xs).map (fun p => if p.1 = k then x else p.2) else xs ++ [x]
def getVs {α : Type} (ks : List Int) (xs : List α) (k : Int) : Option α := ((ks.zip xs).find? fun p => decide (p.1 = k)).map (·.2)
theorem inl_iff {a b : Int} : ((Sum.inl a : Key) = Sum.inl b) ↔ a = b := ⟨Sum.inl.inj, fun e => by rw [e]⟩
theorem any_mkK (k : Int) : ∀ (ks : List Int) (vs : List V), ks.length = vs.length → ((mkK ks vs).any fun kv => decide (kv.1 = Sum.inl k)) = decide (k ∈ ks)
  | [], vs, _ => by simp [mkK]
  | a :: ks, [], h => by simp at h
  | a :: ks, v :: vs, h => by
    have ih := any_mkK k ks vs (by simpa using h)
    unfold mkK at ih ⊢
    simp only [List.zip_cons_cons, List.map_cons, List.any_cons, ih]
    by_cases h1 : a = k
    · subst h1; simp
    · have : ¬ (Sum.inl a : Key) = Sum.inl k := fun z => h1 (Sum.inl.inj z)
      simp [h1, this, Ne.symm h1]
theorem map_mkK (k : Int) (x : V) : ∀ (ks : List Int) (vs : List V), ks.length = vs.length → (mkK ks vs).map (fun kv => if kv.1 = Sum.inl k then (kv.1, x) else kv) = mkK ks ((ks.zip vs).map fun p => if p.1 = k then x else p.2)
  | [], vs, _ => by simp [mkK]
  | a :: ks, [], h => by simp at h
  | a :: ks, v :: vs, h => by
    have ih := map_mkK k x ks vs (by simpa using h)
    unfold mkK at ih ⊢
    simp only [List.zip_cons_cons, List.map_cons, ih]
    by_cases h1 : a = k
    · subst h1; simp
    · have : ¬ (Sum.inl a : Key) = Sum.inl k := fun z => h1 (Sum.inl.inj z)
      simp [h1, this]
theorem put_mkK (ks : List Int) (vs : List V) (k : Int) (x : V) (h : ks.length = vs.length) : putK (mkK ks vs) (Sum.inl k) x = mkK (putKs ks k) (putVs ks vs k x) := by
  unfold putK putKs putVs
  rw [any_mkK k ks vs h]
  by_cases hk : k ∈ ks
  · rw [if_pos (decide_eq_true hk), if_pos hk, if_pos hk]; exact map_mkK k x ks vs h
  · rw [if_neg (by rw [decide_eq_false hk]; exact Bool.false_ne_true), if_neg hk, if_neg hk]
    unfold mkK
    rw [List.zip_append h, List.map_append]
    rfl
theorem val_mkK (k : Int) : ∀ (ks : List Int) (vs : List V), valV (mkK ks vs) (Sum.inl k) = getVs ks vs k
  | [], vs => by simp [mkK, valV, getVs]
  | a :: ks, [] => by simp [mkK, valV, getVs]
  | a :: ks, v :: vs => by
    have ih := val_mkK k ks vs
    unfold valV getVs mkK at ih ⊢
    simp only [List.zip_cons_cons, List.map_cons, List.find?_cons]
    by_cases h1 : a = k
    · subst h1; simp
    · have : ¬ (Sum.inl a : Key) = Sum.inl k := fun z => h1 (Sum.inl.inj z)
      simp only [h1, this, decide_false]
      exact ih
theorem keys_mkK (ks : List Int) (vs : List V) (h : ks.length = vs.length) : (mkK ks vs).map (·.1) = ks.map Sum.inl := by
  unfold mkK
  rw [List.map_map]
  have : ((fun (p : Key × V) => p.1) ∘ fun (p : Int × V) => ((Sum.inl p.1 : Key), p.2)) = (Sum.inl ∘ Prod.fst) := rfl
  rw [this, ← List.map_map, List.map_fst_zip (by omega)]
theorem putKs_len {α : Type} (ks : List Int) (xs : List α) (k : Int) (x : α) (h : ks.length = xs.length) : (putKs ks k).length = (putVs ks xs k x).length := by
  unfold putKs putVs
  split <;> simp [h]
theorem putDs {H : Hp} {k : Int} {d : D} {v : V} (hv : Dat H d v) : ∀ {ks : List Int} {ds : List D} {vs : List V}, Dats H ds vs → Dats H ((ks.zip ds).map fun p => if p.1 = k then d else p.2) ((ks.zip vs).map fun p => if p.1 = k then v else p.2)
  | [], _, _, _ => by simp; exact rfl
  | a :: ks, [], _, h => by cases h; simp; exact rfl
  | a :: ks, e :: ds, _, ⟨u, r, h1, h2, h3⟩ => by
    subst h1
    simp only [List.zip_cons_cons, List.map_cons]
    refine ⟨_, _, rfl, ?_, putDs hv h3⟩
    by_cases h1 : a = k
    · simp only [h1, if_true]; exact hv
    · simp only [h1, if_false]; exact h2
theorem putDats {H : Hp} {k : Int} {d : D} {v : V} {ks : List Int} {ds : List D} {vs : List V} (h : Dats H ds vs) (hv : Dat H d v) : Dats H (putVs ks ds k d) (putVs ks vs k v) := by
  unfold putVs
  split
  · exact putDs hv h
  · exact h.append ⟨v, [], rfl, hv, rfl⟩
theorem getDats {H : Hp} {k : Int} : ∀ {ks : List Int} {ds : List D} {vs : List V}, Dats H ds vs → match getVs ks ds k, getVs ks vs k with
    | some d, some v => Dat H d v
    | none, none => True
    | _, _ => False
  | [], _, _, _ => by simp [getVs]
  | a :: ks, [], _, h => by cases h; simp [getVs]
  | a :: ks, e :: ds, _, ⟨u, r, h1, h2, h3⟩ => by
    subst h1
    have ih := getDats (k := k) (ks := ks) h3
    unfold getVs at ih ⊢
    simp only [List.zip_cons_cons, List.find?_cons]
    by_cases h1 : a = k
    · subst h1; simpa using h2
    · simp only [h1, decide_false]; exact ih
/-- {} -/
theorem d_dnew {pos : Pos} : PV X C (.Dict [] [] pos) tDNewK (fun ρ Q => Q (.od [] []) ρ) := ⟨pe_dnewK, fun G H σ ρ QD Q R q k p hp => k _ (.od [] []) G _ ρ (R.newOw hp) (Same.refl G) ⟨p, rfl, ⟨[], upd_same, rfl, rfl⟩, R.gn hp, R.h0 hp, rfl, R.apart hp⟩ q⟩
/-- {k: v} -/
theorem d_disp1 {ek ev : Expr} {tk tv : TE} {dk dv : DE} {pos : Pos} (hk : ∀ C, PV X C ek tk dk) (hv : ∀ C, PV X C ev tv dv) (h : PE X (.Dict [some ek] [ev] pos) (tDisp [(tk, tv)])) :
    PV X C (.Dict [some ek] [ev] pos) (tDisp [(tk, tv)]) (fun ρ Q => dk ρ fun s ρ1 => dv ρ1 fun s' ρ2 => ∃ k, s.toD = .int k ∧ Q (.od [k] [s'.toD]) ρ2) := by
  refine ⟨h, fun G H σ ρ QD Q R q k p hp => ?_⟩
  have h0 := R.h0 hp
  have b0 : C.bag ≠ some p := fun z => (R.bl _ z).2.1 h0
  have g00 : C.G0 p = none := R.g0.free (R.gn hp)
  have RA := (R.newOw (o := .dK []) hp).aside upd_same (R.gn hp) h0 (R.apart hp)
  refine (hk _).rf.go (QD := fun d ρ1 => dv ρ1 fun s' ρ2 => ∃ k, d = .int k ∧ QD (.od [k] [s'.toD]) ρ2) RA q fun v d G1 H1 ρ1 R1 s1 hd q1 => ?_
  refine (hv _).rf.go (QD := fun d' ρ2 => ∃ k, d = .int k ∧ QD (.od [k] [d']) ρ2) R1 q1 fun v' d' G2 H2 ρ2 R2 s2 hd' q2 => ?_
  obtain ⟨n, rfl, q2⟩ := q2
  cases (show v = _ from hd)
  obtain ⟨R3, hp3, hg3, ap3⟩ := Rep.back g00 h0 b0 R2
  refine ⟨hp3, [(Sum.inl n, v')], rfl, by simp, ?_⟩
  have hH : ∀ b x, b ≠ p → H2 b = x → upd H2 p (.dK (mergeK [] [(Sum.inl n, v')])) b = x := fun b x hb e => by rw [upd_ne hb]; exact e
  have R4 : Rep C G2 (upd H2 p (.dK (mergeK [] [(Sum.inl n, v')]))) σ ρ2 := by
    refine ⟨R3.len, fun b x e => ?_, R3.g0, fun b x e z => ?_, R3.new, fun b e => ?_, R3.fz, fun j s e os => ?_, R3.ap, R3.nt, tabs_but R3.tab hp3 trivial fun b hb => upd_ne hb⟩
    · exact hH b _ (fun z => by subst z; rw [hg3] at e; cases e) (R3.sub b x e)
    · exact hH b _ (fun z => by subst z; rw [h0] at e; cases e) (R3.keep b x e z)
    · obtain ⟨a, b', c⟩ := R3.bl b e
      exact ⟨a, b', by rw [upd_ne fun z => by subst z; exact b0 e]; exact c⟩
    · obtain ⟨q, z1, z2, z3, z4⟩ := R3.ow j s e os
      have hq : q ≠ p := fun z => ap3 j s e os (z ▸ z1)
      exact ⟨q, z1, z2.mono (Same.refl _) (upd_ne hq), z3, z4⟩
  exact k _ (.od [n] [d']) G2 _ ρ2 R4 (s1.trans s2) ⟨p, rfl, ⟨[v'], upd_same, rfl, v', [], rfl, hd', rfl⟩, hg3, h0, rfl, ap3⟩ q2
/-- x[k] = e, x an own dict -/
def xDput (i : Nat) (te ti : DE) : DS := fun Z ρ => te ρ fun s ρ1 => (∃ ks ds, ρ1[i]? = some (some (.od ks ds))) ∧ ti ρ1 fun s' ρ2 => ∃ (ks : List Int) (ds : List D) (k : Int), s'.toD = .int k ∧ ρ2[i]? = some (some (.od ks ds)) ∧ ks.length < 100000 ∧ Z.nx (ρ2.set i (some (.od (putKs ks k) (putVs ks ds k s.toD))))
theorem ds_dput (i : Nat) {x : Str} {b e : Expr} {te tb : TE} {t tt : DE} {p0 p1 pos : Pos} (hu : X.A.units + 1 < cLine) (h : PV X C e te t) (hb : PV X C b tb tt) (hN : X.N[i]? = some x := by rfl) (hv : Vis X.env.scope x := by first | exact Or.inl rfl | exact Or.inr (Or.inl rfl) | exact Or.inr (Or.inr rfl))
    (hd : (x == ("__debug__" : Str)) = false := by decide) (hcd : (x == ("__classdict__" : Str)) = false := by decide) (hs : swapsWith e (some (.Subscript (.Name x p0) b p1)) pos.line X.env = pure false := by rfl) :
    PSV X C (.Assign [.Subscript (.Name x p0) b p1] e pos) (sDPut (tVar i) tb te) (xDput i t tt) := by
  refine ⟨ps_dput hu (pe_var hN hv hd hcd) hb.pe h.pe hs, fun G H σ ρ DD E R q k => ?_⟩
  refine h.rf.go (QD := fun d ρ1 => (∃ ks ds, ρ1[i]? = some (some (.od ks ds))) ∧ tt ρ1 fun s' ρ2 => ∃ (ks : List Int) (ds : List D) (k : Int), s'.toD = .int k ∧ ρ2[i]? = some (some (.od ks ds)) ∧ ks.length < 100000 ∧ DD.nx (ρ2.set i (some (.od (putKs ks k) (putVs ks ds k d))))) R q fun v d G1 H1 ρ1 R1 s1 hd1 q1 => ?_
  obtain ⟨⟨ks0, ds0, e0⟩, q1⟩ := q1
  obtain ⟨p, hp, _⟩ := R1.ow i _ e0 rfl
  refine ⟨.ref p, hp, hb.rf.go (QD := fun d' ρ2 => ∃ (ks : List Int) (ds : List D) (k : Int), d' = .int k ∧ ρ2[i]? = some (some (.od ks ds)) ∧ ks.length < 100000 ∧ DD.nx (ρ2.set i (some (.od (putKs ks k) (putVs ks ds k d))))) R1 q1 fun v' d' G2 H2 ρ2 R2 s2 hd2 q2 => ?_⟩
  obtain ⟨ks, ds, n, rfl, e2, hl, q2⟩ := q2
  cases (show v' = _ from hd2)
  obtain ⟨p', hp', ⟨vs, h2, hlv, h3⟩, _⟩ := R2.ow i _ e2 rfl
  rw [hp] at hp'; cases hp'
  have hkl : (mkK ks vs).length < sizeLine := by
    have := congrArg List.length (keys_mkK ks vs hlv)
    rw [List.length_map, List.length_map] at this
    rw [this]; exact Nat.lt_of_lt_of_le hl (by decide)
  refine ⟨p, _, rfl, DPut.k (k := Sum.inl n) h2 hkl, ?_⟩
  rw [put_mkK ks vs n v hlv]
  exact k.nx G2 _ σ _ (R2.write e2 rfl hp (s' := .od (putKs ks n) (putVs ks ds n d)) rfl rfl ⟨_, upd_same, putKs_len _ _ _ _ hlv, putDats h3 (Dat.mono s2 _ _ hd1)⟩) (s1.trans s2) q2
/-- x[k], x an own dict -/
theorem d_dgetO (i : Nat) {x : Str} {b : Expr} {tb : TE} {db : DE} {p pos : Pos} (hu : X.A.units + 1 < cLine) (hb : PV X C b tb db) (hs : NoSl b := by exact fun _ _ => rfl) (hN : X.N[i]? = some x := by rfl) (hv : Vis X.env.scope x := by first | exact Or.inl rfl | exact Or.inr (Or.inl rfl) | exact Or.inr (Or.inr rfl))
    (hd : (x == ("__debug__" : Str)) = false := by decide) (hcd : (x == ("__classdict__" : Str)) = false := by decide) :
    PV X C (.Subscript (.Name x p) b pos) (tDGet (tVar i) tb) (fun ρ Q => (∃ ks ds, ρ[i]? = some (some (.od ks ds)) ∨ ρ[i]? = some (some (.fz (.dct ks ds)))) ∧ db ρ fun s ρ1 => ∃ ks ds k d, (ρ1[i]? = some (some (.od ks ds)) ∨ ρ1[i]? = some (some (.fz (.dct ks ds)))) ∧ s.toD = .int k ∧ getVs ks ds k = some d ∧ Q (.fz d) ρ1) := by
  refine ⟨pe_dget hu (pe_var hN hv hd hcd) hb.pe hs, fun G H σ ρ QD Q R ⟨⟨ks0, ds0, h0⟩, q⟩ k => ?_⟩
  have atp : ∃ p, σ[i]? = some (some (.ref p)) := by
    rcases h0 with h0 | h0
    · obtain ⟨p, h1, _⟩ := R.ow i _ h0 rfl
      exact ⟨p, h1⟩
    · obtain ⟨v, h1, a, vs, rfl, _⟩ := R.fz i _ h0
      exact ⟨a, h1⟩
  obtain ⟨p, hp⟩ := atp
  refine ⟨.ref p, hp, hb.rf.go (QD := fun d' ρ1 => ∃ ks ds k d, (ρ1[i]? = some (some (.od ks ds)) ∨ ρ1[i]? = some (some (.fz (.dct ks ds)))) ∧ d' = .int k ∧ getVs ks ds k = some d ∧ QD (.fz d) ρ1) R q fun v d' G1 H1 ρ1 R1 s1 hd q1 => ?_⟩
  obtain ⟨ks, ds, n, d, e1, rfl, hg, q2⟩ := q1
  cases (show v = _ from hd)
  have : ∃ vs, H1 p = some (.dK (mkK ks vs)) ∧ Dats G1 ds vs := by
    rcases e1 with e1 | e1
    · obtain ⟨p', h1', ⟨vs, h2, _, h3⟩, _⟩ := R1.ow i _ e1 rfl
      rw [hp] at h1'; cases h1'
      exact ⟨vs, h2, h3⟩
    · obtain ⟨v, h1', a, vs, rfl, h2, _, h3⟩ := R1.fz i _ e1
      rw [hp] at h1'; cases h1'
      exact ⟨vs, R1.sub _ _ h2, h3⟩
  obtain ⟨vs, h2, h3⟩ := this
  have gd := getDats (k := n) (ks := ks) h3
  rw [hg] at gd
  cases ev : getVs ks vs n with
  | none => rw [ev] at gd; exact gd.elim
  | some u =>
    rw [ev] at gd
    refine ⟨p, u, rfl, ?_, k _ _ G1 H1 ρ1 R1 s1 (rvf gd) q2⟩
    have := DGet.k (k := Sum.inl n) h2
    rw [val_mkK, ev] at this
    exact this
/-- x.get(k, e), x an own dict -/
theorem d_dget2O (i : Nat) {x : Str} {b e : Expr} {tb te : TE} {db de : DE} {p apos pos : Pos} (hu : X.A.units + 1 < cLine) (hb : PV X C b tb db) (he : PV X C e te de) (m : M2 X (.Name x p) "get" apos b e pos := by exact ⟨rfl, rfl, rfl, rfl⟩) (hN : X.N[i]? = some x := by rfl) (hv : Vis X.env.scope x := by first | exact Or.inl rfl | exact Or.inr (Or.inl rfl) | exact Or.inr (Or.inr rfl))
    (hd : (x == ("__debug__" : Str)) = false := by decide) (hcd : (x == ("__classdict__" : Str)) = false := by decide) :
    PV X C (.Call (.Attribute (.Name x p) "get" apos) [b, e] [] pos) (tDGet2 (tVar i) tb te) (fun ρ Q => (∃ ks ds, ρ[i]? = some (some (.od ks ds))) ∧ db ρ fun s ρ1 => de ρ1 fun s' ρ2 => ∃ ks ds k, ρ2[i]? = some (some (.od ks ds)) ∧ s.toD = .int k ∧ Q (.fz ((getVs ks ds k).getD s'.toD)) ρ2) := by
  refine ⟨pe_dget2 hu (pe_var hN hv hd hcd) hb.pe he.pe m, fun G H σ ρ QD Q R ⟨⟨ks0, ds0, h0⟩, q⟩ k => ?_⟩
  obtain ⟨p, hp, ⟨vs0, hp0, _⟩, _⟩ := R.ow i _ h0 rfl
  refine ⟨.ref p, hp, p, rfl, .inl ⟨_, .inl hp0⟩, hb.rf.go (QD := fun d' ρ1 => de ρ1 fun s' ρ2 => ∃ ks ds k, ρ2[i]? = some (some (.od ks ds)) ∧ d' = .int k ∧ QD (.fz ((getVs ks ds k).getD s'.toD)) ρ2) R q fun v d' G1 H1 ρ1 R1 s1 hd q1 => ?_⟩
  refine he.rf.go (QD := fun d2 ρ2 => ∃ ks ds k, ρ2[i]? = some (some (.od ks ds)) ∧ d' = .int k ∧ QD (.fz ((getVs ks ds k).getD d2)) ρ2) R1 q1 fun v2 d2 G2 H2 ρ2 R2 s2 hd2 q2 => ?_
  obtain ⟨ks, ds, n, e1, rfl, q2⟩ := q2
  cases (show v = _ from hd)
  obtain ⟨p', h1', ⟨vs, h2, _, h3⟩, _⟩ := R2.ow i _ e1 rfl
  rw [hp] at h1'; cases h1'
  have gd := getDats (k := n) (ks := ks) h3
  have hD := DGet.k (k := Sum.inl n) h2
  rw [val_mkK] at hD
  refine ⟨_, hD, k _ _ G2 H2 ρ2 R2 (s1.trans s2) (rvf ?_) q2⟩
  cases ed : getVs ks ds n with
  | none =>
    cases ev : getVs ks vs n with
    | none => exact hd2
    | some u => rw [ed, ev] at gd; exact gd.elim
  | some d =>
    cases ev : getVs ks vs n with
    | none => rw [ed, ev] at gd; exact gd.elim
    | some u => rw [ed, ev] at gd; exact gd

/-! ### sorted -/
/-- sorted(list), sorted(dict with int keys) -/
def xSortedD : DC := fun ds Q => ∃ (ks : List Int) (es : List D), (ds = [.dct ks es] ∧ ks.length < 64) ∧ ∀ ys : List Int, ys.Perm ks → ys.Pairwise (· ≤ ·) → Q (.ow (ys.map D.int))
theorem c_sortedD (hc : X.calm = true) : CV X C (.builtin "sorted") (fun xs H Q => ∃ (a : Addr) (kvs : List (Key × V)) (ks : List Int), xs = [.ref a] ∧ Rd H a (.dK kvs) ∧ kvs.map (·.1) = ks.map Sum.inl ∧ ks.length < 64 ∧
    ∀ (ys : List Int) (p : Addr), ys.Perm ks → ys.Pairwise (· ≤ ·) → H p = none → Q (.ref p) (upd H p (.lst (ys.map V.int)))) xSortedD := ⟨call_sortedDI hc, fun G H σ ρ vs ds QD Q R hd ⟨ks, es, ⟨e, hl⟩, q⟩ k => by
  subst e
  obtain ⟨v, rfl, a, us, rfl, h1, h2, h3⟩ := hd.one
  refine ⟨a, _, ks, rfl, .inl (R.sub _ _ h1), keys_mkK ks us h2, hl, fun ys p pm pw hp => ?_⟩
  obtain ⟨R2, rv⟩ := R.resL hp (Dats.of_ints ys)
  exact k _ _ _ _ R2 (Same.refl G) rv (q ys pm pw)⟩
def rSortDR : List V → List V → Hp → VK → Prop := fun xs zs H Q => ∃ (a : Addr) (kvs : List (Key × V)) (ks : List Int), xs = [.ref a] ∧ zs = [.bl true] ∧ Rd H a (.dK kvs) ∧ kvs.map (·.1) = ks.map Sum.inl ∧ ks.length < 1000 ∧
    ∀ (ys : List Int) (p : Addr), ys.Perm ks → ys.Pairwise (· ≥ ·) → H p = none → Q (.ref p) (upd H p (.lst (ys.map V.int)))
theorem cr_sortDR (hcalm : X.calm = true) : CallRK X (.builtin "sorted") [Str.ofString "reverse"] rSortDR := by
  intro pins s σ H vs zs us ws Q I r rz h
  obtain ⟨a, kvs, ks, rfl, rfl, hd, hks, h64, q⟩ := h
  obtain ⟨u, rfl, rx⟩ := vals1 r
  cases rx
  obtain ⟨w1, rfl, e1⟩ := vals1 rz
  obtain rfl : w1 = Value.bool true := e1
  obtain ⟨z, lo, vs, rel, dd⟩ := dk_rd I.hok hd
  obtain ⟨ep, hat⟩ := dd.dictAt
  have kl : vs.map (·.1) = ks.map Sum.inl := rel.keys.symm.trans hks
  have hl : vs.length = ks.length := by simpa using congrArg List.length kl
  refine PyProof.Rows.call_function_entry_kw PyProof.Rows.kind_sorted PyProof.Rows.plain_sorted PyProof.Rows.entry_sorted (PyProof.Rows.args_sorted_rev _ _) ?_
  unfold Builtin.«sorted»
  refine wpAny_bind (m := checkCount "sorted" 1 1 _) (wpAny_pure ?_)
  refine wpAny_bind (PySem.W.kdu_collect (A := X.A.in1) (PySem.W.kdl_dict (knd := mixKind X.prog X.w) (kvs := vs) (ep := ep) lo) (I.ok.hd hcalm) hat (by rw [hl, sizeLine_eq]; omega) fun h' tk acc hk hacc => ?_)
  have hal : acc.toList.length = ks.length := by rw [Array.length_toList, hacc.1, hl]
  have hS : IntsAre acc.toList ks := ints_each hal fun j v e => by
    obtain ⟨k, x, e1, e2⟩ := hacc.2 j v (by rw [← Array.getElem?_toList]; exact e)
    have e3 : (vs.map (·.1))[j]? = some k := by rw [List.getElem?_map, e1]; rfl
    rw [kl, List.getElem?_map] at e3
    obtain ⟨y, ey, e5⟩ := Option.map_eq_some_iff.mp e3
    subst e5
    rcases keyIs_shape (show keyIs (Sum.inl y) v = true from e2) with ⟨i, t, ek, ev⟩ | ⟨z, t, ek, ev⟩
    · cases ek; exact ⟨y, t, ey, ev⟩
    · cases ek
  have I1 : Inv X pins σ H { s with heap := h', toks := tk } := I.kept hk
  refine wpAny_bind (wpAny_newList ?_ (by rw [hal, sizeLine_eq]; omega))
  have hoL : (h'.push (seqObj "list" acc.toList.toArray 0)).get? h'.objs.size = some (seqObj "list" acc.toList.toArray 0) := Heap.get?_push_size _ rfl
  show wpAny _ _ _ _ _ { s with heap := h'.push (seqObj "list" acc.toList.toArray 0), toks := tk }
  refine wpAny_bind (wpAny_holding (wpAny_call_entry_kw PyProof.Rows.slot_list_sort ⟨_, hoL, rfl⟩ PyProof.Rows.entry_list_sort ?_ (PyProof.Rows.args_list_sort_rev _ _)))
  refine SrtR.list_sort_ordR (s := { s with heap := h'.push (seqObj "list" acc.toList.toArray 0), toks := tk }) SrtO.swo_int hoL (by rw [hal, sizeLine_eq]; omega) (fun h2 => SrtO.ints_sortable hS h2) fun out h1 h2 => ⟨_, rfl, ?_⟩
  obtain ⟨ns', k1, k2, k3⟩ := SrtR.ints_outR hS h1 h2
  obtain ⟨e', he'⟩ := PyProof.Rows.sortedHeap_at (vs := acc.toList) (out := if true = true then out.toArray.reverse else out.toArray) hoL
  have hlen : (ns'.map V.int).length ≤ sizeLine := by
    rw [List.length_map, k2.length_eq, sizeLine_eq]; omega
  refine wpAny_pure ⟨_, rfl, .ref h'.objs.size, upd H h'.objs.size (.lst (ns'.map V.int)), I1.laid (t' := tk) (fun b u e => ?_) (Nat.le_refl _)
    (show ObjOk X.prog X.w _ _ _ (.lst (ns'.map V.int)) from ⟨hlen, _, e', vals_of_ints k1, by rw [Array.toArray_toList]; exact he'⟩), rfl, q ns' _ k2 k3 (I1.hok.fresh (Nat.le_refl _))⟩
  have hb : b < h'.objs.size := Heap.lt_size e
  rw [PyProof.Rows.sortedHeap_old (Nat.ne_of_lt hb) (by rw [size_push']; exact Nat.lt_succ_of_lt hb)]
  exact Heap.get?_push_of_some _ e
def xSortedDR (t : DA) : DE := fun ρ Q => t ρ fun ds ρ1 => ∃ (ks : List Int) (es : List D), (ds = [.dct ks es] ∧ ks.length < 1000) ∧ ∀ ys : List Int, ys.Perm ks → ys.Pairwise (· ≥ ·) → Q (.ow (ys.map D.int)) ρ1
theorem d_sortedDR {e : Expr} {ta : TA} {t : DA} {p kp cp pos : Pos} {j} (hc : X.calm = true) (hg : Gl X "sorted") (hm : X.mg "sorted" = none) (ha : PAV X C [e] ta t)
    (he : backTo pos (starEach [e] X.env) = (false, eval e X.env) :: backTo pos (starEach [] X.env) := by rfl) (hpl : (backTo pos (starEach [e] X.env)).any (·.1) = false := by rfl)
    (hall : (backToKw pos (keywordEach [⟨some (Str.ofString "reverse"), .Constant (.bool true) j cp, kp⟩] X.env)).all (·.1.isSome) = true := by rfl)
    (hnone : (backToKw pos (keywordEach [⟨some (Str.ofString "reverse"), .Constant (.bool true) j cp, kp⟩] X.env)).any (·.1.isNone) = false := by rfl)
    (hks : (backToKw pos (keywordEach [⟨some (Str.ofString "reverse"), .Constant (.bool true) j cp, kp⟩] X.env)).filterMap (·.1) = [Str.ofString "reverse"] := by rfl) :
    PV X C (.Call (.Name "sorted" p) [e] [⟨some (Str.ofString "reverse"), .Constant (.bool true) j cp, kp⟩] pos) (tCKw rSortDR ta (tCons (tC (.bl true)) tNil)) (xSortedDR t) := by
  refine ⟨pe_callBK (cr_sortDR hc) hg hm (by decide +kernel) ha.pe (pk_cons pe_bl pk_nil) (by decide) (by decide) he hpl hall hnone hks, fun G H σ ρ QD Q R q k => ?_⟩
  refine ha.rf G H σ ρ _ _ R q fun vs ds G1 H1 ρ1 R1 s1 hd q1 => ?_
  obtain ⟨ks, es, ⟨e, hl⟩, q1⟩ := q1
  subst e
  obtain ⟨v, rfl, a, us, rfl, h1, h2, h3⟩ := hd.one
  refine ⟨a, _, ks, rfl, rfl, .inl (R1.sub _ _ h1), keys_mkK ks us h2, hl, fun ys p pm pw hp => ?_⟩
  obtain ⟨R2, rv⟩ := R1.resL hp (Dats.of_ints ys)
  exact k _ _ _ _ _ R2 s1 rv (q1 ys pm pw)
/-- sorted(set(t)), t a tuple of ints, fewer than 64 -/
def rSetTI (K : PySem.W.Frag) (w : World) : List V → Hp → VK → Prop := fun xs H Q => ∃ (a : Addr) (ns : List Int), xs = [.ref a] ∧ SqT K H a (ns.map V.int) ∧ ns.length < 64 ∧ ∀ p c, H p = none → c ≤ ns.length → Q (.ref p) (upd H p (SetO w p (fun j => decide (j ∈ ns)) c))
theorem cr_setTI (hc : X.calm = true) : CallR X (.type "set") (rSetTI X.K X.w) := by
  intro pins s σ H xs us Q I r h
  obtain ⟨a, ns, rfl, hq, hl, q⟩ := h
  obtain ⟨u, rfl, rx⟩ := vals1 r
  cases rx
  obtain ⟨its, rv, tp, hz⟩ := I.tuple hq
  refine call_set_tupI ns (I.ok.hd hc) (show s.heap.IsTuple a its.toArray from tp) (by simpa using rv.ints) (by unfold scanBound; omega) fun h' tk c R hcl k => ?_
  have hn : H s.heap.objs.size = none := I.hok.fresh (Nat.le_refl _)
  exact ⟨.ref _, _, I.laid (t' := tk) k (Nat.le_refl _) (setO_new R), rfl, q _ c hn hcl⟩
def xSortedSet (t : DA) : DE := fun ρ Q => t ρ fun ds ρ1 => ∃ ns : List Int, ds = [.tup (ns.map D.int)] ∧ ns.length < 64 ∧ ∀ ys : List Int, ys.Pairwise (· < ·) → (∀ k, k ∈ ys ↔ k ∈ ns) → Q (.ow (ys.map D.int)) ρ1
theorem d_sortedSet {e : Expr} {ta : TA} {t : DA} {p p2 pos pos2 : Pos} (hc : X.calm = true) (hg : Gl X "sorted") (hm : X.mg "sorted" = none) (hg2 : Gl X "set") (hm2 : X.mg "set" = none) (ha : PAV X C [e] ta t)
    (he : starEach [e] X.env = (false, eval e X.env) :: starEach [] X.env := by rfl) (hpl : (backTo pos2 (starEach [] X.env)).any (·.1) = false := by rfl)
    (he2 : starEach [.Call (.Name "set" p2) [e] [] pos2] X.env = (false, eval (.Call (.Name "set" p2) [e] [] pos2) X.env) :: starEach [] X.env := by rfl) (hpl2 : (backTo pos (starEach [] X.env)).any (·.1) = false := by rfl) :
    PV X C (.Call (.Name "sorted" p) [.Call (.Name "set" p2) [e] [] pos2] [] pos) (tCB (rSortedSet X.w) (tCons (tCB (rSetTI X.K X.w) ta) tNil)) (xSortedSet t) := by
  refine ⟨pe_callB (cr_sortedSet hc) hg hm (by decide +kernel) (pa_cons (pe_callTy (cr_setTI hc) hg2 hm2 (by decide +kernel) ha.pe (by decide) (by decide) he hpl) pa_nil he2) (by decide) (by decide) he2 hpl2, fun G H σ ρ QD Q R q k => ?_⟩
  refine ha.rf G H σ ρ _ _ R q fun vs ds G1 H1 ρ1 R1 s1 hd ⟨ns, e, hl, q1⟩ => ?_
  subst e
  obtain ⟨v, rfl, a, us, rfl, h1, h2⟩ := hd.one
  cases h2.ints
  refine ⟨a, ns, rfl, SqT.of (R1.sub _ _ h1), hl, fun sp c hp hcl => ⟨sp, _, c, rfl, upd_same, by omega, fun ys p pw mem _ hp2 => ?_⟩⟩
  obtain ⟨R2, rv⟩ := (R1.newOw (o := SetO X.w sp (fun j => decide (j ∈ ns)) c) hp).resL hp2 (Dats.of_ints ys)
  exact k _ _ _ _ _ R2 s1 rv (q1 ys pw fun z => (mem z).trans decide_eq_true_iff)
end
end L3

namespace L3
open PySem PySem.Spec PyProof.Rows L2
theorem toD_fz (d : D) : (S.fz d).toD = d := rfl
theorem toD_ow (d : List D) : (S.ow d).toD = .lst d := rfl
theorem toD_od (k : List Int) (d : List D) : (S.od k d).toD = .dct k d := rfl
theorem toD_bg (d : List D) : (S.bg d).toD = .lst d := rfl
def getv (o : Option (Option S)) (i : Nat) (ρ : En) (Q : S → En → Prop) : Prop := match o with
  | some (some (.fz d)) => Q (.fz d) ρ
  | some (some (.ow ds)) => Q (.fz (.lst ds)) (ρ.set i (some (.fz (.lst ds))))
  | some (some (.od ks ds)) => Q (.fz (.dct ks ds)) (ρ.set i (some (.fz (.dct ks ds))))
  | _ => False
def onB (d : D) (k : Bool → Prop) : Prop := match d with
  | .bl b => k b
  | _ => False
def onI (d : D) (k : Int → Prop) : Prop := match d with
  | .int i => k i
  | _ => False
def onSq (d : D) (k : List D → Prop) : Prop := match d with
  | .lst ds => k ds
  | .tup ds => k ds
  | _ => False
def onSB (z : S) (k : Bool → Prop) : Prop := match z with
  | .fz (.bl b) => k b
  | _ => False
def onSl (d : D) (l h : Option Int) (k : S → Prop) : Prop := match d with
  | .lst ds => k (.ow (cutD ds l h))
  | .tup ds => k (.fz (.tup (cutD ds l h)))
  | _ => False
def onRv (d : D) (k : S → Prop) : Prop := match d with
  | .lst ds => k (.ow ds.reverse)
  | _ => False
def onR1 (ds : List D) (k : List D → Prop) : Prop := match ds with
  | [.int j] => -1000000000000 < j ∧ j < 1000000000000 ∧ k (rngD 0 j.toNat)
  | _ => False
def onR2 (ds : List D) (k : List D → Prop) : Prop := match ds with
  | [.int i, .int j] => (-1000000000000 < i ∧ i < 1000000000000 ∧ -1000000000000 < j ∧ j < 1000000000000) ∧ k (rngD i (j - i).toNat)
  | _ => False
def onZ (ds : List D) (k : List D → Prop) : Prop := match ds with
  | [.lst xs, .lst ys] => k (zipD xs ys)
  | [.tup xs, .tup ys] => k (zipD xs ys)
  | _ => False
def onP (ds : List D) (k : D → D → Prop) : Prop := match ds with
  | [d, e] => k d e
  | _ => False
section
variable {ρ : En} {Q : S → En → Prop} {QB : Bool → En → Prop} {QL : List D → En → Prop} {Z : DEnds} {k : S → Prop} {i j : Int} {n : Nat} {d e : D} {ds xs ys : List D} {t u : DE} {c c' : DT} {a : DA} {s : S}
theorem rd_var : xVar n ρ Q = getv ρ[n]? n ρ Q := rfl
theorem rd_getv1 : getv (some (some (.fz d))) n ρ Q = Q (.fz d) ρ := rfl
theorem rd_getv2 : getv (some (some (.ow ds))) n ρ Q = Q (.fz (.lst ds)) (ρ.set n (some (.fz (.lst ds)))) := rfl
theorem rd_getv3 {ks : List Int} : getv (some (some (.od ks ds))) n ρ Q = Q (.fz (.dct ks ds)) (ρ.set n (some (.fz (.dct ks ds)))) := rfl
theorem rd_test : xTest t ρ QB = t ρ fun s ρ1 => onB s.toD fun b => QB b ρ1 := rfl
theorem rd_onB {b : Bool} {k : Bool → Prop} : onB (.bl b) k = k b := rfl
theorem rd_onI {k : Int → Prop} : onI (.int i) k = k i := rfl
theorem rd_onSB {b : Bool} {k : Bool → Prop} : onSB (.fz (.bl b)) k = k b := rfl
theorem rd_andV : xAndV t u ρ Q = t ρ fun s ρ1 => onB s.toD fun b => if b = true then u ρ1 Q else Q (.fz (.bl false)) ρ1 := rfl
theorem rd_orV : xOrV t u ρ Q = t ρ fun s ρ1 => onB s.toD fun b => if b = true then Q (.fz (.bl true)) ρ1 else u ρ1 Q := rfl
theorem rd_notV : xNotV t ρ Q = t ρ fun s ρ1 => onB s.toD fun b => Q (.fz (.bl (!b))) ρ1 := rfl
theorem rd_chain {rd rd' : DO2} {v : DE} : xChain rd rd' t u v ρ Q = t ρ fun s ρ1 => u ρ1 fun s' ρ2 => rd s.toD s'.toD fun z => onSB z fun k => if k = true then v ρ2 fun s'' ρ3 => rd' s'.toD s''.toD fun z => Q z ρ3 else Q (.fz (.bl false)) ρ2 := rfl
theorem rd_II {cc : Int → Int → Prop} {f : Int → Int → D} : xII cc f (.int i) (.int j) k = (cc i j ∧ k (.fz (f i j))) := rfl
theorem rd_II0 {f : Int → Int → D} : xII0 f (.int i) (.int j) k = k (.fz (f i j)) := rfl
theorem rd_add1 : xAdd (.int i) (.int j) k = k (.fz (.int (i + j))) := rfl
theorem rd_add2 : xAdd (.lst xs) (.lst ys) k = (xs.length + ys.length ≤ 100000 ∧ k (.ow (xs ++ ys))) := rfl
theorem rd_add3 : xAdd (.tup xs) (.tup ys) k = (xs.length + ys.length ≤ 100000 ∧ k (.fz (.tup (xs ++ ys)))) := rfl
theorem rd_mul1 : xMul (.int i) (.int j) k = (CMulW i j ∧ k (.fz (.int (i * j)))) := rfl
theorem rd_mul2 : xMul (.lst xs) (.int j) k = (xs.length * j.toNat ≤ 100000 ∧ j < 100000 ∧ -100000 < j ∧ k (.ow (List.replicate j.toNat xs).flatten)) := rfl
theorem rd_mul3 : xMul (.tup xs) (.int j) k = (xs ≠ [] ∧ 2 ≤ j ∧ j ≤ 1000 ∧ xs.length ≤ 1000 ∧ k (.fz (.tup (List.replicate j.toNat xs).flatten))) := rfl
theorem rd_isN : xIsN d .non k = k (.fz (.bl (isNonD d))) := rfl
theorem rd_notN : xNotN d .non k = k (.fz (.bl (!isNonD d))) := rfl
theorem rd_isN1 : isNonD .non = true := rfl
theorem rd_isN2 : isNonD (.int i) = false := rfl
theorem rd_isN3 : isNonD (.tup xs) = false := rfl
theorem rd_neg : xNeg (.int i) k = k (.fz (.int (-i))) := rfl
theorem rd_ix1 : xIx (.lst ds) (.int i) k = ∃ d, atI ds i = some d ∧ k (.fz d) := rfl
theorem rd_ix2 : xIx (.tup ds) (.int i) k = ∃ d, atI ds i = some d ∧ k (.fz d) := rfl
theorem rd_part {QO : Option Int → En → Prop} : xPart t ρ QO = t ρ fun s ρ1 => onI s.toD fun i => QO (some i) ρ1 := rfl
theorem rd_sl {lo hi : DO} : xSl t lo hi ρ Q = t ρ fun s ρ1 => lo ρ1 fun l ρ2 => hi ρ2 fun h ρ3 => onSl s.toD l h fun z => Q z ρ3 := rfl
theorem rd_onSl1 {l h : Option Int} : onSl (.lst ds) l h k = k (.ow (cutD ds l h)) := rfl
theorem rd_onSl2 {l h : Option Int} : onSl (.tup ds) l h k = k (.fz (.tup (cutD ds l h))) := rfl
theorem rd_rev : xRevL t ρ Q = t ρ fun s ρ1 => onRv s.toD fun z => Q z ρ1 := rfl
theorem rd_onRv : onRv (.lst ds) k = k (.ow ds.reverse) := rfl
theorem rd_len1 : xLen [.lst ds] k = k (.fz (.int ds.length)) := rfl
theorem rd_len2 : xLen [.tup ds] k = k (.fz (.int ds.length)) := rfl
theorem rd_max2 : xMax2 [.int i, .int j] k = k (.fz (.int (if j > i then j else i))) := rfl
theorem rd_min2 : xMin2 [.int i, .int j] k = k (.fz (.int (if j < i then j else i))) := rfl
theorem rd_int1 : xIntOf [.int i] k = k (.fz (.int i)) := rfl
theorem rd_int2 {b : Bool} : xIntOf [.bl b] k = k (.fz (.int (if b then 1 else 0))) := rfl
theorem rd_lst1 : xListOf [.lst ds] k = k (.ow ds) := rfl
theorem rd_lst2 : xListOf [.tup ds] k = k (.ow ds) := rfl
theorem rd_tup1 : xTupOf [.lst ds] k = k (.fz (.tup ds)) := rfl
theorem rd_tup2 : xTupOf [.tup ds] k = k (.fz (.tup ds)) := rfl
theorem rd_dm : xDivmod [.int i, .int j] k = ((0 < j ∧ j < 1073741824) ∧ k (.fz (.tup [.int (i / j), .int (i % j)]))) := rfl
theorem rd_seqI : xSeqI t ρ QL = t ρ fun s ρ1 => onSq s.toD fun ds => QL ds ρ1 := rfl
theorem rd_onSq1 {k : List D → Prop} : onSq (.lst ds) k = k ds := rfl
theorem rd_onSq2 {k : List D → Prop} : onSq (.tup ds) k = k ds := rfl
theorem rd_rng1 : xRng1 a ρ QL = a ρ fun ds ρ1 => onR1 ds fun l => QL l ρ1 := rfl
theorem rd_onR1 {k : List D → Prop} : onR1 [.int j] k = (-1000000000000 < j ∧ j < 1000000000000 ∧ k (rngD 0 j.toNat)) := rfl
theorem rd_rng2 : xRng2 a ρ QL = a ρ fun ds ρ1 => onR2 ds fun l => QL l ρ1 := rfl
theorem rd_onR2 {k : List D → Prop} : onR2 [.int i, .int j] k = ((-1000000000000 < i ∧ i < 1000000000000 ∧ -1000000000000 < j ∧ j < 1000000000000) ∧ k (rngD i (j - i).toNat)) := rfl
theorem rd_zip : xZip a ρ QL = a ρ fun ds ρ1 => onZ ds fun l => QL l ρ1 := rfl
theorem rd_onZ1 {k : List D → Prop} : onZ [.lst xs, .lst ys] k = k (zipD xs ys) := rfl
theorem rd_onZ2 {k : List D → Prop} : onZ [.tup xs, .tup ys] k = k (zipD xs ys) := rfl
theorem rd_par {p q : Nat} : xPar p q a Z ρ = a ρ fun ds ρ1 => onP ds fun d e => Z.nx ((ρ1.set p (some (.fz d))).set q (some (.fz e))) := rfl
theorem rd_onP {k : D → D → Prop} : onP [d, e] k = k d e := rfl
theorem rd_gtup {g : DGs} {QE : En → Prop} : xGTup n g (.tup ds) ρ QE = (ds.length = n ∧ g ds ρ QE) := rfl
theorem rd_gnil {QE : En → Prop} : xGNil [] ρ QE = QE ρ := rfl
theorem rd_gcons {g : DG} {gs : DGs} {QE : En → Prop} : xGCons g gs (d :: ds) ρ QE = g d ρ fun ρ1 => gs ds ρ1 QE := rfl
theorem rd_isi {T : String} : xIsi T t ρ Q = t ρ fun s ρ1 => noO s.toD = true ∧ Q (.fz (.bl (isiD T s.toD))) ρ1 := rfl
theorem noO_int {i : Int} : (noO (.int i) = true) = True := by simp [noO]
theorem noO_bl {b : Bool} : (noO (.bl b) = true) = True := by simp [noO]
theorem noO_str {x : Str} : (noO (.str x) = true) = True := by simp [noO]
theorem noO_lst {ds : List D} : (noO (.lst ds) = true) = True := by simp [noO]
theorem noO_tup {ds : List D} : (noO (.tup ds) = true) = True := by simp [noO]
theorem noO_non : (noO .non = true) = True := by simp [noO]
end
/-- a comprehension that tests and reckons each item by itself: p, g over the items' own kind -/
theorem lc_pure {α : Type} (as : List α) (ι : α → D) (p : α → Bool) (f : α → D) {ti : DI} {g : DG} {tt : DT} {te : DE} {vs : List Nat} {ρ : En} {Q : S → En → Prop} (ρ1 : En)
    (hi : ∀ QL : List D → En → Prop, QL (as.map ι) ρ1 → ti ρ QL) (hl : as.length ≤ 100000)
    (hs : ∀ a ∈ as, ∀ QD : D → En → Prop, ∀ QN : En → Prop, (p a = true → QD (f a) (wipeD ρ1 vs)) → (p a = false → QN (wipeD ρ1 vs)) → g (ι a) (wipeD ρ1 vs) fun ρ2 => tt ρ2 fun b ρ3 => if b = true then te ρ3 fun s ρ4 => QD s.toD (wipeD ρ4 vs) else QN (wipeD ρ3 vs))
    (q : Q (.ow ((as.filter p).map f)) (unw ρ1 (wipeD ρ1 vs) vs)) : xLc ti g tt te vs ρ Q := by
  refine hi _ ⟨by simpa using hl, fun i acc ρb => acc = ((as.take i).filter p).map f ∧ ρb = wipeD ρ1 vs, ⟨by simp, rfl⟩, fun i d acc ρb hd hI => ?_, fun acc ρb hI => ?_⟩
  · obtain ⟨rfl, rfl⟩ := hI
    rw [List.getElem?_map] at hd
    obtain ⟨a, ha, rfl⟩ := Option.map_eq_some_iff.mp hd
    have hm : a ∈ as := List.mem_of_getElem? ha
    refine hs a hm (fun d ρ4 => ((as.take i).filter p).map f ++ [d] = ((as.take (i + 1)).filter p).map f ∧ ρ4 = wipeD ρ1 vs) (fun ρ3 => ((as.take i).filter p).map f = ((as.take (i + 1)).filter p).map f ∧ ρ3 = wipeD ρ1 vs) (fun hp => ⟨?_, rfl⟩) (fun hp => ⟨?_, rfl⟩)
    · rw [List.take_add_one, ha]
      simp [hp]
    · rw [List.take_add_one, ha]
      simp [hp]
  · obtain ⟨rfl, rfl⟩ := hI
    rw [List.length_map, List.take_length]
    exact q
end L3

/-! the rules once more, with what they read of the context named ahead (for blocks) -/
namespace L3
open PySem PySem.Spec PyProof.Rows L2
section
variable {X : Cx} {C : FC} {w : World}
theorem o_addK (K : PySem.W.Frag) (hK : X.K = K := by rfl) : OV X C (binaryOp .Add) (fun x y H Q => rI0 (fun i j => .int (i + j)) x y H Q ∨ rCat x y H Q ∨ rCatA K x y H Q) xAdd := by subst hK; exact o_add
theorem o_mulK (K : PySem.W.Frag) (hK : X.K = K := by rfl) : OV X C (binaryOp .Mult) (fun x y H Q => rI CMulW (fun i j => .int (i * j)) x y H Q ∨ rRep x y H Q ∨ rRepT K x y H Q) xMul := by subst hK; exact o_mul
theorem o_eqK (K : PySem.W.Frag) (hu : X.A.units + 64 < cLine) (hK : X.K = K := by rfl) : OV X C (compareOp .Eq) (rEqD K) xEq := by subst hK; exact o_eq hu
theorem o_neK (K : PySem.W.Frag) (hu : X.A.units + 64 < cLine) (hK : X.K = K := by rfl) : OV X C (compareOp .NotEq) (rNeD K) xNe := by subst hK; exact o_ne hu
theorem o_inK (K : PySem.W.Frag) (hK : X.K = K := by rfl) : OV X C (compareOp .In) (rIn K false) (xIn false) := by subst hK; exact o_in
theorem o_notInK (K : PySem.W.Frag) (hK : X.K = K := by rfl) : OV X C (compareOp .NotIn) (rIn K true) (xIn true) := by subst hK; exact o_notIn
theorem d_ixK (K : PySem.W.Frag) {a b : Expr} {ta tb : TE} {da db : DE} {pos : Pos} (ha : PV X C a ta da) (hb : PV X C b tb db) (hs : PlainIx b := by exact fun _ _ => rfl) (hK : X.K = K := by rfl) : PV X C (.Subscript a b pos) (tOp (rIx K) ta tb) (xOp xIx da db) := by subst hK; exact d_ix ha hb hs
theorem d_ixOK (K : PySem.W.Frag) (i : Nat) {x : Str} {b : Expr} {tb : TE} {db : DE} {p pos : Pos} (hb : PV X C b tb db) (hs : PlainIx b := by exact fun _ _ => rfl) (hN : X.N[i]? = some x := by rfl) (hv : Vis X.env.scope x := by first | exact Or.inl rfl | exact Or.inr (Or.inl rfl) | exact Or.inr (Or.inr rfl))
    (hd : (x == ("__debug__" : Str)) = false := by decide) (hcd : (x == ("__classdict__" : Str)) = false := by decide) (hK : X.K = K := by rfl) : PV X C (.Subscript (.Name x p) b pos) (tOp (rIx K) (tVar i) tb) (fun ρ Q => isOwn ρ i ∧ xIxO i db ρ Q) := by subst hK; exact d_ixO i hb hs hN hv hd hcd
theorem d_slK (K : PySem.W.Frag) {e : Expr} {lo hi : Option Expr} {te : TE} {tl th : TO} {t : DE} {dl dh : DO} {p2 pos : Pos} (h : PV X C e te t) (hl : POV X C lo tl dl) (hh : POV X C hi th dh) (hK : X.K = K := by rfl) :
    PV X C (.Subscript e (.Slice lo hi none p2) pos) (tSl (fun x lo hi H Q => rSlL K x lo hi H Q ∨ rSlA K x lo hi H Q) te tl th) (xSl t dl dh) := by subst hK; exact d_sl h hl hh
theorem d_revLK (K : PySem.W.Frag) {e : Expr} {te : TE} {t : DE} {k : Nat} {p1 p2 p3 pos : Pos} (h : PV X C e te t) (hK : X.K = K := by rfl) : PV X C (.Subscript e (.Slice none none (some (.UnaryOp .USub (.Constant (.int 1) k p1) p2)) p3) pos) (tRevL K te) (xRevL t) := by subst hK; exact d_revL h
theorem c_lenK (K : PySem.W.Frag) (hK : X.K = K := by rfl) : CV X C (.builtin "len") (fun xs H Q => ∃ p ys, xs = [.ref p] ∧ (SqL K H p ys ∨ SqT K H p ys) ∧ Q (.int ys.length) H) xLen := by subst hK; exact c_len
theorem c_sumK (K : PySem.W.Frag) (hc : X.calm = true) (hK : X.K = K := by rfl) : CV X C (.builtin "sum") (rSum K) xSum := by subst hK; exact c_sum hc
theorem c_maxK (K : PySem.W.Frag) (hc : X.calm = true) (hK : X.K = K := by rfl) : CV X C (.builtin "max") (rMax K) xMaxL := by subst hK; exact c_max hc
theorem c_allK (K : PySem.W.Frag) (hc : X.calm = true) (hK : X.K = K := by rfl) : CV X C (.builtin "all") (rAll K) xAll := by subst hK; exact c_all hc
theorem c_listK (K : PySem.W.Frag) (hK : X.K = K := by rfl) : CV X C (.type "list") (fun xs H Q => ∃ p ys, xs = [.ref p] ∧ (SqL K H p ys ∨ SqT K H p ys) ∧ ∀ l, H l = none → Q (.ref l) (upd H l (.lst ys))) xListOf := by subst hK; exact c_list
theorem c_tupleK (K : PySem.W.Frag) (hK : X.K = K := by rfl) : CV X C (.type "tuple") (fun xs H Q => ∃ p ys, xs = [.ref p] ∧ ((SqL K H p ys ∧ ∀ l, H l = none → Q (.ref l) (upd H l (.tup ys))) ∨ (SqT K H p ys ∧ Q (.ref p) H))) xTupOf := by subst hK; exact c_tuple
theorem di_seqK (K : PySem.W.Frag) {tg l : Expr} {tl : TE} {t : DE} (h : PV X C l tl t) (hK : X.K = K := by rfl) : PIV X C tg l (iSeq K tl) (xSeqI t) := by subst hK; exact di_seq h
theorem di_zipK (K : PySem.W.Frag) {e e2 : Expr} {ta : TA} {t : DA} {p pos tpos : Pos} {elts : List Expr} {kk : Nat} (hg : Gl X "zip") (hm : X.mg "zip" = none) (ha : PAV X C [e, e2] ta t)
    (hs : starEach [e, e2] X.env = (false, eval e X.env) :: starEach [e2] X.env := by rfl) (hpl : (backTo pos (starEach [e2] X.env)).any (·.1) = false := by rfl) (hK : X.K = K := by rfl) : PIV X C (.Tuple elts kk tpos) (.Call (.Name "zip" p) [e, e2] [] pos) (RZ.iZipA K ta) (xZip t) := by subst hK; exact di_zip hg hm ha hs hpl
theorem dg_tupK (K : PySem.W.Frag) {es : List Expr} {k : Nat} {g : TGs} {gd : DGs} {n : Nat} {is : List Nat} {pos : Pos} (hc : X.calm = true) (h : PGsV X C es g gd is)
    (hn : (assignEach es X.env).length = n := by rfl) (hst : (assignEach es X.env).findIdx? (·.1) = none := by rfl) (hK : X.K = K := by rfl) : PGV X C (.Tuple es k pos) (gTup K n g) (xGTup n gd) is := by subst hK; exact dg_tup hc h hn hst
theorem d_fnK {P : Program} {w : World} {K : PySem.W.Frag} {mg : Str → Option Value} {base : Heap} {k n : Nat} {dp : DP} {x : Str} {p pos : Pos} {e : Expr} {es : List Expr} {ta : TA} {a : DA} (F : Fn P w K mg base x k n dp) (hr : Room k X.A) (ha : PAV X C (e :: es) ta a) (hg : Gl X x := by rfl)
    (hdb : (x == ("__debug__" : Str)) = false := by decide) (he : starEach (e :: es) X.env = (false, eval e X.env) :: starEach es X.env := by rfl) (hpl : (backTo pos (starEach es X.env)).any (·.1) = false := by rfl)
    (h1 : X.prog = P := by rfl) (h2 : X.w = w := by rfl) (h3 : X.K = K := by rfl) (h4 : X.mg = mg := by rfl) (h5 : X.base = base := by rfl) :
    PV X C (.Call (.Name x p) (e :: es) [] pos) (tCall (spD mg n dp) [] E0 ta) (xCall n dp (fun _ => False) a) := by subst h1 h2 h3 h4 h5; exact d_fn F hr ha hg hdb he hpl
theorem d_fnBK (i : Nat) {P : Program} {w : World} {K : PySem.W.Frag} {mg : Str → Option Value} {base : Heap} {k n : Nat} {db : DB} {x y : Str} {p p2 pos : Pos} {es : List Expr} {ta : TA} {a : DA} (F : FnB P w K mg base x k n db) (hr : Room k X.A) (ha : PAV X C es ta a) (hg : Gl X x := by rfl)
    (hN : X.N[i]? = some y := by rfl) (hv : Vis X.env.scope y := by first | exact Or.inl rfl | exact Or.inr (Or.inl rfl) | exact Or.inr (Or.inr rfl)) (hd : (y == ("__debug__" : Str)) = false := by decide) (hcd : (y == ("__classdict__" : Str)) = false := by decide)
    (hdb : (x == ("__debug__" : Str)) = false := by decide) (he : starEach (.Name y p2 :: es) X.env = (false, eval (.Name y p2) X.env) :: starEach es X.env := by rfl) (hpl : (backTo pos (starEach es X.env)).any (·.1) = false := by rfl)
    (h1 : X.prog = P := by rfl) (h2 : X.w = w := by rfl) (h3 : X.K = K := by rfl) (h4 : X.mg = mg := by rfl) (h5 : X.base = base := by rfl) :
    PV X C (.Call (.Name x p) (.Name y p2 :: es) [] pos) (tCall (spB n db) [] E0 (tCons (tVar i) ta)) (xCallB i n db a) := by subst h1 h2 h3 h4 h5; exact d_fnB i F hr ha hg hN hv hd hcd hdb he hpl
end
end L3

namespace L3
open PySem PySem.Spec PyProof.Rows L2
theorem isi_int_non : isiD "int" .non = false := by simp [isiD, isiN, tyN]
theorem isi_int_bl {b : Bool} : isiD "int" (.bl b) = true := by simp [isiD, isiN, tyN]
theorem isi_int_int {i : Int} : isiD "int" (.int i) = true := by simp [isiD, isiN, tyN]
theorem isi_int_str {x : Str} : isiD "int" (.str x) = false := by simp [isiD, isiN, tyN]
theorem isi_int_lst {ds : List D} : isiD "int" (.lst ds) = false := by simp [isiD, isiN, tyN]
theorem isi_int_tup {ds : List D} : isiD "int" (.tup ds) = false := by simp [isiD, isiN, tyN]
theorem isi_bool_non : isiD "bool" .non = false := by simp [isiD, isiN, tyN]
theorem isi_bool_bl {b : Bool} : isiD "bool" (.bl b) = true := by simp [isiD, isiN, tyN]
theorem isi_bool_int {i : Int} : isiD "bool" (.int i) = false := by simp [isiD, isiN, tyN]
theorem isi_bool_str {x : Str} : isiD "bool" (.str x) = false := by simp [isiD, isiN, tyN]
theorem isi_bool_lst {ds : List D} : isiD "bool" (.lst ds) = false := by simp [isiD, isiN, tyN]
theorem isi_bool_tup {ds : List D} : isiD "bool" (.tup ds) = false := by simp [isiD, isiN, tyN]
theorem isi_list_non : isiD "list" .non = false := by simp [isiD, isiN, tyN]
theorem isi_list_bl {b : Bool} : isiD "list" (.bl b) = false := by simp [isiD, isiN, tyN]
theorem isi_list_int {i : Int} : isiD "list" (.int i) = false := by simp [isiD, isiN, tyN]
theorem isi_list_str {x : Str} : isiD "list" (.str x) = false := by simp [isiD, isiN, tyN]
theorem isi_list_lst {ds : List D} : isiD "list" (.lst ds) = true := by simp [isiD, isiN, tyN]
theorem isi_list_tup {ds : List D} : isiD "list" (.tup ds) = false := by simp [isiD, isiN, tyN]
theorem isi_tuple_non : isiD "tuple" .non = false := by simp [isiD, isiN, tyN]
theorem isi_tuple_bl {b : Bool} : isiD "tuple" (.bl b) = false := by simp [isiD, isiN, tyN]
theorem isi_tuple_int {i : Int} : isiD "tuple" (.int i) = false := by simp [isiD, isiN, tyN]
theorem isi_tuple_str {x : Str} : isiD "tuple" (.str x) = false := by simp [isiD, isiN, tyN]
theorem isi_tuple_lst {ds : List D} : isiD "tuple" (.lst ds) = false := by simp [isiD, isiN, tyN]
theorem isi_tuple_tup {ds : List D} : isiD "tuple" (.tup ds) = true := by simp [isiD, isiN, tyN]
theorem isi_str_non : isiD "str" .non = false := by simp [isiD, isiN, tyN]
theorem isi_str_bl {b : Bool} : isiD "str" (.bl b) = false := by simp [isiD, isiN, tyN]
theorem isi_str_int {i : Int} : isiD "str" (.int i) = false := by simp [isiD, isiN, tyN]
theorem isi_str_str {x : Str} : isiD "str" (.str x) = true := by simp [isiD, isiN, tyN]
theorem isi_str_lst {ds : List D} : isiD "str" (.lst ds) = false := by simp [isiD, isiN, tyN]
theorem isi_str_tup {ds : List D} : isiD "str" (.tup ds) = false := by simp [isiD, isiN, tyN]
def ownO : Option (Option S) → Prop
  | some (some s) => s.own = true
  | _ => False
theorem rd_isOwn {ρ : En} {n : Nat} : isOwn ρ n = ownO ρ[n]? := by
  apply propext
  unfold isOwn ownO
  constructor
  · rintro ⟨s, e, h⟩
    rw [e]; exact h
  · intro h
    split at h
    · rename_i s e
      exact ⟨s, e, h⟩
    · exact h.elim
theorem rd_own1 {ds : List D} : ownO (some (some (.ow ds))) = True := eq_true rfl
theorem rd_own2 {ds : List D} : ownO (some (some (.bg ds))) = True := eq_true rfl
theorem rd_own3 {ks : List Int} {ds : List D} : ownO (some (some (.od ks ds))) = True := eq_true rfl
def onIx (o : Option (Option S)) (k : Int) (K : D → Prop) : Prop := match o with
  | some (some (.ow ds)) => ∃ d, atI ds k = some d ∧ K d
  | some (some (.bg ds)) => ∃ d, atI ds k = some d ∧ K d
  | _ => False
theorem rd_onIx1 {ds : List D} {k : Int} {K : D → Prop} : onIx (some (some (.ow ds))) k K = ∃ d, atI ds k = some d ∧ K d := rfl
theorem rd_onIx2 {ds : List D} {k : Int} {K : D → Prop} : onIx (some (some (.bg ds))) k K = ∃ d, atI ds k = some d ∧ K d := rfl
theorem rd_ixO {i : Nat} {b : DE} {ρ : En} {Q : S → En → Prop} : xIxO i b ρ Q = b ρ fun s ρ1 => onI s.toD fun k => onIx ρ1[i]? k fun d => Q (.fz d) ρ1 := by
  unfold xIxO
  congr 1
  funext s ρ1
  apply propext
  constructor
  · rintro ⟨ds, k, d, h, e, h1, h2⟩
    rw [e]
    rw [rd_onI]
    rcases h with h | h <;> rw [h] <;> exact ⟨d, h1, h2⟩
  · intro h
    unfold onI at h
    split at h
    · rename_i k e
      unfold onIx at h
      split at h
      · rename_i ds e2
        obtain ⟨d, h1, h2⟩ := h
        exact ⟨ds, k, d, .inl e2, e, h1, h2⟩
      · rename_i ds e2
        obtain ⟨d, h1, h2⟩ := h
        exact ⟨ds, k, d, .inr e2, e, h1, h2⟩
      · exact h.elim
    · exact h.elim
def onStore (o : Option (Option S)) (k : Int) (d : D) (K : S → Prop) : Prop := match o with
  | some (some (.ow ds)) => ∃ j, ixN ds.length k = some j ∧ K (.ow (ds.set j d))
  | some (some (.bg ds)) => ∃ j, ixN ds.length k = some j ∧ K (.bg (ds.set j d))
  | _ => False
theorem rd_onStore1 {ds : List D} {k : Int} {d : D} {K : S → Prop} : onStore (some (some (.ow ds))) k d K = ∃ j, ixN ds.length k = some j ∧ K (.ow (ds.set j d)) := rfl
theorem rd_onStore2 {ds : List D} {k : Int} {d : D} {K : S → Prop} : onStore (some (some (.bg ds))) k d K = ∃ j, ixN ds.length k = some j ∧ K (.bg (ds.set j d)) := rfl
theorem rd_store {i : Nat} {te ti : DE} {Z : DEnds} {ρ : En} : xStore i te ti Z ρ = te ρ fun s ρ1 => isOwn ρ1 i ∧ ti ρ1 fun s' ρ2 => onI s'.toD fun k => onStore ρ2[i]? k s.toD fun z => Z.nx (ρ2.set i (some z)) := by
  unfold xStore
  congr 1
  funext s ρ1
  congr 1
  congr 1
  funext s' ρ2
  apply propext
  constructor
  · rintro ⟨ds, k, j, e, hj, h⟩
    rw [e]
    rw [rd_onI]
    rcases h with ⟨h, h2⟩ | ⟨h, h2⟩ <;> rw [h] <;> exact ⟨j, hj, h2⟩
  · intro h
    unfold onI at h
    split at h
    · rename_i k e
      unfold onStore at h
      split at h
      · rename_i ds e2
        obtain ⟨j, h1, h2⟩ := h
        exact ⟨ds, k, j, e, h1, .inl ⟨e2, h2⟩⟩
      · rename_i ds e2
        obtain ⟨j, h1, h2⟩ := h
        exact ⟨ds, k, j, e, h1, .inr ⟨e2, h2⟩⟩
      · exact h.elim
    · exact h.elim
theorem ex_eq {α : Type} {x : α} {p : α → Prop} : (∃ y, some x = some y ∧ p y) = p x := by
  apply propext
  constructor
  · rintro ⟨y, e, h⟩
    cases e
    exact h
  · exact fun h => ⟨x, rfl, h⟩
theorem atI_c0 {α : Type} {x : α} {l : List α} : atI (x :: l) 0 = some x := atI_nat (j := 0) rfl
theorem atI_c1 {α : Type} {x y : α} {l : List α} : atI (x :: y :: l) 1 = some y := atI_nat (j := 1) rfl
theorem atI_c2 {α : Type} {x y z : α} {l : List α} : atI (x :: y :: z :: l) 2 = some z := atI_nat (j := 2) rfl
theorem ixN3_0 : ixN 3 0 = some 0 := rfl
theorem ixN3_1 : ixN 3 1 = some 1 := rfl
theorem ixN3_2 : ixN 3 2 = some 2 := rfl
theorem cm64 {i j : Int} (h1 : -18446744073709551616 < i) (h2 : i < 18446744073709551616) (h3 : -18446744073709551616 < j) (h4 : j < 18446744073709551616) : CMulW i j :=
  wide_mul (a := 64) (b := 64) (by show i.natAbs < 18446744073709551616; omega) (by show j.natAbs < 18446744073709551616; omega) (by decide) (by decide) (by decide)
theorem cdW {i j : Int} (h1 : 0 < j) (h2 : j < 18446744073709551616) : CDivW i j := wide_div (b := 64) h1 (by show j.natAbs < 18446744073709551616; omega) (by decide) (by decide)
theorem cpw {i j : Int} (h0 : 0 ≤ j) (h1 : j ≤ 1000) (h2 : -18446744073709551616 < i) (h3 : i < 18446744073709551616) : CPow i j := ⟨h0, by omega, by show i.natAbs < 18446744073709551616; omega⟩

/-! ### the bag of draws -/
def bagOK (m : Nat) (bd : List D) : Prop := ∃ a b c : Int, bd = [.int a, .int b, .int c] ∧ 0 ≤ a ∧ 0 ≤ b ∧ b < 2305843009213693951 ∧ 0 ≤ c ∧ c ≤ 100000 + m
theorem bagOK.mono {m n : Nat} {bd : List D} (h : bagOK m bd) (l : m ≤ n) : bagOK n bd := by
  obtain ⟨a, b, c, e, h1, h2, h3, h4, h5⟩ := h
  exact ⟨a, b, c, e, h1, h2, h3, h4, by omega⟩

mutual
def sm : Nat → D → Bool
  | _, .non => true
  | _, .bl _ => true
  | _, .int _ => true
  | _, .str x => PyData.strOk x
  | 0, .lst _ => false
  | 0, .tup _ => false
  | n + 1, .lst ds => decide (ds.length ≤ 100000) && sms n ds
  | n + 1, .tup ds => decide (ds.length ≤ 100000) && sms n ds
  | _, .dct _ _ => false
  | _, .obj _ => false
def sms : Nat → List D → Bool
  | _, [] => true
  | n, d :: ds => sm n d && sms n ds
end
theorem sms_mem : ∀ {n : Nat} {ds : List D}, sms n ds = true → ∀ d ∈ ds, sm n d = true
  | _, [], _, d, h => by cases h
  | n, x :: ds, o, d, h => by
    simp only [sms, Bool.and_eq_true] at o
    rcases List.mem_cons.mp h with rfl | h
    · exact o.1
    · exact sms_mem o.2 d h
theorem sms_of : ∀ {n : Nat} {ds : List D}, (∀ d ∈ ds, sm n d = true) → sms n ds = true
  | _, [], _ => rfl
  | n, x :: ds, h => by
    simp only [sms, Bool.and_eq_true]
    exact ⟨h x (by simp), sms_of fun d hd => h d (by simp [hd])⟩
theorem sm_int (n : Nat) (i : Int) : sm n (.int i) = true := by cases n <;> rfl
theorem sm_non (n : Nat) : sm n .non = true := by cases n <;> rfl
theorem sm_tup {n : Nat} {ns : List Int} (h : ns.length ≤ 100000) : sm (n + 1) (.tup (ns.map D.int)) = true := by
  simp only [sm, List.length_map, decide_eq_true h, Bool.true_and]
  exact sms_of fun d hd => by
    obtain ⟨i, _, rfl⟩ := List.mem_map.mp hd
    exact sm_int n i
theorem sm_lst {n : Nat} {ns : List Int} (h : ns.length ≤ 100000) : sm (n + 1) (.lst (ns.map D.int)) = true := by
  simp only [sm, List.length_map, decide_eq_true h, Bool.true_and]
  exact sms_of fun d hd => by
    obtain ⟨i, _, rfl⟩ := List.mem_map.mp hd
    exact sm_int n i
/-- a def that nobody calls: for a recursion's ground -/
theorem fn_void {P : Program} {w : World} {K : PySem.W.Frag} {mg : Str → Option Value} {base : Heap} {x : Str} {st : Stmt} {ps : List Str} (n : Nat) (d : Df K mg x st ps) (hps : ps.length = n) : Fn P w K mg base x 0 n (fun _ _ _ => False) := by
  obtain ⟨f, fd, F, hm, hb⟩ := d
  exact ⟨f, fd, ps, ⟨spD_len hps, fun A outer s H args us vs Q E hr e0 hb hv ⟨G, ds, QD, ED, h1, h2, h3, h4, h5, h6⟩ => h5.elim⟩, hm, F.kp, hb⟩
end L3
namespace L3
open PySem PySem.Spec PyProof.Rows L2
section
variable {X : Cx} {C : FC}
def onE (ds : List D) (k : List D → Prop) : Prop := match ds with
  | [.lst xs] => k (enumD xs)
  | [.tup xs] => k (enumD xs)
  | _ => False
def xEnum (t : DA) : DI := fun ρ Q => t ρ fun ds ρ1 => onE ds fun l => Q l ρ1
theorem rd_onE1 {xs : List D} {k : List D → Prop} : onE [.lst xs] k = k (enumD xs) := rfl
theorem rd_onE2 {xs : List D} {k : List D → Prop} : onE [.tup xs] k = k (enumD xs) := rfl
/-- of a list alone -/
def onEl (ds : List D) (k : List D → Prop) : Prop := match ds with
  | [.lst xs] => k (enumD xs)
  | _ => False
def xEnumL (t : DA) : DI := fun ρ Q => t ρ fun ds ρ1 => onEl ds fun l => Q l ρ1
theorem di_enumL (K : PySem.W.Frag) {e : Expr} {ta : TA} {t : DA} {p pos tpos : Pos} {elts : List Expr} {kk : Nat} (hg : Gl X "enumerate") (hm : X.mg "enumerate" = none) (ha : PAV X C [e] ta t)
    (hs : starEach [e] X.env = [(false, eval e X.env)] := by rfl) (hK : X.K = K := by rfl) : PIV X C (.Tuple elts kk tpos) (.Call (.Name "enumerate" p) [e] [] pos) (iEnum K ta) (xEnumL t) := by
  subst hK
  refine ⟨pi_enum hg hm ha.pe hs, fun G H σ ρ QD R' R q k => ha.rf G H σ ρ _ _ R q fun vs ds G1 H1 ρ1 R1 s1 hd q1 => ?_⟩
  unfold onEl at q1
  split at q1
  · rename_i xs
    obtain ⟨v, rfl, a, us, rfl, h1, h2⟩ := hd.one
    exact ⟨a, us, rfl, SqL.of (R1.sub _ _ h1), k _ _ G1 H1 ρ1 R1 s1 (jr_enum h1 h2) q1⟩
  · exact q1.elim
end
end L3
namespace L3
open PySem PySem.Spec PyProof.Rows L2
/-! ### the law's own loop: over bags -/
def envB (n i : Nat) (bd : List D) : En := (List.replicate n none).set i (some (.bg bd))
theorem envB_get {n i j : Nat} {bd : List D} {s : S} (h : (envB n i bd)[j]? = some (some s)) : j = i ∧ s = .bg bd := by
  unfold envB at h
  rcases get_set h with h | ⟨_, h⟩
  · exact h
  · rw [List.getElem?_replicate] at h
    split at h <;> cases h
theorem rep_bag {H : Hp} {σ : L2.St} {n i : Nat} {bd : List D} {b : Addr} {vs : List V} (hl : σ.length = n) (hb : H b = some (.lst vs)) (hd : Dats (fun _ => none) bd vs) (hs : σ[i]? = some (some (.ref b))) :
    Rep ⟨H, fun _ => none, some b, []⟩ (fun _ => none) H σ (envB n i bd) := by
  refine ⟨by unfold envB; rw [List.length_set, List.length_replicate, hl], fun _ _ e => (by cases e), fun _ _ e => e, fun _ _ e _ => e, fun _ _ e => (by cases e), fun p e => ?_, fun j d e => ?_, fun j s e os => ?_, fun j k s1 s2 p ne e1 o1 e2 o2 z1 z2 => ?_, (fun _ _ z => nomatch z), (fun _ z => nomatch z)⟩
  · cases e
    exact ⟨rfl, (by show H b ≠ none; rw [hb]; exact fun z => nomatch z), _, hb⟩
  · cases (envB_get e).2
  · obtain ⟨rfl, rfl⟩ := envB_get e
    exact ⟨b, hs, ⟨vs, hb, hd⟩, rfl, .inr ⟨rfl, rfl⟩⟩
  · exact ne ((envB_get e1).1.trans (envB_get e2).1.symm)
/-- the bags of a list, as they stand -/
def BagsAt (H : Hp) (bs : List Addr) (i : Nat) : Prop := ∀ (j : Nat) (b : Addr), i ≤ j → bs[j]? = some b → ∃ bd, bagOK 0 bd ∧ ∃ vs, H b = some (.lst vs) ∧ ∀ G, Dats G bd vs
theorem for_bags {K : PySem.W.Frag} {tsb : TS} {tb : DS} {n i0 : Nat} {p : Addr} {bs : List Addr} {σ : L2.St} {H : Hp} {E : Ends} (hbody : ∀ C, RfS C tsb tb)
    (hpure : ∀ bd, bagOK 0 bd → tb { nx := fun ρ => ρ.length = n, ct := fun ρ => ρ.length = n, rt := fun _ _ => False } (envB n i0 bd)) (hi0 : i0 < n) (hσ : σ.length = n)
    (hp : H p = some (.lst (bs.map V.ref))) (nd : bs.Nodup) (hpb : p ∉ bs) (hB : BagsAt H bs 0) (hend : ∀ σ' H', Same (fun q => if q ∈ bs then none else H q) H' → E.nx σ' H') :
    ∃ W : Nat → Nat → L2.St → Hp → Prop, (∃ m, W 0 m σ H) ∧ ∀ i m σ H, W i m σ H →
      ((Itl K p).stop i H ∧ E.nx σ H) ∨ ((Itl K p).go i H ∧ ∃ N : L2.St → Hp → Prop, (∀ σ' H', N σ' H' → ∃ m', m' < m ∧ W (i + 1) m' σ' H') ∧ ∀ x H', (Itl K p).yld i H x H' → gName i0 x σ H' fun σ2 H2 => tsb { E with nx := N, ct := N, bk := E.nx } σ2 H2) := by
  refine ⟨fun i m σ' H' => m = bs.length - i ∧ i ≤ bs.length ∧ σ'.length = n ∧ H' p = some (.lst (bs.map V.ref)) ∧ BagsAt H' bs i ∧ Same (fun q => if q ∈ bs then none else H q) H',
    ⟨_, rfl, Nat.zero_le _, hσ, hp, hB, fun q o e => ?_⟩, ?_⟩
  · have e : (if q ∈ bs then none else H q) = some o := e
    split at e
    · cases e
    · exact e
  rintro i m σ1 H1 ⟨rfl, hi, hl, hp1, hB1, sm⟩
  have hL : SqL K H1 p (bs.map V.ref) := .inl (.inl hp1)
  by_cases hlt : i < bs.length
  · have g1 : (bs.map V.ref)[i]? = some (.ref bs[i]) := by rw [List.getElem?_map, List.getElem?_eq_getElem hlt]; rfl
    refine .inr ⟨⟨_, _, hL, g1⟩, fun σ' H' => i + 1 ≤ bs.length ∧ σ'.length = n ∧ H' p = some (.lst (bs.map V.ref)) ∧ BagsAt H' bs (i + 1) ∧ Same (fun q => if q ∈ bs then none else H q) H',
      fun σ' H' h => ⟨bs.length - (i + 1), by omega, rfl, h⟩, fun x H' ⟨eH, hx⟩ => ?_⟩
    subst eH
    have ex : x = .ref bs[i] := Option.some.inj ((hx _ hL).symm.trans g1)
    subst ex
    obtain ⟨bd, ok, vs, hv, hd⟩ := hB1 i bs[i] (Nat.le_refl _) (List.getElem?_eq_getElem hlt)
    have hl2 : (σ1.set i0 (some (.ref bs[i]))).length = n := by rw [List.length_set]; exact hl
    have R := rep_bag (i := i0) hl2 hv (hd _) (set_self_lt (by omega))
    have done : ∀ {G' H2 : Hp} {σ2 : L2.St} {ρ2 : En}, Rep ⟨H', fun _ => none, some bs[i], []⟩ G' H2 σ2 ρ2 → ρ2.length = n → i + 1 ≤ bs.length ∧ σ2.length = n ∧ H2 p = some (.lst (bs.map V.ref)) ∧ BagsAt H2 bs (i + 1) ∧ Same (fun q => if q ∈ bs then none else H q) H2 := fun {G' H2 σ2 ρ2} R2 hn => by
      refine ⟨hlt, R2.len ▸ hn, R2.keep p _ hp1 (fun z => hpb ((Option.some.inj z) ▸ List.getElem_mem hlt)), fun j b hj hjb => ?_, fun q o e => ?_⟩
      · obtain ⟨bd', ok', vs', hv', hd'⟩ := hB1 j b (by omega) hjb
        refine ⟨bd', ok', vs', R2.keep b _ hv' (fun z => ?_), hd'⟩
        have e1 : bs[i] = b := Option.some.inj z
        obtain ⟨hj2, e2⟩ := List.getElem?_eq_some_iff.mp hjb
        have := (List.getElem_inj (h₀ := hlt) (h₁ := hj2) nd).mp (e1.trans e2.symm)
        omega
      · have e1 := sm q o e
        refine R2.keep q o e1 (fun z => ?_)
        have e2 : bs[i] = q := Option.some.inj z
        have e3 : (if q ∈ bs then none else H q) = some o := e
        rw [if_pos (e2 ▸ List.getElem_mem hlt)] at e3
        cases e3
    exact hbody _ _ _ _ _ _ _ R (hpure bd ok) ⟨fun _ _ _ _ R2 _ q => done R2 q, fun _ _ _ _ _ _ q => q.elim, fun _ _ _ _ R2 _ q => done R2 q, fun _ _ _ _ _ _ _ _ _ q => q.elim⟩
  · exact .inl ⟨⟨_, hL, by rw [List.length_map]; omega⟩, hend σ1 H1 sm⟩
end L3

namespace L3
open PySem PySem.Spec PyProof.Rows L2
/-- a row of draws from the bag -/
theorem lc_draw (lo n m : Nat) (top : Int) (ρf : List D → En) {ti : DI} {g : DG} {tt : DT} {te : DE} {vs : List Nat} {ρ : En} {Q : S → En → Prop}
    (hti : ∀ QL : List D → En → Prop, (∀ (n' : Nat) (b0 : List D), lo ≤ n' → n' ≤ n → bagOK m b0 → QL (rngD 0 n') (ρf b0)) → ti ρ QL) (hn : n ≤ 100000)
    (hstep : ∀ (i : Nat) (bd : List D) (QN : D → En → Prop) (QF : En → Prop), i < n → bagOK (m + i) bd → (∀ (r : Int) (bd' : List D), 0 ≤ r → r < top → bagOK (m + i + 1) bd' → QN (.int (1 + r)) (wipeD (ρf bd') vs)) →
      g (.int (0 + i)) (wipeD (ρf bd) vs) fun ρ2 => tt ρ2 fun b ρ3 => if b = true then te ρ3 fun s ρ4 => QN s.toD (wipeD ρ4 vs) else QF (wipeD ρ3 vs))
    (hend : ∀ (hs : List Int) (b0 bd' : List D), lo ≤ hs.length → hs.length ≤ n → (∀ x ∈ hs, 1 ≤ x ∧ x ≤ top) → bagOK (m + n) bd' → Q (.ow (hs.map D.int)) (unw (ρf b0) (wipeD (ρf bd') vs) vs)) : xLc ti g tt te vs ρ Q := by
  refine hti _ fun n' b0 hlo hn' hb0 => ⟨by rw [rngD_len]; omega, fun i acc ρb => ∃ (hs : List Int) (bd : List D), acc = hs.map D.int ∧ hs.length = i ∧ (∀ x ∈ hs, 1 ≤ x ∧ x ≤ top) ∧ bagOK (m + i) bd ∧ ρb = wipeD (ρf bd) vs,
    ⟨[], b0, rfl, rfl, fun x hx => (by cases hx), hb0, rfl⟩, fun i d acc ρb hd hI => ?_, fun acc ρb hI => ?_⟩
  · obtain ⟨hs, bd, rfl, hl, ha, hb, rfl⟩ := hI
    obtain ⟨hi, rfl⟩ := rngD_get hd
    refine hstep i bd (fun d ρ4 => ∃ (hs' : List Int) (bd : List D), hs.map D.int ++ [d] = hs'.map D.int ∧ hs'.length = i + 1 ∧ (∀ x ∈ hs', 1 ≤ x ∧ x ≤ top) ∧ bagOK (m + (i + 1)) bd ∧ ρ4 = wipeD (ρf bd) vs)
      (fun ρ3 => ∃ (hs' : List Int) (bd : List D), hs.map D.int = hs'.map D.int ∧ hs'.length = i + 1 ∧ (∀ x ∈ hs', 1 ≤ x ∧ x ≤ top) ∧ bagOK (m + (i + 1)) bd ∧ ρ3 = wipeD (ρf bd) vs) (by omega) hb
      (fun r bd' h0 h1 hb' => ⟨hs ++ [1 + r], bd', by simp, by simp [hl], fun x hx => ?_, hb', rfl⟩)
    rcases List.mem_append.mp hx with h | h
    · exact ha x h
    · simp only [List.mem_singleton] at h
      omega
  · obtain ⟨hs, bd, rfl, hl, ha, hb, rfl⟩ := hI
    rw [rngD_len] at hl hb
    exact hend hs b0 bd (by omega) (by omega) ha (hb.mono (by omega))
theorem lc_pure0 {α : Type} (as : List α) (ι : α → D) (p : α → Bool) (f : α → D) {ti : DI} {g : DG} {tt : DT} {te : DE} {vs : List Nat} {ρ : En} {Q : S → En → Prop}
    (hi : ∀ QL : List D → En → Prop, QL (as.map ι) ρ → ti ρ QL) (hl : as.length ≤ 100000)
    (hs : ∀ a ∈ as, ∀ QD : D → En → Prop, ∀ QN : En → Prop, (p a = true → QD (f a) (wipeD ρ vs)) → (p a = false → QN (wipeD ρ vs)) → g (ι a) (wipeD ρ vs) fun ρ2 => tt ρ2 fun b ρ3 => if b = true then te ρ3 fun s ρ4 => QD s.toD (wipeD ρ4 vs) else QN (wipeD ρ3 vs))
    (q : Q (.ow ((as.filter p).map f)) (unw ρ (wipeD ρ vs) vs)) : xLc ti g tt te vs ρ Q := lc_pure as ι p f ρ hi hl hs q
/-- a test ahead of the law's loop -/
theorem pre_test {tt : TT} {t : DT} {n : Nat} {σ : L2.St} {H : Hp} {Q : Bool → Hp → Prop} (h : ∀ C, RfT C tt t) (hl : σ.length = n) (hp : t (List.replicate n none) fun b _ => b = false) (k : ∀ H', Same H H' → Q false H') : tt σ H Q := by
  have none_at : ∀ (i : Nat) (s : S), (List.replicate n (none : Option S))[i]? = some (some s) → False := fun i s e => by
    rw [List.getElem?_replicate] at e
    split at e <;> cases e
  refine h ⟨H, fun _ => none, none, []⟩ (fun _ => none) H σ (List.replicate n none) _ Q ⟨by rw [List.length_replicate, hl], fun _ _ e => (by cases e), fun _ _ e => e, fun _ _ e _ => e, fun _ _ e => (by cases e), fun p e => (by cases e), fun i d e => (none_at i _ e).elim,
    fun i s e _ => (none_at i _ e).elim, fun i j s s' p _ e _ _ _ _ _ => (none_at i _ e).elim, (fun _ _ z => nomatch z), (fun _ z => nomatch z)⟩ hp fun b G' H' ρ' R _ e => ?_
  subst e
  exact k H' fun p o e => R.keep p o e (fun z => nomatch z)
/-- a last expression, behind the law's loop -/
theorem post_expr {te : TE} {t : DE} {n : Nat} {σ : L2.St} {H : Hp} {Q : VK} {v0 : V} {d0 : D} (h : ∀ C, Rf C te t) (hl : σ.length = n) (hp : t (List.replicate n none) fun s _ => s = .fz d0) (hv : ∀ G v, Dat G d0 v → v = v0) (k : ∀ H', Q v0 H') : te σ H Q := by
  have none_at : ∀ (i : Nat) (s : S), (List.replicate n (none : Option S))[i]? = some (some s) → False := fun i s e => by
    rw [List.getElem?_replicate] at e
    split at e <;> cases e
  refine h ⟨H, fun _ => none, none, []⟩ (fun _ => none) H σ (List.replicate n none) _ Q ⟨by rw [List.length_replicate, hl], fun _ _ e => (by cases e), fun _ _ e => e, fun _ _ e _ => e, fun _ _ e => (by cases e), fun p e => (by cases e), fun i d e => (none_at i _ e).elim,
    fun i s e _ => (none_at i _ e).elim, fun i j s s' p _ e _ _ _ _ _ => (none_at i _ e).elim, (fun _ _ z => nomatch z), (fun _ z => nomatch z)⟩ hp fun v s G' H' ρ' R _ rv e => ?_
  subst e
  rw [hv _ _ rv]
  exact k H'
end L3

namespace L3
open PySem PySem.Spec PyProof.Rows L2
/-! ### max(list, default = d) -/
section
variable {prog : Program} {w : World} {A : Around} {R : Result → Shared → Prop} {it : Addr} {fp wr : List Addr} {n : Nat} {P : Nat → Value → Prop} {St : Nat → Heap → Prop}
def kwD (d : Value) : List (Str × Value) := [("default", d)]
def pairObj (vs : Array Value) (c : Nat) : Obj := { cls := .type "list", dict := none, data := .seq vs c, slots := #[] }
def keptBut (wr : List Addr) (S : Addr) (h h' : Heap) : Prop := ∀ b o, b ∉ wr → b ≠ S → h.get? b = some o → h'.get? b = some o
theorem mxName : (toString "max" ++ toString ".loop" : String) = "max.loop" := by decide
theorem maxD_on (W : Walks prog w A.in1 it fp wr n P St) (bt : Nat → Nat → Bool) (hc : CmpOf prog w A.in1 .Gt P bt) (S : Addr) (hf : S ∉ fp) (d : Value) : ∀ (m j : Nat) (s : Shared) (vb : Value) (c : Nat), n - (j + 1) = m → j + 1 ≤ n → St (j + 1) s.heap → P (argBest bt j) vb →
    s.heap.get? S = some (pairObj #[vb, vb] c) → (∀ v h' tk, P (argBest bt (n - 1)) v → keptBut wr S s.heap h' → R (.ok (.ret v)) { s with heap := h', toks := tk }) →
    codeAny (model prog w) A (.builtin "max.loop" ⟨[.ref it, .none, .ref S], kwD d⟩) R s
  | 0, j, s, vb, c, hm, hle, hst, hp, hS, k => by
    have e : j + 1 = n := by omega
    have nw : S ∉ wr := fun z => hf (W.sub _ z)
    refine codeAny_builtin F.entry_max_loop ?_; rw [Around.under_plainId F.plain_max_loop _]
    show wpAny _ A.in1 (seqItems? (.ref S) >>= _) _ _ s; refine wpAny_bind (wpAny_seqItems hS rfl ?_)
    show wpAny _ A.in1 (tryCatch (pyNext (.ref it)) _ >>= _) _ _ s; refine wpAny_bind (wpAny_tryCatch (W.done s _ _ (e ▸ hst) fun h' tk kp => ?_))
    show wpAny _ A.in1 (updateSeq S (fun _ => #[]) >>= _) _ _ _; refine wpAny_bind (wpAny_updateSeq (kp S _ nw hS) rfl (wpAny_bind (wpAny_letGo (wpAny_pure ?_))))
    exact k vb _ tk (by rw [← e]; exact hp) fun b o h1 h2 z => (Heap.get?_update_other _ _ (Ne.symm h2)).trans (kp b o h1 z)
  | m + 1, j, s, vb, c, hm, hle, hst, hp, hS, k => by
    have nw : S ∉ wr := fun z => hf (W.sub _ z)
    refine codeAny_builtin F.entry_max_loop ?_; rw [Around.under_plainId F.plain_max_loop _]
    show wpAny _ A.in1 (seqItems? (.ref S) >>= _) _ _ s; refine wpAny_bind (wpAny_seqItems hS rfl ?_)
    show wpAny _ A.in1 (tryCatch (pyNext (.ref it)) _ >>= _) _ _ s; refine wpAny_bind (wpAny_tryCatch (W.item (j + 1) s _ _ (by omega) hst fun v h' tk hv st kp => ?_))
    have hS' := kp S _ nw hS
    show wpAny _ A.in1 (tryCatch (holding [v, v] (richCompare .Gt v vb >>= _)) _ >>= _) _ _ _; refine wpAny_bind (wpAny_tryCatch (wpAny_holding (wpAny_bind (hc (j + 1) (argBest bt j) v vb _ _ _ hv hp ?_))))
    refine wpAny_bind (wpAny_holding (wpAny_truthy_bool ?_)); refine wpAny_bind (wpAny_letGo (wpAny_pure ?_))
    have eb : argBest bt (j + 1) = if bt (j + 1) (argBest bt j) then j + 1 else argBest bt j := rfl
    by_cases hb : bt (j + 1) (argBest bt j) = true
    · rw [hb]; simp only [if_true]
      refine wpAny_bind (wpAny_updateSeq hS' rfl (wpAny_bind (wpAny_letGo ?_))); rw [mxName]
      refine wpAny_pure ⟨plainId_quiet F.plain_max_loop _, maxD_on W bt hc S hf d m (j + 1) _ v _ (by omega) (by omega) (W.frame _ _ _ st fun b hb2 o z => ?_) (by rw [eb, if_pos hb]; exact hv) (Heap.get?_update_self _ hS' rfl) fun v' h2 tk2 hv' kp' => ?_⟩
      · exact (Heap.get?_update_other _ _ (fun h : S = b => hf (by rw [h]; exact hb2))).trans z
      · exact k v' h2 tk2 hv' fun b o h1 h2 z => kp' b o h1 h2 ((Heap.get?_update_other _ _ (Ne.symm h2)).trans (kp b o h1 z))
    · rw [Bool.not_eq_true] at hb; rw [hb]; simp only [Bool.false_eq_true, if_false]
      refine wpAny_bind (wpAny_letGo ?_); rw [mxName]
      refine wpAny_pure ⟨plainId_quiet F.plain_max_loop _, maxD_on W bt hc S hf d m (j + 1) _ vb c (by omega) (by omega) st (by rw [eb, hb]; exact hp) hS' fun v' h2 tk2 hv' kp' => ?_⟩
      exact k v' h2 tk2 hv' fun b o h1 h2 z => kp' b o h1 h2 (kp b o h1 z)
theorem maxD_first (W : Walks prog w A.in1 it fp wr n P St) (bt : Nat → Nat → Bool) (hc : CmpOf prog w A.in1 .Gt P bt) (S : Addr) (hf : S ∉ fp) (d : Value) {s : Shared} {c : Nat} (hst : St 0 s.heap) (hS : s.heap.get? S = some (pairObj #[] c))
    (k : ∀ v h' tk, (0 < n → P (argBest bt (n - 1)) v) → (n = 0 → v = d) → keptBut wr S s.heap h' → R (.ok (.ret v)) { s with heap := h', toks := tk }) :
    codeAny (model prog w) A (.builtin "max.loop" ⟨[.ref it, .none, .ref S], kwD d⟩) R s := by
  have nw : S ∉ wr := fun z => hf (W.sub _ z)
  refine codeAny_builtin F.entry_max_loop ?_; rw [Around.under_plainId F.plain_max_loop _]
  show wpAny _ A.in1 (seqItems? (.ref S) >>= _) _ _ s; refine wpAny_bind (wpAny_seqItems hS rfl ?_)
  show wpAny _ A.in1 (tryCatch (pyNext (.ref it)) _ >>= _) _ _ s
  by_cases hn : 0 < n
  · refine wpAny_bind (wpAny_tryCatch (W.item 0 s _ _ hn hst fun v h' tk hv st kp => ?_))
    have hS' := kp S _ nw hS
    show wpAny _ A.in1 (updateSeq S (fun _ => #[v, v]) >>= _) _ _ _; refine wpAny_bind (wpAny_updateSeq hS' rfl ?_); rw [mxName]
    refine wpAny_pure ⟨plainId_quiet F.plain_max_loop _, maxD_on W bt hc S hf d _ 0 _ v _ rfl hn (W.frame _ _ _ st fun b hb2 o z => ?_) hv (Heap.get?_update_self _ hS' rfl) fun v' h2 tk2 hv' kp' => ?_⟩
    · exact (Heap.get?_update_other _ _ (fun h : S = b => hf (by rw [h]; exact hb2))).trans z
    · exact k v' h2 tk2 (fun _ => hv') (fun z => absurd z (Nat.pos_iff_ne_zero.mp hn)) fun b o h1 h2 z => kp' b o h1 h2 ((Heap.get?_update_other _ _ (Ne.symm h2)).trans (kp b o h1 z))
  · have e : n = 0 := by omega
    refine wpAny_bind (wpAny_tryCatch (W.done s _ _ (e ▸ hst) fun h' tk kp => ?_))
    refine wpAny_bind (wpAny_rule (wpAny_pure ?_))
    exact (k d h' tk (fun z => absurd z hn) (fun _ => rfl) fun b o h1 _ z => kp b o h1 z)
theorem call_tree_kw {id : String} {b : Builtin} {args : List Value} {kw : List (Str × Value)} {E : Value → Shared → Prop} {s : Shared} {Q : Value → Shared → Prop} (hk : builtinKind id = none) (hp : plainId id = true) (hb : entryFor table id = some b) (ha : argsOk id ⟨args, kw⟩)
    (h : wpAny (model prog w) A.in1 (b ⟨args, kw⟩) (fun fin s' => ∃ c', fin = .again c' ∧ c'.quiet = true ∧ codeAny (model prog w) A c' (fun r s' => match r with | .ok (.ret v) => Q v s' | .ok _ => False | .error e => E e s') s') E s) :
    wpAny (model prog w) A (call (.builtin id) args kw) Q E s := by
  refine wpAny_call (codeAny_call_builtin hp hb ?_)
  have h2 := wpAny_mono h (Q' := fun fin s' => match fin with | .done f => (match (Except.ok f : Result) with | .ok (.ret v) => Q v s' | .ok _ => False | .error e => E e s') | .again c' => c'.quiet = true ∧ codeAny (model prog w) A c' (fun r s' => match r with | .ok (.ret v) => Q v s' | .ok _ => False | .error e => E e s') s') (fun fin s' ⟨c', e, h3⟩ => by subst e; exact h3) fun _ _ z => z
  simp only [checkBuiltinCall, hk]
  cases hsig : Manifest.signature? id with
  | none => exact wpAny_pure h2
  | some sig =>
    have ha' : Bind.checkArgs id sig ⟨args, kw⟩ = pure () := by simpa only [argsOk, hsig] using ha
    simp only [ha']; exact wpAny_pure h2
theorem args_maxD (a d : Value) : argsOk "max" ⟨[a], kwD d⟩ := by unfold argsOk; kernel_rfl
theorem call_maxD {l : Addr} {its : List Value} {ns : List Int} {d : Value} {E : Value → Shared → Prop} {s : Shared} {Q : Value → Shared → Prop} (hh : A.handled = none) (hl : s.heap.IsList l its.toArray) (hi : IntsAre its ns)
    (h : ∀ h' tk v, (∀ b o, s.heap.get? b = some o → h'.get? b = some o) → (ns = [] → v = d) → (ns ≠ [] → ∃ m t, v = .int m t ∧ m ∈ ns ∧ ∀ a ∈ ns, a ≤ m) → Q v { s with heap := h', toks := tk }) : wpAny (model prog w) A (call (.builtin "max") [.ref l] (kwD d)) Q E s := by
  obtain ⟨xs, e⟩ := hi.allInts.items
  have hn : numsOf (intItems xs).toList = ns := by rw [← e]; exact hi.numsOf
  rw [nums_intItems] at hn; subst hn; rw [e] at hl
  refine call_tree_kw F.kind_max F.plain_max F.entry_max (args_maxD _ _) ?_
  show wpAny _ A.in1 (Builtin.Builtins.bindParams "max" ["key", "default"] 0 ⟨[], kwD d⟩ >>= _) _ _ s
  refine wpAny_bind (wpAny_of_eq (show Builtin.Builtins.bindParams "max" ["key", "default"] 0 ⟨[], kwD d⟩ = pure [none, some d] from rfl) ?_)
  refine wpAny_bind (wpAny_pure ?_)
  refine wpAny_bind (iter_intList hl fun s₂ e st hfp hlI => ?_)
  subst e
  refine wpAny_bind (wpAny_newObj_type ?_)
  rw [mxName]
  have W := Walks.list (A := A.in1) (prog := prog) (w := w) hh _ l hlI (intItems xs)
  refine wpAny_pure ⟨_, rfl, plainId_quiet F.plain_max_loop _, maxD_first W _ (CmpOf.ints_gt (numAt xs) (fun _ _ => intItems_at)) _ (fun hm => Nat.lt_irrefl _ (hfp _ hm)) d (W.frame _ _ _ st fun b _ o z => Heap.get?_push_of_some _ z) (Heap.get?_push_size _ rfl) fun v h' tk h1 h2 kp => ?_⟩
  have kk : ∀ b o, s.heap.get? b = some o → h'.get? b = some o := old_kept fun b o h3 z => kp b o h3 (Nat.ne_of_lt (Heap.lt_size z)) (Heap.get?_push_of_some _ z)
  have sz : (intItems xs).size = xs.size := by simp [intItems]
  have lz : ((xs.toList.map (·.1))).length = xs.size := by rw [List.length_map, Array.length_toList]
  refine h h' tk v kk (fun z => h2 ?_) fun z => ?_
  · rw [sz, ← lz, z]; rfl
  · have hpos : 0 < xs.size := by
      rw [← lz]; exact List.length_pos_iff.mpr z
    obtain ⟨t, rfl⟩ := intItems_at (h1 (by rw [sz]; exact hpos))
    rw [sz]
    obtain ⟨g1, g2⟩ := argBest_gt (numAt xs) (xs.size - 1)
    refine ⟨_, t, rfl, ?_, fun a ha => ?_⟩
    · rw [numAt_eq]; exact PySem.getD_mem (by rw [lz]; omega)
    · obtain ⟨j, hj, rfl⟩ := mem_getD ha
      rw [lz] at hj; rw [← numAt_eq]; exact g2 j (by omega)
end
section
variable {X : Cx} {C : FC}
def rMaxDf (K : PySem.W.Frag) : List V → List V → Hp → VK → Prop := fun xs zs H Q => ∃ (a : Addr) (ns : List Int) (d : Int), xs = [.ref a] ∧ zs = [.int d] ∧ SqL K H a (ns.map V.int) ∧ ∀ m, (ns = [] → m = d) → (ns ≠ [] → m ∈ ns ∧ ∀ y ∈ ns, y ≤ m) → Q (.int m) H
theorem cr_maxDf (hc : X.calm = true) : CallRK X (.builtin "max") [Str.ofString "default"] (rMaxDf X.K) := by
  intro pins s σ H vs zs us ws Q I r rz h
  obtain ⟨a, ns, d, rfl, rfl, hs, q⟩ := h
  obtain ⟨its, rv, hl, _⟩ := I.list hs
  rw [Vals.ref1 r]
  obtain ⟨w1, rfl, td, rfl⟩ := vals1 rz
  refine call_maxD (d := Value.int d td) (I.ok.hd hc) hl.isList rv.ints fun h' tk v hk e1 e2 => ?_
  by_cases hn : ns = []
  · rw [e1 hn]
    exact ⟨.int d, H, I.kept hk, ⟨_, rfl⟩, q d (fun _ => rfl) (fun z => absurd hn z)⟩
  · obtain ⟨m, t, rfl, hm, hle⟩ := e2 hn
    exact ⟨.int m, H, I.kept hk, ⟨_, rfl⟩, q m (fun z => absurd z hn) (fun _ => ⟨hm, hle⟩)⟩
def xMaxDf (t : DA) (d : Int) : DE := fun ρ Q => t ρ fun ds ρ1 => ∃ ns : List Int, ds = [.lst (ns.map D.int)] ∧ ∀ m, (ns = [] → m = d) → (ns ≠ [] → m ∈ ns ∧ ∀ y ∈ ns, y ≤ m) → Q (.fz (.int m)) ρ1
theorem d_maxD {e : Expr} {ta : TA} {t : DA} {p kp cp pos : Pos} {j} {d : Int} (hc : X.calm = true) (hg : Gl X "max") (hm : X.mg "max" = none) (ha : PAV X C [e] ta t)
    (he : backTo pos (starEach [e] X.env) = (false, eval e X.env) :: backTo pos (starEach [] X.env) := by rfl) (hpl : (backTo pos (starEach [e] X.env)).any (·.1) = false := by rfl)
    (hall : (backToKw pos (keywordEach [⟨some (Str.ofString "default"), .Constant (.int d) j cp, kp⟩] X.env)).all (·.1.isSome) = true := by rfl)
    (hnone : (backToKw pos (keywordEach [⟨some (Str.ofString "default"), .Constant (.int d) j cp, kp⟩] X.env)).any (·.1.isNone) = false := by rfl)
    (hks : (backToKw pos (keywordEach [⟨some (Str.ofString "default"), .Constant (.int d) j cp, kp⟩] X.env)).filterMap (·.1) = [Str.ofString "default"] := by rfl) :
    PV X C (.Call (.Name "max" p) [e] [⟨some (Str.ofString "default"), .Constant (.int d) j cp, kp⟩] pos) (tCKw (rMaxDf X.K) ta (tCons (tC (.int d)) tNil)) (xMaxDf t d) := by
  refine ⟨pe_callBK (cr_maxDf hc) hg hm (by decide +kernel) ha.pe (pk_cons pe_int pk_nil) (by decide) (by decide) he hpl hall hnone hks, fun G H σ ρ QD Q R q k => ?_⟩
  refine ha.rf G H σ ρ _ _ R q fun vs ds G1 H1 ρ1 R1 s1 hd ⟨ns, e, q1⟩ => ?_
  subst e
  obtain ⟨v, rfl, a, us, rfl, h1, h2⟩ := hd.one
  cases h2.ints
  exact ⟨a, ns, d, rfl, rfl, SqL.of (R1.sub _ _ h1), fun m e1 e2 => k _ _ _ _ _ R1 s1 (rvf (d := .int _) rfl) (q1 m e1 e2)⟩
theorem d_maxDK (K : PySem.W.Frag) {e : Expr} {ta : TA} {t : DA} {p kp cp pos : Pos} {j} {d : Int} (hc : X.calm = true) (hg : Gl X "max") (hm : X.mg "max" = none) (ha : PAV X C [e] ta t) (hK : X.K = K := by rfl)
    (he : backTo pos (starEach [e] X.env) = (false, eval e X.env) :: backTo pos (starEach [] X.env) := by rfl) (hpl : (backTo pos (starEach [e] X.env)).any (·.1) = false := by rfl)
    (hall : (backToKw pos (keywordEach [⟨some (Str.ofString "default"), .Constant (.int d) j cp, kp⟩] X.env)).all (·.1.isSome) = true := by rfl)
    (hnone : (backToKw pos (keywordEach [⟨some (Str.ofString "default"), .Constant (.int d) j cp, kp⟩] X.env)).any (·.1.isNone) = false := by rfl)
    (hks : (backToKw pos (keywordEach [⟨some (Str.ofString "default"), .Constant (.int d) j cp, kp⟩] X.env)).filterMap (·.1) = [Str.ofString "default"] := by rfl) :
    PV X C (.Call (.Name "max" p) [e] [⟨some (Str.ofString "default"), .Constant (.int d) j cp, kp⟩] pos) (tCKw (rMaxDf K) ta (tCons (tC (.int d)) tNil)) (xMaxDf t d) := by
  subst hK
  exact d_maxD hc hg hm ha he hpl hall hnone hks
end
theorem cut_take (ns : List D) (k : Int) (h : 0 ≤ k) : L3.cutD ns none (some k) = ns.take k.toNat := by
  unfold L3.cutD
  obtain ⟨n, rfl⟩ : ∃ n : Nat, k = (n : Int) := ⟨k.toNat, by omega⟩
  rw [HT.sIx_none, HT.sIx_nat, List.drop_zero, Nat.sub_zero, Int.toNat_natCast]
  by_cases hn : n ≤ ns.length
  · rw [Nat.min_eq_left hn]
  · rw [Nat.min_eq_right (by omega), List.take_of_length_le (Nat.le_refl _), List.take_of_length_le (by omega)]
theorem cut_drop (ns : List D) (k : Int) (h : 0 ≤ k) : L3.cutD ns (some k) none = ns.drop k.toNat := by
  unfold L3.cutD
  obtain ⟨n, rfl⟩ : ∃ n : Nat, k = (n : Int) := ⟨k.toNat, by omega⟩
  rw [HT.sIx_none, HT.sIx_nat, Int.toNat_natCast]
  by_cases hn : n ≤ ns.length
  · rw [Nat.min_eq_left hn, List.take_of_length_le (by rw [List.length_drop]; exact Nat.le_refl _)]
  · rw [Nat.min_eq_right (by omega), List.drop_of_length_le (Nat.le_refl _), List.drop_of_length_le (by omega), List.take_nil]
/-- the row of draws where the bag stands in the k-th slot -/
theorem lc_drawAt (k lo n m : Nat) (top : Int) {ti : DI} {g : DG} {tt : DT} {te : DE} {vs : List Nat} {ρ : En} {Q : S → En → Prop}
    (hti : ∀ QL : List D → En → Prop, (∀ (n' : Nat) (b0 : List D), lo ≤ n' → n' ≤ n → bagOK m b0 → QL (rngD 0 n') (ρ.set k (some (.bg b0)))) → ti ρ QL) (hn : n ≤ 100000)
    (hstep : ∀ (i : Nat) (bd : List D) (QN : D → En → Prop) (QF : En → Prop), i < n → bagOK (m + i) bd → (∀ (r : Int) (bd' : List D), 0 ≤ r → r < top → bagOK (m + i + 1) bd' → QN (.int (1 + r)) (wipeD (ρ.set k (some (.bg bd'))) vs)) →
      g (.int (0 + i)) (wipeD (ρ.set k (some (.bg bd))) vs) fun ρ2 => tt ρ2 fun b ρ3 => if b = true then te ρ3 fun s ρ4 => QN s.toD (wipeD ρ4 vs) else QF (wipeD ρ3 vs))
    (hend : ∀ (hs : List Int) (b0 bd' : List D), lo ≤ hs.length → hs.length ≤ n → (∀ x ∈ hs, 1 ≤ x ∧ x ≤ top) → bagOK (m + n) bd' → Q (.ow (hs.map D.int)) (unw (ρ.set k (some (.bg b0))) (wipeD (ρ.set k (some (.bg bd'))) vs) vs)) : xLc ti g tt te vs ρ Q :=
  lc_draw lo n m top (fun b => ρ.set k (some (.bg b))) hti hn hstep hend
end L3

namespace L3
open PySem PySem.Spec PyProof.Rows L2
/-! ### enumerate(tuple) -/
def tupIt (a : Addr) : Obj := { cls := .type "tuple_iterator", data := .fields #[.ref a, .int 0 0] }
def enumOb (it : Addr) : Obj := { cls := .type "enumerate", data := .fields #[.none, .bool false, .ref it, rawInt 0, .none, .none] }
section
open AutoSeq1 (wpAny_loadPart')
theorem meets_enumT (a : Addr) (items : Array Value) (n : Nat) (dct : Option Addr) (sl : Array (Option Value)) :
    Meets (Builtin.«enumerate.__new__» ⟨[.type "enumerate", .ref a], []⟩) (fun _ R s => s.heap.get? a = some { cls := .type "tuple", dict := dct, data := .seq items n, slots := sl } ∧
      R (.ok (.ret (.ref (s.heap.push (tupIt a)).objs.size))) { s with heap := (s.heap.push (tupIt a)).push (enumOb s.heap.objs.size) }) :=
  .of_wp fun prog w A R s h => by
    obtain ⟨hp, g, d, tk, os⟩ := s; obtain ⟨hl, h⟩ := h
    have hsub := sub_enumerate; have hT : Heap.IsTuple (Shared.heap ⟨hp, g, d, tk, os⟩) a items := ⟨_, hl, rfl, n, rfl⟩
    wp_walk using wpAny_loadPart' hl
    refine wpAny_stack_any fun st => wpAny_pure ?_
    split
    · rename_i c _ _ _ _ _
      cases (c == Value.type "enumerate") <;> (wp_walk using wpAny_loadPart' hl, wpAny_pyIter_tuple hT; exact ⟨_, rfl, h⟩)
    · wp_walk using wpAny_loadPart' hl, wpAny_pyIter_tuple hT; exact ⟨_, rfl, h⟩
end
section
variable {prog : Program} {w : World} {A : Around} {E : Value → Shared → Prop} {s : Shared}
theorem call_enumT {a : Addr} {items : Array Value} {Q : Value → Shared → Prop} (hT : s.heap.IsTuple a items)
    (h : ∀ h', IsEnum h' (s.heap.objs.size + 1) s.heap.objs.size 0 .none → h'.IsTupleIter s.heap.objs.size a 0 → (∀ b o, s.heap.get? b = some o → h'.get? b = some o) → Q (.ref (s.heap.objs.size + 1)) { s with heap := h' }) :
    wpAny (model prog w) A (call (.type "enumerate") [.ref a]) Q E s := by
  obtain ⟨⟨c, dct, dt, sl⟩, hl, hc, n, hd⟩ := hT
  obtain rfl : c = .type "tuple" := hc; obtain rfl : dt = .seq items n := hd
  refine callType_new F.called_enumerate (by decide) (F.typeCall_enumerate_1 _) (F.newCall_enumerate_1 _) (fun obj => F.args_object_init_2 obj _) F.entry_enumerate_new (meets_enumT a items n dct sl) ⟨hl, ?_⟩
  have hz : (s.heap.push (tupIt a)).objs.size = s.heap.objs.size + 1 := Heap.size_push ..
  show _ ∧ _
  rw [hz]
  have he : IsEnum ((s.heap.push (tupIt a)).push (enumOb s.heap.objs.size)) (s.heap.objs.size + 1) s.heap.objs.size 0 .none := by
    have := Heap.get?_push_size (s.heap.push (tupIt a)) (o := enumOb s.heap.objs.size) rfl
    rw [hz] at this; exact this
  exact ⟨⟨_, he, rfl⟩, h _ he ⟨_, Heap.get?_push_of_some _ (Heap.get?_push_size _ rfl), rfl, rfl⟩ fun b o y => Heap.get?_push_of_some _ (Heap.get?_push_of_some _ y)⟩
theorem draws_tup (hh : A.handled = none) (it a : Addr) (items : Array Value) (hne : a ≠ it) : Draws prog w A it [it, a] items.size (fun i x => items[i]? = some x) (fun i h => h.IsTupleIter it a i ∧ h.IsTuple a items) where
  live := fun i h ⟨⟨o, ho, _⟩, _⟩ => ⟨o, ho⟩
  frame := fun i h h' ⟨x, y⟩ k => ⟨x.at fun o q => k it (by simp) o q, y.at fun o q => k a (by simp) o q⟩
  item := fun i s Q E hi ⟨x, y⟩ hQ => RZ.nextOf_tuple_item x y (x := items[i]) (Array.getElem?_eq_getElem hi) fun h' hit sb => hQ _ h' s.toks (Array.getElem?_eq_getElem hi) ⟨hit, y.at fun o q => (sb.2 a hne).trans q⟩ sb
  done := fun s Q E ⟨x, y⟩ hE => RZ.nextOf_tuple_end hh x y (Array.getElem?_eq_none (Nat.le_refl _)) hE
theorem draws_stop (hh : A.handled = none) (it a : Addr) (items : Array Value) (hne : a ≠ it) (i : Nat) (hi : items.size ≤ i) : Draws prog w A it [it, a] 0 (fun _ _ => True) (fun j h => h.IsTupleIter it a (i + j) ∧ h.IsTuple a items) where
  live := fun j h ⟨⟨o, ho, _⟩, _⟩ => ⟨o, ho⟩
  frame := fun j h h' ⟨x, y⟩ k => ⟨x.at fun o q => k it (by simp) o q, y.at fun o q => k a (by simp) o q⟩
  item := fun j s Q E hj => absurd hj (Nat.not_lt_zero _)
  done := fun s Q E ⟨x, y⟩ hE => RZ.nextOf_tuple_end hh x y (Array.getElem?_eq_none (by omega)) hE
end
def IteT (K : PySem.W.Frag) (a : Addr) : It :=
  ⟨fun i H => ∃ (xs : List V) (x : V), SqT K H a xs ∧ xs[i]? = some x, fun i H v H' => ∃ T x, v = .ref T ∧ H T = none ∧ H' = upd H T (.tup [.int (i : Nat), x]) ∧ ∀ xs, SqT K H a xs → xs[i]? = some x, fun i H => ∃ xs : List V, SqT K H a xs ∧ xs.length ≤ i⟩
theorem enum_ne_tup {h : Heap} {e it a : Addr} {i : Int} {old : Value} {items : Array Value} (he : IsEnum h e it i old) (ht : h.IsTuple a items) : e ≠ a := fun z => by
  subst z
  obtain ⟨o, ho, hc, _⟩ := ht
  rw [he] at ho; cases ho
  exact absurd (Value.type.inj hc) (by decide)
theorem tup_ne_it {h : Heap} {it a : Addr} {i : Nat} {items : Array Value} (hi : h.IsTupleIter it a i) (ht : h.IsTuple a items) : a ≠ it := fun z => by
  subst z
  obtain ⟨o, ho, hc, _⟩ := ht
  obtain ⟨o', ho', hc', _⟩ := hi
  rw [ho] at ho'; cases ho'
  rw [hc] at hc'
  exact absurd (Value.type.inj hc') (by decide)
theorem turn_enumT {P : Program} {w : World} {K : PySem.W.Frag} {elts : List Expr} {kk : Nat} {tpos : Pos} (a e it : Addr) :
    Turn P w K (.Tuple elts kk tpos) (IteT K a) [e, it] e (fun i h => (∃ old, IsEnum h e it ((i : Nat) : Int) old) ∧ h.IsTupleIter it a i ∧ e ≠ it) where
  mem := List.mem_cons_self ..
  obj := fun i h ⟨⟨old, he⟩, ⟨o, ho, hc, hd⟩, _⟩ b hb => by
    rcases (by simpa using hb : b = e ∨ b = it) with z | z
    · subst z; exact ⟨_, he, fun v q => nomatch q⟩
    · subst z; exact ⟨o, ho, fun v q => by rw [hd] at q; cases q⟩
  keep := fun i h h' ⟨⟨old, he⟩, hi, hne⟩ k => ⟨⟨old, k e (by simp) _ he⟩, hi.at (fun o q => k it (by simp) o q), hne⟩
  item := by
    rintro X rfl rfl rfl hC i pins s σ H E I hf ⟨⟨old, he⟩, hit, hne⟩ ⟨xs, x, hq, hx⟩
    obtain ⟨its, rv, p, hz⟩ := I.tuple hq
    obtain ⟨u, hu, ru⟩ := rv.get hx
    have ht : s.heap.IsTuple a its.toArray := p
    have hel : e < s.heap.objs.size := Heap.lt_size he
    have hil : it < s.heap.objs.size := by obtain ⟨_, q, _⟩ := hit; exact Heap.lt_size q
    have hut : its.toArray[i]? = some u := by simpa using hu
    have hlt : i < its.toArray.size := (Array.getElem?_eq_some_iff.mp hut).1
    refine wpAny_pyNext_enum_itemD (draws_tup (A := X.A.in1) (show X.A.in1.handled = none from I.ok.hd hC) it a its.toArray (tup_ne_it hit ht)) he ⟨hit, ht⟩ hlt hne (by simp only [List.mem_cons, List.not_mem_nil, or_false, not_or]; exact ⟨hne, enum_ne_tup he ht⟩) fun y h' tk hP ho hst' hT hsz hk => ?_
    obtain rfl : u = y := Option.some.inj (hut.symm.trans hP)
    refine ⟨_, rfl, wpAny_letOwnedTupleGo_enum (s := { s with heap := h', toks := tk + 1 }) ho fun h2 he' sb => ?_⟩
    have hT2 : h2.get? s.heap.objs.size = some { cls := .type "tuple", data := .seq #[.int i tk, u] } := (sb.2 _ (Nat.ne_of_gt hel)).trans hT
    have ok : ObjOk X.prog X.w (upd H s.heap.objs.size (.tup [.int (i : Nat), x])) h2 s.heap.objs.size (.tup [.int (i : Nat), x]) := ⟨by show 2 ≤ sizeLine; decide, [.int i tk, u], .cons ⟨_, rfl⟩ (.cons ru .nil), ⟨_, hT2, rfl, _, rfl⟩⟩
    have I1 : Inv X pins σ (upd H s.heap.objs.size (.tup [.int (i : Nat), x])) { s with heap := h2, toks := tk + 1 } :=
      I.turnedNew (ch := [e, it]) (fun b ob hb q => (sb.2 b fun z => hb (by simp [z])).trans (hk b ob (fun z => hb (by simp [z])) (fun z => hb (by simp [z])) q)) hf (Nat.le_refl _) ok
    refine ⟨.ref s.heap.objs.size, _, I1, rfl, ⟨_, x, rfl, I.hok.fresh (Nat.le_refl _), rfl, fun ys hy => (I.tuple_inj hy hq) ▸ hx⟩, ⟨⟨u, ?_⟩, hst'.1.at fun o q => (sb.2 it (Ne.symm hne)).trans q, hne⟩, fun b hb => ?_⟩
    · rw [show ((i + 1 : Nat) : Int) = (i : Int) + 1 from by omega]; exact he'
    · have hb' : b < s.heap.objs.size := by
        rcases (by simpa using hb : b = e ∨ b = it) with z | z
        · rw [z]; exact hel
        · rw [z]; exact hil
      rw [upd_ne (Nat.ne_of_lt hb')]; exact (hf b hb).1
  done := by
    rintro X rfl rfl rfl hC i pins s σ H E I hf ⟨⟨old, he⟩, hit, hne⟩ ⟨xs, hq, hx⟩
    obtain ⟨its, rv, p, hz⟩ := I.tuple hq
    have ht : s.heap.IsTuple a its.toArray := p
    obtain ⟨f0, f1, f2, f3, f4, f5⟩ := hf it (by simp)
    have hl := rv.length
    exact wpAny_pyNext_enum_endD (draws_stop (A := X.A.in1) (show X.A.in1.handled = none from I.ok.hd hC) it a its.toArray (tup_ne_it hit ht) i (by simp; omega)) he ⟨hit, ht⟩ fun h' eb => ⟨rfl, I.turned (t' := s.toks) (fun b o hb q => eb b o hb q) f0 f1 f3 f4 f5⟩
  self := fun A i s Q E ⟨⟨_, he⟩, _⟩ h => wpAny_pyIter_enum he h
def iEnumT (K : PySem.W.Frag) (ta : TA) : TI := fun σ H R => ta σ H fun vs H1 => ∃ a xs, vs = [.ref a] ∧ SqT K H1 a xs ∧ R (IteT K a) H1
theorem pi_enumT {X : Cx} {e : Expr} {ta : TA} {p pos tpos : Pos} {elts : List Expr} {kk : Nat} (hg : Gl X "enumerate") (hm : X.mg "enumerate" = none) (ha : PA X [e] ta) (hs : starEach [e] X.env = [(false, eval e X.env)] := by rfl) :
    PI X (.Tuple elts kk tpos) (.Call (.Name "enumerate" p) [e] [] pos) (iEnumT X.K ta) := by
  refine ⟨fun pins s σ H R I h => ?_⟩
  refine Call_ (ld_blt I hg hm boot_enumerate (PyProof.Rows.callWith_type1 (thn (ha.run pos pins s σ H _ I h) fun us s1 ⟨vs, H1, I1, r1, a, xs, ex, hq, q⟩ => ?_) hs rfl))
  subst ex
  rw [Vals.ref1 r1]
  obtain ⟨its, rv, p', hz⟩ := I1.tuple hq
  refine call_enumT (show s1.heap.IsTuple a its.toArray from p') fun h' he hit hk => wpAny_pyIter_enum he ?_
  have I2 : Inv X pins σ H1 { s1 with heap := h' } := I1.kept (t' := s1.toks) hk
  refine ⟨s1.heap.objs.size + 1, [s1.heap.objs.size + 1, s1.heap.objs.size], _, _, H1, rfl, I2, turn_enumT a (s1.heap.objs.size + 1) s1.heap.objs.size, ⟨⟨.none, he⟩, hit, Nat.succ_ne_self _⟩, fun b hb => ?_, q⟩
  have hle : s1.heap.objs.size ≤ b := by
    rcases (by simpa using hb : b = s1.heap.objs.size + 1 ∨ b = s1.heap.objs.size) with z | z
    · rw [z]; exact Nat.le_add_right _ _
    · rw [z]; exact Nat.le_refl _
  exact I1.fpOk hle (I1.hok.fresh hle)
theorem jr_enumT {K : PySem.W.Frag} {G : Hp} {a : Addr} {vs : List V} {ds : List D} (h : G a = some (.tup vs)) (hd : Dats G ds vs) : JR G (IteT K a) (enumD ds) := fun G1 H1 s1 s2 => by
  have ha : SqT K H1 a vs := SqT.of (s2 _ _ (s1 _ _ h))
  refine ⟨⟨vs, ha, by rw [enumD_len, hd.length]; exact Nat.le_refl _⟩, fun i d e => ?_⟩
  obtain ⟨x, e1, rfl⟩ := enumD_get e
  obtain ⟨v, h3, h4⟩ := hd.get e1
  refine ⟨⟨vs, v, ha, h3⟩, fun z H2 ⟨T, x', e2, hT, e3, f1⟩ => ?_⟩
  subst e2 e3
  cases (h3.symm.trans (f1 vs ha))
  exact pair_new s2 hT rfl (Dat.mono s1 _ _ h4)
section
variable {X : Cx} {C : FC}
def onEt (ds : List D) (k : List D → Prop) : Prop := match ds with
  | [.tup xs] => k (enumD xs)
  | _ => False
theorem rd_onEt {xs : List D} {k : List D → Prop} : onEt [.tup xs] k = k (enumD xs) := rfl
def xEnumT (t : DA) : DI := fun ρ Q => t ρ fun ds ρ1 => onEt ds fun l => Q l ρ1
theorem di_enumT (K : PySem.W.Frag) {e : Expr} {ta : TA} {t : DA} {p pos tpos : Pos} {elts : List Expr} {kk : Nat} (hg : Gl X "enumerate") (hm : X.mg "enumerate" = none) (ha : PAV X C [e] ta t)
    (hs : starEach [e] X.env = [(false, eval e X.env)] := by rfl) (hK : X.K = K := by rfl) : PIV X C (.Tuple elts kk tpos) (.Call (.Name "enumerate" p) [e] [] pos) (iEnumT K ta) (xEnumT t) := by
  subst hK
  refine ⟨pi_enumT hg hm ha.pe hs, fun G H σ ρ QD R' R q k => ha.rf G H σ ρ _ _ R q fun vs ds G1 H1 ρ1 R1 s1 hd q1 => ?_⟩
  unfold onEt at q1
  split at q1
  · rename_i xs
    obtain ⟨v, rfl, a, us, rfl, h1, h2⟩ := hd.one
    exact ⟨a, us, rfl, SqT.of (R1.sub _ _ h1), k _ _ G1 H1 ρ1 R1 s1 (jr_enumT h1 h2) q1⟩
  · exact q1.elim
end
def flood (ms : List Int) (h : Int) : List Int := ms.filter (fun x => decide (h < x)) ++ [h]
def floods (ms hs : List Int) : List Int := hs.foldl flood ms
theorem flood_len (ms : List Int) (h : Int) : (flood ms h).length ≤ ms.length + 1 := by
  have := List.length_filter_le (fun x => decide (h < x)) ms
  simp only [flood, List.length_append, List.length_cons, List.length_nil]
  omega
theorem floods_len : ∀ (hs ms : List Int), (floods ms hs).length ≤ ms.length + hs.length
  | [], ms => by simp [floods]
  | h :: hs, ms => by
    have h1 := floods_len hs (flood ms h)
    have h2 := flood_len ms h
    simp only [floods, List.foldl_cons, List.length_cons] at h1 ⊢
    omega
theorem floods_take {ms hs : List Int} {i : Nat} {h : Int} (e : hs[i]? = some h) : floods ms (hs.take (i + 1)) = flood (floods ms (hs.take i)) h := by
  unfold floods
  rw [List.take_add_one, e]
  simp
theorem ixN_n {n j : Nat} {z : Int} (e : z = (j : Int)) (hj : j < n) : ixN n z = some j := by
  subst e; unfold ixN; rw [if_pos (Int.natCast_nonneg j), if_pos (by omega)]; simp
theorem rng_get {k i j : Nat} (h : (List.range k)[i]? = some j) : i < k ∧ j = i := by
  obtain ⟨h1, h2⟩ := List.getElem?_eq_some_iff.mp h
  rw [List.length_range] at h1
  rw [List.getElem_range] at h2
  exact ⟨h1, h2.symm⟩
end L3

namespace L3
open PySem PySem.Spec PyProof.Rows L2
section
variable {X : Cx} {C : FC}
theorem Dats.three {G : Hp} {d e f : D} {vs : List V} (h : Dats G [d, e, f] vs) : ∃ v u w, vs = [v, u, w] ∧ Dat G d v ∧ Dat G e u ∧ Dat G f w := by
  obtain ⟨v, r, rfl, h1, h2⟩ := h
  obtain ⟨u, w, rfl, h3, h4⟩ := Dats.two h2
  exact ⟨v, u, w, rfl, h1, h3, h4⟩
def onP3 (i j l : Nat) (ds : List D) (ρ : En) (K : En → Prop) : Prop := match ds with
  | [d, e, f] => K (((ρ.set i (some (.fz d))).set j (some (.fz e))).set l (some (.fz f)))
  | _ => False
def xPar3 (i j l : Nat) (ta : DA) : DS := fun Z ρ => ta ρ fun ds ρ1 => onP3 i j l ds ρ1 Z.nx
theorem rd_onP3 {i j l : Nat} {d e f : D} {ρ : En} {K : En → Prop} : onP3 i j l [d, e, f] ρ K = K (((ρ.set i (some (.fz d))).set j (some (.fz e))).set l (some (.fz f))) := rfl
theorem ds_par3 (i j l : Nat) {x y z : Str} {a b c : Expr} {ta : TA} {t : DA} {px py pz pt pos : Pos} {kt k2 pt2} (hc : X.calm = true) (hN : X.N.Nodup) (ha : PAV X C [a, b, c] ta t)
    (hw : swappedStores [.Tuple [.Name x px, .Name y py, .Name z pz] kt pt] (.Tuple [a, b, c] k2 pt2) X.env = pure (some [x, y, z]) := by rfl)
    (hi : X.N[i]? = some x := by rfl) (hj : X.N[j]? = some y := by rfl) (hl : X.N[l]? = some z := by rfl) (hij : i ≠ j := by decide) (hil : i ≠ l := by decide) (hjl : j ≠ l := by decide)
    (hx : X.env.scope.names.lookup x = some .local := by rfl) (hy : X.env.scope.names.lookup y = some .local := by rfl) (hz : X.env.scope.names.lookup z = some .local := by rfl)
    (hs : swapsWithSole [.Tuple [.Name x px, .Name y py, .Name z pz] kt pt] (.Tuple [a, b, c] k2 pt2) pos.line X.env = pure false := by rfl) :
    PSV X C (.Assign [.Tuple [.Name x px, .Name y py, .Name z pz] kt pt] (.Tuple [a, b, c] k2 pt2) pos) (tPar3 i j l ta) (xPar3 i j l t) :=
  ⟨ps_par3 hc hN hi hj hl hij hil hjl hx hy hz ha.pe hw hs, fun G H σ ρ DD E R q k => ha.rf G H σ ρ _ _ R q fun vs ds G1 H1 ρ1 R1 s1 hd q1 => by
    unfold onP3 at q1
    split at q1
    · rename_i d e f
      obtain ⟨v, u, w, rfl, h1, h2, h3⟩ := hd.three
      exact ⟨v, u, w, rfl, k.nx G1 H1 _ _ (((R1.set i (s := .fz d) h1).set j (s := .fz e) h2).set l (s := .fz f) h3) s1 q1⟩
    · exact q1.elim⟩
theorem d_disp1V {ek ev : Expr} {tk tv : TE} {dk dv : DE} {pos : Pos} (hk : ∀ C, PV X C ek tk dk) (hv : ∀ C, PV X C ev tv dv) : PV X C (.Dict [some ek] [ev] pos) (tDisp [(tk, tv)]) (fun ρ Q => dk ρ fun s ρ1 => dv ρ1 fun s' ρ2 => ∃ k, s.toD = .int k ∧ Q (.od [k] [s'.toD]) ρ2) :=
  d_disp1 hk hv (pe_disp (pps_cons (hk C).pe (hv C).pe pps_nil) rfl rfl (by simp) (by simp))
end
end L3

namespace L3
open PySem PySem.Spec PyProof.Rows L2
section
variable {X : Cx} {C : FC}
/-! ### k not in a dict -/
def rNotInDK : R2 := fun x y H Q => ∃ (i : Int) (a : Addr) (kvs : List (Key × V)), x = .int i ∧ y = .ref a ∧ H a = some (.dK kvs) ∧ Q (.bl (!(valV kvs (Sum.inl i)).isSome)) H
theorem op_notInDK (hu : X.A.units + 1 < cLine) : OpR X (compareOp .NotIn) rNotInDK := by
  intro pins s σ H x y v u Q I rx ry h
  obtain ⟨i, a, kvs, rfl, rfl, hd, q⟩ := h
  cases ry
  exact d_notIn hu I (DGet.k (k := Sum.inl i) hd) rx fun s' I' => ⟨.bl _, H, I', rfl, q⟩
def xNotInD : DO2 := fun x y Q => ∃ (i : Int) (ks : List Int) (ds : List D), x = .int i ∧ y = .dct ks ds ∧ Q (.fz (.bl (!decide (i ∈ ks))))
theorem getVs_some {α : Type} (k : Int) : ∀ (ks : List Int) (vs : List α), ks.length = vs.length → (getVs ks vs k).isSome = decide (k ∈ ks)
  | [], [], _ => rfl
  | a :: ks, v :: vs, h => by
    have ih := getVs_some k ks vs (by simpa using h)
    unfold getVs at ih ⊢
    rw [List.zip_cons_cons, List.find?_cons]
    by_cases e : a = k
    · subst e; simp
    · rw [decide_eq_false e]
      show (Option.map _ _).isSome = _
      rw [ih, Bool.eq_iff_iff, decide_eq_true_eq, decide_eq_true_eq, List.mem_cons]
      exact ⟨.inr, fun z => z.resolve_left fun y => e y.symm⟩
theorem o_notInDK (hu : X.A.units + 1 < cLine) : OV X C (compareOp .NotIn) rNotInDK xNotInD := ⟨op_notInDK hu, fun G H σ ρ x y dx dy QD Q R hx hy ⟨i, ks, ds, e1, e2, q⟩ k => by
  subst e1 e2
  cases (show x = _ from hx)
  obtain ⟨a, vs, rfl, h1, h2, h3⟩ := hy
  refine ⟨i, a, _, rfl, rfl, R.sub _ _ h1, ?_⟩
  rw [val_mkK, getVs_some i ks vs h2]
  exact k _ _ G H R (Same.refl G) (rvf (d := .bl _) rfl) q⟩
/-! ### dict(rows) -/
def rDictP (K : PySem.W.Frag) : List V → Hp → VK → Prop := fun xs H Q => ∃ (a : Addr) (ps : List Addr) (kvs : List (Key × V)), xs = [.ref a] ∧ SqL K H a (ps.map V.ref) ∧ Paired (fun p kv => SqT K H p [kV kv.1, kv.2]) ps kvs ∧
    ∀ p, H p = none → Q (.ref p) (upd H p (.dK (mergeK [] kvs)))
def xDictOf : DC := fun ds Q => ∃ (ks : List Int) (es : List D), ds = [.lst ((ks.zip es).map fun p => .tup [.int p.1, p.2])] ∧ ks.Nodup ∧ ks.length = es.length ∧ Q (.fz (.dct ks es))
theorem pairs_dats {K : PySem.W.Frag} {G H : Hp} (sm : Same G H) : ∀ (ks : List Int) (es : List D) (us : List V), ks.length = es.length → Dats G ((ks.zip es).map fun p => .tup [.int p.1, p.2]) us →
    ∃ (ps : List Addr) (vs : List V), us = ps.map V.ref ∧ ks.length = vs.length ∧ Dats G es vs ∧ Paired (fun p kv => SqT K H p [kV kv.1, kv.2]) ps (mkK ks vs)
  | [], [], us, _, h => by
    cases (show us = [] from h)
    exact ⟨[], [], rfl, rfl, rfl, .nil⟩
  | k :: ks, e :: es, us, hl, h => by
    obtain ⟨u, r, rfl, ⟨a, ws, rfl, h1, h2⟩, h3⟩ := h
    obtain ⟨v, w, rfl, h4, h5⟩ := h2.two
    cases (show v = _ from h4)
    obtain ⟨ps, vs, rfl, e2, e3, e4⟩ := pairs_dats sm ks es r (by simpa using hl) h3
    exact ⟨a :: ps, w :: vs, rfl, by simpa using e2, ⟨w, vs, rfl, h5, e3⟩, .cons (SqT.of (sm _ _ h1)) e4⟩
theorem merge_mkK : ∀ (ks : List Int) (vs : List V) (ks0 : List Int) (vs0 : List V), ks.length = vs.length → ks0.length = vs0.length → (ks0 ++ ks).Nodup → mergeK (mkK ks0 vs0) (mkK ks vs) = mkK (ks0 ++ ks) (vs0 ++ vs)
  | [], [], ks0, vs0, _, _, _ => by rw [List.append_nil, List.append_nil]; rfl
  | k :: ks, v :: vs, ks0, vs0, hl, h0, nd => by
    have hk : k ∉ ks0 := fun z => (List.nodup_append.mp nd).2.2 k z k (by simp) rfl
    have e : mergeK (mkK ks0 vs0) (mkK (k :: ks) (v :: vs)) = mergeK (putK (mkK ks0 vs0) (Sum.inl k) v) (mkK ks vs) := rfl
    have e2 : putKs ks0 k = ks0 ++ [k] := by unfold putKs; rw [if_neg hk]
    have e3 : putVs ks0 vs0 k v = vs0 ++ [v] := by unfold putVs; rw [if_neg hk]
    rw [e, put_mkK _ _ _ _ h0, e2, e3, merge_mkK ks vs _ _ (by simpa using hl) (by simp [h0]) (by rw [List.append_assoc]; exact nd), List.append_assoc, List.append_assoc]
    rfl
theorem c_dict (hc : X.calm = true) : CV X C (.type "dict") (rDictP X.K) xDictOf := ⟨call_dictP hc, fun G H σ ρ vs ds QD Q R hd ⟨ks, es, e, nd, hl, q⟩ k => by
  subst e
  obtain ⟨v, rfl, a, us, rfl, h1, h2⟩ := hd.one
  obtain ⟨ps, ws, rfl, e2, e3, e4⟩ := pairs_dats (K := X.K) R.sub ks es us hl h2
  refine ⟨a, ps, _, rfl, SqL.of (R.sub _ _ h1), e4, fun p hp => ?_⟩
  have em : mergeK [] (mkK ks ws) = mkK ks ws := merge_mkK ks ws [] [] e2 rfl nd
  rw [em]
  have gs : Same G (upd G p (.dK (mkK ks ws))) := Same.new (R.gn hp)
  exact k _ (.fz (.dct ks es)) _ _ (R.newFz hp) gs ⟨p, ws, rfl, upd_same, e2, Dats.mono gs _ _ e3⟩ q⟩
/-! ### lists of ints compared -/
def rGtL (K : PySem.W.Frag) : R2 := fun x y H Q => ∃ (ns ms : List Int), Dp K H x (.list (ns.map .int)) ∧ Dp K H y (.list (ms.map .int)) ∧ Q (.bl (decide (ms < ns))) H
theorem op_gtL (hu : X.A.units + 64 < cLine) : OpR X (compareOp .Gt) (rGtL X.K) := by
  intro pins s σ H x y v u Q I rx ry h
  obtain ⟨ns, ms, hd, he, q⟩ := h
  obtain ⟨as, r1⟩ := Dp.reads I _ x v hd rx
  obtain ⟨bs, r2⟩ := Dp.reads I _ y u he ry
  refine PySem.W.gt_data r1 r2 (by simp only [PySem.W.alike]; exact PySem.W.alike_ints _ _) (fun z => by cases z) ?_ ?_
  · simp only [PyData.depth, PySem.W.depth_ints]
    omega
  · have e : PySem.W.dataLt (.list (ms.map .int)) (.list (ns.map .int)) = decide (ms < ns) := PySem.W.dataLt_ints ms ns
    rw [e]
    exact ⟨.bl _, H, I, rfl, q⟩
theorem toPs_ints : ∀ ns : List Int, toPs (ns.map D.int) = ns.map PyData.int
  | [] => rfl
  | n :: ns => by rw [List.map_cons, List.map_cons, toPs, toPs_ints ns]; rfl
def xGtL : DO2 := fun x y Q => ∃ (ns ms : List Int), x = .lst (ns.map D.int) ∧ y = .lst (ms.map D.int) ∧ Q (.fz (.bl (decide (ms < ns))))
theorem okD_lst (ns : List Int) : okD 8 (.lst (ns.map D.int)) = true := okD_ints 7 _
theorem o_gtL (hu : X.A.units + 64 < cLine) : OV X C (compareOp .Gt) (rGtL X.K) xGtL := ⟨op_gtL hu, fun G H σ ρ x y dx dy QD Q R hx hy ⟨ns, ms, e1, e2, q⟩ k => by
  subst e1 e2
  have h1 := okD.dp (K := X.K) R.sub 8 _ _ (okD_lst ns) hx
  have h2 := okD.dp (K := X.K) R.sub 8 _ _ (okD_lst ms) hy
  simp only [toP, toPs_ints] at h1 h2
  exact ⟨ns, ms, h1, h2, k _ _ G H R (Same.refl G) (rvf (d := .bl _) rfl) q⟩⟩
end
section
variable {X : Cx} {C : FC} {K : PySem.W.Frag}
theorem c_dictK (K : PySem.W.Frag) (hK : X.K = K := by rfl) (hc : X.calm = true) : CV X C (.type "dict") (rDictP K) xDictOf := by
  subst hK
  exact c_dict hc
theorem o_gtLK (K : PySem.W.Frag) (hu : X.A.units + 64 < cLine) (hK : X.K = K := by rfl) : OV X C (compareOp .Gt) (rGtL K) xGtL := by
  subst hK
  exact o_gtL hu
end
end L3

namespace L3
open PySem PySem.Spec PyProof.Rows L2
/-! ### set(xs), xs a list: any invariant -/
abbrev led0 (w : World) : SetTable := .fresh 0 0 (!w.params.followText "set-order")
abbrev set0 (w : World) : Obj :=
  { cls := .type "set", dict := none,
    data := .set #[] 0 (led0 w) }
section
variable {P : Program} {w : World} {A : Around} {E : Value → Shared → Prop}
theorem loop_set {it : Addr} {fp wr : List Addr} {G : Array GenState → Array GenState → Prop} {m : Nat} {Pv : Nat → Value → Prop} {St : Nat → Shared → Prop} {R : Result → Shared → Prop} (W : WalksS P w A.in1 it fp wr G m Pv St) (a : Addr) (ha : a ∉ fp) (Pi : Nat → Heap → Prop)
    (keep : ∀ i h h', Pi i h → (∀ b o, b ∉ wr → h.get? b = some o → h'.get? b = some o) → Pi i h')
    (turn : ∀ i v (s : Shared) (Q : Bool → Shared → Prop) E', i < m → Pv i v → Pi i s.heap → (∀ b h' tk, s.toks ≤ tk → Heap.SameBut a s.heap h' → Pi (i + 1) h' → Q b { s with heap := h', toks := tk }) → wpAny (model P w) A.in1 (setAdd a v) Q E' s) :
    ∀ (k i : Nat) (s : Shared), m - i = k → i ≤ m → St i s → Pi i s.heap → (∀ s', Moved (a :: wr) G s s' → Pi m s'.heap → R (.ok (.ret .none)) s') →
      codeAny (model P w) A (.builtin "set.update.loop" ⟨[.ref a, .ref it], []⟩) R s := by
  have sub : ∀ b ∈ wr, b ∈ a :: wr := fun b h => List.mem_cons_of_mem _ h
  have an : a ∉ wr := fun h => ha (W.sub _ h)
  intro k
  induction k with
  | zero =>
    intro i s e1 e2 st pi q
    obtain rfl : i = m := by omega
    refine codeAny_builtin F.entry_set_update_loop ?_
    rw [Around.under_plainId F.plain_set_update_loop _]
    show wpAny _ A.in1 (pyNext (.ref it) >>= _) _ _ s
    refine wpAny_bind (W.done s _ _ st fun s1 mv => ?_)
    show wpAny _ A.in1 (ret Value.none) _ _ s1
    exact wpAny_pure (q s1 (mv.mono sub) (keep _ _ _ pi fun b o hb => mv.heap b o hb))
  | succ k ih =>
    intro i s e1 e2 st pi q
    have lt : i < m := by omega
    refine codeAny_builtin F.entry_set_update_loop ?_
    rw [Around.under_plainId F.plain_set_update_loop _]
    show wpAny _ A.in1 (pyNext (.ref it) >>= _) _ _ s
    refine wpAny_bind (W.item i s _ _ lt st fun v s1 pv st1 mv => ?_)
    show wpAny _ A.in1 (holding [v] (setAdd a v) >>= _) _ _ s1
    refine wpAny_bind (wpAny_holding (turn i v s1 _ _ lt pv (keep _ _ _ pi fun b o hb => mv.heap b o hb) fun r h' tk le sb pi2 => ?_))
    refine wpAny_pure ⟨plainId_quiet F.plain_set_update_loop _, ih (i + 1) _ (by omega) lt (W.frame _ s1 _ _ st1 le fun b hb o e => ?_) pi2 fun s2 mv2 pi3 => ?_⟩
    · exact (sb.2 b fun z => ha (z ▸ hb)).trans e
    · refine q s2 (Moved.trans W.gtrans ((mv.mono sub).then_heap le fun b o hb e => ?_) mv2) pi3
      exact (sb.2 b fun z => hb (z ▸ List.mem_cons_self)).trans e
end
section
variable {P : Program} {w : World} {A : Around} {E : Value → Shared → Prop} {s : Shared}
theorem set_of_list {l : Addr} {items : Array Value} {Q : Value → Shared → Prop} (hh : A.handled = none) (hl : s.heap.IsList l items) (Pi : Nat → Heap → Prop)
    (zero : ∀ h, h.get? s.heap.objs.size = some (set0 w) → (∀ b o, s.heap.get? b = some o → h.get? b = some o) → Pi 0 h)
    (keep : ∀ i h h', Pi i h → (∀ b o, b ≤ s.heap.objs.size → h.get? b = some o → h'.get? b = some o) → Pi i h')
    (turn : ∀ A' i v (s' : Shared) (R : Bool → Shared → Prop) E', A'.units ≤ A.units + 8 → items[i]? = some v → Pi i s'.heap →
      (∀ b h' tk, s'.toks ≤ tk → Heap.SameBut s.heap.objs.size s'.heap h' → Pi (i + 1) h' → R b { s' with heap := h', toks := tk }) → wpAny (model P w) A' (setAdd s.heap.objs.size v) R E' s')
    (q : ∀ h' tk, Pi items.size h' → (∀ b o, s.heap.get? b = some o → h'.get? b = some o) → Q (.ref s.heap.objs.size) { s with heap := h', toks := tk }) :
    wpAny (model P w) A (call (.type "set") [.ref l]) Q E s := by
  obtain ⟨c, tl, mro⟩ := F.called_set.mro
  have g1 := F.called_set.made
  have g2 := F.called_set.sub
  refine wpAny_call (codeAny_of_tree ?_)
  show wpAny _ _ (callAny (.type "set") _) _ _ _
  refine wpAny_pure ⟨Code.quiet_builtin _ (by decide +kernel), codeAny_builtin F.entry_type_call ?_⟩
  rw [Around.under_plain (weight_type_call_type "set" [.ref l] []) rfl]
  have g3 := F.called_set.notType
  have g4 := F.called_set.canCreate
  have g5 := F.typeCall_set_1 (.ref l)
  repeat (any_goals (first | assumption | wp_step))
  obtain ⟨a, ea⟩ : ∃ a, a = s.heap.objs.size := ⟨_, rfl⟩
  refine codeAny_mono (code_set_led1 (w := w) (.ref l) (E := E) (Q₁ := fun o t => o = .ref a ∧ t = { s with heap := s.heap.push (set0 w) }) ⟨by rw [ea], rfl⟩) fun r s1 hr => ?_
  cases r with
  | error e => exact hr
  | ok fl =>
    cases fl with
    | ret obj =>
      obtain ⟨rfl, rfl⟩ := hr
      have hS : (s.heap.push (set0 w)).get? a = some (set0 w) := by
        rw [ea]
        exact Heap.get?_push_size _ rfl
      have hT : Shared.TypeIs { s with heap := s.heap.push (set0 w) } (.ref a) "set" := ⟨_, hS, rfl⟩
      have i1 := F.called_set.init.lookup
      have i2 := F.called_set.init.bind (.ref a)
      repeat (any_goals (first | assumption | wp_step))
      refine codeAny_mono (codeAny_call_builtin (R := wants (fun r t => r = .none ∧ ∃ h' tk, t = { s with heap := h', toks := tk } ∧ Pi items.size h' ∧ ∀ b o, s.heap.get? b = some o → h'.get? b = some o) E) F.called_set.init.plain F.entry_set_init (check_set_init_1 hT ?_)) fun r2 s2 hr2 => ?_
      · obtain ⟨⟨oc, od, oa, os⟩, ho, hc, nl, hd⟩ := hl
        simp only at hc hd
        subst hc
        subst hd
        have ho1 : (s.heap.push (set0 w)).get? l = some { cls := .type "list", dict := od, data := .seq items nl, slots := os } := Heap.get?_push_of_some _ ho
        have b1 := F.sub_list_set
        have b2 := F.sub_list_frozenset
        have b3 : (Value.type "list" == Value.type "dict") = false := by decide
        have hl1 : (s.heap.push (set0 w)).IsList l items := ⟨_, ho1, rfl, nl, rfl⟩
        unfold Builtin.«set.__init__» noKeywords Builtin.Frozenset.updateFrom
        generalize hPI : pyIter = PI
        wp_walk
        subst hPI
        refine wpAny_pyIter_list hl1 ?_
        refine wpAny_bind (wpAny_runValue ?_)
        have la : l < a := by rw [ea]; exact Heap.lt_size ho
        have h3 : A.in1.in1.in1.handled = none := by simp [hh]
        have sz : (s.heap.push (set0 w)).objs.size = a + 1 := by rw [ea]; exact Heap.size_push ..
        have n1 : l ≠ (s.heap.push (set0 w)).objs.size := by rw [sz]; exact Nat.ne_of_lt (Nat.lt_succ_of_lt la)
        have n2 : a ∉ [(s.heap.push (set0 w)).objs.size, l] := by
          rw [sz]
          simp only [List.mem_cons, List.not_mem_nil, or_false, not_or]
          exact ⟨Nat.ne_of_lt (Nat.lt_succ_self _), Nat.ne_of_gt la⟩
        have up : ∀ b o, s.heap.get? b = some o → ((s.heap.push (set0 w)).push { cls := .type "list_iterator", data := .fields #[.ref l, .int 0 0] }).get? b = some o := fun b o e => Heap.get?_push_of_some _ (Heap.get?_push_of_some _ e)
        refine loop_set (P := P) (w := w) (A := A.in1.in1) ((Walks.list h3 _ l n1 items).toS) a n2 Pi (fun i h h' pi kp => ?_) (fun i v s' R E' hi hv pi k => ?_) (items.size - 0) 0 _ (by omega) (Nat.zero_le _)
          ⟨⟨_, Heap.get?_push_size _ rfl, rfl, rfl⟩, hl1.push _⟩ ?zer ?fin
        case zer =>
          refine zero _ ?_ up
          rw [← ea]
          exact Heap.get?_push_of_some _ hS
        case fin =>
          intro s' mv pi
          obtain ⟨h', g2, d', tk', os'⟩ := s'
          have e1 : g2 = s.gens := mv.gens
          have e2 : d' = s.drawn := mv.drawn
          have e3 : os' = s.os := mv.os
          subst e1; subst e2; subst e3
          show wpAny _ _ _ _ _ _
          refine wpAny_pure ?_
          show wpAny _ _ (ret Value.none) _ _ _
          refine wpAny_pure ⟨rfl, h', tk', rfl, pi, fun b o e => ?_⟩
          have lb : b < a := by rw [ea]; exact Heap.lt_size e
          refine mv.heap b o ?_ (up b o e)
          rw [sz]
          simp only [List.mem_cons, List.not_mem_nil, or_false, not_or]
          exact ⟨Nat.ne_of_lt lb, Nat.ne_of_lt (Nat.lt_succ_of_lt lb)⟩
        · refine keep i h h' pi fun b o hb e => kp b o ?_ e
          rw [sz, ea]
          simp only [List.mem_cons, List.not_mem_nil, or_false]
          exact Nat.ne_of_lt (Nat.lt_succ_of_le hb)
        · rw [ea] at k ⊢
          exact turn _ i v s' R E' (by show A.units + 3 ≤ A.units + 8; omega) hv pi k
      · cases r2 with
        | error e => exact hr2
        | ok fl2 =>
          cases fl2 with
          | ret r =>
            obtain ⟨rfl, h', tk, rfl, pi, kp⟩ := hr2
            repeat (any_goals (first | assumption | wp_step))
            rw [ea]
            exact q _ _ pi kp
          | _ => exact hr2.elim
    | _ => exact hr.elim
end
/-! ### a list of ints, few unlike ones -/
theorem nodup_le {l : List Int} {lo : Int} {m : Nat} (nd : l.Nodup) (h : ∀ x ∈ l, lo ≤ x ∧ x < lo + (m : Int)) : l.length ≤ m := by
  have := nat_nodup_len (l.map fun x => (x - lo).toNat) (List.range m) ?_ ?_
  · simpa using this
  · refine List.Pairwise.map _ (fun a b hab => ?_) (List.Pairwise.and_mem.mp nd)
    have h1 := h a hab.1
    have h2 := h b hab.2.1
    have h3 := hab.2.2
    show (a - lo).toNat ≠ (b - lo).toNat
    omega
  · intro x hx
    obtain ⟨y, hy, rfl⟩ := List.mem_map.mp hx
    have := h y hy
    exact List.mem_range.mpr (by omega)
/-- the set so far: its members, and a row of them each once -/
def SetI (w : World) (a : Addr) (ns : List Int) (i : Nat) (h : Heap) : Prop := ∃ ms : List Int, ms.Nodup ∧ (∀ x, x ∈ ms ↔ x ∈ ns.take i) ∧ SetR w h a (fun j => decide (j ∈ ns.take i)) ms.length
def rSetLI (K : PySem.W.Frag) (w : World) : List V → Hp → VK → Prop := fun xs H Q => ∃ (l : Addr) (ns : List Int), xs = [.ref l] ∧ SqL K H l (ns.map V.int) ∧ (∃ lo : Int, ∀ x ∈ ns, lo ≤ x ∧ x < lo + 60) ∧
  ∀ p c, H p = none → c < 64 → Q (.ref p) (upd H p (SetO w p (fun j => decide (j ∈ ns)) c))
theorem cr_setLI {X : Cx} (hc : X.calm = true) : CallR X (.type "set") (rSetLI X.K X.w) := by
  intro pins s σ H xs us Q I r h
  obtain ⟨l, ns, rfl, hl, ⟨lo, hlo⟩, q⟩ := h
  rw [Vals.ref1 r]
  obtain ⟨its, rv, pl, hz⟩ := I.list hl
  have hi : IntsAre its ns := ints_of_vals rv
  have hn : H s.heap.objs.size = none := I.hok.fresh (Nat.le_refl _)
  have few : ∀ (i : Nat) (ms : List Int), ms.Nodup → (∀ x, x ∈ ms ↔ x ∈ ns.take i) → ms.length ≤ 60 := fun i ms nd hm =>
    nodup_le (lo := lo) nd fun x hx => hlo x (List.mem_of_mem_take ((hm x).mp hx))
  refine set_of_list (P := X.prog) (w := X.w) (I.ok.hd hc) pl.isList (SetI X.w s.heap.objs.size ns) (fun h e _ => ⟨[], List.nodup_nil, fun x => by simp, setR_new_at e⟩) (fun i h h' ⟨ms, nd, hm, S⟩ kp => ⟨ms, nd, hm, S.at fun o e => kp _ _ (Nat.le_refl _) e⟩) (fun A' i v s' R E' _ hv ⟨ms, nd, hm, S⟩ k => ?_) (fun h' tk ⟨ms, nd, hm, S⟩ kp => ?_)
  · obtain ⟨z, t, ez, rfl⟩ : ∃ z t, ns[i]? = some z ∧ v = .int z t := by
      have hil : i < ns.length := by
        rw [← hi.length]
        have := (Array.getElem?_eq_some_iff.mp hv).1
        simpa using this
      obtain ⟨t, e⟩ := PyProof.Rows.IntsAre.int_at hi i v (by simpa using hv)
      refine ⟨ns[i], t, List.getElem?_eq_getElem hil, ?_⟩
      rw [e, List.getD_eq_getElem?_getD, List.getElem?_eq_getElem hil]
      rfl
    unfold setAdd
    refine wpAny_holding ?_
    refine wpAny_bind ((intKind X.prog X.w).pyHash (k := z) (intKind_is _ _ _ _) ?_)
    have l60 := few i ms nd hm
    refine setR_add_hashed (s := { s' with toks := s'.toks + 1 }) S (by show ms.length + 1 < 4096; omega) fun h' sb S2 => ?_
    refine k _ h' _ (Nat.le_succ _) sb ?_
    have et : ns.take (i + 1) = ns.take i ++ [z] := by rw [List.take_add_one, ez]; rfl
    by_cases hz' : z ∈ ns.take i
    · refine ⟨ms, nd, fun x => by rw [hm, et]; simp only [List.mem_append, List.mem_singleton]; exact ⟨.inl, fun y => y.elim id fun e => e ▸ hz'⟩, ?_⟩
      rw [if_pos (decide_eq_true hz')] at S2
      refine S2.congr fun j => ?_
      rw [et]
      simp [List.mem_append]
    · refine ⟨ms ++ [z], List.nodup_append.mpr ⟨nd, by simp, fun x hx y hy e => hz' ((hm z).mp (by rw [← List.mem_singleton.mp hy, ← e]; exact hx))⟩, fun x => by rw [et]; simp only [List.mem_append, hm], ?_⟩
      rw [if_neg (by rw [decide_eq_false hz']; exact Bool.false_ne_true)] at S2
      rw [List.length_append]
      refine S2.congr fun j => ?_
      rw [et]
      simp [List.mem_append]
  · have e : ns.take its.toArray.size = ns := List.take_of_length_le (by rw [List.size_toArray, hi.length]; exact Nat.le_refl _)
    have l60 := few _ ms nd hm
    rw [e] at S
    exact ⟨.ref s.heap.objs.size, _, I.laid (t' := tk) kp (Nat.le_refl _) (setO_new S), rfl, q _ ms.length hn (by omega)⟩
section
variable {X : Cx} {C : FC}
/-- sorted(set(l)), l a list of ints -/
def xSortedSetL (t : DA) : DE := fun ρ Q => t ρ fun ds ρ1 => ∃ ns : List Int, ds = [.lst (ns.map D.int)] ∧ (∃ lo : Int, ∀ x ∈ ns, lo ≤ x ∧ x < lo + 60) ∧ ∀ ys : List Int, ys.Pairwise (· < ·) → (∀ k, k ∈ ys ↔ k ∈ ns) → Q (.ow (ys.map D.int)) ρ1
theorem d_sortedSetL {e : Expr} {ta : TA} {t : DA} {p p2 pos pos2 : Pos} (hc : X.calm = true) (hg : Gl X "sorted") (hm : X.mg "sorted" = none) (hg2 : Gl X "set") (hm2 : X.mg "set" = none) (ha : PAV X C [e] ta t)
    (he : starEach [e] X.env = (false, eval e X.env) :: starEach [] X.env := by rfl) (hpl : (backTo pos2 (starEach [] X.env)).any (·.1) = false := by rfl)
    (he2 : starEach [.Call (.Name "set" p2) [e] [] pos2] X.env = (false, eval (.Call (.Name "set" p2) [e] [] pos2) X.env) :: starEach [] X.env := by rfl) (hpl2 : (backTo pos (starEach [] X.env)).any (·.1) = false := by rfl) :
    PV X C (.Call (.Name "sorted" p) [.Call (.Name "set" p2) [e] [] pos2] [] pos) (tCB (rSortedSet X.w) (tCons (tCB (rSetLI X.K X.w) ta) tNil)) (xSortedSetL t) := by
  refine ⟨pe_callB (cr_sortedSet hc) hg hm (by decide +kernel) (pa_cons (pe_callTy (cr_setLI hc) hg2 hm2 (by decide +kernel) ha.pe (by decide) (by decide) he hpl) pa_nil he2) (by decide) (by decide) he2 hpl2, fun G H σ ρ QD Q R q k => ?_⟩
  refine ha.rf G H σ ρ _ _ R q fun vs ds G1 H1 ρ1 R1 s1 hd ⟨ns, e, hl, q1⟩ => ?_
  subst e
  obtain ⟨v, rfl, a, us, rfl, h1, h2⟩ := hd.one
  cases h2.ints
  refine ⟨a, ns, rfl, SqL.of (R1.sub _ _ h1), hl, fun sp c hp hcl => ⟨sp, _, c, rfl, upd_same, hcl, fun ys p pw mem _ hp2 => ?_⟩⟩
  obtain ⟨R2, rv⟩ := (R1.newOw (o := SetO X.w sp (fun j => decide (j ∈ ns)) c) hp).resL hp2 (Dats.of_ints ys)
  exact k _ _ _ _ _ R2 s1 rv (q1 ys pw fun z => (mem z).trans decide_eq_true_iff)
end
end L3

namespace L3
open PySem PySem.Spec PyProof.Rows L2
section
variable {X : Cx} {C : FC}
/-! ### l.count(k) -/
def xCount (a b : DE) : DE := fun ρ Q => a ρ fun s ρ1 => ∃ ns : List Int, s.toD = .lst (ns.map D.int) ∧ b ρ1 fun s' ρ2 => ∃ k : Int, s'.toD = .int k ∧ Q (.fz (.int (ns.count k : Nat))) ρ2
theorem d_count {o e : Expr} {to te : TE} {a b : DE} {apos pos : Pos} (ho : PV X C o to a) (h : PV X C e te b)
    (hbase : attributeBase o "count" X.env (eval o X.env) = eval o X.env := by rfl)
    (hfew : ((backTo pos (starEach [e] X.env)).all (fun x => !x.1) && (backToKw pos (keywordEach [] X.env)).all (fun x => x.1.isSome)
      && decide ([e].length + ([] : List Keyword).length + (if ([] : List Keyword).isEmpty then 0 else 1) < 30)) = true := by rfl)
    (hline : (apos.endLine == pos.line) = true := by rfl) (hs : starEach [e] X.env = (false, eval e X.env) :: starEach [] X.env := by rfl) (hpl : (backTo pos (starEach [] X.env)).any (·.1) = false := by rfl) :
    PV X C (.Call (.Attribute o "count" apos) [e] [] pos) (tBM X.K "list" (rCntI X.K) to (tCons te tNil)) (xCount a b) := by
  refine ⟨pe_bm PySem.F.plainAttrs_list PySem.F.slot_list_count PySem.F.type_list_count mt_lcount ho.pe (pa_cons h.pe pa_nil hs) hbase hfew hline hs hpl, fun G H σ ρ QD Q R q k => ?_⟩
  refine ho.rf.go (QD := fun d ρ1 => ∃ ns : List Int, d = .lst (ns.map D.int) ∧ b ρ1 fun s' ρ2 => ∃ k : Int, s'.toD = .int k ∧ QD (.fz (.int (ns.count k : Nat))) ρ2) R q fun v d G1 H1 ρ1 R1 s1 hd ⟨ns, e1, q1⟩ => ?_
  subst e1
  obtain ⟨p, vs, rfl, h1, h2⟩ := hd
  cases h2.ints
  refine ⟨.inl ⟨rfl, _, SqL.of (R1.sub _ _ h1)⟩, ?_⟩
  refine h.rf.go (QD := fun d ρ2 => ∃ k : Int, d = .int k ∧ QD (.fz (.int (ns.count k : Nat))) ρ2) R1 q1 fun v' d' G2 H2 ρ2 R2 s2 hd' ⟨z, e2, q2⟩ => ?_
  subst e2
  cases (show v' = _ from hd')
  exact ⟨p, ns, z, rfl, rfl, SqL.of (R2.sub _ _ (s2 _ _ h1)), k _ _ G2 H2 ρ2 R2 (s1.trans s2) (rvf (d := .int _) rfl) q2⟩
/-! ### an own list lent to a call that answers by a truth value -/
theorem Rep.grow {G H H' : Hp} {σ : L2.St} {ρ : En} (R : Rep C G H σ ρ) (e : Same H H') : Rep C G H' σ ρ := by
  refine ⟨R.len, R.sub.trans e, R.g0, fun p o h z => e _ _ (R.keep p o h z), R.new, fun p h => ?_, R.fz, fun i s h os => ?_, R.ap, R.nt, R.tab.ext e⟩
  · obtain ⟨a, b, c⟩ := R.bl p h
    obtain ⟨vs, e1⟩ := c
    exact ⟨a, b, vs, e _ _ e1⟩
  · obtain ⟨p, a, b, c, d⟩ := R.ow i s h os
    obtain ⟨o, ho⟩ := b.some
    exact ⟨p, a, b.mono (Same.refl G) ((e _ _ ho).trans ho.symm), c, d⟩
def xLend (i : Nat) (dp : DP) (b : DE) : DE := fun ρ Q => (∃ ds, ρ[i]? = some (some (.ow ds))) ∧ b ρ fun s' ρ1 => ∃ ds, ρ1[i]? = some (some (.ow ds)) ∧ dp [.lst ds, s'.toD] (fun s => ∃ t, s = .fz (.bl t) ∧ Q s ρ1) fun _ => False
theorem d_lend (i : Nat) {k : Nat} {dp : DP} {x y : Str} {p p2 pos : Pos} {e : Expr} {te : TE} {b : DE} (F : Fn X.prog X.w X.K X.mg X.base x k 2 dp) (hr : Room k X.A) (h : PV X C e te b) (hg : Gl X x := by rfl)
    (hN : X.N[i]? = some y := by rfl) (hv : Vis X.env.scope y := by first | exact Or.inl rfl | exact Or.inr (Or.inl rfl) | exact Or.inr (Or.inr rfl)) (hd : (y == ("__debug__" : Str)) = false := by decide) (hcd : (y == ("__classdict__" : Str)) = false := by decide)
    (hdb : (x == ("__debug__" : Str)) = false := by decide) (he : starEach (.Name y p2 :: [e]) X.env = (false, eval (.Name y p2) X.env) :: starEach [e] X.env := by rfl) (he2 : starEach [e] X.env = (false, eval e X.env) :: starEach [] X.env := by rfl) (hpl : (backTo pos (starEach [e] X.env)).any (·.1) = false := by rfl) :
    PV X C (.Call (.Name x p) (.Name y p2 :: [e]) [] pos) (tCall (spD X.mg 2 dp) [] E0 (tCons (tVar i) (tCons te tNil))) (xLend i dp b) := by
  obtain ⟨f, fd, ps, hF, hm, hk, hb⟩ := F
  refine ⟨pe_call hF hr hg hm hk hb .nil pass0 (pa_cons (pe_var hN hv hd hcd) (pa_cons h.pe pa_nil he2) he) hdb he hpl, fun G H σ ρ QD Q R ⟨⟨ds0, e0⟩, q⟩ kk => ?_⟩
  obtain ⟨a, ha, _⟩ := R.ow i _ e0 rfl
  refine ⟨.ref a, ha, h.rf.go (QD := fun d ρ1 => ∃ ds, ρ1[i]? = some (some (.ow ds)) ∧ dp [.lst ds, d] (fun s => ∃ t, s = .fz (.bl t) ∧ QD s ρ1) fun _ => False) R q fun v d G1 H1 ρ1 R1 s1 hd1 q1 => ?_⟩
  obtain ⟨ds, e1, q1⟩ := q1
  obtain ⟨a', ha', ⟨vs, h2, h3⟩, h4, h5⟩ := R1.ow i _ e1 rfl
  rw [ha] at ha'; cases ha'
  show spD X.mg 2 dp [V.ref a, v] H1 Q E0
  have gs : Same G1 (upd G1 a (.lst vs)) := Same.new h4
  refine ⟨upd G1 a (.lst vs), [.lst ds, d], _, fun _ => False, fun b o z => ?_, R1.nt.upd (fun _ z => by cases z), ⟨.ref a, [v], rfl, ⟨a, vs, rfl, upd_same, Dats.mono gs _ _ h3⟩, v, [], rfl, Dat.mono gs _ _ hd1, rfl⟩, rfl, q1, fun v' s G' H' ⟨t, es, q2⟩ P => ?_, fun _ _ _ z => z.elim⟩
  · by_cases hb' : b = a
    · subst hb'; rw [upd_same] at z; cases z; exact h2
    · rw [upd_ne hb'] at z; exact R1.sub _ _ z
  · subst es
    have ev : v' = .bl t := P.ret
    subst ev
    exact kk _ _ G1 H' ρ1 (R1.grow P.h) s1 (rvf (d := .bl t) rfl) q2
end
section
variable {X : Cx} {C : FC}
theorem d_countK (K : PySem.W.Frag) {o e : Expr} {to te : TE} {a b : DE} {apos pos : Pos} (ho : PV X C o to a) (h : PV X C e te b) (hK : X.K = K := by rfl)
    (hbase : attributeBase o "count" X.env (eval o X.env) = eval o X.env := by rfl)
    (hfew : ((backTo pos (starEach [e] X.env)).all (fun x => !x.1) && (backToKw pos (keywordEach [] X.env)).all (fun x => x.1.isSome)
      && decide ([e].length + ([] : List Keyword).length + (if ([] : List Keyword).isEmpty then 0 else 1) < 30)) = true := by rfl)
    (hline : (apos.endLine == pos.line) = true := by rfl) (hs : starEach [e] X.env = (false, eval e X.env) :: starEach [] X.env := by rfl) (hpl : (backTo pos (starEach [] X.env)).any (·.1) = false := by rfl) :
    PV X C (.Call (.Attribute o "count" apos) [e] [] pos) (tBM K "list" (rCntI K) to (tCons te tNil)) (xCount a b) := by
  subst hK
  exact d_count ho h hbase hfew hline hs hpl
theorem d_sortedSetLK (K : PySem.W.Frag) {e : Expr} {ta : TA} {t : DA} {p p2 pos pos2 : Pos} (hc : X.calm = true) (hg : Gl X "sorted") (hm : X.mg "sorted" = none) (hg2 : Gl X "set") (hm2 : X.mg "set" = none) (ha : PAV X C [e] ta t) (hK : X.K = K := by rfl)
    (he : starEach [e] X.env = (false, eval e X.env) :: starEach [] X.env := by rfl) (hpl : (backTo pos2 (starEach [] X.env)).any (·.1) = false := by rfl)
    (he2 : starEach [.Call (.Name "set" p2) [e] [] pos2] X.env = (false, eval (.Call (.Name "set" p2) [e] [] pos2) X.env) :: starEach [] X.env := by rfl) (hpl2 : (backTo pos (starEach [] X.env)).any (·.1) = false := by rfl) :
    PV X C (.Call (.Name "sorted" p) [.Call (.Name "set" p2) [e] [] pos2] [] pos) (tCB (rSortedSet X.w) (tCons (tCB (rSetLI K X.w) ta) tNil)) (xSortedSetL t) := by
  subst hK
  exact d_sortedSetL hc hg hm hg2 hm2 ha he hpl he2 hpl2
end
end L3

namespace L3
open PySem PySem.Spec PyProof.Rows L2
section
variable {X : Cx} {C : FC}
/-! ### range(i, j, -1) -/
def rngN (i : Int) (n : Nat) : List D := (List.range n).map fun k : Nat => D.int (i - k)
theorem rngN_len (i : Int) (n : Nat) : (rngN i n).length = n := by simp [rngN]
theorem rngN_get {i : Int} {n k : Nat} {d : D} (h : (rngN i n)[k]? = some d) : k < n ∧ d = .int (i - k) := by
  have hk : k < n := by
    have := (List.getElem?_eq_some_iff.mp h).1
    rwa [rngN_len] at this
  refine ⟨hk, ?_⟩
  unfold rngN at h
  rw [List.getElem?_map, List.getElem?_range hk] at h
  exact (Option.some.inj h).symm
theorem jr_rangeN {G : Hp} {lo : Int} {n : Nat} : JR G (Itc lo (-1) n) (rngN lo n) := fun G1 H1 s1 s2 => by
  refine ⟨by rw [rngN_len]; exact Nat.le_refl n, fun i d e => ?_⟩
  obtain ⟨hi, rfl⟩ := rngN_get e
  exact ⟨hi, fun x H2 ⟨e2, e3⟩ => ⟨G1, .inl ⟨rfl, e2⟩, by rw [e3]; show V.int _ = V.int _; congr 1; omega⟩⟩
def onR3 (ds : List D) (k : List D → Prop) : Prop := match ds with
  | [.int i, .int j, .int c] => c = -1 ∧ (-1000000000000 < i ∧ i < 1000000000000 ∧ -1000000000000 < j ∧ j < 1000000000000) ∧ k (rngN i (i - j).toNat)
  | _ => False
def xRng3 (t : DA) : DI := fun ρ Q => t ρ fun ds ρ1 => onR3 ds fun l => Q l ρ1
theorem di_range3 {tg a b c : Expr} {ta : TA} {t : DA} {p pos : Pos} (hg : Gl X "range") (hm : X.mg "range" = none) (ha : PAV X C [a, b, c] ta t) (hs : starEach [a, b, c] X.env = (false, eval a X.env) :: starEach [b, c] X.env := by rfl) (hpl : (backTo pos (starEach [b, c] X.env)).any (·.1) = false := by rfl) :
    PIV X C tg (.Call (.Name "range" p) [a, b, c] [] pos) (iRng3 ta) (xRng3 t) :=
  ⟨pi_range3 hg hm ha.pe hs hpl, fun G H σ ρ QD R' R q k => ha.rf G H σ ρ _ _ R q fun vs ds G1 H1 ρ1 R1 s1 hd q1 => by
    unfold onR3 at q1
    split at q1
    · rename_i i j c
      obtain ⟨v, u, w, rfl, h1, h2, h3⟩ := hd.three
      cases (show v = _ from h1)
      cases (show u = _ from h2)
      cases (show w = _ from h3)
      obtain ⟨rfl, ⟨b1, b2, b3, b4⟩, q1⟩ := q1
      exact ⟨i, j, -1, _, rfl, RgC.neg (by omega) (by omega) (by omega) (by omega), k _ _ G1 H1 ρ1 R1 s1 jr_rangeN q1⟩
    · exact q1.elim⟩
end
/-! ### one value alone can be sorted -/
theorem sorts_one {prog : Program} {w : World} {A : Around} {s : Shared} {v : Value} {d : PyData} {as : List Addr} (r : Reads s.heap v d as) (ne : d ≠ .none) (al : PySem.W.alike d d = true) (hu : A.units + d.depth < cLine) : PySem.W.SortsAt prog w A s (PySem.W.dataKind s.heap [d]) [v] := by
  have hal : PySem.W.AllAlike [d] := fun a ha b hb => by
    rw [List.mem_singleton.mp ha, List.mem_singleton.mp hb]
    exact al
  refine ⟨fun u hu' => ?_, general', ?_, fun h2 => absurd h2 (by simp)⟩
  · rw [List.mem_singleton.mp hu']
    exact ⟨_, PySem.W.dataKind_some hal (List.mem_singleton.mpr rfl) r⟩
  · intro E x y a b Q ha hb hq
    obtain ⟨d1, as1, hd1, ra, rfl⟩ := PySem.W.dataKind_inv ha
    obtain ⟨d2, as2, hd2, rb, rfl⟩ := PySem.W.dataKind_inv hb
    rw [List.mem_singleton.mp hd1] at ra hq
    rw [List.mem_singleton.mp hd2] at rb hq
    have e : keyLt' general' x y = oneLt' false x y := rfl
    rw [e]
    exact PySem.W.oneLt_alike (fun z => by cases z) ra rb al ne (Nat.lt_of_le_of_lt (Nat.add_le_add_left (Nat.min_le_left _ _) _) hu) hq
end L3

namespace L3
open PySem PySem.Spec PyProof.Rows L2
theorem nodup_in {α : Type} [DecidableEq α] : ∀ (l D : List α), l.Nodup → (∀ x ∈ l, x ∈ D) → l.length ≤ D.length
  | [], _, _, _ => Nat.zero_le _
  | x :: l, D, nd, h => by
    obtain ⟨n1, n2⟩ := List.nodup_cons.mp nd
    have hx := h x (by simp)
    have ih := nodup_in l (D.erase x) n2 fun y hy => (List.mem_erase_of_ne fun e => n1 (by rw [← e]; exact hy)).mpr (h y (by simp [hy]))
    rw [List.length_erase_of_mem hx] at ih
    have : 0 < D.length := List.length_pos_of_mem hx
    rw [List.length_cons]
    omega
theorem perm_lift {α β : Type} (f : α → β) : ∀ {xs ys : List β}, xs.Perm ys → ∀ L : List α, xs = L.map f → ∃ L1 : List α, ys = L1.map f ∧ L1.Perm L := by
  intro xs ys p
  induction p with
  | nil => exact fun L e => ⟨L, e, List.Perm.refl L⟩
  | cons x h ih =>
    intro L e
    cases L with
    | nil => cases e
    | cons a L =>
      obtain ⟨rfl, e2⟩ := List.cons.inj e
      obtain ⟨L1, e3, e4⟩ := ih L e2
      exact ⟨a :: L1, by rw [e3]; rfl, e4.cons a⟩
  | swap x y l =>
    intro L e
    cases L with
    | nil => cases e
    | cons a L =>
      cases L with
      | nil => cases e
      | cons b L =>
        obtain ⟨rfl, e2⟩ := List.cons.inj e
        obtain ⟨rfl, e3⟩ := List.cons.inj e2
        exact ⟨b :: a :: L, by rw [e3]; rfl, List.Perm.swap a b L⟩
  | trans _ _ h1 h2 =>
    intro L e
    obtain ⟨L1, e1, p1⟩ := h1 L e
    obtain ⟨L2, e2, p2⟩ := h2 L1 e1
    exact ⟨L2, e2, p2.trans p1⟩
/-! ### set(l), l a list of tuples of ints with few unlike ones -/
abbrev AL := List (Addr × List Int)
def rSetLT (K : PySem.W.Frag) (P : Program) (w : World) : List V → Hp → VK → Prop := fun xs H Q => ∃ (l : Addr) (ks : AL) (D : List (List Int)), xs = [V.ref l] ∧ SqL K H l (ks.map fun p => V.ref p.1) ∧ (∀ p ∈ ks, SqT K H p.1 (p.2.map V.int)) ∧ D.length < 60 ∧ (∀ p ∈ ks, p.2 ∈ D) ∧
  ∀ a L, H a = none → (∀ p ∈ L, p ∈ ks) → (∀ p ∈ ks, p.2 ∈ L.map (·.2)) → Q (.ref a) (upd H a (SetTO P w a L))
def SetV (P : Program) (w : World) (a : Addr) (h0 : Heap) (ks : AL) (i : Nat) (h : Heap) : Prop := (∀ b o, h0.get? b = some o → h.get? b = some o) ∧ ∃ (L : AL) (es : Array (Int × Value)) (ep : Nat) (t : SetTable), SetTR P w h a L es ep t ∧ Got ks i L
theorem cr_setLT {X : Cx} (hc : X.calm = true) (hu : X.A.units + 64 < cLine) : CallR X (.type "set") (rSetLT X.K X.prog X.w) := by
  intro pins s σ H xs us Q I r h
  obtain ⟨l, ks, D, rfl, hl, hk, hD, hin, q⟩ := h
  rw [Vals.ref1 r]
  obtain ⟨its, rv, pl, hz⟩ := I.list hl
  have hr : its = ks.map fun p => Value.ref p.1 := refs_of_vals rv
  have hn : H s.heap.objs.size = none := I.hok.fresh (Nat.le_refl _)
  have hT : ∀ p ∈ ks, IsT X.prog X.w s.heap p.2 p.1 := fun p hp => I.isT (hk p hp)
  have hns : s.heap.get? s.heap.objs.size = none := by
    cases e : s.heap.get? s.heap.objs.size with
    | none => rfl
    | some o => exact absurd (Heap.lt_size e) (Nat.lt_irrefl _)
  refine set_of_list (P := X.prog) (w := X.w) (I.ok.hd hc) pl.isList (SetV X.prog X.w s.heap.objs.size s.heap ks) (fun h e up => ⟨up, [], #[], 0, _, setTR_fresh e, Got.zero ks⟩) (fun i h h' ⟨up, L, es, ep, t, S, g⟩ kp => ?_) (fun A' i v s' R E' hA hv ⟨up, L, es, ep, t, S, g⟩ k => ?_) (fun h' tk ⟨up, L, es, ep, t, S, g⟩ kp => ?_)
  · have up2 : ∀ b o, s.heap.get? b = some o → h'.get? b = some o := fun b o e => kp b o (Nat.le_of_lt (Heap.lt_size e)) (up b o e)
    exact ⟨up2, L, es, ep, t, S.keep (fun o e => kp _ _ (Nat.le_refl _) e) fun p hp => isT_keep (hT p (List.mem_of_mem_take (g.sub p hp))) up2, g⟩
  · obtain ⟨p, hp, rfl⟩ : ∃ p, ks[i]? = some p ∧ v = .ref p.1 := by
      have e : its[i]? = some v := by simpa using hv
      rw [hr, List.getElem?_map] at e
      obtain ⟨p, hp, e2⟩ := Option.map_eq_some_iff.mp e
      exact ⟨p, hp, e2.symm⟩
    have hx : IsT X.prog X.w s'.heap p.2 p.1 := isT_keep (hT p (List.mem_of_getElem? hp)) up
    have hu2 : A'.units < cLine := by omega
    have few : L.length ≤ D.length := by
      have := nodup_in (L.map (·.2)) D S.nd fun x hx => by
        obtain ⟨y, hy, rfl⟩ := List.mem_map.mp hx
        exact hin y (List.mem_of_mem_take (g.sub y hy))
      simpa using this
    unfold setAdd
    refine wpAny_holding ?_
    refine wpAny_bind (wpAny_pyHash_tuple hu2 hx ?_)
    refine add_at (s := { s' with toks := s'.toks + (p.2.length + 1) }) S hx hu2 (by omega) fun b h' L' es' ep' t' sb S2 c1 c2 => ?_
    refine k b h' _ (Nat.le_add_right _ _) sb ⟨fun b o e => (sb.2 b fun z => by rw [z, hns] at e; cases e).trans (up b o e), L', es', ep', t', S2, ?_⟩
    rcases Classical.em (p.2 ∈ L.map (·.2)) with c | c
    · rw [c1 c]; exact g.same hp c
    · exact g.more hp (c2 c)
  · have e : its.toArray.size = ks.length := by rw [List.size_toArray, hr, List.length_map]
    rw [e] at g
    exact ⟨.ref s.heap.objs.size, _, I.laid (t' := tk) kp (Nat.le_refl _) (setTO_new S.t0), rfl, q _ L hn (fun p hp => List.mem_of_mem_take (g.sub p hp)) fun p hp => g.all p (by rw [List.take_length]; exact hp)⟩
/-! ### sorted(set) of tuples of ints of any length -/
theorem each_refs {R : Value → Addr × List Int → Prop} (hR : ∀ v p, R v p → v = .ref p.1) : ∀ {vs : List Value} {L : AL}, PySem.W.EachIs R vs L → vs = L.map fun p => Value.ref p.1
  | _, _, .nil => rfl
  | _, _, .cons h t => by rw [hR _ _ h, each_refs hR t]; rfl
theorem each_of {R : Value → Addr × List Int → Prop} : ∀ {L : AL}, (∀ p ∈ L, R (.ref p.1) p) → PySem.W.EachIs R (L.map fun p => Value.ref p.1) L
  | [], _ => .nil
  | p :: L, h => .cons (h p (by simp)) (each_of fun q hq => h q (by simp [hq]))
def encT (p : Addr × List Int) : PyData := .tuple (p.2.map .int)
theorem encT_alike (p q : Addr × List Int) : PySem.W.alike (encT p) (encT q) = true := by
  unfold encT
  simp only [PySem.W.alike]
  exact PySem.W.alike_ints _ _
theorem encT_depth (p : Addr × List Int) : (encT p).depth ≤ 1 := by
  unfold encT
  simp only [PyData.depth, PySem.W.depth_ints]
  omega
theorem reads_isT {P : Program} {w : World} {h : Heap} {p : Addr × List Int} (x : IsT P w h p.2 p.1) : ∃ as, Reads h (.ref p.1) (encT p) as := by
  obtain ⟨o, items, n, ho, hc, hd, hi⟩ := x
  exact ⟨_, Reads.tuple ho hc hd ((ints_of_items hi).reads h)⟩
section
variable {P : Program} {w : World} {A : Around} {E : Value → Shared → Prop} {s : Shared}
theorem sorted_setV {a : Addr} {L : AL} {es : Array (Int × Value)} {ep : Nat} {t : SetTable} {Q : Value → Shared → Prop} (R : SetTR P w s.heap a L es ep t) (hh : A.handled = none) (hne : (∀ p ∈ L, p.2 ≠ []) ∨ L.length ≤ 1) (hu : A.units + 64 < cLine)
    (q : ∀ s' p (out : Array Value) (c : Nat) (L' : AL), (∀ b o, s.heap.get? b = some o → s'.heap.get? b = some o) → s'.gens = s.gens → s'.os = s.os → s.heap.objs.size ≤ p → s'.heap.get? p = some (seqObj "list" out c) → out.toList = L'.map (fun q => Value.ref q.1) → L'.Perm L → Q (.ref p) s') :
    wpAny (model P w) A (call (.builtin "sorted") [.ref a]) Q E s := by
  obtain ⟨o, ho, hex, hd⟩ := R.ob
  have esz := R.size
  have few := R.few
  refine Calls.call_function_entry kind_sorted plain_sorted entry_sorted (args_sorted1 _) ?_
  unfold Builtin.«sorted»
  refine wpAny_bind (m := checkCount "sorted" 1 1 _) (wpAny_pure ?_)
  refine wpAny_bind (collect_set (A := A.in1) hh ⟨o, ho, hex.1, hd⟩ R.fits (by unfold scanBound; omega) R.tab.ris R.led fun s1 vs k1 z1 g1 o1 pm => ?_)
  have ev : es.toList.map (·.2) = L.map fun p => Value.ref p.1 := by
    rw [R.rows]
    unfold rowsOf
    rw [List.map_map]
    rfl
  rw [ev] at pm
  obtain ⟨L1, rfl, pL⟩ : ∃ L1 : AL, vs = L1.map (fun p => Value.ref p.1) ∧ L1.Perm L := by
    obtain ⟨L1, e1, e2⟩ := perm_lift _ pm.symm L rfl
    exact ⟨L1, e1, e2⟩
  have inL : ∀ p ∈ L1, p ∈ L := fun p hp => pL.mem_iff.mp hp
  have len1 : L1.length < 64 := by rw [pL.length_eq]; exact few
  refine wpAny_bind (wpAny_newList ?_ (by rw [sizeLine_eq, List.length_map]; omega))
  obtain ⟨D, eD⟩ : ∃ D, D = s1.heap.objs.size := ⟨_, rfl⟩
  obtain ⟨vs, evs⟩ : ∃ vs, vs = L1.map fun p => Value.ref p.1 := ⟨_, rfl⟩
  rw [← evs]
  have hoD : (s1.heap.push (seqObj "list" vs.toArray 0)).get? D = some (seqObj "list" vs.toArray 0) := by rw [eD]; exact Heap.get?_push_size _ rfl
  have tk : ∀ p ∈ L1, IsT P w (PySem.W.sortingHeap (s1.heap.push (seqObj "list" vs.toArray 0)) D vs) p.2 p.1 := fun p hp => isT_keep (R.tup p (inL p hp)) fun b u e => PySem.W.sortingHeap_old (by rw [eD]; exact Nat.ne_of_lt (Heap.lt_size (k1 b u e))) (Heap.get?_push_of_some _ (k1 b u e))
  have eR : PySem.W.EachIs (fun v p => v = Value.ref p.1) vs L1 := by rw [evs]; exact each_of fun p _ => rfl
  have er : PySem.W.EachIs (fun v p => ∃ as, Reads (PySem.W.sortingHeap (s1.heap.push (seqObj "list" vs.toArray 0)) D vs) v (encT p) as) vs L1 := by
    rw [evs]
    rw [evs] at tk
    exact each_of fun p hp => reads_isT (tk p hp)
  have hal : PySem.W.AllAlike (L1.map encT) := fun d hd d' hd' => by
    obtain ⟨p, _, rfl⟩ := List.mem_map.mp hd
    obtain ⟨p', _, rfl⟩ := List.mem_map.mp hd'
    exact encT_alike p p'
  have S : ∀ A' : Around, A'.units ≤ A.units + 10 → PySem.W.SortsAt P w A' { s1 with heap := PySem.W.sortingHeap (s1.heap.push (seqObj "list" vs.toArray 0)) D vs } (PySem.W.dataKind (PySem.W.sortingHeap (s1.heap.push (seqObj "list" vs.toArray 0)) D vs) (L1.map encT)) vs := fun A' hA => by
    have room : ∀ d ∈ L1.map encT, A'.units + d.depth < cLine := fun d hd => by
      obtain ⟨p, _, rfl⟩ := List.mem_map.mp hd
      have := encT_depth p
      omega
    have many : (∀ d ∈ L1.map encT, ∃ x r, d = .tuple (x :: r)) → PySem.W.SortsAt P w A' { s1 with heap := PySem.W.sortingHeap (s1.heap.push (seqObj "list" vs.toArray 0)) D vs } (PySem.W.dataKind (PySem.W.sortingHeap (s1.heap.push (seqObj "list" vs.toArray 0)) D vs) (L1.map encT)) vs := fun hs =>
      PySem.W.SortsAt.data (s := { s1 with heap := PySem.W.sortingHeap (s1.heap.push (seqObj "list" vs.toArray 0)) D vs }) (PySem.W.each_map (R := fun v d => ∃ as, Reads (PySem.W.sortingHeap (s1.heap.push (seqObj "list" vs.toArray 0)) D vs) v d as) encT er) hal (.inl hs) room
    rcases hne with hne | hne
    · refine many fun d hd => ?_
      obtain ⟨p, hp, rfl⟩ := List.mem_map.mp hd
      have := hne p (inL p hp)
      unfold encT
      cases e : p.2 with
      | nil => exact absurd e this
      | cons y r => exact ⟨_, _, rfl⟩
    · have l1 : L1.length ≤ 1 := by rw [pL.length_eq]; exact hne
      cases L1 with
      | nil => exact many fun d hd => by cases hd
      | cons p r =>
        have hr : r = [] := by
          cases r with
          | nil => rfl
          | cons _ _ => simp at l1
        subst hr
        obtain ⟨as, rd⟩ := reads_isT (tk p (by simp))
        have e1 : vs = [Value.ref p.1] := by rw [evs]; rfl
        rw [e1] at rd ⊢
        refine sorts_one rd (fun z => by cases z) (encT_alike p p) ?_
        have := encT_depth p
        omega
  have eo := PySem.W.sortVals_data (h' := PySem.W.sortingHeap (s1.heap.push (seqObj "list" vs.toArray 0)) D vs) (enc := encT) false eR er hal
  obtain ⟨out, eout⟩ : ∃ out, out = PySem.W.sortVals (PySem.W.dataKind (PySem.W.sortingHeap (s1.heap.push (seqObj "list" vs.toArray 0)) D vs) (L1.map encT)) false vs vs := ⟨_, rfl⟩
  rw [← eout] at eo
  have ol := each_refs (fun _ _ h => h) eo
  have hv : vs.length ≤ sizeLine := by rw [evs, List.length_map, sizeLine_eq]; omega
  rw [← eD]
  refine wpAny_bind (wpAny_holding (wpAny_call_entry slot_list_sort ⟨_, hoD, rfl⟩ entry_list_sort (PySem.W.list_sort_vals (s := { s1 with heap := s1.heap.push (seqObj "list" vs.toArray 0) }) hoD (S _ (by show A.units + 2 ≤ _; omega)) hv ⟨.none, rfl, ?_⟩) (args_list_sort _)))
  rw [← eout]
  obtain ⟨c, hc⟩ := sortedHeap_at (vs := vs) (out := out.toArray) hoD
  refine wpAny_pure ⟨_, rfl, q _ D out.toArray c (L1.mergeSort (PySem.W.dataLe false encT)) (fun b u e => ?_) g1 o1 (by rw [eD]; exact z1) hc (by rw [List.toList_toArray]; exact ol) ((List.mergeSort_perm _ _).trans pL)⟩
  have z := k1 b u e
  have hlt := Heap.lt_size z
  show (sortedHeap (s1.heap.push (seqObj "list" vs.toArray 0)) D vs out.toArray).get? b = some u
  rw [sortedHeap_old (by rw [eD]; exact Nat.ne_of_lt hlt) (by rw [size_push']; exact Nat.lt_succ_of_lt hlt)]
  exact Heap.get?_push_of_some _ z
end
def rSortedV (K : PySem.W.Frag) (P : Program) (w : World) : List V → Hp → VK → Prop := fun vs H Q => ∃ (a : Addr) (L : AL), vs = [V.ref a] ∧ H a = some (SetTO P w a L) ∧ (∀ p ∈ L, SqT K H p.1 (p.2.map V.int)) ∧ ((∀ p ∈ L, p.2 ≠ []) ∨ ∃ l0, ∀ p ∈ L, p.2 = l0) ∧
  ∀ (L' : AL) (p : Addr), L'.Perm L → (L'.map (·.2)).Nodup → H p = none → Q (.ref p) (upd H p (.lst (L'.map fun q => V.ref q.1)))
theorem cr_sortedV {X : Cx} (hc : X.calm = true) (hu : X.A.units + 64 < cLine) : CallR X (.builtin "sorted") (rSortedV X.K X.prog X.w) := by
  intro pins s σ H vs us Q I r h
  obtain ⟨a, L, rfl, ha, hk, hne, q⟩ := h
  have R0 : SetT0 X.prog X.w s.heap a L := (I.hok a _ ha).1
  obtain ⟨es, ep, t, R⟩ := R0.full fun p hp => I.isT (hk p hp)
  rw [Vals.ref1 r]
  have few := R.few
  have hne2 : (∀ p ∈ L, p.2 ≠ []) ∨ L.length ≤ 1 := by
    refine hne.imp id fun ⟨l0, h0⟩ => ?_
    have := nodup_in (L.map (·.2)) [l0] R.nd fun x hx => by
      obtain ⟨y, hy, rfl⟩ := List.mem_map.mp hx
      rw [h0 y hy]
      simp
    simpa using this
  refine sorted_setV R (I.ok.hd hc) hne2 hu fun s' p out c L' k g o hp hg hout pm => ?_
  have hlen : (L'.map fun q => V.ref q.1).length ≤ sizeLine := by rw [List.length_map, sizeLine_eq, pm.length_eq]; omega
  have hn : H p = none := I.hok.fresh hp
  have hv : Vals (L'.map fun q => V.ref q.1) out.toList := by rw [hout]; exact vals_of_refs L'
  have J : Inv X pins σ (upd H p (.lst (L'.map fun q => V.ref q.1))) { s with heap := s'.heap, gens := s'.gens, drawn := s'.drawn, toks := s'.toks } :=
    I.call (ch := []) (Un.laid k hp hn) (I.hok.laid k hp ⟨hlen, out.toList, c, hv, hg⟩) (by rw [g]; exact I.bare) (fun _ z => nomatch z)
  have e : s' = { s with heap := s'.heap, gens := s'.gens, drawn := s'.drawn, toks := s'.toks } := by
    cases s'
    cases s
    cases o
    rfl
  rw [e]
  exact ⟨.ref p, _, J, rfl, q L' p pm ((pm.map (·.2)).nodup_iff.mpr R.nd) hn⟩
def tupI (r : List Int) : D := .tup (r.map D.int)
theorem dats_tups {G : Hp} : ∀ {rows : List (List Int)} {us : List V}, Dats G (rows.map tupI) us → ∃ ks : AL, us = ks.map (fun p => V.ref p.1) ∧ rows = ks.map (·.2) ∧ ∀ p ∈ ks, G p.1 = some (.tup (p.2.map V.int))
  | [], us, h => by
    cases (show us = [] from h)
    exact ⟨[], rfl, rfl, fun p hp => by cases hp⟩
  | r :: rows, us, h => by
    obtain ⟨u, us', rfl, ⟨a, vs, rfl, h1, h2⟩, h3⟩ := h
    cases h2.ints
    obtain ⟨ks, rfl, rfl, h4⟩ := dats_tups h3
    refine ⟨(a, r) :: ks, rfl, rfl, fun p hp => ?_⟩
    rcases List.mem_cons.mp hp with rfl | hp
    · exact h1
    · exact h4 p hp
theorem tups_dats {G : Hp} : ∀ {L : AL}, (∀ p ∈ L, G p.1 = some (.tup (p.2.map V.int))) → Dats G ((L.map (·.2)).map tupI) (L.map fun p => V.ref p.1)
  | [], _ => rfl
  | p :: L, h => ⟨.ref p.1, _, rfl, ⟨p.1, _, rfl, h p (by simp), Dats.of_ints p.2⟩, tups_dats fun q hq => h q (by simp [hq])⟩
section
variable {X : Cx} {C : FC}
/-- sorted(set(l)), l a list of tuples of ints: each of them once, in some order -/
def xSortedSetT (t : DA) : DE := fun ρ Q => t ρ fun ds ρ1 => ∃ (rows : List (List Int)) (D : List (List Int)), ds = [.lst (rows.map tupI)] ∧ D.length < 60 ∧ (∀ r ∈ rows, r ∈ D) ∧ ((∀ r ∈ rows, r ≠ []) ∨ ∃ l0, ∀ r ∈ rows, r = l0) ∧
  ∀ ys : List (List Int), ys.Nodup → (∀ r, r ∈ ys ↔ r ∈ rows) → Q (.ow (ys.map tupI)) ρ1
theorem d_sortedSetT {e : Expr} {ta : TA} {t : DA} {p p2 pos pos2 : Pos} (hc : X.calm = true) (hu : X.A.units + 64 < cLine) (hg : Gl X "sorted") (hm : X.mg "sorted" = none) (hg2 : Gl X "set") (hm2 : X.mg "set" = none) (ha : PAV X C [e] ta t)
    (he : starEach [e] X.env = (false, eval e X.env) :: starEach [] X.env := by rfl) (hpl : (backTo pos2 (starEach [] X.env)).any (·.1) = false := by rfl)
    (he2 : starEach [.Call (.Name "set" p2) [e] [] pos2] X.env = (false, eval (.Call (.Name "set" p2) [e] [] pos2) X.env) :: starEach [] X.env := by rfl) (hpl2 : (backTo pos (starEach [] X.env)).any (·.1) = false := by rfl) :
    PV X C (.Call (.Name "sorted" p) [.Call (.Name "set" p2) [e] [] pos2] [] pos) (tCB (rSortedV X.K X.prog X.w) (tCons (tCB (rSetLT X.K X.prog X.w) ta) tNil)) (xSortedSetT t) := by
  refine ⟨pe_callB (cr_sortedV hc hu) hg hm (by decide +kernel) (pa_cons (pe_callTy (cr_setLT hc hu) hg2 hm2 (by decide +kernel) ha.pe (by decide) (by decide) he hpl) pa_nil he2) (by decide) (by decide) he2 hpl2, fun G H σ ρ QD Q R q k => ?_⟩
  refine ha.rf G H σ ρ _ _ R q fun vs ds G1 H1 ρ1 R1 s1 hd ⟨rows, D, e, hD, hin, hne, q1⟩ => ?_
  subst e
  obtain ⟨v, rfl, a, us, rfl, h1, h2⟩ := hd.one
  obtain ⟨ks, rfl, rfl, h3⟩ := dats_tups h2
  refine ⟨a, ks, D, rfl, SqL.of (R1.sub _ _ h1), fun p hp => SqT.of (R1.sub _ _ (h3 p hp)), hD, fun p hp => hin _ (List.mem_map.mpr ⟨p, hp, rfl⟩), fun sp L hp hL1 hL2 => ?_⟩
  have gL : ∀ p ∈ L, G1 p.1 = some (.tup (p.2.map V.int)) := fun p hp => h3 p (hL1 p hp)
  have R2 := R1.newOw (o := SetTO X.prog X.w sp L) hp
  refine ⟨sp, L, rfl, upd_same, fun p hp => SqT.of (R2.sub _ _ (gL p hp)), ?_, fun L' p pm nd hp2 => ?_⟩
  · refine hne.imp (fun h p hp => h _ (List.mem_map.mpr ⟨p, hL1 p hp, rfl⟩)) fun ⟨l0, h⟩ => ⟨l0, fun p hp => h _ (List.mem_map.mpr ⟨p, hL1 p hp, rfl⟩)⟩
  · obtain ⟨R3, rv⟩ := R2.resL hp2 (tups_dats (L := L') fun p hp => gL p (pm.mem_iff.mp hp))
    refine k _ _ _ _ _ R3 s1 rv (q1 _ nd fun r => ?_)
    rw [List.mem_map, List.mem_map]
    constructor
    · rintro ⟨p, hp, rfl⟩
      exact ⟨p, hL1 p (pm.mem_iff.mp hp), rfl⟩
    · rintro ⟨p, hp, rfl⟩
      obtain ⟨p', hp', e⟩ := List.mem_map.mp (hL2 p hp)
      exact ⟨p', pm.mem_iff.mpr hp', e⟩
end
section
variable {X : Cx} {C : FC}
theorem d_sortedSetTK (K : PySem.W.Frag) (P : Program) (w : World) {e : Expr} {ta : TA} {t : DA} {p p2 pos pos2 : Pos} (hc : X.calm = true) (hu : X.A.units + 64 < cLine) (hg : Gl X "sorted") (hm : X.mg "sorted" = none) (hg2 : Gl X "set") (hm2 : X.mg "set" = none) (ha : PAV X C [e] ta t) (hK : X.K = K := by rfl) (hP : X.prog = P := by rfl) (hw : X.w = w := by rfl)
    (he : starEach [e] X.env = (false, eval e X.env) :: starEach [] X.env := by rfl) (hpl : (backTo pos2 (starEach [] X.env)).any (·.1) = false := by rfl)
    (he2 : starEach [.Call (.Name "set" p2) [e] [] pos2] X.env = (false, eval (.Call (.Name "set" p2) [e] [] pos2) X.env) :: starEach [] X.env := by rfl) (hpl2 : (backTo pos (starEach [] X.env)).any (·.1) = false := by rfl) :
    PV X C (.Call (.Name "sorted" p) [.Call (.Name "set" p2) [e] [] pos2] [] pos) (tCB (rSortedV K P w) (tCons (tCB (rSetLT K P w) ta) tNil)) (xSortedSetT t) := by
  subst hK hP hw
  exact d_sortedSetT hc hu hg hm hg2 hm2 ha he hpl he2 hpl2
end
end L3

namespace L3
open PySem PySem.Spec PyProof.Rows L2
/-! ### defs that may raise -/
/-- a class of refusals of the text, at Ca -/
structure ExA (K : PySem.W.Frag) (mg : Str → Option Value) (c : Str) (Ca : Addr) : Prop where
  m : mg c = some (.ref Ca)
  x : PySem.W.excIn K Ca [.type "ValueError", .type "Exception", .type "BaseException", .type "object"] "ValueError.__new__" = true
  k : PySem.W.keepIn K (.ref Ca) = true
  b : PySem.W.subIn K (.ref Ca) (.type "BaseException") = some true
  t : PySem.W.typeIn K (.ref Ca) = some (.type "type")
def FnX (P : Program) (w : World) (K : PySem.W.Frag) (mg : Str → Option Value) (base : Heap) (x : Str) (k n : Nat) (dp : DP) : Prop :=
  ∃ f fd ps, FnOk P w K mg base (L2N.CX P w) k f fd ps (spD mg n dp) ∧ mg x = some (.ref f) ∧ PySem.W.keepIn K (.ref f) = true ∧ Binds K fd ps []
/-- raise X('..') -/
def xRaise (ED : Str → Prop) (c : Str) : DS := fun _ _ => ED c
def tRaise (E : XK) (Ca : Addr) : TS := fun _ _ H => E (.ref Ca) none H
section
variable {P : Program} {w : World} {K : PySem.W.Frag} {mg : Str → Option Value} {base : Heap}
theorem ds_raise {N : List Str} {qual : Str} {scope : Scope} {f : Addr} {cd : Value} {A : Around} {outer : List PySem.Env} {s : Shared} {H : Hp} {E : XK} {C : FC} {ED : Str → Prop} {c m : Str} {Ca : Addr} {j : Nat} {p p2 pos pos2 : Pos} (hE : EOk C mg ED E) (hc : ExA K mg c Ca)
    (hg : Gl (cxOf (L2N.CX P w) P w K mg base N qual scope f cd A outer s H E) c := by rfl) (hdb : (c == ("__debug__" : Str)) = false := by decide) :
    PSV (cxOf (L2N.CX P w) P w K mg base N qual scope f cd A outer s H E) C (.Raise (some (.Call (.Name c p) [.Constant (.str m) j p2] [] pos)) none pos2) (tRaise E Ca) (xRaise ED c) := by
  refine ⟨L2N.ps_raise rfl (L2N.takes_of rfl rfl rfl rfl) (L2N.pmk_own PySem.F.excBase_ValueError hc.x hc.m hc.k (raises_own hc.b hc.t) hg hdb), fun G H σ ρ DD E' R q k => ?_⟩
  exact hE c Ca _ q hc.m fun p o e z => R.keep p o e z
/-- a def by its body; what leaves it: ED, by the classes' names -/
theorem fn_mkX {x : Str} {st : Stmt} {N ps : List Str} {k n : Nat} {dp : DP} (d : Df K mg x st ps) (Sc : FnScope N ps (defScope st)) (hps : ps.length = n) (hN : n ≤ N.length)
    (h : ∀ (f : Addr) (cdv : Value) (A : Around) (outer : List PySem.Env) (s : Shared) (H : Hp) (E : XK) (C : FC) (ED : Str → Prop), Room k (A.deeper (envOfC x (defScope st) s.heap.objs.size f cdv)) → EOk C mg ED E →
      ∃ ts t, PSsV (cxOf (L2N.CX P w) P w K mg base N x (defScope st) f cdv A outer s H E) C (defBody st) ts t ∧ ∀ ds QD, ds.length = n → dp ds QD ED → t { nx := fun _ => QD (.fz .non), rt := fun s _ => QD s } (ini N.length ds)) :
    FnX P w K mg base x (k + 1) n dp := by
  obtain ⟨f, fd, F, hm, hb⟩ := d
  refine ⟨f, fd, ps, ?_, hm, F.kp, hb⟩
  obtain ⟨oc, od, kV, doc, pm, an, cdv, ct, osl, rfl, lk, hcd⟩ := F.ex
  refine fn_of lk hcd Sc (spD_len hps) fun A outer s H vs Q E hr ⟨G, ds, QD, ED, sm, nt, hd, hl, hdp, hq, hX⟩ => ?_
  obtain ⟨ts, t, hbo, hrd⟩ := h f cdv A outer s H E ⟨H, G, none, []⟩ ED hr fun c Ca H' h1 h2 h3 => hX c Ca H' h1 h2 fun p o e => h3 p o e (fun z => nomatch z)
  refine ⟨ts, hbo.pe, hbo.rf G H _ _ _ _ (rep_start (N := N) sm nt hd (by omega)) (hrd ds QD hl hdp) ⟨fun G' H' σ' ρ' R' s' q => ?_, fun _ _ _ _ _ _ q => q.elim, fun _ _ _ _ _ _ q => q.elim, fun v s G' H' σ' ρ' R' s' rv q => ?_⟩⟩
  · exact hq _ _ G' H' q (R'.ret (s := .fz .non) rfl)
  · exact hq v s G' H' q (R'.ret rv)
/-- a call of such a def, in such a def's body -/
theorem d_fnX {N : List Str} {qual : Str} {scope : Scope} {fa : Addr} {cd : Value} {A : Around} {outer : List PySem.Env} {s : Shared} {H : Hp} {E : XK} {C : FC} {ED : Str → Prop} {k n : Nat} {dp : DP} {x : Str} {p pos : Pos} {e : Expr} {es : List Expr} {ta : TA} {a : DA}
    (hE : EOk C mg ED E) (F : FnX P w K mg base x k n dp) (hr : Room k (A.deeper (envOfC qual scope s.heap.objs.size fa cd))) (ha : PAV (cxOf (L2N.CX P w) P w K mg base N qual scope fa cd A outer s H E) C (e :: es) ta a)
    (hg : Gl (cxOf (L2N.CX P w) P w K mg base N qual scope fa cd A outer s H E) x := by rfl) (hdb : (x == ("__debug__" : Str)) = false := by decide)
    (he : starEach (e :: es) (cxOf (L2N.CX P w) P w K mg base N qual scope fa cd A outer s H E).env = (false, eval e (cxOf (L2N.CX P w) P w K mg base N qual scope fa cd A outer s H E).env) :: starEach es (cxOf (L2N.CX P w) P w K mg base N qual scope fa cd A outer s H E).env := by rfl)
    (hpl : (backTo pos (starEach es (cxOf (L2N.CX P w) P w K mg base N qual scope fa cd A outer s H E).env)).any (·.1) = false := by rfl) :
    PV (cxOf (L2N.CX P w) P w K mg base N qual scope fa cd A outer s H E) C (.Call (.Name x p) (e :: es) [] pos) (tCall (spD mg n dp) [] E ta) (xCall n dp ED a) := by
  obtain ⟨f, fd, ps, hF, hm, hk, hb⟩ := F
  exact d_call (X := cxOf (L2N.CX P w) P w K mg base N qual scope fa cd A outer s H E) hF hr hm hk hb (L2N.passes_call (L2N.takes_of rfl rfl rfl rfl) (fun _ _ _ _ h => h)) hE ha hg hdb he hpl
end
end L3

namespace L3
open PySem PySem.Spec PyProof.Rows L2
open LamX (CodeO TabS Tabs ExtN TabB LamS)
/-! ### lambdas without parameters: made -/
/-- the words of a lambda -/
structure LW where
  q : Str
  params : Arguments
  body : Expr
  scope : Scope
  cl : List (Str × Addr)
/-- the object at f is such a function, of the code object c -/
def FO (f : Addr) (W : LW) (c : Addr) : HO := .ext fun h => ∃ pm ctv : Value, h.get? f = some (PySem.W.kla_obj "<lambda>" W.q W.params W.body W.scope W.cl pm c ctv)
def lamP (W : LW) : Addr → Hp → Prop := fun f G => ∃ c, G f = some (FO f W c) ∧ G c = some (CodeO c W.q)
abbrev LW.of (X : Cx) (params : Arguments) (body : Expr) (scope : Scope) : LW := ⟨X.env.qual ++ "<lambda>", params, body, scope, cloFrom X.env.cells scope.names []⟩
/-- its reading -/
def tLm (T : List (Addr × Str)) (W : LW) : TE := fun _ H Q => Tabs T H ∧ ∀ (f c : Addr) (H1 : Hp), ExtN H H1 → Tabs T H1 → H f = none → (H c = none ∨ H c = some (CodeO c W.q)) → H1 f = some (FO f W c) → H1 c = some (CodeO c W.q) → f ≠ c → Q (.ref f) H1
section
variable {X : Cx}
theorem fo_laid {pins : List (Addr × Obj)} {σ : L2.St} {H : Hp} {s : Shared} {W : LW} {c : Addr} {pm ctv : Value} {h : Heap} {t : Nat} (J : Inv X pins σ H { s with heap := h, toks := t }) :
    Inv X pins σ (upd H h.objs.size (FO h.objs.size W c)) { s with heap := h.push (PySem.W.kla_obj "<lambda>" W.q W.params W.body W.scope W.cl pm c ctv), toks := t } := by
  have at_ : (h.push (PySem.W.kla_obj "<lambda>" W.q W.params W.body W.scope W.cl pm c ctv)).get? h.objs.size = some (PySem.W.kla_obj "<lambda>" W.q W.params W.body W.scope W.cl pm c ctv) := Heap.get?_push_size _ rfl
  exact J.laid (a := h.objs.size) (t' := t) (fun _ _ e => Heap.get?_push_of_some _ e) (Nat.le_refl _) ⟨⟨pm, ctv, at_⟩, ⟨_, at_⟩, fun _ _ ⟨a, b, z⟩ st => ⟨a, b, st _ z⟩⟩
theorem pe_lm {T : List (Addr × Str)} {c P : Addr} {params : Arguments} {body : Expr} {scope : Scope} {pos : Pos} (TB : TabB X.base X.mg c P) (hcode : X.env.code = .ref c) (hm : (P, X.env.qual ++ "<lambda>") ∈ T)
    (hu : ∀ p ∈ T, p.1 = P → p.2 = X.env.qual ++ "<lambda>") (hdef : defaultsOf params X.env = ([], [])) (L : LamS X.env.scope scope) : PE X (.Lambda params body scope pos) (tLm T (LW.of X params body scope)) := by
  refine ⟨fun pins s σ H Q I ⟨hT, k⟩ => PySem.W.kla_eval hdef ?_⟩
  have hfree := L.has I.ok
  obtain ⟨ps, hP, h3, hA⟩ := hT _ hm
  have onP : s.heap.get? P = some { cls := .none, data := .fields ps } := I.hok P _ hP
  have blt := TB.bm.keeps I.bk
  have glb := I.mod.glob.keeps I.bk
  have cod := TB.code.keeps I.bk
  cases am : codeAmong pos ps.toList with
  | some cv =>
    obtain ⟨c2, rfl, hc2⟩ := hA pos cv am
    refine PySem.W.kla_makeFunctionHit (mg := X.mg) (c := c) (P := P) (ps := ps) (closure_ok hfree) I.ok.glob glb hcode cod onP h3 am blt fun ctv h1 tk hx _ => ?_
    have J : Inv X pins σ H { s with heap := h1, toks := tk } := I.kept hx
    have nf : H h1.objs.size = none := J.hok.fresh (Nat.le_refl _)
    have st : Same H (upd H h1.objs.size (FO h1.objs.size (LW.of X params body scope) c2)) := Same.new nf
    exact ⟨.ref h1.objs.size, _, fo_laid (W := LW.of X params body scope) J, rfl, k _ c2 _ (fun b o e _ => st b o e) (hT.ext st) nf (.inr hc2) upd_same (st _ _ hc2) (ne_of_none hc2 nf).symm⟩
  | none =>
    refine PySem.W.kla_makeFunction (mg := X.mg) (c := c) (P := P) (ps := ps) (closure_ok hfree) I.ok.glob glb hcode cod onP h3 am TB.gP blt fun c2 ctv h1 tk hx hge hlt hrec htb => ?_
    obtain ⟨_, oc, vs, t, e2, r1, r2, r3⟩ := hrec
    cases e2
    have nc : H c2 = none := I.hok.fresh hge
    have J := LamX.inv_table (t' := tk) (more := #[rawInt pos.line, rawInt pos.col, .ref c2]) (h' := h1) I hP (fun b o hb e => hx b o hb e) htb hge ⟨oc, vs, t, r1, r2, r3⟩
    obtain ⟨H2, eH2⟩ : ∃ H2, H2 = upd (upd H P (.tbl (ps ++ #[rawInt pos.line, rawInt pos.col, .ref c2]))) c2 (CodeO c2 (X.env.qual ++ "<lambda>")) := ⟨_, rfl⟩
    rw [← eH2] at J
    have nf : H2 h1.objs.size = none := J.hok.fresh (Nat.le_refl _)
    have cO : H2 c2 = some (CodeO c2 (X.env.qual ++ "<lambda>")) := by rw [eH2]; exact upd_same
    have nfH : H h1.objs.size = none := I.hok.fresh (Nat.le_trans hge (Nat.le_of_lt hlt))
    have x2 : ExtN H H2 := fun b o e n => by
      rw [eH2, upd_ne (ne_of_none e nc), upd_ne fun z => n ps (Option.some.inj (e.symm.trans (by rw [z]; exact hP)))]
      exact e
    have t2 : Tabs T H2 := fun p hp => by
      have old : ∀ (qs : Array Value) (x : Pos) (v : Value), (∀ (x : Pos) (v : Value), codeAmong x qs.toList = some v → ∃ d, v = .ref d ∧ H d = some (CodeO d p.2)) → codeAmong x qs.toList = some v → ∃ d, v = .ref d ∧ H2 d = some (CodeO d p.2) := fun qs x v f e => by
        obtain ⟨d, e1, e2⟩ := f x v e
        exact ⟨d, e1, x2 _ _ e2 LamX.codeO_ne⟩
      by_cases hb : p.1 = P
      · have e2 := hu p hp hb
        have eL : (ps ++ #[rawInt pos.line, rawInt pos.col, .ref c2]).toList = ps.toList ++ [rawInt pos.line, rawInt pos.col, .ref c2] := by simp
        refine ⟨_, by rw [hb, eH2, upd_ne (ne_of_none hP nc), upd_same], by rw [eL]; exact PySem.TriplesOk_snoc _ _ _ _ h3, fun x v hv => ?_⟩
        rw [eL] at hv
        rcases LamX.among_app _ h3 hv with z | z
        · exact old ps x v (fun x v e => by rw [e2]; exact hA x v e) z
        · exact ⟨c2, z, by rw [e2]; exact cO⟩
      · obtain ⟨qs, a1, a2, a3⟩ := hT p hp
        exact ⟨qs, by rw [eH2, upd_ne (ne_of_none a1 nc), upd_ne hb]; exact a1, a2, fun x v e => old qs x v a3 e⟩
    have st : Same H2 (upd H2 h1.objs.size (FO h1.objs.size (LW.of X params body scope) c2)) := Same.new nf
    exact ⟨.ref h1.objs.size, _, fo_laid (W := LW.of X params body scope) J, rfl, k _ c2 _ (fun b o e n => st b o (x2 b o e n)) (t2.ext st) nfH (.inl nc) upd_same (st _ _ cO) (ne_of_none cO nf).symm⟩
end
/-! ### .. read -/
/-- no table, no other thing is told at the entry -/
def PlainH (H : Hp) : Prop := ∀ p o, H p = some o → Plain o
def xLm (W : LW) : DE := fun ρ Q => Q (.fz (.obj (lamP W))) ρ
theorem lamP_mono {W : LW} {f : Addr} {G G' : Hp} (s : Same G G') (h : lamP W f G) : lamP W f G' := by
  obtain ⟨c, a, b⟩ := h
  exact ⟨c, s _ _ a, s _ _ b⟩
section
variable {C : FC} {G H H1 : Hp} {σ : L2.St} {ρ : En}
/-- all but the tables stays -/
theorem Rep.ext (R : Rep C G H σ ρ) (e : ExtN H H1) (hC : PlainH C.H0) (t : Tabs C.T H1) : Rep C G H1 σ ρ := by
  refine ⟨R.len, fun p o h => ?_, R.g0, fun p o h z => e _ _ (R.keep p o h z) (hC p o h).no, R.new, fun p h => ?_, R.fz, fun i s h os => ?_, R.ap, R.nt, t⟩
  · exact e _ _ (R.sub p o h) fun ps z => by
      subst z
      exact R.nt p ps h
  · obtain ⟨a, b, vs, c⟩ := R.bl p h
    exact ⟨a, b, vs, e _ _ c fun _ z => nomatch z⟩
  · obtain ⟨p, a, b, c, d⟩ := R.ow i s h os
    obtain ⟨o, ho, pl⟩ := plain_own b
    exact ⟨p, a, b.mono (Same.refl G) ((e _ _ ho pl.no).trans ho.symm), c, d⟩
/-- a thing that no slot owns, no list, is known for good from now on -/
theorem Rep.knows (R : Rep C G H σ ρ) {p : Addr} {o : HO} (hp : H p = some o) (np : ¬ Plain o) (no : ∀ ps, o ≠ .tbl ps) (h0 : C.H0 p = none) : ∃ G', Rep C G' H σ ρ ∧ Same G G' ∧ G' p = some o := by
  cases hg : G p with
  | some x =>
    have := R.sub p x hg
    rw [hp] at this
    cases this
    exact ⟨G, R, Same.refl G, hg⟩
  | none =>
    refine ⟨_, R.freezeAt no hp hg h0 fun j s' e os z => ?_, Same.new hg, upd_same⟩
    obtain ⟨q, h1, h2, _⟩ := R.ow j s' e os
    rw [z] at h1; cases h1
    obtain ⟨x, hx, pl⟩ := plain_own h2
    rw [hp] at hx; cases hx
    exact np pl
theorem rf_lm {T : List (Addr × Str)} {W : LW} (hT : C.T = T) (hC : PlainH C.H0) : Rf C (tLm T W) (xLm W) := fun G H σ ρ QD Q R q k => by
  subst hT
  refine ⟨R.tab, fun f c H1 e t nf hc f1 c1 ne => ?_⟩
  have R1 := R.ext e hC t
  have f0 : C.H0 f = none := R.h0 nf
  have c0 : C.H0 c = none := by
    cases z : C.H0 c with
    | none => rfl
    | some o =>
      by_cases hb : C.bag = some c
      · obtain ⟨_, _, vs, e1⟩ := R.bl c hb
        rcases hc with hc | hc
        · rw [hc] at e1; cases e1
        · rw [hc] at e1
          have e2 := Option.some.inj e1
          unfold CodeO at e2
          cases e2
      · have e1 := R.keep c o z hb
        rcases hc with hc | hc
        · rw [hc] at e1; cases e1
        · rw [hc] at e1; cases e1
          exact (hC c _ z).elim
  obtain ⟨G1, R2, s1, g1⟩ := R1.knows (o := FO f W c) f1 (fun z => z) (fun _ z => by unfold FO at z; cases z) f0
  obtain ⟨G2, R3, s2, g2⟩ := R2.knows (o := CodeO c W.q) c1 (fun z => z) (fun _ z => by unfold CodeO at z; cases z) c0
  exact k (.ref f) (.fz (.obj (lamP W))) G2 H1 ρ R3 (s1.trans s2) (show Dat G2 (.obj (lamP W)) (.ref f) from ⟨f, rfl, fun H' s => ⟨c, s _ _ (s2 _ _ g1), s _ _ g2⟩⟩) q
end
theorem d_lm {X : Cx} {C : FC} {T : List (Addr × Str)} {c P : Addr} {params : Arguments} {body : Expr} {scope : Scope} {pos : Pos} (hC : PlainH C.H0) (TB : TabB X.base X.mg c P) (hm : (P, X.env.qual ++ "<lambda>") ∈ T)
    (hu : ∀ p ∈ T, p.1 = P → p.2 = X.env.qual ++ "<lambda>") (hT : C.T = T := by rfl) (hcode : X.env.code = .ref c := by rfl) (hdef : defaultsOf params X.env = ([], []) := by rfl) (L : LamX.lamSB X.env.scope scope = true := by decide +kernel) :
    PV X C (.Lambda params body scope pos) (tLm T (LW.of X params body scope)) (xLm (LW.of X params body scope)) := ⟨pe_lm TB hcode hm hu hdef (LamX.lamS_by L), rf_lm hT hC⟩
end L3

namespace L3
open PySem PySem.Spec PyProof.Rows L2
open LamX (CodeO TabS Tabs ExtN TabB LamS)
/-! ### things told for a while -/
/-- the object at a is o -/
def ExO (a : Addr) (o : Obj) : HO := .ext fun h => h.get? a = some o
abbrev Ln := Addr → Option Obj
def plusH (H : Hp) (M : Ln) : Hp := fun b => match M b with
  | some o => some (ExO b o)
  | none => H b
def minusH (H : Hp) (M : Ln) : Hp := fun b => match M b with
  | some _ => none
  | none => H b
theorem plus_some {H : Hp} {M : Ln} {b : Addr} {o : Obj} (h : M b = some o) : plusH H M b = some (ExO b o) := by unfold plusH; rw [h]
theorem plus_none {H : Hp} {M : Ln} {b : Addr} (h : M b = none) : plusH H M b = H b := by unfold plusH; rw [h]
theorem minus_some {H : Hp} {M : Ln} {b : Addr} {o : Obj} (h : M b = some o) : minusH H M b = none := by unfold minusH; rw [h]
theorem minus_none {H : Hp} {M : Ln} {b : Addr} (h : M b = none) : minusH H M b = H b := by unfold minusH; rw [h]
def Apart (H : Hp) (M : Ln) : Prop := ∀ b o, M b = some o → H b = none
def Told (H : Hp) (M : Ln) : Prop := ∀ b o, M b = some o → H b = some (ExO b o)
theorem Apart.nn {H : Hp} {M : Ln} (h : Apart H M) {b : Addr} {u : HO} (e : H b = some u) : M b = none := by
  cases z : M b with
  | none => rfl
  | some o => rw [h b o z] at e; cases e
theorem Told.nn {H : Hp} {M : Ln} (h : Told H M) {b : Addr} (e : H b = none) : M b = none := by
  cases z : M b with
  | none => rfl
  | some o => rw [h b o z] at e; cases e
theorem Told.oth {H : Hp} {M : Ln} (h : Told H M) {b : Addr} {u : HO} (e : H b = some u) (n : ∀ φ, u ≠ .ext φ) : M b = none := by
  cases z : M b with
  | none => rfl
  | some o =>
    rw [h b o z] at e
    cases e
    exact absurd rfl (n _)
theorem Told.plus {H : Hp} {M : Ln} : Told (plusH H M) M := fun b o e => plus_some e
theorem same_plus {H : Hp} {M : Ln} (h : Apart H M) : Same H (plusH H M) := fun b u e => by rw [plus_none (h.nn e)]; exact e
theorem exO_ok {P : Program} {w : World} {H : Hp} {h : Heap} {a : Addr} {o : Obj} (e : h.get? a = some o) : ObjOk P w H h a (ExO a o) := ⟨e, ⟨o, e⟩, fun _ _ x st => st o x⟩
theorem exO_at {P : Program} {w : World} {H : Hp} {h : Heap} {a : Addr} {o : Obj} (hok : HOk P w H h) (e : H a = some (ExO a o)) : h.get? a = some o := (hok a _ e).1
theorem exO_ext {a : Addr} {o : Obj} {u : HO} (n : ∀ φ, u ≠ .ext φ) : u ≠ ExO a o := n _
section
variable {P : Program} {w : World} {K : PySem.W.Frag} {mg : Str → Option Value} {base : Heap} {A : Around} {outer : List PySem.Env} {s s' : Shared} {H H' : Hp} {M : Ln} {h : Heap}
theorem hok_plus (x : HOk P w H h) (ap : Apart H M) (at_ : ∀ b o, M b = some o → h.get? b = some o) : HOk P w (plusH H M) h := fun b u e => by
  cases z : M b with
  | some o =>
    rw [plus_some z] at e; cases e
    exact exO_ok (at_ b o z)
  | none =>
    rw [plus_none z] at e
    exact (x b u e).stay (fun _ _ _ q => q) (fun c q => by rw [plus_none (ap.nn q)]; exact q) fun c xs q => by rw [plus_none (ap.nn q)]; exact q
theorem hok_minus (x : HOk P w H h) (tl : Told H M) : HOk P w (minusH H M) h := fun b u e => by
  cases z : M b with
  | some o => rw [minus_some z] at e; cases e
  | none =>
    rw [minus_none z] at e
    exact (x b u e).stay (fun _ _ _ q => q) (fun c q => by rw [minus_none (tl.oth q fun _ z => nomatch z)]; exact q) fun c xs q => by rw [minus_none (tl.oth q fun _ z => nomatch z)]; exact q
theorem env0_plus (e0 : Env0 P w K mg base A outer s H) (ap : Apart H M) (hM : ∀ b o, M b = some o → s.heap.get? b = some o ∧ base.get? b = none ∧ b ∉ frs outer) : Env0 P w K mg base A outer s (plusH H M) :=
  ⟨e0.frames, e0.mod, fun b o e => ⟨(e0.bs b o e).1, by
      cases z : M b with
      | none => rw [plus_none z]; exact (e0.bs b o e).2
      | some u => rw [(hM b u z).2.1] at e; cases e⟩, e0.bsz, e0.funs, fun b hb => by
      cases z : M b with
      | none => rw [plus_none z]; exact e0.frf b hb
      | some u => exact absurd hb (hM b u z).2.2, hok_plus e0.hok ap fun b o e => (hM b o e).1, e0.bare⟩
theorem env0_minus (e0 : Env0 P w K mg base A outer s H) (tl : Told H M) : Env0 P w K mg base A outer s (minusH H M) :=
  ⟨e0.frames, e0.mod, fun b o e => ⟨(e0.bs b o e).1, by rw [minus_none (tl.nn (e0.bs b o e).2)]; exact (e0.bs b o e).2⟩, e0.bsz, e0.funs,
    fun b hb => by rw [minus_none (tl.nn (e0.frf b hb))]; exact e0.frf b hb, hok_minus e0.hok tl, e0.bare⟩
/-- behind a call that was told of M -/
theorem ce_minus {Q Q' : VK} {u : Value} (ap : Apart H M) (hM : ∀ b o, M b = some o → s.heap.get? b = some o ∧ b ∉ frs outer) (hQ : ∀ v H', Q' v H' → Told H' M ∧ Q v (minusH H' M)) (x : CE outer P w (plusH H M) s Q' u s') : CE outer P w H s Q u s' := by
  obtain ⟨v, H', os, bare, un, hok, r, q⟩ := x
  obtain ⟨tl, q⟩ := hQ v H' q
  have nf : ∀ {b}, b ∈ frs outer → M b = none := fun {b} hb => by
    cases z : M b with
    | none => rfl
    | some o => exact absurd hb (hM b o z).2
  refine ⟨v, minusH H' M, os, bare, ⟨fun b o e n hb hx => ?_, fun b o e n hb hx => ?_, fun b o e n hx => ?_, fun b o e hx => un.there b o e hx, fun b xs e => ?_, fun b o xs e => ?_, fun b ps e => ?_⟩, hok_minus hok tl, r, q⟩
  · cases z : M b with
    | some o2 =>
      have e2 := (hM b o2 z).1
      rw [e] at e2; cases e2
      exact exO_at hok (tl b _ z)
    | none => exact un.keep b o e ((plus_none z).trans n) hb hx
  · exact un.slot b o e ((plus_none (nf hb)).trans n) hb hx
  · cases z : M b with
    | some o2 => exact minus_some z
    | none => rw [minus_none z]; exact un.free b o e ((plus_none z).trans n) hx
  · have z := ap.nn e
    rw [minus_none z]; exact un.tups b xs ((plus_none z).trans e)
  · have z := ap.nn e
    rw [minus_none z]; exact un.frzs b o xs ((plus_none z).trans e)
  · have z := ap.nn e
    rw [minus_none z]; exact un.tbls b ps ((plus_none z).trans e)
/-- behind a call that M was hidden from, and that let an exception out -/
theorem cx_plus {E E' : XK} {u : Value} (tl : Told H M) (nf : ∀ b o, M b = some o → s.heap.get? b = some o ∧ b ∉ frs outer) (hE : ∀ cls d H', Apart H' M → E' cls d H' → E cls d (plusH H' M)) (x : L2N.CX P w outer (minusH H M) s E' u s') : L2N.CX P w outer H s E u s' := by
  obtain ⟨a, B, H', cls, d, rfl, fl, hok, ub, na, os, ag, q⟩ := x
  have atB : ∀ b o, M b = some o → B.get? b = some o := fun b o z => ub.keep b o (nf b o z).1 (minus_some z) (nf b o z).2
  have ap : Apart H' M := fun b o z => ub.free b o (nf b o z).1 (minus_some z)
  refine ⟨a, B, plusH H' M, cls, d, rfl, fl, hok_plus hok ap atB, ⟨fun b o e n hb => ?_, ub.slot, fun b o e n => ?_, ub.there, fun b xs e => ?_, fun b o xs e => ?_, fun b ps e => ?_⟩, ?_, os, ag, hE cls d H' ap q⟩
  · exact ub.keep b o e (by rw [minus_none (tl.nn n)]; exact n) hb
  · rw [plus_none (tl.nn n)]
    exact ub.free b o e (by rw [minus_none (tl.nn n)]; exact n)
  · have z := tl.oth e fun _ z => nomatch z
    rw [plus_none z]; exact ub.tups b xs (by rw [minus_none z]; exact e)
  · have z := tl.oth e fun _ z => nomatch z
    rw [plus_none z]; exact ub.frzs b o xs (by rw [minus_none z]; exact e)
  · have z := tl.oth e fun _ z => nomatch z
    rw [plus_none z]; exact ub.tbls b ps (by rw [minus_none z]; exact e)
  · cases z : M a with
    | none => rw [plus_none z]; exact na
    | some o =>
      have e1 := atB a o z
      rw [fl.2.1] at e1; cases e1
end
/-! ### a function that is refused by a class -/
def Deed (P : Program) (w : World) (K : PySem.W.Frag) (mg : Str → Option Value) (base : Heap) (k : Nat) (c : Str) : Addr → Hp → Prop := fun f G => ∀ (A : Around) (outer : List PySem.Env) (s : Shared) (H : Hp) (Q : VK) (E : XK), Room k A → Env0 P w K mg base A outer s H → Same G H →
  (∀ Ca H', mg c = some (.ref Ca) → Same H H' → E (.ref Ca) none H') → PySem.W.FnAt f s.heap ∧ codeAny (model P w) A (.call (.ref f) ⟨[], []⟩) (CR (L2N.CX P w) outer P w H s Q E) s
/-- the context of a lambda's body -/
abbrev lEnv (W : LW) (c L f : Addr) : PySem.Env := PySem.W.envX W.q W.scope L f (.ref c) W.cl
def lcx (P : Program) (w : World) (K : PySem.W.Frag) (mg : Str → Option Value) (base : Heap) (N : List Str) (W : LW) (c f : Addr) (A : Around) (outer : List PySem.Env) (s : Shared) (H : Hp) (E : XK) : Cx where
  prog := P
  w := w
  K := K
  mg := mg
  base := base
  A := A.deeper (lEnv W c s.heap.objs.size f)
  N := N
  s_0 := s
  H_0 := H
  env := lEnv W c s.heap.objs.size f
  outer := outer
  stack := lEnv W c s.heap.objs.size f :: outer
  ex := []
  fn := fun _ => false
  calm := true
  pn := []
  xe := fun e s' => wpAny (model P w) (A.deeper (lEnv W c s.heap.objs.size f)) (leaving (lEnv W c s.heap.objs.size f) e) (fun _ s'' => L2N.CX P w outer H s E e s'') (fun e' s'' => L2N.CX P w outer H s E e' s'') s'
/-- what the text of the lambda says -/
structure LamT (W : LW) : Prop where
  kind : W.scope.kind = .function
  co : W.scope.isCoroutine = false
  gen : W.scope.isGenerator = false
  own : ∀ y ∈ W.scope.names, y.2 ≠ .local ∧ y.2 ≠ .cell
  inj : ∀ x y b, W.cl.lookup x = some b → W.cl.lookup y = some b → x = y
  has : ∀ y, W.scope.names.lookup y = some .free → ∃ b, W.cl.lookup y = some b
  bind : ∀ pm cv ctv : Value, bindArgs (PySem.W.kla_fn "<lambda>" W.q W.params W.body W.scope W.cl pm cv ctv) ⟨[], []⟩ = pure []
theorem picks {α β : Type} {Pr : Nat → α → β → Prop} (ρ : List (Option α)) (h : ∀ i a, ρ[i]? = some (some a) → ∃ v, Pr i a v) :
    ∃ σ : List (Option β), σ.length = ρ.length ∧ (∀ i a, ρ[i]? = some (some a) → ∃ v, σ[i]? = some (some v) ∧ Pr i a v) ∧ ∀ i v, σ[i]? = some (some v) → ∃ a, ρ[i]? = some (some a) ∧ Pr i a v := by
  classical
  let g : Nat → Option β := fun i => if q : ∃ a, ρ[i]? = some (some a) then some (h i q.choose q.choose_spec).choose else none
  have gl : ∀ i, i < ρ.length → ((List.range ρ.length).map g)[i]? = some (g i) := fun i hi => by
    rw [List.getElem?_map, List.getElem?_range hi]; rfl
  refine ⟨(List.range ρ.length).map g, by simp, fun i a e => ?_, fun i v e => ?_⟩
  · have hi := (List.getElem?_eq_some_iff.mp e).1
    have q : ∃ a, ρ[i]? = some (some a) := ⟨a, e⟩
    have ea : q.choose = a := (Option.some.inj (Option.some.inj (e.symm.trans q.choose_spec))).symm
    refine ⟨(h i q.choose q.choose_spec).choose, ?_, ?_⟩
    · rw [gl i hi]
      show some (g i) = _
      simp only [g, dif_pos q]
    · have z := (h i q.choose q.choose_spec).choose_spec
      have aux : ∀ a', a' = a → Pr i a' (h i q.choose q.choose_spec).choose → Pr i a (h i q.choose q.choose_spec).choose := fun a' e1 z => e1 ▸ z
      exact aux _ ea z
  · have hi : i < ρ.length := by
      have z := (List.getElem?_eq_some_iff.mp e).1
      simpa using z
    rw [gl i hi] at e
    have e : g i = some v := Option.some.inj e
    simp only [g] at e
    split at e
    · rename_i q
      refine ⟨q.choose, q.choose_spec, ?_⟩
      have z := (h i q.choose q.choose_spec).choose_spec
      rw [Option.some.inj e] at z
      exact z
    · cases e
section
variable {P : Program} {w : World} {K : PySem.W.Frag} {mg : Str → Option Value} {base : Heap} {N : List Str} {W : LW}
theorem lam_inv {A : Around} {outer : List PySem.Env} {s : Shared} {H : Hp} {E : XK} {f c : Addr} {σ : L2.St} {h₁ : Heap} {tk : Nat} (L : LamT W) (hd : A.handled = none) (e0 : Env0 P w K mg base A outer s H) (hl : σ.length = N.length)
    (cells : ∀ y b, W.cl.lookup y = some b → H b = none ∧ ∃ v, s.heap.IsCell b v) (slots : ∀ (i : Nat) (y : Str) (v : V), N[i]? = some y → σ[i]? = some (some v) → W.scope.names.lookup y = some .free → ∃ u b, RelV v u ∧ W.cl.lookup y = some b ∧ s.heap.IsCell b (some u))
    (hns : h₁.Ns s.heap.objs.size fun y => ([] : List (Str × Value)).reverse.lookup y) (kp : ∀ b o, s.heap.get? b = some o → h₁.get? b = some o) : Inv (lcx P w K mg base N W c f A outer s H E) [] σ H { s with heap := h₁, toks := tk } := by
  have noA : ∀ b : Addr, b ∉ (lcx P w K mg base N W c f A outer s H E).ex := fun b z => absurd (show b ∈ ([] : List Addr) from z) (by simp)
  have cellK : ∀ {b : Addr} {v : Option Value}, s.heap.IsCell b v → h₁.IsCell b v := fun ⟨o, ho, hd⟩ => ⟨o, kp _ _ ho, hd⟩
  have freeY : ∀ {y}, Vis W.scope y → W.scope.names.lookup y = some .free := fun {y} h => by
    rcases h with k | k | k
    · exact absurd rfl (L.own _ (PySem.mem_of_lookup k)).1
    · exact absurd rfl (L.own _ (PySem.mem_of_lookup k)).2
    · exact k
  refine ⟨⟨e0.mod, L.kind, rfl, rfl, Nat.le_refl _, L.inj, fun y hy => L.has y (freeY (.inr hy)), fun y b z _ => (by cases (show false = true from z)), fun _ => hd, Around.frames_deeper e0.frames, .inr ⟨rfl, rfl⟩, fun b z => absurd z (noA b), e0.bs, e0.bsz, fun b _ _ => noA b,
      fun b z => absurd z (noA b), e0.funs, e0.frf⟩,
    rfl, e0.bare, Un.kept kp, ⟨_, hns, fun i y v e1 e2 e3 => ?_⟩, fun y b e => ?_, e0.hok.fresh (Nat.le_refl _), fun y b e => (cells y b e).1, fun q hq => absurd (show q ∈ ([] : List (Addr × Obj)) ++ [] from hq) (by simp), e0.hok.kept kp, hl⟩
  · have fy := freeY e3
    obtain ⟨u, b, r, e4, z⟩ := slots i y v e1 e2 fy
    exact ⟨u, r, .inr ⟨.inr fy, b, e4, cellK z⟩⟩
  · obtain ⟨v, z⟩ := (cells y b e).2
    exact ⟨v, cellK z⟩
/-- a lambda whose body is refused by the class c -/
theorem lam_deed {k : Nat} {c : Str} (L : LamT W) {te : XK → TE} {de : (Str → Prop) → DE}
    (hbody : ∀ (f' c' : Addr) (A : Around) (outer : List PySem.Env) (s : Shared) (H : Hp) (E : XK) (C : FC) (ED : Str → Prop), Room k (A.deeper (lEnv W c' s.heap.objs.size f')) → EOk C mg ED E → PV (lcx P w K mg base N W c' f' A outer s H E) C W.body (te E) (de ED))
    {ρ : En} (hρ : de (fun x => x = c) ρ fun _ _ => False) (hlen : ρ.length = N.length) {G Gp : Hp} (sm : Same G Gp) (nt : NoTb G) {M : Ln} (tl : Told Gp M) (ap : Apart G M) (hcl : ∀ y b, W.cl.lookup y = some b → ∃ o v, M b = some o ∧ o.data = .cell v)
    (hs : ∀ (i : Nat) (y : Str) (s : S), N[i]? = some y → ρ[i]? = some (some s) → ∃ d v, s = .fz d ∧ Dat G d v ∧ (W.scope.names.lookup y = some .free → ∃ b o u, W.cl.lookup y = some b ∧ M b = some o ∧ o.data = .cell (some u) ∧ RelV v u))
    {f : Addr} (hf : lamP W f Gp) : Deed P w K mg base (k + 1) c f Gp := by
  obtain ⟨cc, hf1, hf2⟩ := hf
  intro A outer s H Q E hr e0 s0 hE
  have tlH : Told H M := fun b o e => s0 _ _ (tl b o e)
  have hfH := s0 _ _ hf1
  have hcH := s0 _ _ hf2
  obtain ⟨⟨pm, ctv, ho⟩, _, _⟩ := e0.hok f _ hfH
  obtain ⟨⟨oc, vs, t, r1, r2, r3⟩, _, _⟩ := e0.hok cc _ hcH
  refine ⟨⟨_, _, _, _, ho⟩, ?_⟩
  have e1 := env0_minus (M := M) e0 tlH
  have lim : s.heap.NoLimit := e0.mod.nolimit.keeps fun b o e => (e0.bs b o e).1
  -- the slots
  obtain ⟨σ, hσ, up, dn⟩ := picks (Pr := fun i s v => ∃ d, s = S.fz d ∧ Dat G d v ∧ ∀ y, N[i]? = some y → W.scope.names.lookup y = some .free → ∃ b o u, W.cl.lookup y = some b ∧ M b = some o ∧ o.data = .cell (some u) ∧ RelV v u) ρ fun i a e => by
    have hi : i < N.length := by
      have := (List.getElem?_eq_some_iff.mp e).1
      omega
    obtain ⟨d, v, e1, e2, e3⟩ := hs i N[i] a (List.getElem?_eq_getElem hi) e
    refine ⟨v, d, e1, e2, fun y ey => ?_⟩
    rw [List.getElem?_eq_getElem hi] at ey
    cases ey
    exact e3
  have nofr : ∀ b o, M b = some o → s.heap.get? b = some o ∧ b ∉ frs outer := fun b o e => ⟨exO_at e0.hok (tlH b o e), fun hb => by
    have z := e0.frf b hb
    rw [tlH b o e] at z; cases z⟩
  have cells : ∀ y b, W.cl.lookup y = some b → minusH H M b = none ∧ ∃ v, s.heap.IsCell b v := fun y b e => by
    obtain ⟨o, v, e1, e2⟩ := hcl y b e
    exact ⟨minus_some e1, v, o, (nofr b o e1).1, e2⟩
  have smG : Same G (minusH H M) := fun b u e => by rw [minus_none (ap.nn e)]; exact s0 _ _ (sm _ _ e)
  refine codeAny_mono (R := CR (L2N.CX P w) outer P w (minusH H M) s (fun _ _ => False) fun cls d H' => ∃ Ca, cls = .ref Ca ∧ d = none ∧ mg c = some (.ref Ca) ∧ Same (minusH H M) H') ?_ (fun r s' hq => ?_)
  · refine PySem.W.kla_callFunE hr.depth ho rfl L.co L.gen rfl ⟨cc, oc, vs, t, rfl, r1, r2, r3⟩ ?_
    rw [L.bind]
    refine wpAny_pure (wpAny_newFunctionEnv (fun y hy => (L.own y hy).2) (fun y hy => absurd hy (by simp)) (fun h₁ hns hsb => ⟨lim.fresh _ hsb, ?_⟩) L.kind)
    show codeAny _ _ (.expr W.body (lEnv W cc s.heap.objs.size f)) _ _
    have kp : ∀ b o, s.heap.get? b = some o → h₁.get? b = some o := fun b o e => hsb.extBut b o (Nat.ne_of_lt (Heap.lt_size e)) (Heap.get?_push_of_some _ e)
    have J := lam_inv (E := fun cls d H' => ∃ Ca, cls = .ref Ca ∧ d = none ∧ mg c = some (.ref Ca) ∧ Same (minusH H M) H') (f := f) (c := cc) (σ := σ) (N := N) (tk := s.toks + ([] : List (Str × Value)).length) L hr.hd e1 (hσ.trans hlen) cells (fun i y v e2 e3 e4 => by
      obtain ⟨a, _, d, _, _, h3⟩ := dn i v e3
      obtain ⟨b, o, u, z1, z2, z3, z4⟩ := h3 y e2 e4
      exact ⟨u, b, z4, z1, o, (nofr b o z2).1, z3⟩) hns kp
    have PVb := hbody f cc A outer s (minusH H M) (fun cls d H' => ∃ Ca, cls = .ref Ca ∧ d = none ∧ mg c = some (.ref Ca) ∧ Same (minusH H M) H') ⟨minusH H M, G, none, []⟩ (fun x => x = c) (hr.deeper _)
      (fun c' Ca H' z1 z2 z3 => ⟨Ca, rfl, rfl, by rw [← z1]; exact z2, fun p o e => z3 p o e fun z => nomatch z⟩)
    have R : Rep ⟨minusH H M, G, none, []⟩ G (minusH H M) σ ρ := by
      refine ⟨hσ.symm, smG, Same.refl G, fun _ _ e _ => e, fun _ _ e => .inl e, (fun _ z => nomatch z), fun i d e => ?_, fun i a e os => ?_, fun i j a a' p _ e os _ _ _ _ => ?_, nt, fun _ z => nomatch z⟩
      · obtain ⟨v, z1, d', z2, z3, _⟩ := up i _ e
        cases z2
        exact ⟨v, z1, z3⟩
      · obtain ⟨v, z1, d', z2, z3, _⟩ := up i _ e
        subst z2
        cases os
      · obtain ⟨v, z1, d', z2, z3, _⟩ := up i _ e
        subst z2
        cases os
    refine PySem.W.kla_codeExpr (wpAny_mono (PVb.pe.run [] _ σ (minusH H M) (fun _ _ => False) J (PVb.rf G _ σ ρ (fun _ _ => False) _ R hρ fun _ _ _ _ _ _ _ _ q => q)) (fun v s' hq => ?_) fun e s' hq => hq)
    obtain ⟨_, _, _, _, q⟩ := hq
    exact q.elim
  · cases r with
    | error e =>
      refine cx_plus tlH nofr (fun cls d H' _ ⟨Ca, z1, z2, z3, z4⟩ => ?_) hq
      subst z1 z2
      refine hE Ca _ z3 fun b u e => ?_
      cases zM : M b with
      | some o =>
        rw [tlH b o zM] at e
        cases e
        exact plus_some zM
      | none =>
        rw [plus_none zM]
        exact z4 b u ((minus_none zM).trans e)
    | ok fl =>
      cases fl with
      | ret u =>
        obtain ⟨_, _, _, _, _, _, _, q⟩ := hq
        exact q.elim
      | next => exact False.elim hq
      | brk => exact False.elim hq
      | cont => exact False.elim hq
end
end L3

namespace L3
open PySem PySem.Spec PyProof.Rows L2
open LamX (CodeO TabS Tabs ExtN TabB LamS)
mutual
theorem dat_plain {G G2 : Hp} (h : ∀ p o, G p = some o → Plain o → G2 p = some o) : ∀ (n : Nat) (d : D) (v : V), okD n d = true → Dat G d v → Dat G2 d v
  | _, .non, _, _, e => e
  | _, .bl _, _, _, e => e
  | _, .int _, _, _, e => e
  | _, .str _, _, _, e => e
  | n + 1, .lst ds, _, o, ⟨a, vs, h1, h2, h3⟩ => ⟨a, vs, h1, h _ _ h2 trivial, dats_plain h n ds vs (by simpa [okD] using o) h3⟩
  | n + 1, .tup ds, _, o, ⟨a, vs, h1, h2, h3⟩ => ⟨a, vs, h1, h _ _ h2 trivial, dats_plain h n ds vs (by simpa [okD] using o) h3⟩
  | 0, .lst _, _, o, _ => by simp [okD] at o
  | 0, .tup _, _, o, _ => by simp [okD] at o
  | _, .dct _ _, _, o, _ => by simp [okD] at o
  | _, .obj _, _, o, _ => by simp [okD] at o
theorem dats_plain {G G2 : Hp} (h : ∀ p o, G p = some o → Plain o → G2 p = some o) : ∀ (n : Nat) (ds : List D) (vs : List V), okDs n ds = true → Dats G ds vs → Dats G2 ds vs
  | _, [], _, _, e => e
  | n, d :: ds, _, o, ⟨v, r, h1, h2, h3⟩ => by
    simp only [okDs, Bool.and_eq_true] at o
    exact ⟨v, r, h1, dat_plain h n d v o.1 h2, dats_plain h n ds r o.2 h3⟩
end
/-- the cells of the running frame, as they stand -/
structure Loan (X : Cx) (σ : L2.St) (M : Ln) : Prop where
  fr : ∀ b o, M b = some o → ∃ y, X.env.cells.lookup y = some b
  all : ∀ y b, X.env.cells.lookup y = some b → ∃ o v, M b = some o ∧ o.data = .cell v
  at_ : ∀ (i : Nat) (y : Str) (v : V), X.N[i]? = some y → σ[i]? = some (some v) → (X.env.scope.names.lookup y = some .cell ∨ X.env.scope.names.lookup y = some .free) → ∃ b o u, X.env.cells.lookup y = some b ∧ M b = some o ∧ o.data = .cell (some u) ∧ RelV v u
  inj : ∀ x y b, X.env.cells.lookup x = some b → X.env.cells.lookup y = some b → x = y
  has : ∀ y, (X.env.scope.names.lookup y = some .cell ∨ X.env.scope.names.lookup y = some .free) → ∃ b, X.env.cells.lookup y = some b
  len : σ.length = X.N.length
def tLoan (X : Cx) (sp : Sp) (ta : TA) : TE := fun σ H Q => ta σ H fun vs H1 => ∀ M, Loan X σ M → Apart H1 M → sp vs (plusH H1 M) (fun v H' => Told H' M ∧ Q v (minusH H' M)) E0
section
variable {X : Cx} {C : FC}
theorem loan_of {pins : List (Addr × Obj)} {σ : L2.St} {H : Hp} {s : Shared} (I : Inv X pins σ H s) (hfn : ∀ y, X.fn y = true) : ∃ M : Ln, Loan X σ M ∧ Apart H M ∧ ∀ b o, M b = some o → s.heap.get? b = some o ∧ X.base.get? b = none ∧ b ∉ frs X.stack := by
  classical
  have is : ∀ {b o}, (fun b => if ∃ y, X.env.cells.lookup y = some b then s.heap.get? b else none : Ln) b = some o → (∃ y, X.env.cells.lookup y = some b) ∧ s.heap.get? b = some o := fun {b o} e => by
    have e : (if ∃ y, X.env.cells.lookup y = some b then s.heap.get? b else none) = some o := e
    split at e
    · rename_i h
      exact ⟨h, e⟩
    · cases e
  have cell : ∀ y b, X.env.cells.lookup y = some b → ∃ o v, (fun b => if ∃ y, X.env.cells.lookup y = some b then s.heap.get? b else none : Ln) b = some o ∧ o.data = .cell v := fun y b e => by
    obtain ⟨v, o, ho, hd⟩ := I.cell y b e
    exact ⟨o, v, (if_pos ⟨y, e⟩).trans ho, hd⟩
  refine ⟨fun b => if ∃ y, X.env.cells.lookup y = some b then s.heap.get? b else none, ⟨fun b o e => (is e).1, cell, fun i y v e1 e2 k => ?_, I.ok.inj, I.ok.has, I.len⟩, fun b o e => ?_, fun b o e => ?_⟩
  · obtain ⟨m, hn, hl⟩ := I.loc
    obtain ⟨u, r, q⟩ := hl i y v e1 e2 (k.elim (fun z => .inr (.inl z)) fun z => .inr (.inr z))
    rcases q with ⟨k', _⟩ | ⟨_, c, e3, o, ho, hd⟩
    · have k' : X.env.scope.names.lookup y = some .local := k'
      rcases k with k | k <;> rw [k] at k' <;> cases k'
    · exact ⟨c, o, u, e3, (if_pos ⟨y, e3⟩).trans ho, hd, r⟩
  · obtain ⟨y, e1⟩ := (is e).1
    exact I.freeC y b e1
  · obtain ⟨⟨y, e1⟩, e2⟩ := is e
    have ab := I.ok.cab y b (hfn y) e1
    refine ⟨e2, Heap.get?_none_of_le (Nat.le_trans I.ok.bsz ab), fun hb => ?_⟩
    rcases List.mem_cons.mp (I.stkSub b hb) with z | z
    · exact I.cne y b e1 z
    · obtain ⟨_, o', ho', _⟩ := I.ok.funs.mem z
      exact absurd (Nat.lt_of_lt_of_le (Heap.lt_size ho') ab) (Nat.lt_irrefl _)
theorem pe_loan {k : Nat} {f : Addr} {fd : FuncData} {ps : List Str} {sp : Sp} {x : Str} {p pos : Pos} {e : Expr} {es : List Expr} {ta : TA} (hfn : ∀ y, X.fn y = true) (F : FnOk X.prog X.w X.K X.mg X.base CX0 k f fd ps sp) (hr : Room k X.A) (hg : Gl X x) (hm : X.mg x = some (.ref f)) (hk : PySem.W.keepIn X.K (.ref f) = true) (hb : Binds X.K fd ps [])
    (ha : PA X (e :: es) ta) (hdb : (x == ("__debug__" : Str)) = false := by decide) (he : starEach (e :: es) X.env = (false, eval e X.env) :: starEach es X.env := by rfl) (hpl : (backTo pos (starEach es X.env)).any (·.1) = false := by rfl) :
    PE X (.Call (.Name x p) (e :: es) [] pos) (tLoan X sp ta) := by
  refine ⟨fun pins s σ H Q I h => ?_⟩
  refine wpAny_Call_Name_kw (ld_glob I hg hm ?_ hdb)
  refine PySem.W.callWith_K (h₀ := X.base) I.ok.mod.kin hk (thn (ha.run pos pins s σ H _ I h) fun us s1 ⟨vs, H1, I1, r, q⟩ => ⟨I1.kIn, ?_⟩) he hpl
  obtain ⟨M, L, ap, hM⟩ := loan_of I1 hfn
  have h2 := q M L ap
  have hl : us.length = ps.length := by rw [← r.length]; exact F.len _ _ _ _ h2
  have bd := hb s1 us I1.kIn (by rw [List.append_nil]; exact hl)
  rw [List.append_nil] at bd
  refine wpAny_call (codeAny_mono (F.run X.A X.stack s1 (plusH H1 M) ⟨us, []⟩ us vs _ E0 hr (env0_plus I1.env0 ap hM) bd r h2) fun r s' hq => ?_)
  cases r with
  | error e => exact False.elim hq
  | ok fl =>
    cases fl with
    | ret u => exact I1.after (ce_minus ap (fun b o e => ⟨(hM b o e).1, (hM b o e).2.2⟩) (fun v H' q => q) hq)
    | next => exact False.elim hq
    | brk => exact False.elim hq
    | cont => exact False.elim hq
/-! ### what the callee is told -/
def Turns (X : Cx) (C : FC) (ρ : En) (ds ds' : List D) : Prop := ∀ G H σ M, Rep C G H σ ρ → Loan X σ M → Apart H M → ∀ vs, Dats G ds vs → Dats (plusH G M) ds' vs
def Turn (X : Cx) (C : FC) (ρ : En) (d d' : D) : Prop := ∀ G H σ M, Rep C G H σ ρ → Loan X σ M → Apart H M → ∀ v, Dat G d v → Dat (plusH G M) d' v
theorem apG {G H : Hp} {σ : L2.St} {ρ : En} {M : Ln} (R : Rep C G H σ ρ) (ap : Apart H M) : Apart G M := fun b o e => R.sub.free (ap b o e)
theorem turn_same {ρ : En} {d : D} : Turn X C ρ d d := fun G H σ M R _ ap v h => Dat.mono (same_plus (apG R ap)) d v h
theorem turns_nil {ρ : En} : Turns X C ρ [] [] := fun G H σ M R _ ap v h => h
theorem turns_cons {ρ : En} {d d' : D} {ds ds' : List D} (h : Turn X C ρ d d') (t : Turns X C ρ ds ds') : Turns X C ρ (d :: ds) (d' :: ds') := fun G H σ M R L ap _ ⟨v, r, e, h1, h2⟩ => ⟨v, r, e, h G H σ M R L ap v h1, t G H σ M R L ap r h2⟩
theorem turn_lst {ρ : En} {ds ds' : List D} (t : Turns X C ρ ds ds') : Turn X C ρ (.lst ds) (.lst ds') := fun G H σ M R L ap _ ⟨a, vs, e, h1, h2⟩ => ⟨a, vs, e, same_plus (apG R ap) _ _ h1, t G H σ M R L ap vs h2⟩
theorem turns_app {ρ : En} : ∀ {ds ds' es es' : List D}, Turns X C ρ ds ds' → Turns X C ρ es es' → Turns X C ρ (ds ++ es) (ds' ++ es') := fun {ds ds' es es'} h t G H σ M R L ap vs hd => by
  have e : Dats G ds (vs.take ds.length) := by
    have z := hd.take ds.length
    rw [List.take_left] at z
    exact z
  have e2 : Dats G es (vs.drop ds.length) := by
    have z := hd.drop ds.length
    rw [List.drop_left] at z
    exact z
  rw [← List.take_append_drop ds.length vs]
  exact (h G H σ M R L ap _ e).append (t G H σ M R L ap _ e2)
/-- the slots that a lambda captured -/
def capD : List Bool → En → En
  | true :: bs, s :: ρ => s :: capD bs ρ
  | false :: bs, _ :: ρ => none :: capD bs ρ
  | _, _ => []
theorem capD_get : ∀ {bs : List Bool} {ρ : En} {i : Nat} {s : S}, (capD bs ρ)[i]? = some (some s) → bs[i]? = some true ∧ ρ[i]? = some (some s)
  | true :: bs, _ :: ρ, 0, s, h => ⟨rfl, h⟩
  | true :: bs, _ :: ρ, i + 1, s, h => capD_get (bs := bs) h
  | false :: bs, _ :: ρ, 0, s, h => by cases h
  | false :: bs, _ :: ρ, i + 1, s, h => capD_get (bs := bs) h
  | [], _, _, _, h => by simp [capD] at h
  | true :: _, [], _, _, h => by simp [capD] at h
  | false :: _, [], _, _, h => by simp [capD] at h
theorem capD_len : ∀ {bs : List Bool} {ρ : En}, bs.length = ρ.length → (capD bs ρ).length = ρ.length
  | [], [], _ => rfl
  | true :: bs, _ :: ρ, h => by simp only [List.length_cons, Nat.add_right_cancel_iff] at h; simp [capD, capD_len h]
  | false :: bs, _ :: ρ, h => by simp only [List.length_cons, Nat.add_right_cancel_iff] at h; simp [capD, capD_len h]
  | [], _ :: _, h => by cases h
  | true :: _, [], h => by cases h
  | false :: _, [], h => by cases h
def allFz : En → Prop
  | [] => True
  | some (.fz _) :: ρ => allFz ρ
  | none :: ρ => allFz ρ
  | _ :: _ => False
theorem allFz_get : ∀ {ρ : En} {i : Nat} {s : S}, allFz ρ → ρ[i]? = some (some s) → ∃ d, s = .fz d
  | some (.fz d) :: ρ, 0, s, _, e => by cases e; exact ⟨d, rfl⟩
  | some (.fz d) :: ρ, i + 1, s, h, e => allFz_get (ρ := ρ) h e
  | none :: ρ, 0, s, _, e => by cases e
  | none :: ρ, i + 1, s, h, e => allFz_get (ρ := ρ) h e
  | [], _, _, _, e => by simp at e
  | some (.ow _) :: _, _, _, h, _ => h.elim
  | some (.od _ _) :: _, _, _, h, _ => h.elim
  | some (.bg _) :: _, _, _, h, _ => h.elim
def capOk (bs : List Bool) (N : List Str) (scope : Scope) : Bool := decide (bs.length = N.length) && (bs.zip N).all fun p => !p.1 || decide (scope.names.lookup p.2 = some .free)
theorem capOk_get {bs : List Bool} {N : List Str} {scope : Scope} (h : capOk bs N scope = true) {i : Nat} {y : Str} (e1 : bs[i]? = some true) (e2 : N[i]? = some y) : scope.names.lookup y = some .free := by
  unfold capOk at h
  simp only [Bool.and_eq_true, List.all_eq_true] at h
  have e : (bs.zip N)[i]? = some (true, y) := by
    rw [List.getElem?_zip_eq_some]
    exact ⟨e1, e2⟩
  have z := h.2 (true, y) (List.mem_of_getElem? e)
  simpa using z
/-- a lambda of the running frame, to one who is told its cells: it is refused by the class c -/
theorem turn_lam {k : Nat} {c : Str} {params : Arguments} {body : Expr} {scope : Scope} (bs : List Bool) (L : LamX.lamSB X.env.scope scope = true) (cap : capOk bs X.N scope = true)
    (bind : ∀ (q : Str) (cl : List (Str × Addr)) (pm cv ctv : Value), bindArgs (PySem.W.kla_fn "<lambda>" q params body scope cl pm cv ctv) ⟨[], []⟩ = pure []) {te : XK → TE} {de : (Str → Prop) → DE}
    (hbody : ∀ (W : LW), W.scope = scope → W.body = body → ∀ (f' c' : Addr) (A : Around) (outer : List PySem.Env) (s : Shared) (H : Hp) (E : XK) (C : FC) (ED : Str → Prop), Room k (A.deeper (lEnv W c' s.heap.objs.size f')) → EOk C X.mg ED E →
      PV (lcx X.prog X.w X.K X.mg X.base X.N W c' f' A outer s H E) C body (te E) (de ED))
    {ρ : En} (hfz : allFz (capD bs ρ)) (hρ : de (fun x => x = c) (capD bs ρ) fun _ _ => False) :
    Turn X C ρ (.obj (lamP (LW.of X params body scope))) (.obj (Deed X.prog X.w X.K X.mg X.base (k + 1) c)) := fun G H σ M R Ln ap v ⟨f, e, hf⟩ => by
  have LS := LamX.lamS_by L
  have hfree : ∀ y ∈ scope.names, y.2 = .free → ∃ b, X.env.cells.lookup y.1 = some b := fun y hy ey => Ln.has y.1 (LS.free y hy ey)
  have lk : ∀ {y}, scope.names.lookup y = some .free → (y, NameKind.free) ∈ scope.names := fun {y} h => PySem.mem_of_lookup h
  have apg := apG R ap
  have hN : ρ.length = X.N.length := R.len.trans Ln.len
  have hbl : bs.length = X.N.length := by
    have := cap
    unfold capOk at this
    simp only [Bool.and_eq_true, decide_eq_true_eq] at this
    exact this.1
  have LT : LamT (LW.of X params body scope) := ⟨LS.kind, LS.co, LS.gen, LS.own, fun x y b e1 e2 => Ln.inj x y b (NdefX.clo_cm hfree e1) (NdefX.clo_cm hfree e2), fun y hy => by
    obtain ⟨b, hb⟩ := hfree _ (lk hy) rfl
    exact ⟨b, NdefX.clo_has hfree (lk hy) hb⟩, fun pm cv ctv => bind _ _ _ _ _⟩
  refine ⟨f, e, fun Gp sp => ?_⟩
  have s0 : Same G Gp := (same_plus apg).trans sp
  refine lam_deed (N := X.N) (G := G) (M := M) LT (te := te) (de := de) (fun f' c' A outer s H E C ED hr hE => hbody _ rfl rfl f' c' A outer s H E C ED hr hE) hρ ((capD_len (hbl.trans hN.symm)).trans hN) s0 R.nt (fun b o e => sp _ _ (plus_some e)) apg (fun y b e => ?_) (fun i y a e1 e2 => ?_) (hf Gp s0)
  · exact Ln.all y b (NdefX.clo_cm hfree e)
  · obtain ⟨d, rfl⟩ := allFz_get hfz e2
    obtain ⟨z1, z2⟩ := capD_get e2
    obtain ⟨v, hv, hd⟩ := R.fz i d z2
    refine ⟨d, v, rfl, hd, fun fy => ?_⟩
    obtain ⟨b, o, u, q1, q2, q3, q4⟩ := Ln.at_ i y v e1 hv (LS.free _ (lk fy) rfl)
    exact ⟨b, o, u, NdefX.clo_has hfree (lk fy) q1, q2, q3, q4⟩
/-- a call that is told the frame's cells -/
def xLoan (X : Cx) (C : FC) (n : Nat) (dp : DP) (a : DA) : DE := fun ρ Q => a ρ fun ds ρ1 => ∃ ds', Turns X C ρ1 ds ds' ∧ ds'.length = n ∧ dp ds' (fun s => (∃ d, s = .fz d ∧ okD 8 d = true) ∧ Q s ρ1) fun _ => False
theorem rf_loan {n : Nat} {dp : DP} {ta : TA} {a : DA} (ha : RfA C ta a) : Rf C (tLoan X (spD X.mg n dp) ta) (xLoan X C n dp a) := fun G H σ ρ QD Q R q k => by
  refine ha G H σ ρ _ _ R q fun vs ds G1 H1 ρ1 R1 s1 hd ⟨ds', ht, hl, q1⟩ => fun M L ap => ?_
  have apg := apG R1 ap
  refine ⟨plusH G1 M, ds', _, fun _ => False, fun b u e => ?_, fun b ps e => ?_, ht G1 H1 σ M R1 L ap vs hd, hl, q1, fun v s G' H' ⟨⟨d, es, okd⟩, q2⟩ P => ?_, fun _ _ _ h => h.elim⟩
  · cases z : M b with
    | some o => rw [plus_some z] at e ⊢; exact e
    | none => rw [plus_none z] at e ⊢; exact R1.sub b u e
  · cases z : M b with
    | some o =>
      rw [plus_some z] at e
      have e := Option.some.inj e
      unfold ExO at e
      cases e
    | none => rw [plus_none z] at e; exact R1.nt b ps e
  subst es
  have tl : Told H' M := fun b o e => P.h _ _ (plus_some e)
  have tg : ∀ b o, M b = some o → G' b = some (ExO b o) := fun b o e => P.g _ _ (plus_some e)
  refine ⟨tl, ?_⟩
  have sG : Same G1 (minusH G' M) := fun b u e => by
    have z := apg.nn e
    rw [minus_none z]; exact P.g _ _ ((plus_none z).trans e)
  have PP : Post G1 H1 (minusH G' M) (minusH H' M) (.fz d) v := by
    refine ⟨sG, fun b u e => ?_, fun b u e => ?_, fun b u e => ?_, ?_, fun b ps e => ?_⟩
    · have z := ap.nn e
      rw [minus_none z]; exact P.h _ _ ((plus_none z).trans e)
    · cases z : M b with
      | some o => rw [minus_some z] at e; cases e
      | none => rw [minus_none z] at e ⊢; exact P.sub _ _ e
    · cases z : M b with
      | some o => rw [minus_some z] at e; cases e
      | none =>
        rw [minus_none z] at e
        rcases P.new b u e with h | h
        · exact .inl ((plus_none z).symm.trans h)
        · exact .inr ((plus_none z).symm.trans h)
    · refine dat_plain (fun p o e pl => ?_) 8 d v okd P.ret
      cases z : M p with
      | none => rw [minus_none z]; exact e
      | some o2 =>
        rw [tg p o2 z] at e
        cases e
        exact pl.elim
    · cases z : M b with
      | some o => rw [minus_some z] at e; cases e
      | none => rw [minus_none z] at e; exact P.nt b ps e
  obtain ⟨R2, rv⟩ := R1.post PP
  exact k v (.fz d) _ _ ρ1 R2 (s1.trans sG) rv q2
theorem d_loan {k n : Nat} {dp : DP} {x : Str} {p pos : Pos} {e : Expr} {es : List Expr} {ta : TA} {a : DA} (F : Fn X.prog X.w X.K X.mg X.base x k n dp) (hr : Room k X.A) (ha : PAV X C (e :: es) ta a) (hfn : ∀ y, X.fn y = true := by intro _; rfl) (hg : Gl X x := by rfl)
    (hdb : (x == ("__debug__" : Str)) = false := by decide) (he : starEach (e :: es) X.env = (false, eval e X.env) :: starEach es X.env := by rfl) (hpl : (backTo pos (starEach es X.env)).any (·.1) = false := by rfl) :
    PV X C (.Call (.Name x p) (e :: es) [] pos) (tLoan X (spD X.mg n dp) ta) (xLoan X C n dp a) := by
  obtain ⟨f, fd, ps, hF, hm, hk, hb⟩ := F
  exact ⟨pe_loan hfn hF hr hg hm hk hb ha.pe hdb he hpl, rf_loan ha.rf⟩
end
end L3

namespace L3
open PySem PySem.Spec PyProof.Rows L2
open LamX (CodeO TabS Tabs ExtN TabB LamS)
/-! ### defs that make lambdas -/
/-- without the tables and the other things -/
def stripH (H : Hp) : Hp := fun b => match H b with
  | some (.tbl _) => none
  | some (.ext _) => none
  | o => o
theorem strip_of {H : Hp} {b : Addr} {o : HO} (e : stripH H b = some o) : H b = some o ∧ Plain o := by
  unfold stripH at e
  split at e
  · cases e
  · cases e
  · rename_i h1 h2
    refine ⟨e, ?_⟩
    cases o with
    | tbl ps => exact absurd e (h1 ps)
    | ext φ => exact absurd e (h2 φ)
    | _ => trivial
theorem strip_to {H : Hp} {b : Addr} {o : HO} (e : H b = some o) (pl : Plain o) : stripH H b = some o := by
  unfold stripH
  rw [e]
  cases o with
  | tbl ps => exact pl.elim
  | ext φ => exact pl.elim
  | _ => rfl
theorem strip_plain {H : Hp} : PlainH (stripH H) := fun _ _ e => (strip_of e).2
section
variable {C : FC} {G H G' H' : Hp} {σ : L2.St} {ρ : En} {s : S} {v : V}
theorem Rep.postT (R : Rep C G H σ ρ) (hC : PlainH C.H0) (P : Post G (stripH H) G' H' s v) (t : Tabs C.T H') : Rep C G' H' σ ρ ∧ RV C G' H' σ ρ s v := by
  have h0 : ∀ {p}, stripH H p = none → C.H0 p = none := fun {p} e => by
    cases z : C.H0 p with
    | none => rfl
    | some o =>
      by_cases hb : C.bag = some p
      · obtain ⟨_, _, vs, e1⟩ := R.bl p hb
        rw [strip_to e1 trivial] at e; cases e
      · rw [strip_to (R.keep p o z hb) (hC p o z)] at e; cases e
  have nG : ∀ {p o}, H p = some o → Plain o → G p = none → G' p = none := fun {p o} e pl g => by
    cases q : G' p with
    | none => rfl
    | some x =>
      rcases P.new p x q with h | h
      · rw [g] at h; cases h
      · rw [strip_to e pl] at h; cases h
  have apart : ∀ {p}, stripH H p = none → ∀ (j : Nat) (s' : S), ρ[j]? = some (some s') → s'.own = true → σ[j]? ≠ some (some (.ref p)) := fun {p} e j s' e1 os z => by
    obtain ⟨q, h1, h2, _⟩ := R.ow j s' e1 os
    rw [z] at h1; cases h1
    obtain ⟨o, ho, pl⟩ := plain_own h2
    rw [strip_to ho pl] at e; cases e
  have R2 : Rep C G' H' σ ρ := by
    refine ⟨R.len, P.sub, R.g0.trans P.g, fun p o e z => P.h _ _ (strip_to (R.keep p o e z) (hC p o e)), fun p o e => ?_, fun p e => ?_, fun i d e => ?_, fun i s e os => ?_, R.ap, P.nt, t⟩
    · rcases P.new p o e with h | h
      · exact R.new p o h
      · exact .inr (h0 h)
    · obtain ⟨a, b, vs, c⟩ := R.bl p e
      exact ⟨nG c trivial a, b, vs, P.h _ _ (strip_to c trivial)⟩
    · obtain ⟨v, h1, h2⟩ := R.fz i d e
      exact ⟨v, h1, Dat.mono P.g _ _ h2⟩
    · obtain ⟨p, h1, h2, h3, h4⟩ := R.ow i s e os
      obtain ⟨o, ho, pl⟩ := plain_own h2
      exact ⟨p, h1, h2.mono P.g ((P.h _ _ (strip_to ho pl)).trans ho.symm), nG ho pl h3, h4⟩
  refine ⟨R2, ?_⟩
  have rt := P.ret
  cases s with
  | fz d => exact rt
  | ow ds =>
    obtain ⟨p, rfl, h2, h3, h4, h5⟩ := rt
    exact ⟨p, rfl, h2, h3, h0 h4, h5, apart h4⟩
  | od ks ds =>
    obtain ⟨p, rfl, h2, h3, h4, h5⟩ := rt
    exact ⟨p, rfl, h2, h3, h0 h4, h5, apart h4⟩
  | bg ds =>
    obtain ⟨p, rfl, h2, h3, h4, h5⟩ := rt
    cases h5
end
def spT (T : List (Addr × Str)) (n : Nat) (dp : DP) : Sp := fun vs H Q _ => ∃ (G : Hp) (ds : List D) (QD : S → Prop), Same G H ∧ NoTb G ∧ Tabs T H ∧ Dats G ds vs ∧ ds.length = n ∧ dp ds QD (fun _ => False) ∧
  ∀ v s G' H', QD s → Post G (stripH H) G' H' s v → Tabs T H' → Q v H'
theorem spT_len {T : List (Addr × Str)} {n : Nat} {dp : DP} {ps : List Str} (h : ps.length = n) : ∀ vs H Q E, spT T n dp vs H Q E → vs.length = ps.length := fun vs H Q E ⟨G, ds, _, _, _, _, hd, hl, _⟩ => by
  rw [h, ← hl, hd.length]
def FnT (P : Program) (w : World) (K : PySem.W.Frag) (mg : Str → Option Value) (base : Heap) (T : List (Addr × Str)) (x : Str) (k n : Nat) (dp : DP) : Prop :=
  ∃ f fd ps, FnOk P w K mg base CX0 k f fd ps (spT T n dp) ∧ mg x = some (.ref f) ∧ PySem.W.keepIn K (.ref f) = true ∧ Binds K fd ps []
/-- a def whose code object is known -/
def DfT (K : PySem.W.Frag) (mg : Str → Option Value) (x : Str) (st : Stmt) (ps : List Str) (c : Addr) : Prop := ∃ (f : Addr) (oc : Value) (od : Option Addr) (kV doc pm : Value) (an : Option Addr) (ct : Value) (osl : Array (Option Value)),
  K.lookup f = some ⟨oc, od, .func (PySem.W.fnOf x x (defArgs st) (defBody st) (defScope st) .none kV doc pm an (.ref c) ct), osl⟩ ∧ PySem.W.codeIn K (.ref c) x = true ∧ PySem.W.keepIn K (.ref f) = true ∧ mg x = some (.ref f) ∧
  Binds K (PySem.W.fnOf x x (defArgs st) (defBody st) (defScope st) .none kV doc pm an (.ref c) ct) ps []
section
variable {X : Cx} {C : FC}
theorem rf_callT {T : List (Addr × Str)} {n : Nat} {dp : DP} {ta : TA} {a : DA} (hC : PlainH C.H0) (hT : C.T = T) (ha : RfA C ta a) : Rf C (tCall (spT T n dp) [] E0 ta) (xCall n dp (fun _ => False) a) := fun G H σ ρ QD Q R q k => by
  subst hT
  refine ha G H σ ρ _ _ R q fun vs ds G1 H1 ρ1 R1 s1 hd ⟨hl, q1⟩ => ?_
  rw [List.append_nil]
  refine ⟨G1, ds, _, R1.sub, R1.nt, R1.tab, hd, hl, q1, fun v s G' H' qs P t => ?_⟩
  obtain ⟨R2, rv⟩ := R1.postT hC P t
  exact k v s G' H' ρ1 R2 (s1.trans P.g) rv qs
theorem d_fnT {T : List (Addr × Str)} {k n : Nat} {dp : DP} {x : Str} {p pos : Pos} {e : Expr} {es : List Expr} {ta : TA} {a : DA} (hC : PlainH C.H0) (F : FnT X.prog X.w X.K X.mg X.base T x k n dp) (hr : Room k X.A) (ha : PAV X C (e :: es) ta a) (hT : C.T = T := by rfl) (hg : Gl X x := by rfl)
    (hdb : (x == ("__debug__" : Str)) = false := by decide) (he : starEach (e :: es) X.env = (false, eval e X.env) :: starEach es X.env := by rfl) (hpl : (backTo pos (starEach es X.env)).any (·.1) = false := by rfl) :
    PV X C (.Call (.Name x p) (e :: es) [] pos) (tCall (spT T n dp) [] E0 ta) (xCall n dp (fun _ => False) a) := by
  obtain ⟨f, fd, ps, hF, hm, hk, hb⟩ := F
  exact ⟨pe_call hF hr hg hm hk hb .nil pass0 ha.pe hdb he hpl, rf_callT hC hT ha.rf⟩
end
theorem rep_startT {T : List (Addr × Str)} {N : List Str} {G H : Hp} {vs : List V} {ds : List D} (sm : Same G H) (nt : NoTb G) (tb : Tabs T H) (hd : Dats G ds vs) (hn : ds.length ≤ N.length) : Rep ⟨stripH H, G, none, T⟩ G H (L2.start N vs) (ini N.length ds) := by
  have R := rep_start (N := N) sm nt hd hn
  refine ⟨R.len, R.sub, R.g0, fun p o e _ => (strip_of e).1, fun p o e => .inl e, fun p e => (by cases e), R.fz, fun i s e os => ?_, R.ap, nt, tb⟩
  obtain ⟨p, h1, h2, h3, h4⟩ := R.ow i s e os
  refine ⟨p, h1, h2, h3, ?_⟩
  rcases h4 with ⟨h4, h5⟩ | ⟨h4, _⟩
  · refine .inl ⟨?_, h5⟩
    show stripH H p = none
    unfold stripH
    rw [show H p = none from h4]
  · cases h4
theorem Rep.retT {T : List (Addr × Str)} {G0 H0 G H : Hp} {σ : L2.St} {ρ : En} {s : S} {v : V} (R : Rep ⟨stripH H0, G0, none, T⟩ G H σ ρ) (rv : RV ⟨stripH H0, G0, none, T⟩ G H σ ρ s v) : Post G0 (stripH H0) G H s v :=
  ⟨R.g0, fun p o e => R.keep p o e (fun z => nomatch z), R.sub, R.new, by
    cases s with
    | fz d => exact rv
    | ow ds => obtain ⟨p, rfl, h2, h3, h4, h5, _⟩ := rv; exact ⟨p, rfl, h2, h3, h4, h5⟩
    | od ks ds => obtain ⟨p, rfl, h2, h3, h4, h5, _⟩ := rv; exact ⟨p, rfl, h2, h3, h4, h5⟩
    | bg ds => obtain ⟨p, rfl, h2, h3, h4, h5, _⟩ := rv; exact ⟨p, rfl, h2, h3, h4, h5⟩, R.nt⟩
section
variable {P : Program} {w : World} {K : PySem.W.Frag} {mg : Str → Option Value} {base : Heap}
theorem fn_mkT {T : List (Addr × Str)} {c : Addr} {x : Str} {st : Stmt} {N ps : List Str} {k n : Nat} {dp : DP} (d : DfT K mg x st ps c) (Sc : FnScope N ps (defScope st)) (hps : ps.length = n) (hN : n ≤ N.length)
    (h : ∀ (f : Addr) (A : Around) (outer : List PySem.Env) (s : Shared) (H : Hp) (E : XK) (C : FC), PlainH C.H0 → C.T = T → Room k (A.deeper (envOfC x (defScope st) s.heap.objs.size f (.ref c))) →
      ∃ ts t, PSsV (cxOf CX0 P w K mg base N x (defScope st) f (.ref c) A outer s H E).nox C (defBody st) ts t ∧ ∀ ds QD, ds.length = n → dp ds QD (fun _ => False) → t { nx := fun _ => QD (.fz .non), rt := fun s _ => QD s } (ini N.length ds)) :
    FnT P w K mg base T x (k + 1) n dp := by
  obtain ⟨f, oc, od, kV, doc, pm, an, ct, osl, lk, hcd, hk, hm, hb⟩ := d
  refine ⟨f, _, ps, ?_, hm, hk, hb⟩
  refine fn_of lk hcd Sc (spT_len hps) fun A outer s H vs Q E hr ⟨G, ds, QD, sm, nt, tb, hd, hl, hdp, hq⟩ => ?_
  obtain ⟨ts, t, hbo, hrd⟩ := h f A outer s H E ⟨stripH H, G, none, T⟩ strip_plain rfl hr
  refine ⟨ts, hbo.pe.nox, hbo.rf G H _ _ _ _ (rep_startT (N := N) sm nt tb hd (by omega)) (hrd ds QD hl hdp) ⟨fun G' H' σ' ρ' R' s' q => ?_, fun _ _ _ _ _ _ q => q.elim, fun _ _ _ _ _ _ q => q.elim, fun v s G' H' σ' ρ' R' s' rv q => ?_⟩⟩
  · exact hq _ _ G' H' q (R'.retT (s := .fz .non) rfl) R'.tab
  · exact hq v s G' H' q (R'.retT rv) R'.tab
end
/-! ### statements that end in a return: what is told with the slots -/
abbrev TR := (V → L2.St → Hp → Prop) → L2.St → Hp → Prop
abbrev DR := (S → En → Prop) → En → Prop
structure PRV (X : Cx) (C : FC) (st : List Stmt) (t : TR) (td : DR) : Prop where
  run : ∀ (pins : List (Addr × Obj)) (s : Shared) (σ : L2.St) (H : Hp) (R : V → L2.St → Hp → Prop), Inv X pins σ H s → t R σ H → wpAny (model X.prog X.w) X.A (execs st X.env) (fun fl s' => ∃ u v σ' H', fl = .ret u ∧ Inv X pins σ' H' s' ∧ RelV v u ∧ R v σ' H') X.xe s
  rf : ∀ (G H : Hp) (σ : L2.St) (ρ : En) (RD : S → En → Prop) (R : V → L2.St → Hp → Prop), Rep C G H σ ρ → td RD ρ → (∀ v s G' H' σ' ρ', Rep C G' H' σ' ρ' → Same G G' → RV C G' H' σ' ρ' s v → RD s ρ' → R v σ' H') → t R σ H
section
variable {X : Cx} {C : FC}
theorem dr_ret {e : Expr} {te : TE} {t : DE} {pos : Pos} (h : PV X C e te t) : PRV X C [.Return (some e) pos] (fun R σ H => te σ H fun v H' => R v σ H') (fun RD ρ => t ρ RD) :=
  ⟨fun pins s σ H R I q => wpAny_execs_cons (thn (wpAny_Return_some (Q := fun f s1 => ∃ u v H', f = .ret u ∧ Inv X pins σ H' s1 ∧ RelV v u ∧ R v σ H') (thn (h.pe.run pins s σ H _ I q) fun u s1 ⟨v, H1, I1, r1, q1⟩ => ⟨u, v, H1, rfl, I1, r1, q1⟩)) fun f s1 ⟨u, v, H', e, I1, r1, q1⟩ => by
      subst e
      exact ⟨u, v, σ, H', rfl, I1, r1, q1⟩),
    fun G H σ ρ RD R rp q k => h.rf G H σ ρ _ _ rp q fun v s G' H' ρ' R' sm rv q' => k v s G' H' σ ρ' R' sm rv q'⟩
theorem dr_cons {st : Stmt} {rest : List Stmt} {ts : TS} {t : DS} {u : TR} {ud : DR} (h1 : PSV X C st ts t) (h2 : PRV X C rest u ud) : PRV X C (st :: rest) (fun R σ H => ts { nx := u R, rt := fun _ _ => False } σ H) (fun RD ρ => t { nx := ud RD, rt := fun _ _ => False } ρ) :=
  ⟨fun pins s σ H R I q => wpAny_execs_cons (thn (h1.pe.run pins s σ H _ I q) fun f s1 q1 => by
      cases f with
      | next =>
        obtain ⟨σ', H', I', q2⟩ := q1
        exact h2.run pins s1 σ' H' R I' q2
      | ret v => obtain ⟨_, _, _, _, _, z⟩ := q1; exact z.elim
      | brk => obtain ⟨_, _, _, z⟩ := q1; exact z.elim
      | cont => obtain ⟨_, _, _, z⟩ := q1; exact z.elim),
    fun G H σ ρ RD R rp q k => h1.rf G H σ ρ _ _ rp q ⟨fun G' H' σ' ρ' R' sm q' => h2.rf G' H' σ' ρ' RD R R' q' fun v s G2 H2 σ2 ρ2 R2 s2 rv q2 => k v s G2 H2 σ2 ρ2 R2 (sm.trans s2) rv q2, fun _ _ _ _ _ _ q => q.elim, fun _ _ _ _ _ _ q => q.elim, fun _ _ _ _ _ _ _ _ _ q => q.elim⟩⟩
end
section
variable {P : Program} {w : World} {K : PySem.W.Frag} {mg : Str → Option Value} {base : Heap}
/-- a def that hands back lambdas over its own cells: behind it the cells stand for good -/
theorem fn_mkL {T : List (Addr × Str)} {c : Addr} {x : Str} {st : Stmt} {N ps : List Str} {k n : Nat} {dp : DP} (d : DfT K mg x st ps c) (Sc : FnScope N ps (defScope st)) (hps : ps.length = n) (hN : n ≤ N.length)
    (h : ∀ (f : Addr) (A : Around) (outer : List PySem.Env) (s : Shared) (H : Hp) (C : FC), PlainH C.H0 → C.T = T → Room k (A.deeper (envOfC x (defScope st) s.heap.objs.size f (.ref c))) →
      ∃ t td, PRV (cxOf CX0 P w K mg base N x (defScope st) f (.ref c) A outer s H E0) C (defBody st) t td ∧ ∀ ds QD, ds.length = n → dp ds QD (fun _ => False) →
        td (fun s' ρ => ∃ es es', s' = .ow es ∧ Turns (cxOf CX0 P w K mg base N x (defScope st) f (.ref c) A outer s H E0) C ρ es es' ∧ QD (.ow es')) (ini N.length ds)) :
    FnT P w K mg base T x (k + 1) n dp := by
  obtain ⟨f, oc, od, kV, doc, pm, an, ct, osl, lk, hcd, hk, hm, hb⟩ := d
  refine ⟨f, _, ps, ⟨spT_len hps, fun A outer s H args us vs Q E hr e0 bd r hsp => ?_⟩, hm, hk, hb⟩
  have hl0 := spT_len (T := T) hps vs H Q E hsp
  obtain ⟨G, ds, QD, sm, nt, tb, hd, hl, hdp, hq⟩ := hsp
  have KX : K.In s.heap := e0.mod.kin.keeps fun b o e => (e0.bs b o e).1
  have lim : s.heap.NoLimit := e0.mod.nolimit.keeps fun b o e => (e0.bs b o e).1
  refine codeAny_call_function hr.depth (KX _ _ lk) rfl Sc.co Sc.gen rfl (PySem.W.codeRec_of KX hcd) (bd _ _ _ _ ?_)
  refine wpAny_newFunctionEnv_cells Sc.kind (fun y hy => ?_) fun env he s1 xx => ?_
  · rcases Sc.par y.1 (List.of_mem_zip (show (y.1, y.2) ∈ ps.zip us from hy)).1 with q | q
    · exact .inl q
    · exact .inr ⟨q, PySem.W.cellsFrom_some _ _ _ (.inl q)⟩
  subst he
  refine ⟨lim.keeps xx.toInCall.keep, codeAny_func ?_⟩
  obtain ⟨t, td, hP, hrd⟩ := h f A outer s H ⟨stripH H, G, none, T⟩ strip_plain rfl (hr.deeper _)
  have I := inv_start (CX := CX0) (P := P) (w := w) (E := E0) (f := f) (cd := .ref c) (qual := x) Sc hr.hd e0 hl0 r xx
  refine wpAny_mono (hP.run [] s1 (L2.start N vs) H (fun v σ' H' => ∃ G' ρ' es es', Rep ⟨stripH H, G, none, T⟩ G' H' σ' ρ' ∧ RV ⟨stripH H, G, none, T⟩ G' H' σ' ρ' (.ow es) v ∧
    Turns (cxOf CX0 P w K mg base N x (defScope st) f (.ref c) A outer s H E0) ⟨stripH H, G, none, T⟩ ρ' es es' ∧ QD (.ow es')) I (hP.rf G H _ _ _ _ (rep_startT (N := N) sm nt tb hd (by omega)) (hrd ds QD hl hdp) fun v s' G' H' σ' ρ' R' _ rv ⟨es, es', e1, e2, e3⟩ => ?_)) (fun fl s' hs => ?_) (fun e s' z => ?_)
  · subst e1
    exact ⟨G', ρ', es, es', R', rv, e2, e3⟩
  · obtain ⟨u, v, σ', H', rfl, J, rv, G', ρ', es, es', R', ⟨p, rfl, ⟨vs', hp, hdv⟩, gp, hp0, _, _⟩, ht, qd⟩ := hs
    obtain ⟨M, L, ap, hM⟩ := loan_of J fun _ => rfl
    have apg := apG R' ap
    have frM : ∀ b o, M b = some o → s.heap.get? b = none := fun b o e => by
      obtain ⟨y, ey⟩ := L.fr b o e
      exact Heap.get?_none_of_le (J.ok.cab y b rfl ey)
    have at_ : ∀ b o, M b = some o → s'.heap.get? b = some o := fun b o e => (hM b o e).1
    have sH : Same H' (plusH H' M) := same_plus ap
    have sG : Same G' (plusH G' M) := same_plus apg
    refine ⟨.ref p, plusH H' M, J.os, J.bare, ⟨J.base.keep, J.base.slot, fun b o e n hx => ?_, J.base.there, fun b xs e => sH _ _ (J.base.tups b xs e), fun b o xs e => sH _ _ (J.base.frzs b o xs e), fun b ps e => ?_⟩, hok_plus J.hok ap at_, rv, ?_⟩
    · cases z : M b with
      | some o2 =>
        have e : s.heap.get? b = some o := e
        rw [frM b o2 z] at e; cases e
      | none => rw [plus_none z]; exact J.base.free b o e n hx
    · obtain ⟨more, q⟩ := J.base.tbls b ps e
      exact ⟨more, sH _ _ q⟩
    refine hq (.ref p) (.ow es') (plusH G' M) (plusH H' M) qd ⟨R'.g0.trans sG, fun b o e => sH _ _ (R'.keep b o e fun z => nomatch z), fun b u e => ?_, fun b u e => ?_, ⟨p, rfl, ⟨vs', sH _ _ hp, ht G' H' σ' M R' L ap vs' hdv⟩, ?_, hp0, rfl⟩, fun b qs e => ?_⟩ (R'.tab.ext sH)
    · cases z : M b with
      | some o => rw [plus_some z] at e ⊢; exact e
      | none => rw [plus_none z] at e ⊢; exact R'.sub b u e
    · cases z : M b with
      | some o =>
        refine .inr ?_
        have hn : H b = none := e0.hok.gone (frM b o z)
        show stripH H b = none
        unfold stripH
        rw [hn]
      | none => rw [plus_none z] at e; exact R'.new b u e
    · rw [plus_none (ap.nn hp)]; exact gp
    · cases z : M b with
      | some o =>
        rw [plus_some z] at e
        have e := Option.some.inj e
        unfold ExO at e
        cases e
      | none => rw [plus_none z] at e; exact R'.nt b qs e
  · exact z
end
end L3

/-! a list comprehension over zip where an exception is being handled -/
namespace L3
open PySem PySem.Spec PyProof.Rows L2 HotX
section
variable {prog : Program} {w : World} {A : Around} {E : Value → Shared → Prop} {s : Shared}
theorem list_out_hot {it l x1 : Addr} {i : Nat} {items : Array Value} {Q : Value → Shared → Prop} (hot : HotAt A x1 s.heap) (ne : x1 ≠ it) (hit : s.heap.IsListIter it l i) (hl : s.heap.IsList l items) (out : items[i]? = none)
    (hE : ∀ h' e, Heap.ExtBut it s.heap h' → (∃ o, h'.get? e = some o ∧ o.cls = .type "StopIteration") → E (.ref e) { s with heap := h' }) : wpAny (model prog w) A (Builtin.SmallTypes.nextOf (.ref it)) Q E s := by
  obtain ⟨oi, hoi, _, di⟩ := id hit
  obtain ⟨ol, hol, _, _, dl⟩ := hl
  obtain ⟨hA, ox, vx, g1, g2, g3⟩ := hot
  unfold Builtin.SmallTypes.nextOf
  refine wpAny_bind (wpAny_callSpecial?_slot (name := Str.ofString "__next__") hit.typeIs slot_listiter_next (wpAny_call_entry slot_listiter_next hit.typeIs entry_listiter_next ?_ (args_listiter_next _)))
  show wpAny _ _ (field (.ref it) 0 >>= _) _ _ s
  refine wpAny_bind (wpAny_field hoi di (x := .ref l) rfl ?_)
  show wpAny _ _ (if (Value.ref l == Value.none) = true then _ else _) _ _ s
  rw [if_neg (show ¬ ((Value.ref l == Value.none) = true) from Bool.false_ne_true)]
  show wpAny _ _ (field (.ref it) 1 >>= _) _ _ s
  refine wpAny_bind (wpAny_field hoi di (x := .int i 0) rfl ?_)
  show wpAny _ _ (seqItems? (.ref l) >>= _) _ _ s
  refine wpAny_bind (wpAny_seqItems hol dl ?_)
  simp only [Int.toNat_natCast, out]
  refine wpAny_bind (wpAny_rule (wpAny_bind (wpAny_setField hoi di (by simp) ?_)))
  show wpAny _ _ (newExc (.type "StopIteration") [] >>= _) _ _ _
  refine wpAny_bind ?_
  simp only [newExc, newTuple]
  refine wpAny_bind (wpAny_newObj_type ?_ (by size_fits))
  refine wpAny_bind (m := firstArgMember _ _) (wpAny_of_eq (a := Value.none) (by first | rfl | (simp only [firstArgMember]; rfl)) ?_)
  refine wpAny_newObj_type ?_ (by size_fits)
  have up1 := (Heap.get?_update_other s.heap (Obj.mapFields (·.setIfInBounds 0 Value.none)) (Ne.symm ne)).trans g1
  have b1 := (Heap.SameBut.update (a := it) (h := s.heap) (f := Obj.mapFields (·.setIfInBounds 0 Value.none))).extBut
  refine raiseNew_hot ⟨hA, ox, vx, Heap.get?_push_of_some _ (Heap.get?_push_of_some _ up1), g2, g3⟩ (Nat.ne_of_lt (Heap.lt_size (Heap.get?_push_of_some _ up1))) (Heap.get?_push_size _ rfl) rfl (by first | (simp; done) | (simp; omega) | (simp only [Array.size_append]; simp; omega)) ?_
  refine hE _ _ (fun b o hb e => ?_) ⟨_, Heap.get?_update_self _ (Heap.get?_push_size _ rfl) rfl, rfl⟩
  rw [Heap.get?_update_other _ _ (Nat.ne_of_gt (Heap.lt_size (Heap.get?_push_of_some _ (b1 b o hb e))))]
  exact Heap.get?_push_of_some _ (Heap.get?_push_of_some _ (b1 b o hb e))
/-- both lists end together -/
theorem zip_out_hot {z TI TO i1 i2 l1 l2 x1 : Addr} {k : Nat} {xs : Array Value} {Q : Option Value → Shared → Prop} (hot : HotAt A x1 s.heap) (nz : x1 ≠ z) (n1 : x1 ≠ i1) (D : ZipApart z TI TO i1 i2 l1 l2)
    (hz : IsZip s.heap z TI TO .none) (hTI : IsPair s.heap TI (.ref i1) (.ref i2)) (h1 : s.heap.IsListIter i1 l1 k) (hl1 : s.heap.IsList l1 xs) (out : xs[k]? = none)
    (hQ : ∀ h', (∀ c o, c ≠ z → c ≠ i1 → s.heap.get? c = some o → h'.get? c = some o) → Q none { s with heap := h' }) : wpAny (model prog w) A (pyNext (.ref z)) Q E s := by
  have hT : s.TypeIs (.ref z) "zip" := ⟨_, hz, rfl⟩
  obtain ⟨hA, ox, vx, g1, g2, g3⟩ := hot
  unfold pyNext
  refine wpAny_bind (wpAny_attempt (wpAny_callSpecial?_slot (name := Str.ofString "__next__") hT F.slot_zip_next (wpAny_call_entry F.slot_zip_next hT F.entry_zip_next ?_ (F.args_zip_next_1 _))))
  show wpAny _ _ (field (.ref z) 2 >>= _) _ _ _
  refine wpAny_bind (wpAny_field hz rfl (x := .bool false) rfl ?_)
  show wpAny _ _ (field (.ref z) 3 >>= _) _ _ _
  refine wpAny_bind (wpAny_field hz rfl (x := .ref TI) rfl ?_)
  refine wpAny_bind (wpAny_seqItems hTI rfl ?_)
  show wpAny _ _ (Builtin.SmallTypes.ownedTupleIsFree (.ref z) >>= _) _ _ _
  refine wpAny_bind ?_
  unfold Builtin.SmallTypes.ownedTupleIsFree
  refine wpAny_bind (wpAny_field hz rfl (x := .none) rfl (wpAny_pure ?_))
  simp only [if_true]
  refine wpAny_bind (wpAny_rule ?_)
  show wpAny _ _ (field (.ref z) 4 >>= _) _ _ _
  refine wpAny_bind (wpAny_field hz rfl (x := .ref TO) rfl ?_)
  refine wpAny_bind (wpAny_setField_rec hz (by simp) fun ha za sa => ?_)
  have za : IsZip ha z TI TO .ellipsis := za
  refine wpAny_bind ?_
  simp only [List.zipIdx_cons, List.zipIdx_nil, List.forIn_cons, List.forIn_nil]
  refine wpAny_bind (wpAny_bind (wpAny_onRaise ?_))
  show wpAny _ _ (Builtin.SmallTypes.nextOf (.ref i1) >>= _) _ _ _
  refine wpAny_bind (list_out_hot ⟨hA, ox, vx, sa.extBut _ _ nz g1, g2, g3⟩ n1 (h1.extBut sa.extBut D.i1z) (hl1.extBut sa.extBut D.l1z) out fun hb e sb ⟨oe, he, ce⟩ => ?_)
  have zb : IsZip hb z TI TO .ellipsis := sb _ _ D.i1z.symm za
  have nez : e ≠ z := fun q => by
    subst q
    rw [zb] at he
    cases he
    simp at ce
  refine wpAny_setField_rec zb (by simp) fun hc _ sc => ?_
  refine wpAny_bind (wpAny_isInstance (T := "StopIteration") (b := true) ⟨oe, sc.extBut _ _ nez he, ce⟩ isSubtype_stop (wpAny_pure (hQ _ fun c o c1 c2 q => ?_)))
  exact sc.extBut _ _ c1 (sb _ _ c2 (sa.extBut _ _ c1 q))
end

/-! ### a tuple taken apart there -/
/-- the exception that is handled: its object, its context is None -/
abbrev Hot1P (A : Around) (p : Addr × Obj) : Prop := A.handled = some (.ref p.1) ∧ ∃ vs : Array Value, p.2.data = .fields vs ∧ vs[2]? = some .none
section
variable {prog : Program} {w : World} {A : Around} {E : Value → Shared → Prop} {s : Shared}
theorem tup_out_hot {it l x1 : Addr} {i : Nat} {items : Array Value} {Q : Option Value → Shared → Prop} (hot : HotAt A x1 s.heap) (ne : x1 ≠ it) (hit : IsTupIter s.heap it l i) (hl : IsTup s.heap l items) (out : items[i]? = none)
    (hQ : ∀ h', Heap.ExtBut it s.heap h' → Q none { s with heap := h' }) : wpAny (model prog w) A (pyNext (.ref it)) Q E s := by
  obtain ⟨oi, hoi, _, di⟩ := id hit
  obtain ⟨ol, hol, _, _, dl⟩ := hl
  obtain ⟨hA, ox, vx, g1, g2, g3⟩ := hot
  unfold pyNext
  refine wpAny_bind (wpAny_attempt (wpAny_callSpecial?_slot (name := Str.ofString "__next__") hit.typeIs slot_tupleiter_next (wpAny_call_entry slot_tupleiter_next hit.typeIs entry_tupleiter_next ?_ (args_tupleiter_next _))))
  show wpAny _ _ (field (.ref it) 0 >>= _) _ _ s
  refine wpAny_bind (wpAny_field hoi di (x := .ref l) rfl ?_)
  show wpAny _ _ (if (Value.ref l == Value.none) = true then _ else _) _ _ s
  rw [if_neg (show ¬ ((Value.ref l == Value.none) = true) from Bool.false_ne_true)]
  show wpAny _ _ (field (.ref it) 1 >>= _) _ _ s
  refine wpAny_bind (wpAny_field hoi di (x := .int i 0) rfl ?_)
  show wpAny _ _ (seqItems? (.ref l) >>= _) _ _ s
  refine wpAny_bind (wpAny_seqItems hol dl ?_)
  simp only [Int.toNat_natCast, out]
  refine wpAny_bind (wpAny_rule (wpAny_bind (wpAny_setField hoi di (by simp) ?_)))
  show wpAny _ _ (newExc (.type "StopIteration") [] >>= _) _ _ _
  refine wpAny_bind ?_
  simp only [newExc, newTuple]
  refine wpAny_bind (wpAny_newObj_type ?_ (by size_fits))
  refine wpAny_bind (m := firstArgMember _ _) (wpAny_of_eq (a := Value.none) (by first | rfl | (simp only [firstArgMember]; rfl)) ?_)
  refine wpAny_newObj_type ?_ (by size_fits)
  have up1 := (Heap.get?_update_other s.heap (Obj.mapFields (·.setIfInBounds 0 Value.none)) (Ne.symm ne)).trans g1
  have b1 := (Heap.SameBut.update (a := it) (h := s.heap) (f := Obj.mapFields (·.setIfInBounds 0 Value.none))).extBut
  refine raiseNew_hot ⟨hA, ox, vx, Heap.get?_push_of_some _ (Heap.get?_push_of_some _ up1), g2, g3⟩ (Nat.ne_of_lt (Heap.lt_size (Heap.get?_push_of_some _ up1))) (Heap.get?_push_size _ rfl) rfl (by first | (simp; done) | (simp; omega) | (simp only [Array.size_append]; simp; omega)) ?_
  refine wpAny_bind (wpAny_isInstance (T := "StopIteration") (b := true) ⟨_, Heap.get?_update_self _ (Heap.get?_push_size _ rfl) rfl, rfl⟩ isSubtype_stop (wpAny_pure (hQ _ fun b o hb e => ?_)))
  rw [Heap.get?_update_other _ _ (Nat.ne_of_gt (Heap.lt_size (Heap.get?_push_of_some _ (b1 b o hb e))))]
  exact Heap.get?_push_of_some _ (Heap.get?_push_of_some _ (b1 b o hb e))
theorem apart_hot {l x1 : Addr} {items : Array Value} {targets : List (Bool × (Value → Sem Unit))} {Q : Unit → Shared → Prop} (hot : HotAt A x1 s.heap) (hl : IsTup s.heap l items) (hn : targets.length = items.size) (hstar : targets.findIdx? (·.1) = none)
    (h : ∀ h', Heap.ExtBut s.heap.objs.size s.heap h' → wpAny (model prog w) A (assignInOrder (targets.map (·.2)) items.toList) Q E { s with heap := h' }) : wpAny (model prog w) A (unpack (.ref l) targets) Q E s := by
  have nl : l ≠ s.heap.objs.size := by
    obtain ⟨o, ho, _⟩ := hl
    exact Nat.ne_of_lt (Heap.lt_size ho)
  obtain ⟨hA, ox, vx, g1, g2, g3⟩ := hot
  unfold unpack
  rw [hn, hstar]
  refine wpAny_bind (wpAny_holding ?_)
  unfold unpackItems
  refine wpAny_bind ?_
  unfold notIterableAtAll
  refine wpAny_bind (wpAny_specialOf hl.typeIs slot_tuple_iter.lookup (wpAny_pure ?_))
  simp only [Bool.false_eq_true, if_false]
  refine wpAny_bind (wpAny_holding (iter_tuple hl ?_))
  refine wpAny_bind (wpAny_holding (draw_tuple nl items.size 0 _ _ ⟨_, Heap.get?_push_size _ rfl, rfl, rfl⟩ (hl.push _) (by omega) fun h1 it1 sb => ?_))
  rw [show List.take items.size (List.drop 0 items.toList) = items.toList by
    rw [List.drop_zero]
    exact List.take_of_length_le (by simp), if_neg (by simp)]
  refine wpAny_bind (wpAny_holding (tup_out_hot (x1 := x1) ⟨hA, ox, vx, sb.extBut _ _ (Nat.ne_of_lt (Heap.lt_size g1)) (Heap.get?_push_of_some _ g1), g2, g3⟩ (Nat.ne_of_lt (Heap.lt_size g1)) it1 ((hl.push _).extBut sb.extBut nl) (by simp) fun h2 he2 => ?_))
  simp only [Option.isSome_none, Bool.false_eq_true, if_false]
  exact wpAny_pure (h h2 fun b o hb e => he2 b o hb (sb.extBut b o hb (Heap.get?_push_of_some _ e)))
end
section
variable {X : Cx} {C : FC}
/-- the handled exception, seen from the start of a block -/
def PHot (st : List PySem.Env) (p0 : Addr × Obj) (s : Shared) (H : Hp) (fp : List Addr) : Prop := s.heap.get? p0.1 = some p0.2 ∧ H p0.1 = none ∧ p0.1 ∉ frs st ∧ p0.1 ∉ fp
theorem pg_tupH {p0 : Addr × Obj} {es : List Expr} {k : Nat} {t : TGs} {n : Nat} {pos : Pos} (hot : Hot1P X.A p0) (g0 : X.s_0.heap.get? p0.1 = some p0.2) (n0 : X.H_0 p0.1 = none) (nf : p0.1 ∉ X.fs) (nx : p0.1 ∉ X.ex) (h : PGs X es t)
    (hn : (assignEach es X.env).length = n := by rfl) (hst : (assignEach es X.env).findIdx? (·.1) = none := by rfl) : PG X (.Tuple es k pos) (gTup X.K n t) := by
  refine ⟨fun pins s σ H v u Q I r ⟨a, xs, e1, hq, hl, hw⟩ => ?_⟩
  subst e1
  cases r
  obtain ⟨its, rv, ht, _⟩ := I.tuple hq
  obtain ⟨z1, vs, z2, z3⟩ := hot
  rw [assign_Tuple]
  refine wpAny_bind (wpAny_standAt (apart_hot (x1 := p0.1) ⟨z1, p0.2, vs, I.base.keep p0.1 p0.2 g0 n0 nf nx, z2, z3⟩ ht (by simp [hn, ← hl, rv.length]) hst fun h' hx => ?_))
  exact h.run pins _ σ H xs _ Q (I.kept (t' := s.toks) fun b o e => hx b o (Nat.ne_of_lt (Heap.lt_size e)) e) (by simpa using rv) hw
theorem dg_tupH {p0 : Addr × Obj} (K : PySem.W.Frag) {es : List Expr} {k : Nat} {g : TGs} {gd : DGs} {n : Nat} {is : List Nat} {pos : Pos} (hot : Hot1P X.A p0) (g0 : X.s_0.heap.get? p0.1 = some p0.2) (n0 : X.H_0 p0.1 = none) (nf : p0.1 ∉ X.fs) (nx : p0.1 ∉ X.ex) (h : PGsV X C es g gd is)
    (hn : (assignEach es X.env).length = n := by rfl) (hst : (assignEach es X.env).findIdx? (·.1) = none := by rfl) (hK : X.K = K := by rfl) : PGV X C (.Tuple es k pos) (gTup K n g) (xGTup n gd) is := by
  subst hK
  refine ⟨pg_tupH hot g0 n0 nf nx h.pe hn hst, fun G H σ ρ v d QD Q R hd q kk => ?_⟩
  unfold xGTup at q
  split at q
  · rename_i ds
    obtain ⟨a, vs, rfl, h1, h2⟩ := hd
    exact ⟨a, vs, rfl, SqT.of (R.sub _ _ h1), by rw [← h2.length]; exact q.1, h.rf G H σ ρ vs ds QD Q R h2 q.2 kk⟩
  · exact q.elim
end
/-! ### the loop's state -/
/-- both lists end with the first -/
def ItzH (K : PySem.W.Frag) (a b : Addr) : It := { Itz K a b with stop := fun i H => ∃ xs ys : List V, SqL K H a xs ∧ SqL K H b ys ∧ xs.length ≤ i }
abbrev Zst (a b z TI TO i1 i2 : Addr) : Nat → Heap → Prop := fun i h => IsZip h z TI TO .none ∧ IsPair h TI (.ref i1) (.ref i2) ∧ (∃ x y, IsPair h TO x y) ∧ h.IsListIter i1 a i ∧ h.IsListIter i2 b i
section
variable {X : Cx} {pins : List (Addr × Obj)} {σ : L2.St} {H : Hp} {s : Shared}
theorem zip_step {E : Value → Shared → Prop} {elts : List Expr} {kk i : Nat} {tpos : Pos} {a b z TI TO i1 i2 : Addr} (D : ZipApart z TI TO i1 i2 a b) (I : Inv X pins σ H s) (hf : ∀ c ∈ [z, TI, TO, i1, i2], FpOk X pins H c) (st : Zst a b z TI TO i1 i2 i s.heap) (go : (ItzH X.K a b).go i H) :
    wpAny (model X.prog X.w) X.A (pyNext (.ref z)) (fun r s1 => ∃ u, r = some u ∧ wpAny (model X.prog X.w) X.A (letOwnedTupleGo (.Tuple elts kk tpos) (.ref z) u) (fun _ s2 => ∃ x H', Inv X pins σ H' s2 ∧ RelV x u ∧ (ItzH X.K a b).yld i H x H' ∧ Zst a b z TI TO i1 i2 (i + 1) s2.heap ∧ ∀ c ∈ [z, TI, TO, i1, i2], H' c = none) E s1) E s := by
  obtain ⟨hz, hTI, ⟨_, _, hTO⟩, h1, h2⟩ := st
  obtain ⟨xs, ys, x, y, qx, qy, ex, ey⟩ := go
  obtain ⟨us, ru, p, _⟩ := I.list qx
  obtain ⟨ws, rw', p2, _⟩ := I.list qy
  obtain ⟨u, eu, r1⟩ := ru.get ex
  obtain ⟨v, ev, r2⟩ := rw'.get ey
  have lz := Heap.lt_size hz
  have lts : ∀ c ∈ [z, TI, TO, i1, i2], c < s.heap.objs.size := fun c hc => by
    obtain ⟨_, e1, _⟩ := id h1
    obtain ⟨_, e2, _⟩ := id h2
    simp only [List.mem_cons, List.not_mem_nil, or_false] at hc
    rcases hc with rfl | rfl | rfl | rfl | rfl
    · exact lz
    · exact Heap.lt_size hTI
    · exact Heap.lt_size hTO
    · exact Heap.lt_size e1
    · exact Heap.lt_size e2
  refine wpAny_pyNext_zip_item D hz hTI hTO h1 h2 p.isList p2.isList (x := u) (y := v) (by simpa using eu) (by simpa using ev) fun ha za Ta h1a h2a pa _ ka => ⟨_, rfl, wpAny_letOwnedTupleGo_zip (s := { s with heap := ha }) za fun hb zb sb => ?_⟩
  have kb : ∀ c o, c ∉ [z, TI, TO, i1, i2] → s.heap.get? c = some o → hb.get? c = some o := fun c o hc e => by
    simp only [List.mem_cons, List.not_mem_nil, or_false, not_or] at hc
    exact (sb.2 c hc.1).trans (ka c o hc.1 hc.2.2.1 hc.2.2.2.1 hc.2.2.2.2 e)
  have new : ObjOk X.prog X.w (upd H s.heap.objs.size (.tup [x, y])) hb s.heap.objs.size (.tup [x, y]) := ⟨by show 2 ≤ sizeLine; decide, [u, v], .cons r1 (.cons r2 .nil), _, (sb.2 _ (Nat.ne_of_gt lz)).trans pa, rfl, _, rfl⟩
  refine ⟨.ref s.heap.objs.size, _, I.turnedNew (t' := s.toks) kb hf (Nat.le_refl _) new, rfl, ⟨_, x, y, rfl, I.hok.fresh (Nat.le_refl _), rfl, fun l hl => by rw [I.list_inj hl qx]; exact ex, fun l hl => by rw [I.list_inj hl qy]; exact ey⟩, ⟨zb, ?_, ⟨u, v, ?_⟩, ?_, ?_⟩, fun c hc => ?_⟩
  · exact (sb.2 _ D.TIz).trans (ka _ _ D.TIz D.TITO D.TIi1 D.TIi2 hTI)
  · exact (sb.2 _ D.TOz).trans Ta
  · exact h1a.at fun o q => (sb.2 _ D.i1z).trans q
  · exact h2a.at fun o q => (sb.2 _ D.i2z).trans q
  · rw [upd_ne (Nat.ne_of_lt (lts c hc))]
    exact (hf c hc).1
theorem zip_done {E : Value → Shared → Prop} {i : Nat} {a b z TI TO i1 i2 x1 : Addr} (D : ZipApart z TI TO i1 i2 a b) (hot : HotAt X.A x1 s.heap) (nx : x1 ∉ [z, TI, TO, i1, i2]) (I : Inv X pins σ H s) (hf : ∀ c ∈ [z, TI, TO, i1, i2], FpOk X pins H c) (st : Zst a b z TI TO i1 i2 i s.heap) (stop : (ItzH X.K a b).stop i H) :
    wpAny (model X.prog X.w) X.A (pyNext (.ref z)) (fun r s1 => r = none ∧ Inv X pins σ H s1) E s := by
  obtain ⟨hz, hTI, _, h1, _⟩ := st
  obtain ⟨xs, ys, qx, _, he⟩ := stop
  obtain ⟨us, ru, p, _⟩ := I.list qx
  have l1 := ru.length
  simp only [List.mem_cons, List.not_mem_nil, or_false, not_or] at nx
  refine zip_out_hot hot nx.1 nx.2.2.2.1 D hz hTI h1 p.isList (by simp; omega) fun h' k => ⟨rfl, I.turnedL (t' := s.toks) (fun c o hc q => ?_) hf⟩
  simp only [List.mem_cons, List.not_mem_nil, or_false, not_or] at hc
  exact k c o hc.1 hc.2.2.2.1 q
end
def iZipH (K : PySem.W.Frag) (ta : TA) : TI := fun σ H R => ta σ H fun vs H1 => ∃ a b xs ys, vs = [.ref a, .ref b] ∧ SqL K H1 a xs ∧ SqL K H1 b ys ∧ R (ItzH K a b) H1
section
variable {X : Cx}
theorem zip_made {pins : List (Addr × Obj)} {σ : L2.St} {H : Hp} {s : Shared} {e1 e2 : Expr} {ta : TA} {R : It → Hp → Prop} {pz pp : Pos} (hgz : Gl X "zip") (hmz : X.mg "zip" = none) (ha : PA X [e1, e2] ta) (I : Inv X pins σ H s) (q : iZipH X.K ta σ H R)
    (hs1 : starEach [e1, e2] X.env = (false, eval e1 X.env) :: starEach [e2] X.env) (hpl : (backTo pp (starEach [e2] X.env)).any (·.1) = false) :
    wpAny (model X.prog X.w) X.A (eval (.Call (.Name "zip" pz) [e1, e2] [] pp) X.env) (fun v s1 => wpAny (model X.prog X.w) X.A (pyIter v) (fun itv s2 => ∃ a b z TI TO i1 i2 H', itv = .ref z ∧ Inv X pins σ H' s2 ∧ ZipApart z TI TO i1 i2 a b ∧ Zst a b z TI TO i1 i2 0 s2.heap ∧
      (∀ c ∈ [z, TI, TO, i1, i2], FpOk X pins H' c) ∧ R (ItzH X.K a b) H') X.xe s1) X.xe s := by
  refine Call_ (ld_blt I hgz hmz PyProof.Rows.boot_zip (PyProof.Rows.callWith_type1 (thn (ha.run pp pins s σ H _ I q) fun us s1 ⟨vs, H1, I1, rv, a, b, xs, ys, ev, qa, qb, qR⟩ => ?_) hs1 hpl))
  subst ev
  obtain ⟨⟩ | ⟨ra, rv⟩ := rv
  obtain ⟨⟩ | ⟨rb, rv⟩ := rv
  cases rv
  cases ra
  cases rb
  obtain ⟨_, _, pa, _⟩ := I1.list qa
  obtain ⟨_, _, pb, _⟩ := I1.list qb
  refine call_zip_2 pa.isList pb.isList fun h' z1 z2 z3 z4 z5 _ kp => wpAny_pyIter_zip z1 ⟨a, b, _, _, _, _, _, H1, rfl, I1.kept (t' := s1.toks) kp, PySem.W.ktu_apart s1.heap.objs.size a b pa.lt pb.lt, ⟨z1, z2, ⟨_, _, z3⟩, z4, z5⟩, fun c hc => ?_, qR⟩
  have le : s1.heap.objs.size ≤ c := by
    simp only [List.mem_cons, List.not_mem_nil, or_false] at hc
    rcases hc with hc | hc | hc | hc | hc <;> rw [hc] <;> first | exact Nat.le_add_right _ _ | exact Nat.le_refl _
  exact I1.fpOk le (I1.hok.fresh le)
end
section
variable {X : Cx}
theorem pe_lcH {p0 : Addr × Obj} (hot : Hot1P X.A p0) (hp0 : p0 ∈ X.pn) {elt e1 e2 : Expr} {elts ifs} {kk : Nat} {scope : Scope} {own : List (Str × Nat)} {pos pz pp tpos : Pos} {g : TG} {tt : TT} {te : TE} {ta : TA} (hN : X.N.Nodup) (hgz : Gl X "zip") (hmz : X.mg "zip" = none) (ha : PA X [e1, e2] ta) (ok : BlkOk X.N X.env.scope scope own)
    (hg : ∀ (s : Shared) (H : Hp) (c : Addr) (cl : List (Str × Addr)) (fp : List Addr), PHot X.stack p0 s H fp → PG (X.blk s H scope (compEnvC scope cl c X.env) fp) (.Tuple elts kk tpos) g) (ht : ∀ (s : Shared) (H : Hp) (c : Addr) (cl : List (Str × Addr)) (fp : List Addr), PTs (X.blk s H scope (compEnvC scope cl c X.env) fp) ifs tt)
    (he : ∀ (s : Shared) (H : Hp) (c : Addr) (cl : List (Str × Addr)) (fp : List Addr), PE (X.blk s H scope (compEnvC scope cl c X.env) fp) elt te)
    (hs1 : starEach [e1, e2] X.env = (false, eval e1 X.env) :: starEach [e2] X.env := by rfl) (hpl : (backTo pp (starEach [e2] X.env)).any (·.1) = false := by rfl)
    (hs : ∀ x, foldedSetIterable (.Call (.Name "zip" pz) [e1, e2] [] pp) X.env x = pure x := by intro _; rfl) :
    PE X (.ListComp elt [⟨.Tuple elts kk tpos, .Call (.Name "zip" pz) [e1, e2] [] pp, ifs, 0⟩] scope pos) (tLc (iZipH X.K ta) g tt te (own.map (·.2))) := by
  refine ⟨fun pins s σ H Q I h => ?_⟩
  rw [eval_ListComp]
  have cells : ∀ y ∈ scope.names, y.2 = .free → ∃ c, X.env.cells.lookup y.1 = some c := fun y hy e => I.ok.has _ (ok.free y hy e)
  refine wpAny_comprehension_free rfl hs (closure_ok cells) ok.kind (fun y hy e => by rw [ok.uniq y hy, e]) (thn (zip_made hgz hmz ha I h hs1 hpl) fun v s1 h1 => thn h1 fun itv s2 ⟨a, b, z, TI, TO, i1, i2, H2, ei, I2, D, st2, f2, q⟩ => ?_)
  subst ei
  obtain ⟨fp, efp⟩ : ∃ fp, fp = [z, TI, TO, i1, i2] := ⟨_, rfl⟩
  rw [← efp] at f2
  have T := turn_zip (P := X.prog) (w := X.w) (K := X.K) (elts := elts) (kk := kk) (tpos := tpos) D
  rw [← efp] at T
  refine wpAny_newObj_type (newEnv_comp ?_) (by show 0 ≤ sizeLine; decide)
  -- the list that is made
  have nL : H2 s2.heap.objs.size = none := I2.hok.fresh (Nat.le_refl _)
  obtain ⟨W, ⟨m0, w0⟩, turn⟩ := q _ nL
  obtain ⟨L, eL⟩ : ∃ L, L = s2.heap.objs.size := ⟨_, rfl⟩
  obtain ⟨s3, e3⟩ : ∃ s3 : Shared, s3 = { s2 with heap := s2.heap.push { cls := .type "list", data := .seq ([] : List Value).toArray } } := ⟨_, rfl⟩
  have up : ∀ c o, s2.heap.get? c = some o → s3.heap.get? c = some o := fun c o e => by rw [e3]; exact Heap.get?_push_of_some _ e
  obtain ⟨H3, eH⟩ : ∃ H3, H3 = upd H2 L (.lst []) := ⟨_, rfl⟩
  have I3 : Inv X pins σ H3 s3 := by
    rw [e3, eH, eL]
    exact I2.laid (t' := s2.toks) (fun c o e => Heap.get?_push_of_some _ e) (Nat.le_refl _) ⟨Nat.zero_le _, [], 0, .nil, Heap.get?_push_size _ rfl⟩
  have f3 : ∀ c ∈ fp, FpOk X pins H3 c ∧ c < s3.heap.objs.size := fun c hc => by
    obtain ⟨o, e, _⟩ := T.obj _ _ st2 c hc
    refine ⟨⟨?_, (f2 c hc).2⟩, Heap.lt_size (up c o e)⟩
    rw [eH, upd_ne (by rw [eL]; exact Nat.ne_of_lt (Heap.lt_size e))]
    exact (f2 c hc).1
  have I4 := block_start I3 ok hN f3
  -- the exception, seen from the block
  have P3 := I3.pin p0 (List.mem_append_left _ hp0)
  have pst : p0.1 ∉ frs X.stack := fun zz => (List.mem_cons.mp (I3.stkSub p0.1 zz)).elim P3.2.2.1 P3.2.2.2.1
  have pfp : p0.1 ∉ fp := fun zz => (f3 _ zz).1.2.2.2.2.2 p0 (List.mem_append_left _ hp0) rfl
  have pg := hg s3 H3 s3.heap.objs.size (cellsFrom (s3.heap.objs.size + 1) scope.names (cloFrom X.env.cells scope.names [])) fp ⟨P3.1, P3.2.1, pst, pfp⟩
  have pt := ht s3 H3 s3.heap.objs.size (cellsFrom (s3.heap.objs.size + 1) scope.names (cloFrom X.env.cells scope.names [])) fp
  have pe := he s3 H3 s3.heap.objs.size (cellsFrom (s3.heap.objs.size + 1) scope.names (cloFrom X.env.cells scope.names [])) fp
  rw [← eL, ← eH] at w0
  rw [← eL] at turn
  rw [← e3, ← eL]
  show codeAny _ _ (.compStart _ 0 (.ref z) (.ref L) (compEnvC scope (cellsFrom (s3.heap.objs.size + 1) scope.names (cloFrom X.env.cells scope.names [])) s3.heap.objs.size X.env)) (compPost _ X.A X.xe none _ (.ref L) s3.heap.objs.size) { s3 with heap := pushCells (s3.heap.push { cls := .type "dict", data := .dict #[] }) scope.names }
  obtain ⟨s4, e4⟩ : ∃ s4 : Shared, s4 = { s3 with heap := pushCells (s3.heap.push { cls := .type "dict", data := .dict #[] }) scope.names } := ⟨_, rfl⟩
  have st4 : Zst a b z TI TO i1 i2 0 s4.heap := T.keep _ _ _ (T.keep _ _ _ st2 fun c _ o e => up c o e) fun c _ o e => by rw [e4]; exact pushCells_keeps _ _ _ _ (Heap.get?_push_of_some _ e)
  rw [← e4] at I4 ⊢
  obtain ⟨ce, ece⟩ : ∃ ce, ce = compEnvC scope (cellsFrom (s3.heap.objs.size + 1) scope.names (cloFrom X.env.cells scope.names [])) s3.heap.objs.size X.env := ⟨_, rfl⟩
  rw [← ece] at I4 pg pt pe ⊢
  have eloc : ce.locals = s3.heap.objs.size := by rw [ece]; rfl
  have fin4 : ∀ {σ' : L2.St} {H' : Hp} {s' : Shared}, Inv (X.blk s3 H3 scope ce fp) [] σ' H' s' → (∀ c ∈ fp, H' c = none) → ∀ c ∈ fp, FpOk (X.blk s3 H3 scope ce fp) [] H' c := fun {σ' H' s'} J n c hc =>
    ⟨n c hc, (J.ok.exf c hc).1, J.ok.exfs c hc, .inl hc, fun x d e => (J.ok.exf c hc).2 x d e, fun r hr => absurd (show r ∈ ([] : List (Addr × Obj)) ++ [] from hr) (by simp)⟩
  have loop : codeAny (model X.prog X.w) X.A (.compLoop (.ListComp elt [⟨.Tuple elts kk tpos, .Call (.Name "zip" pz) [e1, e2] [] pp, ifs, 0⟩] scope pos) 0 (.ref z) (.ref L) ce) (compPost (model X.prog X.w) X.A X.xe none (EP X pins σ Q) (.ref L) s3.heap.objs.size) s4 := by
    refine compLoop_any (fun n s' => ∃ i H', Inv (X.blk s3 H3 scope ce fp) [] (wipe σ (own.map (·.2))) H' s' ∧ Zst a b z TI TO i1 i2 i s'.heap ∧ (∀ c ∈ fp, H' c = none) ∧ W i n H') ?_ m0 ⟨0, H3, I4, st4, fun c hc => (f3 c hc).1.1, w0⟩
    rintro n s5 ⟨i, H5, I5, st5, n5, w5⟩
    have hot5 : HotAt X.A p0.1 s5.heap := by
      obtain ⟨z1, vs, z2, z3⟩ := hot
      exact ⟨z1, p0.2, vs, I5.base.keep p0.1 p0.2 P3.1 P3.2.1 pst pfp, z2, z3⟩
    have f5 : ∀ c ∈ [z, TI, TO, i1, i2], FpOk (X.blk s3 H3 scope ce fp) [] H5 c := fun c hc => fin4 I5 n5 c (by rw [efp]; exact hc)
    rcases turn i n H5 w5 with ⟨stop, qq⟩ | ⟨go, Nx, hNx, step⟩
    · refine thnF (zip_done (X := X.blk s3 H3 scope ce fp) (E := fun _ _ => False) D hot5 (by rw [← efp]; exact pfp) I5 f5 st5 stop) fun r s6 ⟨hr, I6⟩ => ?_
      subst hr
      have I7 : Inv X pins σ H5 s6 := I3.call' (ch := fp) I6.os I6.base I6.hok I6.bare fun c hc => ⟨(f3 c hc).1.2.2.2.1, (f3 c hc).1.2.1, (f3 c hc).1.2.2.2.2.1, (f3 c hc).1.2.2.2.2.2⟩
      have nC : H5 s3.heap.objs.size = none := by
        have zz : H5 ce.locals = none := I6.free
        rw [eloc] at zz
        exact zz
      obtain ⟨m, hn, _⟩ := I6.loc
      have hn : s6.heap.Ns ce.locals m := hn
      rw [eloc] at hn
      refine ⟨m, hn, fun h'' sb => ?_⟩
      obtain ⟨k0, k1, _, k3, k4, k5⟩ := I3.fpOk (H' := H5) (Nat.le_refl _) nC
      exact ⟨.ref L, H5, I7.turned (t' := s6.toks) (fun c o hb e => (sb.2 c hb).trans e) k0 k1 k3 k4 k5, rfl, qq⟩
    · refine thnF (zip_step (X := X.blk s3 H3 scope ce fp) (E := fun _ _ => False) (elts := elts) (kk := kk) (tpos := tpos) D I5 f5 st5 go) fun r s6 ⟨u, hr, h6⟩ => ?_
      subst hr
      refine thnF h6 fun _ s7 ⟨x, H7, I7, r7, y7, st7, n7⟩ => ?_
      have n7' : ∀ c ∈ fp, H7 c = none := fun c hc => n7 c (by rw [← efp]; exact hc)
      have J7 := I7.pinned (fin4 I7 n7') (T.obj _ _ st7)
      refine thnF (pg.run _ s7 _ H7 x u _ J7 r7 (step x H7 y7)) fun _ s8 ⟨σ8, H8, I8, w8, q8⟩ => ?_
      refine thnF (pt.run _ s8 σ8 H8 _ I8 q8) fun bb s9 ⟨H9, I9, q9⟩ => ?_
      have again : ∀ {s' : Shared} {H' : Hp}, Inv (X.blk s3 H3 scope ce fp) ([] ++ pinsAt fp s7.heap) σ8 H' s' → Nx H' → ∃ m, m < n ∧ ∃ i H', Inv (X.blk s3 H3 scope ce fp) [] (wipe σ (own.map (·.2))) H' s' ∧ Zst a b z TI TO i1 i2 i s'.heap ∧ (∀ c ∈ fp, H' c = none) ∧ W i m H' := fun {s' H'} J nx => by
        obtain ⟨m', hm, w'⟩ := hNx H' nx
        have pin' : ∀ c ∈ fp, ∀ o, s7.heap.get? c = some o → s'.heap.get? c = some o ∧ H' c = none := fun c hc o e => by
          have zz := J.pin (c, o) (List.mem_append_right _ (List.mem_append_right _ (mem_pinsAt hc e)))
          exact ⟨zz.1, zz.2.1⟩
        have hl : (wipe σ (own.map (·.2))).length = σ8.length := by rw [← w8, wipe_length]
        refine ⟨m', hm, i + 1, H', (J.unpinned (pins := [])).weak hl (fun j v e => ?_), T.keep _ _ _ st7 fun c hc o e => (pin' c hc o e).1, fun c hc => ?_, w'⟩
        · rw [← w8] at e
          exact (wipe_some e).1
        · obtain ⟨o, e, _⟩ := T.obj _ _ st7 c hc
          exact (pin' c hc o e).2
      cases bb with
      | false =>
        simp only [Bool.false_eq_true, if_false] at q9 ⊢
        exact again I9 q9
      | true =>
        simp only [if_true] at q9 ⊢
        refine thnF (pe.run _ s9 σ8 H9 _ I9 q9) fun yv s10 ⟨y, H10, I10, r10, acc, hL, hz10, nx⟩ => ?_
        exact app_ok (X := X.blk s3 H3 scope ce fp) I10 hL hz10 r10 fun s11 I11 => again I11 nx
  exact codeAny_compStart_list loop (T.self X.A 0 _ _ _ st4 loop)
end

/-! ### .. read -/
theorem jr_zipH {K : PySem.W.Frag} {G : Hp} {a b : Addr} {vs us : List V} {ds es : List D} (h : G a = some (.lst vs)) (hd : Dats G ds vs) (h' : G b = some (.lst us)) (hd' : Dats G es us) (hl : ds.length = es.length) : JR G (ItzH K a b) (zipD ds es) := fun G1 H1 s1 s2 =>
  ⟨⟨vs, us, SqL.of (s2 _ _ (s1 _ _ h)), SqL.of (s2 _ _ (s1 _ _ h')), by rw [zipD_len, ← hd.length]; omega⟩, (jr_zipL h hd h' hd' G1 H1 s1 s2).2⟩
def xZipH (t : DA) : DI := fun ρ Q => t ρ fun ds ρ1 => match ds with
  | [.lst xs, .lst ys] => xs.length = ys.length ∧ Q (zipD xs ys) ρ1
  | _ => False
theorem rfi_zipH {C : FC} {K : PySem.W.Frag} {ta : TA} {t : DA} (ha : RfA C ta t) : RfI C (iZipH K ta) (xZipH t) := fun G H σ ρ QD R' R q k => ha G H σ ρ _ _ R q fun vs ds G1 H1 ρ1 R1 s1 hd q1 => by
  split at q1
  · rename_i xs ys
    obtain ⟨v, u, rfl, ⟨a, us, rfl, h1, h2⟩, ⟨b, ws, rfl, h3, h4⟩⟩ := hd.two
    exact ⟨a, b, us, ws, rfl, SqL.of (R1.sub _ _ h1), SqL.of (R1.sub _ _ h3), k _ _ G1 H1 ρ1 R1 s1 (jr_zipH h1 h2 h3 h4 q1.1) q1.2⟩
  · exact q1.elim
section
variable {X : Cx} {C : FC}
theorem d_lcH {p0 : Addr × Obj} (K : PySem.W.Frag) (own : List (Str × Nat)) (hot : Hot1P X.A p0) (hp0 : p0 ∈ X.pn) {elt e1 e2 : Expr} {elts ifs} {kk : Nat} {scope : Scope} {pos pz pp tpos : Pos} {g : TG} {gd : DG} {tt : TT} {t : DT} {te : TE} {d : DE} {ta : TA} {a : DA} {is : List Nat} (hN : X.N.Nodup) (hgz : Gl X "zip") (hmz : X.mg "zip" = none) (ha : PAV X C [e1, e2] ta a)
    (ok : BlkOk X.N X.env.scope scope own)
    (h0 : PHot X.stack p0 X.s_0 X.H_0 []) (hg : ∀ (C : FC) (s : Shared) (H : Hp) (c : Addr) (cl : List (Str × Addr)) (fp : List Addr), PHot X.stack p0 s H fp → PGV (X.blk s H scope (compEnvC scope cl c X.env) fp) C (.Tuple elts kk tpos) g gd is) (ht : ∀ (C : FC) (s : Shared) (H : Hp) (c : Addr) (cl : List (Str × Addr)) (fp : List Addr), PTsV (X.blk s H scope (compEnvC scope cl c X.env) fp) C ifs tt t)
    (he : ∀ (C : FC) (s : Shared) (H : Hp) (c : Addr) (cl : List (Str × Addr)) (fp : List Addr), PV (X.blk s H scope (compEnvC scope cl c X.env) fp) C elt te d) (hv : ∀ k ∈ is, k ∈ own.map (·.2) := by decide)
    (hs1 : starEach [e1, e2] X.env = (false, eval e1 X.env) :: starEach [e2] X.env := by rfl) (hpl : (backTo pp (starEach [e2] X.env)).any (·.1) = false := by rfl)
    (hs : ∀ x, foldedSetIterable (.Call (.Name "zip" pz) [e1, e2] [] pp) X.env x = pure x := by intro _; rfl) (hK : X.K = K := by rfl) :
    PV X C (.ListComp elt [⟨.Tuple elts kk tpos, .Call (.Name "zip" pz) [e1, e2] [] pp, ifs, 0⟩] scope pos) (tLc (iZipH K ta) g tt te (own.map (·.2))) (xLc (xZipH a) gd t d (own.map (·.2))) := by
  subst hK
  exact ⟨pe_lcH hot hp0 hN hgz hmz ha.pe ok (fun s H c cl fp z => (hg C s H c cl fp z).pe) (fun s H c cl fp => (ht C s H c cl fp).pe) (fun s H c cl fp => (he C s H c cl fp).pe) hs1 hpl hs,
    rf_lc (rfi_zipH ha.rf) (fun C' => (hg C' X.s_0 X.H_0 0 [] [] h0).rf) (fun C' => (ht C' X.s_0 X.H_0 0 [] []).rf) (fun C' => (he C' X.s_0 X.H_0 0 [] []).rf) hv⟩
end
end L3

namespace L3
open PySem PySem.Spec PyProof.Rows L2
open LamX (CodeO TabS Tabs ExtN TabB LamS)
/-! ### a text joined -/
def xJoin (a : DE) : DE := fun ρ Q => a ρ fun s ρ1 => ∃ ys : List Str, s.toD = .lst (ys.map D.str) ∧ (ys.map (·.length)).sum ≤ 16777216 ∧ Q (.fz (.str (Txt.join (Str.ofString "") ys))) ρ1
theorem Dats.strs {H : Hp} : ∀ {ns : List Str} {vs : List V}, Dats H (ns.map D.str) vs → vs = ns.map V.str
  | [], _, h => h
  | n :: ns, _, ⟨v, r, h1, h2, h3⟩ => by
    have h2 : v = .str n := h2
    subst h1 h2
    rw [Dats.strs h3]; rfl
theorem d_joinE {X : Cx} {C : FC} (K : PySem.W.Frag) {e : Expr} {te : TE} {a : DE} {j : Nat} {p apos pos : Pos} (h : PV X C e te a) (hs : starEach [e] X.env = [(false, eval e X.env)] := by rfl) (hK : X.K = K := by rfl)
    (hbase : attributeBase (.Constant (.str (Str.ofString "")) j p) "join" X.env (eval (.Constant (.str (Str.ofString "")) j p) X.env) = eval (.Constant (.str (Str.ofString "")) j p) X.env := by rfl) (hline : (apos.endLine == pos.line) = true := by rfl) :
    PV X C (.Call (.Attribute (.Constant (.str (Str.ofString "")) j p) "join" apos) [e] [] pos)
      (tM1 (fun x xs H Q => ∃ a p, ∃ ys : List Str, x = .str a ∧ xs = [.ref p] ∧ (SqL K H p (ys.map V.str) ∨ SqT K H p (ys.map V.str)) ∧ (ys.map (·.length)).sum + ys.length * a.length ≤ 16777216 ∧ Q (.str (Txt.join a ys)) H) (tC (.str (Str.ofString ""))) te) (xJoin a) := by
  subst hK
  refine ⟨pe_join pe_str h.pe hs hbase hline, fun G H σ ρ QD Q R q k => ⟨⟨_, rfl⟩, ?_⟩⟩
  refine h.rf.go (QD := fun d ρ1 => ∃ ys : List Str, d = .lst (ys.map D.str) ∧ (ys.map (·.length)).sum ≤ 16777216 ∧ QD (.fz (.str (Txt.join (Str.ofString "") ys))) ρ1) R q fun v d G1 H1 ρ1 R1 s1 hd ⟨ys, e, hl, q1⟩ => ?_
  subst e
  obtain ⟨b, vs, rfl, h1, h2⟩ := hd
  cases h2.strs
  refine ⟨_, b, ys, rfl, rfl, .inl (SqL.of (R1.sub _ _ h1)), ?_, k _ _ G1 H1 ρ1 R1 s1 (rvf (d := .str _) rfl) q1⟩
  show _ + ys.length * 0 ≤ _
  omega
theorem join_one (w : Str) : Txt.join (Str.ofString "") [w] = w := (TL.join_eq _ _).trans rfl
/-! ### the seven refusals -/
def nmC (i : Nat) : Str := ([(Str.ofString "NoTop"), Str.ofString "NoMarks", Str.ofString "NoFloods", Str.ofString "NoMany", Str.ofString "NoBy", Str.ofString "NoPlace", Str.ofString "NoNumber"] : List Str).getD i (Str.ofString "")
structure Cls (K : PySem.W.Frag) (mg : Str → Option Value) (A : Nat → Addr) (CF : Addr) : Prop where
  ex : ∀ i, i < 7 → ExA K mg (nmC i) (A i)
  ec : ∀ i, i < 7 → ExcC K (A i)
  kit : ∀ i j, i < 7 → j < 7 → PySem.W.kitOne K (.ref (A i)) (.ref (A j)) = some (decide (i = j))
  fe : mg (Str.ofString "FloodError") = some (.ref CF)
  exm : ∀ i, i < 7 → PySem.W.exmOne K (.ref (A i)) (.ref CF) = some true
/-! ### isinstance(e, c), e an exception handed over -/
theorem call_isE0 {X : Cx} {a D : Addr} {oe : Obj} (C : ExcC X.K D) (hz : Zc (.ref D) none oe) (hf : ∃ vs, oe.data = .fields vs) (h0 : X.s_0.heap.get? a = some oe) (hn : X.H_0 a = none) (h1 : a ∉ X.fs) (h2 : a ∉ X.ex) : CallR X (.builtin "isinstance") (rIsE X.K D a) := by
  intro pins s σ H xs us Q I r h
  obtain ⟨c, cv, b, rfl, hcv, e, q⟩ := h
  have hget := I.base.keep a oe h0 hn h1 h2
  obtain ⟨vs, hv⟩ := hf
  cases r with
  | cons rx rr =>
    cases rr with
    | cons rt rr =>
      cases rr
      cases rx
      cases hcv _ rt
      have J : PySem.W.InstAt s.heap a oe D none := by
        obtain ⟨oc, od, oda, osl⟩ := oe
        obtain ⟨z1, z2⟩ := hz
        dsimp only at z1 z2 hv
        subst z1 z2 hv
        exact ⟨hget, rfl, rfl, trivial⟩
      exact PySem.W.kia_one (PySem.W.handS_kitx_exc C.hg C.hk C.hs C.hd C.ha C.hn C.ht C.hm) I.kIn J e (fun z => nomatch z) fun tk => ⟨.bl b, H, I.kept (t' := tk) fun _ _ z => z, rfl, q⟩
def refD (a : Addr) : D := .obj fun b _ => b = a
theorem dat_ref {G : Hp} {a : Addr} {v : V} (h : Dat G (refD a) v) : v = .ref a := by
  obtain ⟨b, rfl, h⟩ := h
  rw [h G (Same.refl G)]
theorem ref_dat {G : Hp} {a : Addr} : Dat G (refD a) (.ref a) := ⟨a, rfl, fun _ _ => rfl⟩
theorem d_cls {X : Cx} {C : FC} {x : Str} {a : Addr} {pos : Pos} (hm : X.mg x = some (.ref a)) (hg : Gl X x := by rfl) (hd : (x == ("__debug__" : Str)) = false := by decide) : PV X C (.Name x pos) (tC (.ref a)) (xC (refD a)) :=
  ⟨pe_glob hg hm rfl hd, rf_c fun _ => ref_dat⟩
def xIsE (K : PySem.W.Frag) (D a : Addr) : DC := fun ds Q => ∃ (c : Addr) (b : Bool), ds = [refD a, refD c] ∧ PySem.W.kitOne K (.ref D) (.ref c) = some b ∧ Q (.fz (.bl b))
theorem c_isE {X : Cx} {C : FC} {a D : Addr} {oe : Obj} (K : PySem.W.Frag) (EC : ExcC K D) (hz : Zc (.ref D) none oe) (hf : ∃ vs, oe.data = .fields vs) (h0 : X.s_0.heap.get? a = some oe) (hn : X.H_0 a = none) (h1 : a ∉ X.fs) (h2 : a ∉ X.ex := by exact fun z => nomatch z) (hK : X.K = K := by rfl) :
    CV X C (.builtin "isinstance") (rIsE K D a) (xIsE K D a) := by
  subst hK
  refine ⟨call_isE0 EC hz hf h0 hn h1 h2, fun G H σ ρ vs ds QD Q R hd ⟨c, b, e, hk, q⟩ k => ?_⟩
  subst e
  obtain ⟨v, r, rfl, e1, u, r2, rfl, e2, e3⟩ := hd
  cases dat_ref e1
  cases dat_ref e2
  cases (show r2 = _ from e3)
  exact ⟨.ref c, .ref c, b, rfl, fun u h => h, hk, k _ _ G H R (Same.refl G) (rvf (d := .bl b) rfl) q⟩

/-! ### the deed called -/
section
variable {P : Program} {w : World} {K : PySem.W.Frag} {mg : Str → Option Value} {base : Heap}
def tDeed (dd : Str → Addr → Hp → Prop) (mg : Str → Option Value) (i : Nat) (W : WX) : TE := fun σ H _ => ∃ (c : Str) (a : Addr) (G : Hp), σ[i]? = some (some (.ref a)) ∧ Same G H ∧ dd c a G ∧ ∀ Ca H', mg c = some (.ref Ca) → Same H H' → W (.ref Ca) none σ H'
theorem pe_deed {Y : Cx} {k i : Nat} {x : Str} {W : WX} {p1 p2 : Pos} (tk : L2N.Takes Y W) (hr : Room k Y.A) (hN : Y.N[i]? = some x) (hv : Vis Y.env.scope x) (hd : (x == ("__debug__" : Str)) = false := by decide) (hcd : (x == ("__classdict__" : Str)) = false := by decide) :
    PE Y (.Call (.Name x p1) [] [] p2) (tDeed (Deed Y.prog Y.w Y.K Y.mg Y.base k) Y.mg i W) := by
  refine ⟨fun pins s σ H Q I ⟨c, a, G, hs, sm, hD, hW⟩ => ?_⟩
  refine wpAny_Call_Name_kw (thn ((pe_var (pos := p1) hN hv hd hcd).run pins s σ H (fun v H1 => v = .ref a ∧ H1 = H) I ⟨.ref a, hs, rfl, rfl⟩) fun u s1 ⟨v, H1, I1, r1, q1⟩ => ?_)
  obtain ⟨ev, eH⟩ := q1
  subst ev
  rw [eH] at I1
  obtain rfl : u = Value.ref a := r1
  obtain ⟨fa, rc⟩ := hD Y.A Y.stack s1 H Q (fun cls d H' => W cls d σ H') hr I1.env0 sm hW
  refine PySem.W.callWith_F0 (first := []) fa ?_
  show wpAny _ _ (call (.ref a) []) _ _ _
  refine wpAny_call (codeAny_mono rc fun r s' hq => ?_)
  cases r with
  | error e => exact L2N.passAt tk σ pins H s1 e s' I1 hq
  | ok fl =>
    cases fl with
    | ret u => exact I1.after hq
    | next => exact False.elim hq
    | brk => exact False.elim hq
    | cont => exact False.elim hq
end
/-! ### the kind of a refusal, asked in the suite that holds it -/
/-- what such a def promises -/
def KindOk (P : Program) (w : World) (K : PySem.W.Frag) (mg : Str → Option Value) (base : Heap) (A7 : Nat → Addr) (k : Nat) (f : Addr) : Prop := ∀ (A : Around) (outer : List PySem.Env) (s : Shared) (H : Hp) (a : Addr) (oe : Obj) (i : Nat) (Q : VK), L2H.RoomH k A → Hot1P A (a, oe) → L2H.PinOk outer H s (a, oe) →
  Env0 P w K mg base A outer s H → i < 7 → Zc (.ref (A7 i)) none oe → (∀ H', Same H H' → Q (.str (nmC i)) H') → codeAny (model P w) A (.call (.ref f) ⟨[.ref a], []⟩) (CR CX0 outer P w H s Q E0) s
theorem kind_of {P : Program} {w : World} {K : PySem.W.Frag} {mg : Str → Option Value} {base : Heap} {A7 : Nat → Addr} {k : Nat} {x p : Str} {st : Stmt} {f : Addr} {fd : FuncData} {N : List Str} (F : Fun K x x st f fd) (Sc : FnScope N [p] (defScope st)) (hb : Binds K fd [p] []) (hN : 1 ≤ N.length)
    (h : ∀ (cdv : Value) (A : Around) (outer : List PySem.Env) (s : Shared) (H : Hp) (C : FC) (a : Addr) (oe : Obj) (i : Nat), L2H.RoomH k (A.deeper (envOfC x (defScope st) s.heap.objs.size f cdv)) → Hot1P A (a, oe) → i < 7 → Zc (.ref (A7 i)) none oe → s.heap.get? a = some oe → H a = none → a ∉ frs outer →
      ∃ ts t, PSsV (L2H.cxH CX0 P w K mg base N x (defScope st) f cdv A outer s H E0 (a, oe)) C (defBody st) ts t ∧ t { nx := fun _ => False, rt := fun s _ => s = .fz (.str (nmC i)) } (ini N.length [refD a])) : KindOk P w K mg base A7 (k + 1) f := by
  obtain ⟨oc, od, kV, doc, pm, an, cdv, ct, osl, rfl, lk, hcd⟩ := F.ex
  intro A outer s H a oe i Q hr hot pin e0 hi hz hQ
  have KX : K.In s.heap := e0.mod.kin.keeps fun b o e => (e0.bs b o e).1
  have lim : s.heap.NoLimit := e0.mod.nolimit.keeps fun b o e => (e0.bs b o e).1
  have bd := hb s [.ref a] KX rfl
  rw [List.append_nil] at bd
  refine codeAny_call_function hr.depth (KX _ _ lk) rfl Sc.co Sc.gen rfl (PySem.W.codeRec_of KX hcd) (bd _ _ _ _ ?_)
  refine wpAny_newFunctionEnv_cells Sc.kind (fun y hy => ?_) fun env he s1 xx => ?_
  · rcases Sc.par y.1 (List.of_mem_zip (show (y.1, y.2) ∈ [p].zip [Value.ref a] from hy)).1 with q | q
    · exact .inl q
    · exact .inr ⟨q, PySem.W.cellsFrom_some _ _ _ (.inl q)⟩
  subst he
  refine ⟨lim.keeps xx.toInCall.keep, codeAny_func ?_⟩
  obtain ⟨ts, t, hbo, hrd⟩ := h cdv A outer s H ⟨H, fun _ => none, none, []⟩ a oe i (hr.deeper _) hot hi hz pin.get pin.free pin.nofs
  have I := L2H.inv_startH (CX := CX0) (P := P) (w := w) (E := E0) (f := f) (cd := cdv) (qual := x) (vs := [.ref a]) Sc pin e0 rfl (.cons rfl .nil) xx
  refine wpAny_mono (hbo.pe.run [] s1 (L2.start N [.ref a]) H { nx := fun _ _ => False, bk := fun _ _ => False, ct := fun _ _ => False, rt := Q } I (hbo.rf (fun _ => none) H _ _ _ _ (rep_start (N := N) (fun _ _ e => by cases e) (fun _ _ e => by cases e) (Dats.cons (d := refD a) (v := .ref a) ref_dat Dats.nil) hN) hrd ⟨fun _ _ _ _ _ _ q => q.elim, fun _ _ _ _ _ _ q => q.elim, fun _ _ _ _ _ _ q => q.elim, fun v s' G' H' σ' ρ' R' _ rv q => ?_⟩)) (fun fl s' hs => ?_) (fun e s' z => z)
  · subst q
    cases (show v = _ from rv)
    exact hQ H' fun p o e => R'.keep p o e fun z => nomatch z
  · cases fl with
    | ret u =>
      obtain ⟨v, σ', H', J, rv, q⟩ := hs
      exact ⟨v, H', J.os, J.bare, J.base, J.hok, rv, q⟩
    | next =>
      obtain ⟨_, _, _, q⟩ := hs
      exact False.elim q
    | brk =>
      obtain ⟨_, _, _, q⟩ := hs
      exact False.elim q
    | cont =>
      obtain ⟨_, _, _, q⟩ := hs
      exact False.elim q
def tKind (A7 : Nat → Addr) (i : Nat) (a : Addr) (cls : Value) (d : Option Addr) : TE := fun σ H Q => ∃ j, j < 7 ∧ cls = .ref (A7 j) ∧ d = none ∧ σ[i]? = some (some (.ref a)) ∧ H a = none ∧ ∀ H', Same H H' → Q (.str (nmC j)) H'
theorem pe_kind {X : Cx} {a : Addr} {oe : Obj} {cls : Value} {d : Option Addr} {pn : List (Addr × Obj)} {A7 : Nat → Addr} {k i : Nat} {x y : Str} {f : Addr} {px py pos : Pos} (hz : L2N.Zn cls d oe) (hf : ∃ vs, oe.data = .fields vs) (F : KindOk X.prog X.w X.K X.mg X.base A7 k f) (hr : Room k X.A)
    (hm : X.mg x = some (.ref f)) (hk : PySem.W.keepIn X.K (.ref f) = true) (hN : X.N[i]? = some y) (hv : Vis X.env.scope y) (hg : Gl X x) (hdb : (x == ("__debug__" : Str)) = false := by decide) (hd : (y == ("__debug__" : Str)) = false := by decide) (hcd : (y == ("__classdict__" : Str)) = false := by decide)
    (he : starEach [.Name y py] X.env = (false, eval (.Name y py) X.env) :: starEach [] X.env := by rfl) (hpl : (backTo pos (starEach [] X.env)).any (·.1) = false := by rfl) : PE (X.suite a ((a, oe) :: pn)) (.Call (.Name x px) [.Name y py] [] pos) (tKind A7 i a cls d) := by
  refine ⟨fun pins s σ H Q I ⟨j, hj, ec, ed, hs, hn, hQ⟩ => ?_⟩
  subst ec ed
  refine wpAny_Call_Name_kw (ld_glob I hg hm ?_ hdb)
  have ha : PA (X.suite a ((a, oe) :: pn)) [.Name y py] (tCons (tVar i) tNil) := pa_cons (pe_var hN hv hd hcd) pa_nil he
  refine PySem.W.callWith_K (h₀ := X.base) I.ok.mod.kin hk (thn (ha.run pos pins s σ H (fun vs H1 => vs = [V.ref a] ∧ H1 = H) I ⟨.ref a, hs, rfl, rfl⟩) fun us s1 ⟨vs, H1, I1, r, q⟩ => ⟨I1.kIn, ?_⟩) he hpl
  obtain ⟨ev, eH⟩ := q
  subst ev
  rw [eH] at I1
  cases r with
  | cons r1 r2 =>
    cases r2
    cases r1
    obtain ⟨g1, g2, g3, g4, g5⟩ := I1.pin (a, oe) (List.mem_append.mpr (.inl List.mem_cons_self))
    have hfs : a ∉ frs X.stack := fun z => (List.mem_cons.mp (I1.stkSub a z)).elim g3 g4
    have hr2 : L2H.RoomH k (X.suite a ((a, oe) :: pn)).A := ⟨hr.dp, hr.un⟩
    have hot : Hot1P (X.suite a ((a, oe) :: pn)).A (a, oe) := by
      obtain ⟨vs, hvs⟩ := hf
      exact ⟨rfl, vs, hvs, hz.2.2 vs hvs⟩
    refine wpAny_call (codeAny_mono (F _ X.stack s1 H a oe j Q hr2 hot ⟨g1, hn, hfs, g5⟩ I1.env0 hj hz.zc hQ) fun r s' hq => ?_)
    cases r with
    | error e => exact False.elim hq
    | ok fl =>
      cases fl with
      | ret u => exact I1.after hq
      | next => exact False.elim hq
      | brk => exact False.elim hq
      | cont => exact False.elim hq
/-! ### tried -/
def xTried (dd : Str → Addr → Hp → Prop) : DS := fun Z ρ => ∃ i, i < 7 ∧ 2 < ρ.length ∧ ρ[0]? = some (some (.fz (.obj (dd (nmC i))))) ∧ Z.nx ((ρ.set 1 (some (.fz (.tup [.str (nmC i)])))).set 2 none)
theorem set_21 {α : Type} (l : List α) (x y z : α) : ((l.set 2 x).set 1 y).set 2 z = (l.set 1 y).set 2 z := by
  rw [List.set_comm _ _ (by decide : (2 : Nat) ≠ 1), List.set_set]
section
variable {X : Cx} {C : FC}
theorem ds_tried {k kk : Nat} {A7 : Nat → Addr} {CF fk : Addr} {j x1 x2 : _} {p1 p2 p3 p4 p5 p6 np q1 q2 q3 q4 q5 q6 pos' pos : Pos} (CL : Cls X.K X.mg A7 CF) (FK : KindOk X.prog X.w X.K X.mg X.base A7 kk fk) (hmk : X.mg "_law_kind" = some (.ref fk)) (hkk : PySem.W.keepIn X.K (.ref fk) = true)
    (hrk : Room kk X.A) (hr : Room k X.A) (hN : X.N.Nodup) (n0 : X.N[0]? = some (Str.ofString "deed") := by rfl) (n1 : X.N[1]? = some (Str.ofString "found") := by rfl) (n2 : X.N[2]? = some (Str.ofString "e") := by rfl)
    (hs : X.stack = X.env :: X.outer := by rfl) (hf : X.env.frame = some X.env.locals := by rfl) (hln : X.env.kindOf "e" = some .local := by rfl) (v0 : Vis X.env.scope "deed" := by exact Or.inl rfl) (l1 : X.env.scope.names.lookup ("found" : Str) = some NameKind.local := by rfl) (v2 : Vis X.env.scope "e" := by exact Or.inl rfl)
    (gf : Gl X "FloodError" := by rfl) (gk : Gl X "_law_kind" := by rfl)
    (s1 : starEach [.Constant (.str (Str.ofString "told")) j p2, .Call (.Name "deed" p3) [] [] p4] X.env = (false, eval (.Constant (.str (Str.ofString "told")) j p2) X.env) :: starEach [.Call (.Name "deed" p3) [] [] p4] X.env := by rfl)
    (s2 : starEach [.Call (.Name "deed" p3) [] [] p4] X.env = (false, eval (.Call (.Name "deed" p3) [] [] p4) X.env) :: starEach [] X.env := by rfl)
    (s3 : starEach [.Call (.Name "_law_kind" q2) [.Name "e" q3] [] q4] X.env = (false, eval (.Call (.Name "_law_kind" q2) [.Name "e" q3] [] q4) X.env) :: starEach [] X.env := by rfl)
    (w1 : swapsWith (.Tuple [.Constant (.str (Str.ofString "told")) j p2, .Call (.Name "deed" p3) [] [] p4] x1 p5) (some (.Name "found" p1)) p6.line X.env = pure false := by rfl)
    (w2 : swapsWith (.Tuple [.Call (.Name "_law_kind" q2) [.Name "e" q3] [] q4] x2 q5) (some (.Name "found" q1)) q6.line X.env = pure false := by rfl)
    (he : starEach [.Name "e" q3] X.env = (false, eval (.Name "e" q3) X.env) :: starEach [] X.env := by rfl) (hpl : (backTo q4 (starEach [] X.env)).any (·.1) = false := by rfl) :
    PSV X C (.Try [.Assign [.Name "found" p1] (.Tuple [.Constant (.str (Str.ofString "told")) j p2, .Call (.Name "deed" p3) [] [] p4] x1 p5) p6]
        [.ExceptHandler (some (.Name "FloodError" np)) (some (Str.ofString "e")) [.Assign [.Name "found" q1] (.Tuple [.Call (.Name "_law_kind" q2) [.Name "e" q3] [] q4] x2 q5) q6] pos'] [] [] pos)
      (fun D σ H => (fun W => tAsg (tTup (tCons (tC (.str (Str.ofString "told"))) (tCons (tDeed (Deed X.prog X.w X.K X.mg X.base k) X.mg 0 W) tNil))) (gName 1))
        (wAs X.K (.ref CF) 2 (fun a cls d => tAsg (tTup (tCons (tKind A7 2 a cls d) tNil)) (gName 1)) (fun _ _ _ _ => False) D) D σ H)
      (xTried (Deed X.prog X.w X.K X.mg X.base k)) := by
  refine ⟨L2N.ps_try_as (tb := fun W => tAsg (tTup (tCons (tC (.str (Str.ofString "told"))) (tCons (tDeed (Deed X.prog X.w X.K X.mg X.base k) X.mg 0 W) tNil))) (gName 1)) (ts := fun a cls d => tAsg (tTup (tCons (tKind A7 2 a cls d) tNil)) (gName 1)) hs hf hN n2 hln ⟨gf, by decide, .inl CL.fe⟩
    (fun u s' ⟨_, _, _, _, _, _, _, _, _, _, _, _, _, _, _, _, z⟩ => z.elim) (fun W pn xe tk hp => ?_) (fun a oe cls d pn hz hf => ?_), fun G H σ ρ DD E R ⟨i, hi, hlt, h0, hq⟩ ke => ?_⟩
  · exact pss_one (ps_set (X := X.tr pn xe) hN n1 (.inl l1) (pe_tup (pa_cons pe_str (pa_cons (pe_deed (Y := X.tr pn xe) tk hr n0 v0) pa_nil s2) s1)) w1 (.inr l1))
  · exact pss_one (ps_set (X := X.suite a ((a, oe) :: pn)) hN n1 (.inl l1) (pe_tup (pa_cons (pe_kind (X := X) hz hf FK hrk hmk hkk n2 v2 gk (by decide) (by decide) (by decide) he hpl) pa_nil s3)) w2 (.inr l1))
  · obtain ⟨v, hv, a, rfl, hd⟩ := R.fz 0 _ h0
    refine ⟨nmC i, a, G, hv, R.sub, hd G (Same.refl G), fun Ca H' hm sm => ?_⟩
    have eC := (CL.ex i hi).m
    rw [hm] at eC
    cases eC
    have hlen : ∀ u : V, (σ.set 2 (some u))[2]? = some (some u) := fun u => List.getElem?_set_self (by
      have e : ρ.length = σ.length := R.len
      omega)
    refine ⟨true, CL.exm i hi, fun _ b hb => ⟨i, hi, rfl, rfl, hlen _, hb, fun H'' s'' => ⟨by show 1 ≤ sizeLine; decide, fun p hp => ?_⟩⟩, fun z => nomatch z⟩
    have R1 := (R.grow sm).grow s''
    obtain ⟨R2, gs, rv⟩ := R1.resT (p := p) (vs := [V.str (nmC i)]) (ds := [D.str (nmC i)]) hp ⟨_, _, rfl, rfl, rfl⟩
    have R3 := (R2.set 1 rv).wipe [2]
    show E.nx (((σ.set 2 (some (.ref b))).set 1 (some (.ref p))).set 2 none) _
    rw [set_21]
    exact ke.nx _ _ _ _ R3 gs hq
end
/-! ### calls of defs that may raise -/
section
variable {X : Cx} {C : FC}
theorem d_fnE {E : XK} {ED : Str → Prop} {k n : Nat} {dp : DP} {x : Str} {p pos : Pos} {e : Expr} {es : List Expr} {ta : TA} {a : DA} (hE : EOk C X.mg ED E) (tk : L2N.Takes X fun cls d _ H => E cls d H) (F : FnX X.prog X.w X.K X.mg X.base x k n dp) (hr : Room k X.A) (ha : PAV X C (e :: es) ta a) (hg : Gl X x := by rfl)
    (hdb : (x == ("__debug__" : Str)) = false := by decide) (he : starEach (e :: es) X.env = (false, eval e X.env) :: starEach es X.env := by rfl) (hpl : (backTo pos (starEach es X.env)).any (·.1) = false := by rfl) :
    PV X C (.Call (.Name x p) (e :: es) [] pos) (tCall (spD X.mg n dp) [] E ta) (xCall n dp ED a) := by
  obtain ⟨f, fd, ps, hF, hm, hk, hb⟩ := F
  exact d_call hF hr hm hk hb (L2N.passes_call tk fun _ _ _ _ h => h) hE ha hg hdb he hpl
/-- .. where nothing is raised -/
theorem d_fnX0 {k n : Nat} {dp : DP} {x : Str} {p pos : Pos} {e : Expr} {es : List Expr} {ta : TA} {a : DA} (F : FnX X.prog X.w X.K X.mg X.base x k n dp) (hr : Room k X.A) (ha : PAV X C (e :: es) ta a) (hg : Gl X x := by rfl)
    (hdb : (x == ("__debug__" : Str)) = false := by decide) (he : starEach (e :: es) X.env = (false, eval e X.env) :: starEach es X.env := by rfl) (hpl : (backTo pos (starEach es X.env)).any (·.1) = false := by rfl) :
    PV X C (.Call (.Name x p) (e :: es) [] pos) (tCall (spD X.mg n dp) [] E0 ta) (xCall n dp (fun _ => False) a) := by
  obtain ⟨f, fd, ps, hF, hm, hk, hb⟩ := F
  refine d_call hF hr hm hk hb (fun pins σ H s e s' I c => ?_) EOk.none ha hg hdb he hpl
  obtain ⟨_, _, _, _, _, _, _, _, _, _, _, _, z⟩ := c
  exact z.elim
end
section
variable {P : Program} {w : World} {K : PySem.W.Frag} {mg : Str → Option Value} {base : Heap}
/-- .. in a lambda's body -/
theorem d_fnL {N : List Str} {W : LW} {cc fl : Addr} {A : Around} {outer : List PySem.Env} {s : Shared} {H : Hp} {E : XK} {C : FC} {ED : Str → Prop} {k n : Nat} {dp : DP} {x : Str} {p pos : Pos} {e : Expr} {es : List Expr} {ta : TA} {a : DA} (hE : EOk C mg ED E) (F : FnX P w K mg base x k n dp)
    (hr : Room k (A.deeper (lEnv W cc s.heap.objs.size fl))) (ha : PAV (lcx P w K mg base N W cc fl A outer s H E) C (e :: es) ta a) (hg : Gl (lcx P w K mg base N W cc fl A outer s H E) x := by rfl)
    (hdb : (x == ("__debug__" : Str)) = false := by decide) (he : starEach (e :: es) (lcx P w K mg base N W cc fl A outer s H E).env = (false, eval e (lcx P w K mg base N W cc fl A outer s H E).env) :: starEach es (lcx P w K mg base N W cc fl A outer s H E).env := by rfl)
    (hpl : (backTo pos (starEach es (lcx P w K mg base N W cc fl A outer s H E).env)).any (·.1) = false := by rfl) :
    PV (lcx P w K mg base N W cc fl A outer s H E) C (.Call (.Name x p) (e :: es) [] pos) (tCall (spD mg n dp) [] E ta) (xCall n dp ED a) :=
  d_fnE (X := lcx P w K mg base N W cc fl A outer s H E) hE (L2N.takes_of rfl rfl rfl rfl) F hr ha hg hdb he hpl
end
/-! ### data: t[::-1], t * k, tuple(range(i, j, -1)) -/
section
variable {prog : Program} {w : World} {A : Around} {E : Value → Shared → Prop} {s : Shared}
theorem rev_places (n : Nat) : Builtin.Slice.slicePlaces ((n : Int) - 1) (-1) (-1) = n := by
  unfold Builtin.Slice.slicePlaces
  have h1 : ¬ ((-1 : Int) > 0) := by omega
  simp only [h1, if_false]
  split <;> simp <;> omega
theorem rev_pick (xs : Array Value) : ((List.range xs.size).filterMap fun (k : Nat) => xs[(((xs.size : Int) - 1) + (k : Int) * (-1)).toNat]?).toArray = xs.toList.reverse.toArray := by
  congr 1
  have e : ∀ k ∈ List.range xs.size, xs[(((xs.size : Int) - 1) + (k : Int) * (-1)).toNat]? = some (xs.toList.reverse.getD k .none) := fun k hk => by
    have hk := List.mem_range.mp hk
    have e1 : (((xs.size : Int) - 1) + (k : Int) * (-1)).toNat = xs.size - 1 - k := by omega
    rw [e1, List.getD_eq_getElem?_getD, List.getElem?_reverse (by rw [Array.length_toList]; exact hk), Array.length_toList, Array.getElem?_toList]
    rw [Array.getElem?_eq_getElem (by omega)]
    rfl
  have f : ∀ l : List Nat, (∀ k ∈ l, xs[(((xs.size : Int) - 1) + (k : Int) * (-1)).toNat]? = some (xs.toList.reverse.getD k .none)) → (l.filterMap fun (k : Nat) => xs[(((xs.size : Int) - 1) + (k : Int) * (-1)).toNat]?) = l.map fun k => xs.toList.reverse.getD k .none := fun l => by
    induction l with
    | nil => exact fun _ => rfl
    | cons a l ih =>
      intro h
      rw [List.filterMap_cons, h a (by simp), List.map_cons, ih fun k hk => h k (by simp [hk])]
  rw [f _ e]
  refine List.ext_getElem? fun i => ?_
  rw [List.getElem?_map]
  by_cases hi : i < xs.size
  · rw [List.getElem?_range hi, Option.map_some, List.getD_eq_getElem?_getD]
    have : i < xs.toList.reverse.length := by rw [List.length_reverse, Array.length_toList]; exact hi
    rw [List.getElem?_eq_getElem this]
    rfl
  · rw [List.getElem?_eq_none (by rw [List.length_range]; omega), List.getElem?_eq_none (by rw [List.length_reverse, Array.length_toList]; omega)]
    rfl
theorem tup_reversed {t sl : Addr} {items : Array Value} {tk : Tok} {Q : Value → Shared → Prop} (ht : IsTup s.heap t items) (hs : s.heap.IsSliceOf sl .none .none (.int (-1) tk)) (hz : items.size ≤ sizeLine)
    (h : Q (.ref s.heap.objs.size) { s with heap := s.heap.push { cls := .type "tuple", data := .seq items.toList.reverse.toArray } }) : wpAny (model prog w) A (getItem (.ref t) (.ref sl)) Q E s := by
  obtain ⟨os, hos, hcs, hds⟩ := id hs
  have hTs : s.TypeIs (.ref sl) "slice" := ⟨os, hos, hcs⟩
  unfold getItem
  try with_reducible refine wpAny_holding ?_
  first | refine wpAny_bind (wpAny_pure ?_) | skip
  refine wpAny_bind (wpAny_sequenceKey ht.typeIs (by decide) ?_)
  refine wpAny_bind (wpAny_callSpecial?_slot (name := Str.ofString "__getitem__") ht.typeIs PyProof.Rows.slot_tuple_getitem (wpAny_call_entry PyProof.Rows.slot_tuple_getitem ht.typeIs entry_tuple_getitem ?_ (args_tuple_getitem _ _)))
  show wpAny _ _ (Builtin.Tuple.tupleItemsOf (.ref t) >>= _) _ _ s
  refine wpAny_bind (tupleItemsOf_ ht ?_)
  refine wpAny_bind (wpAny_typeOf hTs ?_)
  rw [if_pos (by decide)]
  refine wpAny_bind ?_
  unfold Builtin.Slice.sliceApplied Builtin.Slice.sliceFields
  refine wpAny_bind (wpAny_bind (wpAny_field hos hds (x := .none) rfl (wpAny_bind (wpAny_field hos hds (x := .none) rfl (wpAny_bind (wpAny_field hos hds (x := .int (-1) tk) rfl (wpAny_pure ?_)))))))
  refine wpAny_bind (HT.slicePart_ (.int (-1) tk) ?_)
  show wpAny _ _ (if ((-1 : Int) == 0) = true then _ else _) _ _ s
  rw [if_neg (by decide)]
  refine wpAny_bind (slicePart_none (wpAny_bind (slicePart_none (wpAny_bind (wpAny_pure ?_)))))
  show wpAny _ _ (pure (((items.size : Int) - 1), (-1 : Int), Builtin.Slice.slicePlaces ((items.size : Int) - 1) (-1) (-1))) _ _ s
  rw [rev_places]
  refine wpAny_pure ?_
  show wpAny _ _ (if (((items.size : Int) - 1) == 0 && (-1 : Int) == 1 && items.size == items.size) = true then _ else _) _ _ s
  rw [if_neg (by simp)]
  have e := rev_pick items
  unfold Builtin.Tuple.tupleExact
  refine wpAny_bind (wpAny_newObj_type ?_ ?_)
  · refine wpAny_pure ⟨_, rfl, wpAny_pure ?_⟩
    rw [e]
    exact h
  · show Array.size _ ≤ sizeLine
    rw [e]
    simpa using hz
end
section
variable {X : Cx} {C : FC}
def tRevT (K : PySem.W.Frag) (te : TE) : TE := fun σ H Q => te σ H fun x H1 => ∃ a xs, x = .ref a ∧ SqT K H1 a xs ∧ ∀ p, H1 p = none → Q (.ref p) (upd H1 p (.tup xs.reverse))
theorem pe_revT {e : Expr} {te : TE} {k : Nat} {p1 p2 p3 pos : Pos} (he : PE X e te) : PE X (.Subscript e (.Slice none none (some (.UnaryOp .USub (.Constant (.int 1) k p1) p2)) p3) pos) (tRevT X.K te) := by
  refine ⟨fun pins s σ H Q I h => ?_⟩
  refine Subscript_ (thn (he.run pins s σ H _ I h) fun v s1 ⟨x, H1, I1, r1, a, xs, ex, hx, q⟩ => ?_)
  subst ex
  cases r1
  have hst : PO X (some (.UnaryOp .USub (.Constant (.int 1) k p1) p2)) (tPart (tUn (rU fun i => .int (-i)) (tC (.int 1)))) := po_some (pe_un un_neg pe_int)
  refine wpAny_Slice (thn (po_none.run pins s1 σ H1 (fun o H2 => o = none ∧ H2 = H1) I1 ⟨rfl, rfl⟩) fun vl s2 ⟨l, H2, I2, pl, el, e2⟩ => ?_)
  subst el e2
  refine thn (po_none.run pins s2 σ H2 (fun o H3 => o = none ∧ H3 = H2) I2 ⟨rfl, rfl⟩) fun vu s3 ⟨u, H3, I3, pu, eu, e3⟩ => ?_
  subst eu e3
  refine thn (hst.run pins s3 σ H3 (fun o H4 => o = some (-1) ∧ H4 = H3) I3 ⟨1, rfl, -1, rfl, rfl, rfl⟩) fun vs s4 ⟨o, H4, I4, ps, eo, e4⟩ => ?_
  subst eo e4
  have I5 : Inv X pins σ H4 { s4 with heap := s4.heap.push { cls := .type "slice", data := .fields #[vl, vu, vs] } } := I4.kept (t' := s4.toks) fun b ob q => Heap.get?_push_of_some _ q
  obtain ⟨its, r, ht, hz⟩ := I5.tuple hx
  have hlen := r.length
  cases pl
  cases pu
  obtain ⟨tk, rfl⟩ : ∃ tk, vs = Value.int (-1) tk := by
    cases ps
    exact ⟨_, rfl⟩
  show wpAny (model X.prog X.w) X.A (subscriptTail e (.Slice none none (some (.UnaryOp .USub (.Constant (.int 1) k p1) p2)) p3) (.ref a) (.ref s4.heap.objs.size)) (EP X pins σ Q) X.xe _
  refine tail_any (ops := [.ref a, .ref s4.heap.objs.size]) ht.typeIs PyProof.Rows.slot_tuple_getitem.lookup ?_ (by with_unfolding_all rfl)
  refine tup_reversed ht (Heap.IsSliceOf.new _ .none .none (.int (-1) tk)) (by rw [List.size_toArray]; omega) ?_
  refine ⟨.ref _, _, I5.laid (t' := s4.toks) (o := .tup xs.reverse) (fun b ob q => Heap.get?_push_of_some _ q) (Nat.le_refl _) ?_, rfl, q _ (I5.hok.fresh (Nat.le_refl _))⟩
  exact ⟨by rw [List.length_reverse]; exact hz, _, r.reverse, IsTup.new _ _⟩
def onRvT (d : D) (k : S → Prop) : Prop := match d with
  | .tup ds => k (.fz (.tup ds.reverse))
  | _ => False
def xRevT (a : DE) : DE := fun ρ Q => a ρ fun s ρ1 => onRvT s.toD fun z => Q z ρ1
theorem rd_onRvT {ds : List D} {k : S → Prop} : onRvT (.tup ds) k = k (.fz (.tup ds.reverse)) := rfl
theorem d_revT (K : PySem.W.Frag) {e : Expr} {te : TE} {t : DE} {k : Nat} {p1 p2 p3 pos : Pos} (h : PV X C e te t) (hK : X.K = K := by rfl) : PV X C (.Subscript e (.Slice none none (some (.UnaryOp .USub (.Constant (.int 1) k p1) p2)) p3) pos) (tRevT K te) (xRevT t) := by
  subst hK
  refine ⟨pe_revT h.pe, fun G H σ ρ QD Q R q k => ?_⟩
  refine h.rf.go (QD := fun d ρ1 => onRvT d fun z => QD z ρ1) R q fun v d G1 H1 ρ1 R1 s1 hd q1 => ?_
  unfold onRvT at q1
  split at q1
  · rename_i ds
    obtain ⟨a, vs, rfl, h1, h2⟩ := hd
    refine ⟨a, vs, rfl, SqT.of (R1.sub _ _ h1), fun p hp => ?_⟩
    obtain ⟨R2, gs, rv⟩ := R1.resT hp h2.reverse
    exact k _ _ _ _ _ R2 (s1.trans gs) rv q1
  · exact q1.elim
def rRepT0 (K : PySem.W.Frag) : R2 := fun x y H Q => ∃ l k, x = .ref l ∧ y = .int k ∧ SqT K H l [] ∧ -1000 ≤ k ∧ k ≤ 1000 ∧ Q (.ref l) H
theorem tuple_mul0 (l : Addr) (n : Nat) (dd : Option Addr) (sl : Array (Option Value)) (x : Int) (u : Tok) (c0 : (decide (x < -(2 ^ 63)) || decide (x ≥ 2 ^ 63)) = false) :
    Meets (Builtin.«tuple.__mul__» ⟨[.ref l, .int x u], []⟩) (fun _ R s => s.heap.get? l = some { cls := .type "tuple", dict := dd, data := .seq #[] n, slots := sl } ∧ R (.ok (.ret (Value.ref l))) s) :=
  .of_wp fun prog w A R s h => by
    obtain ⟨hp, g, d, tk, os⟩ := s
    obtain ⟨hl, h⟩ := h
    have f1 := AutoSeq1.idx_int
    wp_walk using wpAny_loadPart' hl
    repeat (first
      | (refine wpAny_ite_false (decide_eq_false (by rw [c0]; exact Bool.false_ne_true)) ?_; wp_walk using wpAny_loadPart' hl)
      | (refine wpAny_ite_true (by simp) ?_; wp_walk using wpAny_loadPart' hl))
    exact ⟨_, rfl, h⟩
theorem op_repT0 : OpR X (binaryOp .Mult) (rRepT0 X.K) := by
  intro pins s σ H x y v u Q I rx ry ⟨l, k, ex, ey, hT, h1, h2, q⟩
  subst ex ey
  cases rx
  obtain ⟨t, rfl⟩ := ry
  obtain ⟨its, r, ⟨⟨cls, dd, data, sl⟩, ho, hc, n, hd⟩, hs⟩ := I.tuple hT
  cases r
  simp only at hc hd
  subst hc hd
  have c0 : (decide (k < -(2 ^ 63)) || decide (k ≥ 2 ^ 63)) = false := by
    rw [decide_eq_false (by omega), decide_eq_false (by omega)] <;> rfl
  exact wpAny_binaryOp_repeat_ref (T := "tuple") (U := "int") (by decide) ⟨_, ho, rfl⟩ (fun s' => typeIs_int s' k t) noFill_tuple_mul F.fills_int_mul F.slot_int_rmul repeat_tuple F.slot_int_index.lookup
    (call_meets F.slot_int_rmul (typeIs_int s k t) F.entry_int_rmul (F.args_int_rmul_2 _ _) (int_rmul_tuple k t l _ n dd sl)
      ⟨ho, rfl, ⟨_, ho, rfl⟩, call_meets F.slot_tuple_mul ⟨_, ho, rfl⟩ F.entry_tuple_mul (F.args_tuple_mul_2 _ _) (tuple_mul0 l n dd sl k t c0) ⟨ho, .ref l, H, I, rfl, q⟩⟩)
def xMulT : DO2 := fun x y Q => match x, y with
  | .tup xs, .int k => 2 ≤ k ∧ k ≤ 1000 ∧ xs.length ≤ 1000 ∧ Q (.fz (.tup (List.replicate k.toNat xs).flatten))
  | _, _ => False
theorem rd_mulT {xs : List D} {i : Int} {k : S → Prop} : xMulT (.tup xs) (.int i) k = (2 ≤ i ∧ i ≤ 1000 ∧ xs.length ≤ 1000 ∧ k (.fz (.tup (List.replicate i.toNat xs).flatten))) := rfl
theorem flat_nil {α : Type} : ∀ n : Nat, (List.replicate n ([] : List α)).flatten = []
  | 0 => rfl
  | n + 1 => by rw [List.replicate_succ, List.flatten_cons, flat_nil n]; rfl
theorem o_mulT (K : PySem.W.Frag) (hK : X.K = K := by rfl) : OV X C (binaryOp .Mult) (fun x y H Q => rRepT K x y H Q ∨ rRepT0 K x y H Q) xMulT := by
  subst hK
  refine ⟨op_repT.or op_repT0, fun G H σ ρ x y dx dy QD Q R hx hy q k => ?_⟩
  unfold xMulT at q
  split at q
  · rename_i xs i
    obtain ⟨a, vs, rfl, h1, h2⟩ := hx
    cases (show y = _ from hy)
    obtain ⟨q2, q3, q4, q5⟩ := q
    by_cases e : xs = []
    · subst e
      cases (show vs = [] from List.eq_nil_of_length_eq_zero h2.length.symm)
      rw [flat_nil] at q5
      exact .inr ⟨a, i, rfl, rfl, SqT.of (R.sub _ _ h1), by omega, q3, k _ _ G H R (Same.refl G) (rvf (d := .tup []) ⟨a, [], rfl, h1, rfl⟩) q5⟩
    · refine .inl ⟨a, i, vs, rfl, rfl, SqT.of (R.sub _ _ h1), fun e2 => e ?_, q2, q3, by rw [← h2.length]; exact q4, fun p hp => ?_⟩
      · subst e2
        exact List.eq_nil_of_length_eq_zero h2.length
      · obtain ⟨R2, gs, rv⟩ := R.resT hp (h2.rep i.toNat)
        exact k _ _ _ _ R2 gs rv q5
  · exact q.elim
/-- tuple(range(i, j, -1)) -/
def tTupRg3 (ta : TA) : TE := fun σ H Q => ta σ H fun vs H1 => ∃ (i j : Int) (n : Nat), vs = [.int i, .int j, .int (-1)] ∧ RgC i j (-1) n ∧ n ≤ 100000 ∧ ∀ q, H1 q = none → Q (.ref q) (upd H1 q (.tup ((List.range n).map fun k : Nat => V.int (i - k))))
theorem pe_tupRg3 {a b c : Expr} {ta : TA} {p p2 pos pos2 : Pos} (hc : X.calm = true) (hg : Gl X "tuple") (hm : X.mg "tuple" = none) (hg2 : Gl X "range") (hm2 : X.mg "range" = none) (ha : PA X [a, b, c] ta)
    (hs : starEach [a, b, c] X.env = (false, eval a X.env) :: starEach [b, c] X.env := by rfl) (hpl : (backTo pos2 (starEach [b, c] X.env)).any (·.1) = false := by rfl)
    (hs2 : starEach [.Call (.Name "range" p2) [a, b, c] [] pos2] X.env = (false, eval (.Call (.Name "range" p2) [a, b, c] [] pos2) X.env) :: starEach [] X.env := by rfl) :
    PE X (.Call (.Name "tuple" p) [.Call (.Name "range" p2) [a, b, c] [] pos2] [] pos) (tTupRg3 ta) := by
  refine ⟨fun pins s σ H Q I h => ?_⟩
  refine Call_ (ld_blt I hg hm boot_tuple (PyProof.Rows.callWith_type1 (args_cons (Call_ (ld_blt I hg2 hm2 boot_range (PyProof.Rows.callWith_type1 (thn (ha.run pos2 pins s σ H _ I h) fun us s1 ⟨vs, H1, I1, r1, i, j, n, e, ⟨c0, c1, c2, c3⟩, hn, q⟩ => ?_) hs hpl))) hs2) hs2 rfl))
  subst e
  cases r1 with
  | cons r rr =>
    cases rr with
    | cons r' rr =>
      cases rr with
      | cons r'' rr =>
        cases rr
        obtain ⟨t, rfl⟩ := r
        obtain ⟨t', rfl⟩ := r'
        obtain ⟨t'', rfl⟩ := r''
        refine call_range_3 c0 (args_nil ?_) (.inl (PyProof.noPylong_small c1))
        have I2 : Inv X pins σ H1 { s1 with heap := s1.heap.push { cls := .type "range", data := .fields #[.int i t, .int j t', .int (-1) t''] } } := I1.kept (t' := s1.toks) fun b o e => Heap.get?_push_of_some _ e
        refine call_tuple_range (n := n) (I1.ok.hd hc) (IsRange.new ..) c2 c3 (by omega) fun h' tk acc hk hi => ?_
        have I3 : Inv X pins σ H1 { s1 with heap := h', toks := tk } := I2.kept hk
        have el : acc.toList.length = n := by rw [Array.length_toList]; exact hi.1
        refine ⟨.ref h'.objs.size, upd H1 h'.objs.size (.tup ((List.range n).map fun k : Nat => V.int (i - k))), I3.laid (t' := tk) (fun c o e => Heap.get?_push_of_some _ e) (Nat.le_refl _) (show ObjOk X.prog X.w _ _ _ (.tup _) from ⟨?_, acc.toList, ?_, ?_⟩), rfl, q _ (I3.hok.fresh (Nat.le_refl _))⟩
        · rw [List.length_map, List.length_range]
          exact line5 hn
        · rw [← el]
          refine vals_of_get acc.toList _ fun j u hj => ?_
          obtain ⟨t, rfl⟩ := hi.2 j u (by rw [← hj, Array.getElem?_toList])
          exact ⟨t, by rw [show i + (j : Int) * -1 = i - j from by omega]⟩
        · rw [Array.toArray_toList]
          exact IsTup.new _ _
def xTupRg3 (t : DA) : DE := fun ρ Q => t ρ fun ds ρ1 => onR3 ds fun l => l.length ≤ 100000 ∧ Q (.fz (.tup l)) ρ1
theorem dats_rngN {G : Hp} (i : Int) (n : Nat) : Dats G (rngN i n) ((List.range n).map fun k : Nat => V.int (i - k)) := by
  have e : ∀ l : List Nat, Dats G (l.map fun k : Nat => D.int (i - k)) (l.map fun k : Nat => V.int (i - k)) := fun l => by
    induction l with
    | nil => rfl
    | cons a l ih => exact ⟨_, _, rfl, rfl, ih⟩
  exact e _
theorem d_tupRg3 {a b c : Expr} {ta : TA} {t : DA} {p p2 pos pos2 : Pos} (hc : X.calm = true) (hg : Gl X "tuple") (hm : X.mg "tuple" = none) (hg2 : Gl X "range") (hm2 : X.mg "range" = none) (ha : PAV X C [a, b, c] ta t)
    (hs : starEach [a, b, c] X.env = (false, eval a X.env) :: starEach [b, c] X.env := by rfl) (hpl : (backTo pos2 (starEach [b, c] X.env)).any (·.1) = false := by rfl)
    (hs2 : starEach [.Call (.Name "range" p2) [a, b, c] [] pos2] X.env = (false, eval (.Call (.Name "range" p2) [a, b, c] [] pos2) X.env) :: starEach [] X.env := by rfl) :
    PV X C (.Call (.Name "tuple" p) [.Call (.Name "range" p2) [a, b, c] [] pos2] [] pos) (tTupRg3 ta) (xTupRg3 t) := by
  refine ⟨pe_tupRg3 hc hg hm hg2 hm2 ha.pe hs hpl hs2, fun G H σ ρ QD Q R q k => ha.rf G H σ ρ _ _ R q fun vs ds G1 H1 ρ1 R1 s1 hd q1 => ?_⟩
  unfold onR3 at q1
  split at q1
  · rename_i i j c
    obtain ⟨v, u, w, rfl, h1, h2, h3⟩ := hd.three
    cases (show v = _ from h1)
    cases (show u = _ from h2)
    cases (show w = _ from h3)
    obtain ⟨rfl, ⟨b1, b2, b3, b4⟩, hl, q1⟩ := q1
    rw [rngN_len] at hl
    refine ⟨i, j, _, rfl, RgC.neg (by omega) (by omega) (by omega) (by omega), hl, fun p hp => ?_⟩
    obtain ⟨R2, gs, rv⟩ := R1.resT hp (dats_rngN i (i - j).toNat)
    exact k _ _ _ _ _ R2 (s1.trans gs) rv q1
  · exact q1.elim
end
/-! ### the law's own loop, with tables -/
theorem rep_bagT {T : List (Addr × Str)} {H : Hp} {σ : L2.St} {n i : Nat} {bd : List D} {b : Addr} {vs : List V} (tb : Tabs T H) (hl : σ.length = n) (hb : H b = some (.lst vs)) (hd : Dats (fun _ => none) bd vs) (hs : σ[i]? = some (some (.ref b))) :
    Rep ⟨stripH H, fun _ => none, some b, T⟩ (fun _ => none) H σ (envB n i bd) := by
  refine ⟨by unfold envB; rw [List.length_set, List.length_replicate, hl], fun _ _ e => (by cases e), fun _ _ e => e, fun _ _ e _ => (strip_of e).1, fun _ _ e => (by cases e), fun p e => ?_, fun j d e => ?_, fun j s e os => ?_, fun j k s1 s2 p ne e1 o1 e2 o2 z1 z2 => ?_, (fun _ _ z => nomatch z), tb⟩
  · cases e
    exact ⟨rfl, (by show stripH H b ≠ none; rw [strip_to hb trivial]; exact fun z => nomatch z), _, hb⟩
  · cases (envB_get e).2
  · obtain ⟨rfl, rfl⟩ := envB_get e
    exact ⟨b, hs, ⟨vs, hb, hd⟩, rfl, .inr ⟨rfl, rfl⟩⟩
  · exact ne ((envB_get e1).1.trans (envB_get e2).1.symm)
theorem for_bagsT {T : List (Addr × Str)} {K : PySem.W.Frag} {tsb : TS} {n i0 : Nat} {p : Addr} {bs : List Addr} {σ : L2.St} {H : Hp} {E : Ends}
    (hbody : ∀ C : FC, PlainH C.H0 → C.T = T → ∃ tb, RfS C tsb tb ∧ ∀ bd, bagOK 0 bd → tb { nx := fun ρ => ρ.length = n, ct := fun ρ => ρ.length = n, rt := fun _ _ => False } (envB n i0 bd)) (hi0 : i0 < n) (hσ : σ.length = n) (tab : Tabs T H)
    (hp : H p = some (.lst (bs.map V.ref))) (nd : bs.Nodup) (hpb : p ∉ bs) (hB : BagsAt H bs 0) (hend : ∀ σ' H', E.nx σ' H') :
    ∃ W : Nat → Nat → L2.St → Hp → Prop, (∃ m, W 0 m σ H) ∧ ∀ i m σ H, W i m σ H →
      ((Itl K p).stop i H ∧ E.nx σ H) ∨ ((Itl K p).go i H ∧ ∃ N : L2.St → Hp → Prop, (∀ σ' H', N σ' H' → ∃ m', m' < m ∧ W (i + 1) m' σ' H') ∧ ∀ x H', (Itl K p).yld i H x H' → gName i0 x σ H' fun σ2 H2 => tsb { E with nx := N, ct := N, bk := E.nx } σ2 H2) := by
  refine ⟨fun i m σ' H' => m = bs.length - i ∧ i ≤ bs.length ∧ σ'.length = n ∧ H' p = some (.lst (bs.map V.ref)) ∧ BagsAt H' bs i ∧ Tabs T H', ⟨_, rfl, Nat.zero_le _, hσ, hp, hB, tab⟩, ?_⟩
  rintro i m σ1 H1 ⟨rfl, hi, hl, hp1, hB1, tb1⟩
  have hL : SqL K H1 p (bs.map V.ref) := .inl (.inl hp1)
  by_cases hlt : i < bs.length
  · have g1 : (bs.map V.ref)[i]? = some (.ref bs[i]) := by rw [List.getElem?_map, List.getElem?_eq_getElem hlt]; rfl
    refine .inr ⟨⟨_, _, hL, g1⟩, fun σ' H' => i + 1 ≤ bs.length ∧ σ'.length = n ∧ H' p = some (.lst (bs.map V.ref)) ∧ BagsAt H' bs (i + 1) ∧ Tabs T H', fun σ' H' h => ⟨bs.length - (i + 1), by omega, rfl, h⟩, fun x H' ⟨eH, hx⟩ => ?_⟩
    subst eH
    have ex : x = .ref bs[i] := Option.some.inj ((hx _ hL).symm.trans g1)
    subst ex
    obtain ⟨bd, ok, vs, hv, hd⟩ := hB1 i bs[i] (Nat.le_refl _) (List.getElem?_eq_getElem hlt)
    have hl2 : (σ1.set i0 (some (.ref bs[i]))).length = n := by rw [List.length_set]; exact hl
    have R := rep_bagT (i := i0) tb1 hl2 hv (hd _) (set_self_lt (by omega))
    have done : ∀ {G' H2 : Hp} {σ2 : L2.St} {ρ2 : En}, Rep ⟨stripH H', fun _ => none, some bs[i], T⟩ G' H2 σ2 ρ2 → ρ2.length = n → i + 1 ≤ bs.length ∧ σ2.length = n ∧ H2 p = some (.lst (bs.map V.ref)) ∧ BagsAt H2 bs (i + 1) ∧ Tabs T H2 := fun {G' H2 σ2 ρ2} R2 hn => by
      refine ⟨hlt, R2.len ▸ hn, R2.keep p _ (strip_to hp1 trivial) (fun z => hpb ((Option.some.inj z) ▸ List.getElem_mem hlt)), fun j b hj hjb => ?_, R2.tab⟩
      obtain ⟨bd', ok', vs', hv', hd'⟩ := hB1 j b (by omega) hjb
      refine ⟨bd', ok', vs', R2.keep b _ (strip_to hv' trivial) (fun z => ?_), hd'⟩
      have e1 : bs[i] = b := Option.some.inj z
      obtain ⟨hj2, e2⟩ := List.getElem?_eq_some_iff.mp hjb
      have := (List.getElem_inj (h₀ := hlt) (h₁ := hj2) nd).mp (e1.trans e2.symm)
      omega
    obtain ⟨tb, hrf, hpure⟩ := hbody ⟨stripH H', fun _ => none, some bs[i], T⟩ strip_plain rfl
    exact hrf _ _ _ _ _ _ R (hpure bd ok) ⟨fun _ _ _ _ R2 _ q => done R2 q, fun _ _ _ _ _ _ q => q.elim, fun _ _ _ _ R2 _ q => done R2 q, fun _ _ _ _ _ _ _ _ _ q => q.elim⟩
  · exact .inl ⟨⟨_, hL, by rw [List.length_map]; omega⟩, hend σ1 H1⟩
end L3

set_option Elab.async false
set_option linter.all false
set_option maxRecDepth 100000
set_option maxHeartbeats 4000000
namespace FM
open PySem PySem.Spec PyProof.Rows L2 L3
def topS (i : Nat) : Stmt := PySem.Challenge.pw_floodmarks_k01_what_are_marks_and_who_is.main.body.getD i (.Pass ⟨0, 0, 0, 0⟩)
structure Bt (mg : Str → Option Value) : Prop where
  isinstance : mg "isinstance" = none
  int : mg "int" = none
  bool : mg "bool" = none
  list : mg "list" = none
  tuple : mg "tuple" = none
  str : mg "str" = none
  len : mg "len" = none
  all : mg "all" = none
  zip : mg "zip" = none
  range : mg "range" = none
  enumerate : mg "enumerate" = none
  sum : mg "sum" = none
  max : mg "max" = none
  min : mg "min" = none
  sorted : mg "sorted" = none
  divmod : mg "divmod" = none
  MOST_TOP : ∃ t, mg "MOST_TOP" = some (.int 40 t)
  MOST_MARKS : ∃ t, mg "MOST_MARKS" = some (.int 8 t)
  MOST_FLOODS : ∃ t, mg "MOST_FLOODS" = some (.int 40 t)
  MOST_FAR : ∃ t, mg "MOST_FAR" = some (.int 1000000000000000000 t)
  MOST_BY : ∃ t, mg "MOST_BY" = some (.int 1000000000 t)
  MOST_LOG : ∃ t, mg "MOST_LOG" = some (.int 6 t)

def smA (d : D) : Prop := ∃ n, sm n d = true
theorem smA_no {d : D} (h : smA d) : noO d = true := by
  obtain ⟨n, h⟩ := h
  cases d with
  | obj φ => cases n <;> cases h
  | _ => rfl
theorem smA_tup {ds : List D} (h : smA (.tup ds)) : ds.length ≤ 100000 ∧ ∀ d ∈ ds, smA d := by
  obtain ⟨n, h⟩ := h
  cases n with
  | zero => cases h
  | succ n =>
    simp only [sm, Bool.and_eq_true, decide_eq_true_eq] at h
    exact ⟨h.1, fun d hd => ⟨n, sms_mem h.2 d hd⟩⟩
theorem smA_lst {ds : List D} (h : smA (.lst ds)) : ds.length ≤ 100000 ∧ ∀ d ∈ ds, smA d := by
  obtain ⟨n, h⟩ := h
  cases n with
  | zero => cases h
  | succ n =>
    simp only [sm, Bool.and_eq_true, decide_eq_true_eq] at h
    exact ⟨h.1, fun d hd => ⟨n, sms_mem h.2 d hd⟩⟩
theorem smA_int (i : Int) : smA (.int i) := ⟨0, rfl⟩
theorem smA_non : smA .non := ⟨0, rfl⟩
theorem smA_bl (b : Bool) : smA (.bl b) := ⟨0, rfl⟩
def toldV (r : Option Str) (v : S) (Q : S → Prop) (ED : Str → Prop) : Prop := match r with
  | none => Q v
  | some c => ED c
def told (r : Option Str) (Q : S → Prop) (ED : Str → Prop) : Prop := toldV r (.fz .non) Q ED
def toldF (r : Option Str) (ED : Str → Prop) : Prop := ∃ c, r = some c ∧ ED c
def thenR (a b : Option Str) : Option Str := match a with
  | none => b
  | some c => some c
theorem told_none {Q : S → Prop} {ED : Str → Prop} : told none Q ED = Q (.fz .non) := rfl
theorem told_some {c : Str} {Q : S → Prop} {ED : Str → Prop} : told (some c) Q ED = ED c := rfl
theorem toldV_none {v : S} {Q : S → Prop} {ED : Str → Prop} : toldV none v Q ED = Q v := rfl
theorem toldV_some {c : Str} {v : S} {Q : S → Prop} {ED : Str → Prop} : toldV (some c) v Q ED = ED c := rfl
theorem then_none {b : Option Str} : thenR none b = b := rfl
theorem then_some {c : Str} {b : Option Str} : thenR (some c) b = some c := rfl
def isW : D → Bool
  | .int _ => true
  | _ => false
def dp_is_whole : DP := fun ds Q _ => ∃ d, ds = [d] ∧ noO d = true ∧ Q (.fz (.bl (isW d)))

abbrev s_is_whole : Stmt := topS 14
theorem sc_is_whole : FnScope ["thing"] ["thing"] (defScope s_is_whole) := ⟨rfl, rfl, rfl, by decide +kernel, rfl, by decide +kernel, by decide +kernel⟩
theorem ok_is_whole {P : Program} {w : World} {K : PySem.W.Frag} {mg : Str → Option Value} {base : Heap} (B : Bt mg) (d : Df K mg "is_whole" s_is_whole ["thing"])  : Fn P w K mg base "is_whole" (0 + 1) 1 dp_is_whole := by
  refine fn_mk d sc_is_whole rfl (by decide) fun f cdv A outer s H E C hr => ⟨_, _, (ds_one (ds_ret (d_and (d_isi_int (by rfl) B.isinstance B.int (dv 0)) (d_one (d_not (d_isi_bool (by rfl) B.isinstance B.bool (dv 0))))))), fun ds QD ED hl0 h => ?_⟩
  obtain ⟨a0, rfl⟩ : ∃ a0, ds = [a0] := by
    match ds, hl0 with
    | [a0], _ => exact ⟨a0, rfl⟩
  clear hl0
  obtain ⟨d, e, no, q⟩ := h
  cases e
  simp only [xSeq, xSet, xRet, xIf, xExpr, xNext, xNever, xC, xNil, xCons, xTup, xLst, xOp, xEq, xNe, xUn, xNot, xAnd, xOr, xIfE, xCB, xCall, xCallB, xName, xAsg, xIsi3, toD_fz, toD_ow, toD_od, toD_bg, rd_var, rd_getv1, rd_getv2, rd_getv3, rd_test, rd_onB, rd_onI, rd_onSB, rd_andV, rd_orV, rd_notV, rd_chain, rd_II, rd_II0, rd_add1, rd_add2, rd_add3, rd_mul1, rd_mul2, rd_mul3, rd_isN, rd_notN, rd_isN1, rd_isN2, rd_isN3, rd_neg, rd_ix1, rd_ix2, rd_part, rd_sl, rd_onSl1, rd_onSl2, rd_rev, rd_onRv, rd_len1, rd_len2, rd_max2, rd_min2, rd_int1, rd_int2, rd_lst1, rd_lst2, rd_tup1, rd_tup2, rd_dm, rd_seqI, rd_onSq1, rd_onSq2, rd_rng1, rd_onR1, rd_rng2, rd_onR2, xEnumT, rd_onEt, rd_zip, rd_onZ1, rd_onZ2, rd_par, rd_onP, xPar3, rd_onP3, rd_gtup, rd_gnil, rd_gcons, rd_isi, noO_int, noO_bl, noO_str, noO_lst, noO_tup, noO_non, ini, iniB, wipeD, unw, kf, List.map_cons, List.map_nil, List.replicate_succ, List.replicate_zero, List.cons_append, List.nil_append, List.length_cons, List.length_nil, List.getElem?_cons_zero, List.getElem?_cons_succ, List.set_cons_zero, List.set_cons_succ, decide_eq_true_eq, Nat.zero_add, Nat.reduceAdd, Nat.reduceSub, Nat.reduceLeDiff, true_and, Bool.false_eq_true, if_false, if_true, isi_int_non, isi_int_bl, isi_int_int, isi_int_str, isi_int_lst, isi_int_tup, isi_bool_non, isi_bool_bl, isi_bool_int, isi_bool_str, isi_bool_lst, isi_bool_tup, isi_list_non, isi_list_bl, isi_list_int, isi_list_str, isi_list_lst, isi_list_tup, isi_tuple_non, isi_tuple_bl, isi_tuple_int, isi_tuple_str, isi_tuple_lst, isi_tuple_tup, isi_str_non, isi_str_bl, isi_str_int, isi_str_str, isi_str_lst, isi_str_tup, Bool.not_true, Bool.not_false, Bool.or_false, Bool.or_true, Bool.false_or, Bool.true_or, ite_true, ite_false, Option.some.injEq, true_or, false_or, or_false, and_true, no]
  cases a0 <;> first | (cases no; done) | (simp [isiD, isiN, tyN]; exact q)

def inR : D → Int → Int → Bool
  | .int i, lo, hi => decide (lo ≤ i) && decide (i ≤ hi)
  | _, _, _ => false
theorem inR_int {d : D} {lo hi : Int} (h : inR d lo hi = true) : ∃ i, d = .int i ∧ lo ≤ i ∧ i ≤ hi := by
  cases d with
  | int i =>
    simp only [inR, Bool.and_eq_true, decide_eq_true_eq] at h
    exact ⟨i, rfl, h.1, h.2⟩
  | _ => cases h
def ival : D → Int
  | .int i => i
  | _ => 0
theorem ivals {lo hi : Int} : ∀ {ds : List D}, (ds.all fun x => inR x lo hi) = true → ds = (ds.map ival).map D.int
  | [], _ => rfl
  | d :: ds, h => by
    simp only [List.all_cons, Bool.and_eq_true] at h
    obtain ⟨i, rfl, _⟩ := inR_int h.1
    rw [List.map_cons, List.map_cons, ← ivals h.2]
    rfl
def dp_is_within : DP := fun ds Q _ => ∃ d lo hi, ds = [d, .int lo, .int hi] ∧ noO d = true ∧ Q (.fz (.bl (inR d lo hi)))

abbrev s_is_within : Stmt := topS 15
theorem sc_is_within : FnScope ["thing", "low", "high"] ["thing", "low", "high"] (defScope s_is_within) := ⟨rfl, rfl, rfl, by decide +kernel, rfl, by decide +kernel, by decide +kernel⟩
theorem ok_is_within {P : Program} {w : World} {K : PySem.W.Frag} {mg : Str → Option Value} {base : Heap} (B : Bt mg) (d : Df K mg "is_within" s_is_within ["thing", "low", "high"]) (h_is_whole : Fn P w K mg base "is_whole" 1 1 dp_is_whole) : Fn P w K mg base "is_within" (1 + 1) 3 dp_is_within := by
  refine fn_mk d sc_is_within rfl (by decide) fun f cdv A outer s H E C hr => ⟨_, _, (ds_one (ds_ret (d_and (d_fnK h_is_whole (hr.mono (by decide)) (da_cons (dv 0) da_nil)) (d_one (d_chain o_le o_le (dv 1) (dv 0) (dv 2)))))), fun ds QD ED hl0 h => ?_⟩
  obtain ⟨a0, a1, a2, rfl⟩ : ∃ a0 a1 a2, ds = [a0, a1, a2] := by
    match ds, hl0 with
    | [a0, a1, a2], _ => exact ⟨a0, a1, a2, rfl⟩
  clear hl0
  obtain ⟨d, lo, hi, e, no, q⟩ := h
  cases e
  simp only [xSeq, xSet, xRet, xIf, xExpr, xNext, xNever, xC, xNil, xCons, xTup, xLst, xOp, xEq, xNe, xUn, xNot, xAnd, xOr, xIfE, xCB, xCall, xCallB, xName, xAsg, xIsi3, toD_fz, toD_ow, toD_od, toD_bg, rd_var, rd_getv1, rd_getv2, rd_getv3, rd_test, rd_onB, rd_onI, rd_onSB, rd_andV, rd_orV, rd_notV, rd_chain, rd_II, rd_II0, rd_add1, rd_add2, rd_add3, rd_mul1, rd_mul2, rd_mul3, rd_isN, rd_notN, rd_isN1, rd_isN2, rd_isN3, rd_neg, rd_ix1, rd_ix2, rd_part, rd_sl, rd_onSl1, rd_onSl2, rd_rev, rd_onRv, rd_len1, rd_len2, rd_max2, rd_min2, rd_int1, rd_int2, rd_lst1, rd_lst2, rd_tup1, rd_tup2, rd_dm, rd_seqI, rd_onSq1, rd_onSq2, rd_rng1, rd_onR1, rd_rng2, rd_onR2, xEnumT, rd_onEt, rd_zip, rd_onZ1, rd_onZ2, rd_par, rd_onP, xPar3, rd_onP3, rd_gtup, rd_gnil, rd_gcons, rd_isi, noO_int, noO_bl, noO_str, noO_lst, noO_tup, noO_non, ini, iniB, wipeD, unw, kf, List.map_cons, List.map_nil, List.replicate_succ, List.replicate_zero, List.cons_append, List.nil_append, List.length_cons, List.length_nil, List.getElem?_cons_zero, List.getElem?_cons_succ, List.set_cons_zero, List.set_cons_succ, decide_eq_true_eq, Nat.zero_add, Nat.reduceAdd, Nat.reduceSub, Nat.reduceLeDiff, true_and, Bool.false_eq_true, if_false, if_true, isi_int_non, isi_int_bl, isi_int_int, isi_int_str, isi_int_lst, isi_int_tup, isi_bool_non, isi_bool_bl, isi_bool_int, isi_bool_str, isi_bool_lst, isi_bool_tup, isi_list_non, isi_list_bl, isi_list_int, isi_list_str, isi_list_lst, isi_list_tup, isi_tuple_non, isi_tuple_bl, isi_tuple_int, isi_tuple_str, isi_tuple_lst, isi_tuple_tup, isi_str_non, isi_str_bl, isi_str_int, isi_str_str, isi_str_lst, isi_str_tup, Bool.not_true, Bool.not_false, Bool.or_false, Bool.or_true, Bool.false_or, Bool.true_or, ite_true, ite_false, Option.some.injEq, true_or, false_or, or_false, and_true]
  refine ⟨a0, rfl, no, ?_⟩
  cases a0 with
  | int i =>
    simp only [xSeq, xSet, xRet, xIf, xExpr, xNext, xNever, xC, xNil, xCons, xTup, xLst, xOp, xEq, xNe, xUn, xNot, xAnd, xOr, xIfE, xCB, xCall, xCallB, xName, xAsg, xIsi3, toD_fz, toD_ow, toD_od, toD_bg, rd_var, rd_getv1, rd_getv2, rd_getv3, rd_test, rd_onB, rd_onI, rd_onSB, rd_andV, rd_orV, rd_notV, rd_chain, rd_II, rd_II0, rd_add1, rd_add2, rd_add3, rd_mul1, rd_mul2, rd_mul3, rd_isN, rd_notN, rd_isN1, rd_isN2, rd_isN3, rd_neg, rd_ix1, rd_ix2, rd_part, rd_sl, rd_onSl1, rd_onSl2, rd_rev, rd_onRv, rd_len1, rd_len2, rd_max2, rd_min2, rd_int1, rd_int2, rd_lst1, rd_lst2, rd_tup1, rd_tup2, rd_dm, rd_seqI, rd_onSq1, rd_onSq2, rd_rng1, rd_onR1, rd_rng2, rd_onR2, xEnumT, rd_onEt, rd_zip, rd_onZ1, rd_onZ2, rd_par, rd_onP, xPar3, rd_onP3, rd_gtup, rd_gnil, rd_gcons, rd_isi, noO_int, noO_bl, noO_str, noO_lst, noO_tup, noO_non, ini, iniB, wipeD, unw, kf, List.map_cons, List.map_nil, List.replicate_succ, List.replicate_zero, List.cons_append, List.nil_append, List.length_cons, List.length_nil, List.getElem?_cons_zero, List.getElem?_cons_succ, List.set_cons_zero, List.set_cons_succ, decide_eq_true_eq, Nat.zero_add, Nat.reduceAdd, Nat.reduceSub, Nat.reduceLeDiff, true_and, Bool.false_eq_true, if_false, if_true, isi_int_non, isi_int_bl, isi_int_int, isi_int_str, isi_int_lst, isi_int_tup, isi_bool_non, isi_bool_bl, isi_bool_int, isi_bool_str, isi_bool_lst, isi_bool_tup, isi_list_non, isi_list_bl, isi_list_int, isi_list_str, isi_list_lst, isi_list_tup, isi_tuple_non, isi_tuple_bl, isi_tuple_int, isi_tuple_str, isi_tuple_lst, isi_tuple_tup, isi_str_non, isi_str_bl, isi_str_int, isi_str_str, isi_str_lst, isi_str_tup, Bool.not_true, Bool.not_false, Bool.or_false, Bool.or_true, Bool.false_or, Bool.true_or, ite_true, ite_false, Option.some.injEq, true_or, false_or, or_false, and_true, isW]
    by_cases h1 : lo ≤ i
    · simpa [inR, h1] using q
    · simpa [inR, h1] using q
  | _ => exact q

def rfTop (d : D) : Option Str := if inR d 1 40 = true then none else some (nmC 0)
theorem rfTop_none {d : D} (h : rfTop d = none) : ∃ top, d = .int top ∧ 1 ≤ top ∧ top ≤ 40 := by
  unfold rfTop at h
  split at h
  · rename_i h1
    exact inR_int h1
  · cases h
theorem rfTop_int {top : Int} (h1 : 1 ≤ top) (h2 : top ≤ 40) : rfTop (.int top) = none := by
  unfold rfTop
  rw [if_pos (by simp [inR, h1, h2])]
def dp_look_at_top : DP := fun ds Q ED => ∃ d, ds = [d] ∧ noO d = true ∧ told (rfTop d) Q ED

abbrev s_look_at_top : Stmt := topS 16
theorem sc_look_at_top : FnScope ["top"] ["top"] (defScope s_look_at_top) := ⟨rfl, rfl, rfl, by decide +kernel, rfl, by decide +kernel, by decide +kernel⟩
theorem ok_look_at_top {P : Program} {w : World} {K : PySem.W.Frag} {mg : Str → Option Value} {base : Heap} {A7 : Nat → Addr} {CF : Addr} (B : Bt mg) (CL : Cls K mg A7 CF) (d : Df K mg "look_at_top" s_look_at_top ["top"]) (h_is_within : Fn P w K mg base "is_within" 2 3 dp_is_within) : FnX P w K mg base "look_at_top" (2 + 1) 1 dp_look_at_top := by
  refine fn_mkX d sc_look_at_top rfl (by decide) fun f cdv A outer s H E C ED hr hE => ⟨_, _, (ds_one (ds_if (dt_not (dt_val (d_fnK h_is_within (hr.mono (by decide)) (da_cons (dv 0) (da_cons d_int (da_cons (d_globI (by rfl) B.MOST_TOP) da_nil)))))) (ds_one (ds_raise hE (CL.ex 0 (by decide)))) ds_nil)), fun ds QD hl0 h => ?_⟩
  obtain ⟨a0, rfl⟩ : ∃ a0, ds = [a0] := by
    match ds, hl0 with
    | [a0], _ => exact ⟨a0, rfl⟩
  clear hl0
  obtain ⟨d, e, no, q⟩ := h
  cases e
  simp only [xSeq, xSet, xRet, xIf, xExpr, xNext, xNever, xC, xNil, xCons, xTup, xLst, xOp, xEq, xNe, xUn, xNot, xAnd, xOr, xIfE, xCB, xCall, xCallB, xName, xAsg, xIsi3, toD_fz, toD_ow, toD_od, toD_bg, rd_var, rd_getv1, rd_getv2, rd_getv3, rd_test, rd_onB, rd_onI, rd_onSB, rd_andV, rd_orV, rd_notV, rd_chain, rd_II, rd_II0, rd_add1, rd_add2, rd_add3, rd_mul1, rd_mul2, rd_mul3, rd_isN, rd_notN, rd_isN1, rd_isN2, rd_isN3, rd_neg, rd_ix1, rd_ix2, rd_part, rd_sl, rd_onSl1, rd_onSl2, rd_rev, rd_onRv, rd_len1, rd_len2, rd_max2, rd_min2, rd_int1, rd_int2, rd_lst1, rd_lst2, rd_tup1, rd_tup2, rd_dm, rd_seqI, rd_onSq1, rd_onSq2, rd_rng1, rd_onR1, rd_rng2, rd_onR2, xEnumT, rd_onEt, rd_zip, rd_onZ1, rd_onZ2, rd_par, rd_onP, xPar3, rd_onP3, rd_gtup, rd_gnil, rd_gcons, rd_isi, noO_int, noO_bl, noO_str, noO_lst, noO_tup, noO_non, ini, iniB, wipeD, unw, kf, List.map_cons, List.map_nil, List.replicate_succ, List.replicate_zero, List.cons_append, List.nil_append, List.length_cons, List.length_nil, List.getElem?_cons_zero, List.getElem?_cons_succ, List.set_cons_zero, List.set_cons_succ, decide_eq_true_eq, Nat.zero_add, Nat.reduceAdd, Nat.reduceSub, Nat.reduceLeDiff, true_and, Bool.false_eq_true, if_false, if_true, isi_int_non, isi_int_bl, isi_int_int, isi_int_str, isi_int_lst, isi_int_tup, isi_bool_non, isi_bool_bl, isi_bool_int, isi_bool_str, isi_bool_lst, isi_bool_tup, isi_list_non, isi_list_bl, isi_list_int, isi_list_str, isi_list_lst, isi_list_tup, isi_tuple_non, isi_tuple_bl, isi_tuple_int, isi_tuple_str, isi_tuple_lst, isi_tuple_tup, isi_str_non, isi_str_bl, isi_str_int, isi_str_str, isi_str_lst, isi_str_tup, Bool.not_true, Bool.not_false, Bool.or_false, Bool.or_true, Bool.false_or, Bool.true_or, ite_true, ite_false, Option.some.injEq, true_or, false_or, or_false, and_true, xRaise]
  refine ⟨a0, 1, 40, rfl, no, ?_⟩
  unfold rfTop at q
  cases hi : inR a0 1 40 with
  | true =>
    rw [hi] at q
    simp only [xSeq, xSet, xRet, xIf, xExpr, xNext, xNever, xC, xNil, xCons, xTup, xLst, xOp, xEq, xNe, xUn, xNot, xAnd, xOr, xIfE, xCB, xCall, xCallB, xName, xAsg, xIsi3, toD_fz, toD_ow, toD_od, toD_bg, rd_var, rd_getv1, rd_getv2, rd_getv3, rd_test, rd_onB, rd_onI, rd_onSB, rd_andV, rd_orV, rd_notV, rd_chain, rd_II, rd_II0, rd_add1, rd_add2, rd_add3, rd_mul1, rd_mul2, rd_mul3, rd_isN, rd_notN, rd_isN1, rd_isN2, rd_isN3, rd_neg, rd_ix1, rd_ix2, rd_part, rd_sl, rd_onSl1, rd_onSl2, rd_rev, rd_onRv, rd_len1, rd_len2, rd_max2, rd_min2, rd_int1, rd_int2, rd_lst1, rd_lst2, rd_tup1, rd_tup2, rd_dm, rd_seqI, rd_onSq1, rd_onSq2, rd_rng1, rd_onR1, rd_rng2, rd_onR2, xEnumT, rd_onEt, rd_zip, rd_onZ1, rd_onZ2, rd_par, rd_onP, xPar3, rd_onP3, rd_gtup, rd_gnil, rd_gcons, rd_isi, noO_int, noO_bl, noO_str, noO_lst, noO_tup, noO_non, ini, iniB, wipeD, unw, kf, List.map_cons, List.map_nil, List.replicate_succ, List.replicate_zero, List.cons_append, List.nil_append, List.length_cons, List.length_nil, List.getElem?_cons_zero, List.getElem?_cons_succ, List.set_cons_zero, List.set_cons_succ, decide_eq_true_eq, Nat.zero_add, Nat.reduceAdd, Nat.reduceSub, Nat.reduceLeDiff, true_and, Bool.false_eq_true, if_false, if_true, isi_int_non, isi_int_bl, isi_int_int, isi_int_str, isi_int_lst, isi_int_tup, isi_bool_non, isi_bool_bl, isi_bool_int, isi_bool_str, isi_bool_lst, isi_bool_tup, isi_list_non, isi_list_bl, isi_list_int, isi_list_str, isi_list_lst, isi_list_tup, isi_tuple_non, isi_tuple_bl, isi_tuple_int, isi_tuple_str, isi_tuple_lst, isi_tuple_tup, isi_str_non, isi_str_bl, isi_str_int, isi_str_str, isi_str_lst, isi_str_tup, Bool.not_true, Bool.not_false, Bool.or_false, Bool.or_true, Bool.false_or, Bool.true_or, ite_true, ite_false, Option.some.injEq, true_or, false_or, or_false, and_true, xRaise]
    exact q
  | false =>
    rw [hi] at q
    simp only [xSeq, xSet, xRet, xIf, xExpr, xNext, xNever, xC, xNil, xCons, xTup, xLst, xOp, xEq, xNe, xUn, xNot, xAnd, xOr, xIfE, xCB, xCall, xCallB, xName, xAsg, xIsi3, toD_fz, toD_ow, toD_od, toD_bg, rd_var, rd_getv1, rd_getv2, rd_getv3, rd_test, rd_onB, rd_onI, rd_onSB, rd_andV, rd_orV, rd_notV, rd_chain, rd_II, rd_II0, rd_add1, rd_add2, rd_add3, rd_mul1, rd_mul2, rd_mul3, rd_isN, rd_notN, rd_isN1, rd_isN2, rd_isN3, rd_neg, rd_ix1, rd_ix2, rd_part, rd_sl, rd_onSl1, rd_onSl2, rd_rev, rd_onRv, rd_len1, rd_len2, rd_max2, rd_min2, rd_int1, rd_int2, rd_lst1, rd_lst2, rd_tup1, rd_tup2, rd_dm, rd_seqI, rd_onSq1, rd_onSq2, rd_rng1, rd_onR1, rd_rng2, rd_onR2, xEnumT, rd_onEt, rd_zip, rd_onZ1, rd_onZ2, rd_par, rd_onP, xPar3, rd_onP3, rd_gtup, rd_gnil, rd_gcons, rd_isi, noO_int, noO_bl, noO_str, noO_lst, noO_tup, noO_non, ini, iniB, wipeD, unw, kf, List.map_cons, List.map_nil, List.replicate_succ, List.replicate_zero, List.cons_append, List.nil_append, List.length_cons, List.length_nil, List.getElem?_cons_zero, List.getElem?_cons_succ, List.set_cons_zero, List.set_cons_succ, decide_eq_true_eq, Nat.zero_add, Nat.reduceAdd, Nat.reduceSub, Nat.reduceLeDiff, true_and, Bool.false_eq_true, if_false, if_true, isi_int_non, isi_int_bl, isi_int_int, isi_int_str, isi_int_lst, isi_int_tup, isi_bool_non, isi_bool_bl, isi_bool_int, isi_bool_str, isi_bool_lst, isi_bool_tup, isi_list_non, isi_list_bl, isi_list_int, isi_list_str, isi_list_lst, isi_list_tup, isi_tuple_non, isi_tuple_bl, isi_tuple_int, isi_tuple_str, isi_tuple_lst, isi_tuple_tup, isi_str_non, isi_str_bl, isi_str_int, isi_str_str, isi_str_lst, isi_str_tup, Bool.not_true, Bool.not_false, Bool.or_false, Bool.or_true, Bool.false_or, Bool.true_or, ite_true, ite_false, Option.some.injEq, true_or, false_or, or_false, and_true, xRaise]
    exact q

def falling : List Int → Bool
  | x :: y :: r => decide (y < x) && falling (y :: r)
  | _ => true
def pairsOf (ns : List Int) : List (Int × Int) := ns.zip (ns.drop 1)
theorem falling_pairs : ∀ ns : List Int, ((pairsOf ns).map fun p => decide (p.2 < p.1)).all id = falling ns
  | [] => rfl
  | [_] => rfl
  | x :: y :: r => by
    have ih := falling_pairs (y :: r)
    simp only [pairsOf, List.drop_succ_cons, List.drop_zero, List.zip_cons_cons, List.map_cons, List.all_cons, id, falling] at ih ⊢
    rw [ih]
theorem cut1 (ns : List Int) : L3.cutD (ns.map D.int) (some 1) none = (ns.drop 1).map D.int := by
  unfold L3.cutD
  rw [show HT.sIx (ns.map D.int).length 0 (some 1) = min 1 (ns.map D.int).length from HT.sIx_nat (ns.map D.int).length 0 1, HT.sIx_none]
  cases ns with
  | nil => rfl
  | cons x r =>
    rw [show min 1 ((x :: r).map D.int).length = 1 by
      rw [List.map_cons, List.length_cons]
      omega]
    simp [List.take_of_length_le]
theorem zipD_ints : ∀ (ns ms : List Int), zipD (ns.map D.int) (ms.map D.int) = (ns.zip ms).map fun p => D.tup [.int p.1, .int p.2]
  | [], _ => by simp [zipD]
  | _ :: _, [] => by simp [zipD]
  | x :: ns, y :: ms => by
    have ih := zipD_ints ns ms
    simp only [zipD, List.map_cons, List.zip_cons_cons] at ih ⊢
    rw [ih]
def dp_falls : DP := fun ds Q _ => ∃ ns : List Int, ds = [.tup (ns.map D.int)] ∧ ns.length ≤ 100000 ∧ Q (.fz (.bl (falling ns)))

abbrev s_falls : Stmt := topS 17
theorem sc_falls : FnScope ["things", "one", "other"] ["things"] (defScope s_falls) := ⟨rfl, rfl, rfl, by decide +kernel, rfl, by decide +kernel, by decide +kernel⟩
theorem ok_falls {P : Program} {w : World} {K : PySem.W.Frag} {mg : Str → Option Value} {base : Heap} (B : Bt mg) (d : Df K mg "falls" s_falls ["things"])  : Fn P w K mg base "falls" (0 + 1) 1 dp_falls := by
  refine fn_mk d sc_falls rfl (by decide) fun f cdv A outer s H E C hr => ⟨_, _, (ds_one (ds_ret (d_callB (c_allK K rfl) (by rfl) B.all (by decide +kernel) (da_cons (d_lc [("one", 1), ("other", 2)] rfl sc_falls.nd (di_zipK K (by rfl) B.zip (da_cons (dv 0) (da_cons (d_slK K (dv 0) (do_some d_int) do_none) da_nil))) (blkOk_by (by show blkC ["things", "one", "other"] (defScope s_falls) _ [("one", 1), ("other", 2)] = true; decide +kernel)) (fun _ _ _ _ _ _ => (dg_tupK K (n := 2) rfl (dgs_cons (dg_name 1 sc_falls.nd) (dgs_cons (dg_name 2 sc_falls.nd) dgs_nil)))) (fun _ _ _ _ _ _ => dts_nil) (fun _ _ _ _ _ _ => (d_cmp o_gt (dv 1) (dv 2)))) da_nil)))), fun ds QD ED hl0 h => ?_⟩
  obtain ⟨a0, rfl⟩ : ∃ a0, ds = [a0] := by
    match ds, hl0 with
    | [a0], _ => exact ⟨a0, rfl⟩
  clear hl0
  obtain ⟨ns, e, hl, q⟩ := h
  cases e
  simp only [xSeq, xSet, xRet, xIf, xExpr, xNext, xNever, xC, xNil, xCons, xTup, xLst, xOp, xEq, xNe, xUn, xNot, xAnd, xOr, xIfE, xCB, xCall, xCallB, xName, xAsg, xIsi3, toD_fz, toD_ow, toD_od, toD_bg, rd_var, rd_getv1, rd_getv2, rd_getv3, rd_test, rd_onB, rd_onI, rd_onSB, rd_andV, rd_orV, rd_notV, rd_chain, rd_II, rd_II0, rd_add1, rd_add2, rd_add3, rd_mul1, rd_mul2, rd_mul3, rd_isN, rd_notN, rd_isN1, rd_isN2, rd_isN3, rd_neg, rd_ix1, rd_ix2, rd_part, rd_sl, rd_onSl1, rd_onSl2, rd_rev, rd_onRv, rd_len1, rd_len2, rd_max2, rd_min2, rd_int1, rd_int2, rd_lst1, rd_lst2, rd_tup1, rd_tup2, rd_dm, rd_seqI, rd_onSq1, rd_onSq2, rd_rng1, rd_onR1, rd_rng2, rd_onR2, xEnumT, rd_onEt, rd_zip, rd_onZ1, rd_onZ2, rd_par, rd_onP, xPar3, rd_onP3, rd_gtup, rd_gnil, rd_gcons, rd_isi, noO_int, noO_bl, noO_str, noO_lst, noO_tup, noO_non, ini, iniB, wipeD, unw, kf, List.map_cons, List.map_nil, List.replicate_succ, List.replicate_zero, List.cons_append, List.nil_append, List.length_cons, List.length_nil, List.getElem?_cons_zero, List.getElem?_cons_succ, List.set_cons_zero, List.set_cons_succ, decide_eq_true_eq, Nat.zero_add, Nat.reduceAdd, Nat.reduceSub, Nat.reduceLeDiff, true_and, Bool.false_eq_true, if_false, if_true, isi_int_non, isi_int_bl, isi_int_int, isi_int_str, isi_int_lst, isi_int_tup, isi_bool_non, isi_bool_bl, isi_bool_int, isi_bool_str, isi_bool_lst, isi_bool_tup, isi_list_non, isi_list_bl, isi_list_int, isi_list_str, isi_list_lst, isi_list_tup, isi_tuple_non, isi_tuple_bl, isi_tuple_int, isi_tuple_str, isi_tuple_lst, isi_tuple_tup, isi_str_non, isi_str_bl, isi_str_int, isi_str_str, isi_str_lst, isi_str_tup, Bool.not_true, Bool.not_false, Bool.or_false, Bool.or_true, Bool.false_or, Bool.true_or, ite_true, ite_false, Option.some.injEq, true_or, false_or, or_false, and_true]
  refine lc_pure (pairsOf ns) (fun p => D.tup [.int p.1, .int p.2]) (fun _ => true) (fun p => .bl (decide (p.2 < p.1))) [some (.fz (.tup (ns.map D.int))), none, none] (fun QL hq => ?_) ?_ (fun a ha QD QN h1 h2 => ?_) ?_
  · simp only [xSeq, xSet, xRet, xIf, xExpr, xNext, xNever, xC, xNil, xCons, xTup, xLst, xOp, xEq, xNe, xUn, xNot, xAnd, xOr, xIfE, xCB, xCall, xCallB, xName, xAsg, xIsi3, toD_fz, toD_ow, toD_od, toD_bg, rd_var, rd_getv1, rd_getv2, rd_getv3, rd_test, rd_onB, rd_onI, rd_onSB, rd_andV, rd_orV, rd_notV, rd_chain, rd_II, rd_II0, rd_add1, rd_add2, rd_add3, rd_mul1, rd_mul2, rd_mul3, rd_isN, rd_notN, rd_isN1, rd_isN2, rd_isN3, rd_neg, rd_ix1, rd_ix2, rd_part, rd_sl, rd_onSl1, rd_onSl2, rd_rev, rd_onRv, rd_len1, rd_len2, rd_max2, rd_min2, rd_int1, rd_int2, rd_lst1, rd_lst2, rd_tup1, rd_tup2, rd_dm, rd_seqI, rd_onSq1, rd_onSq2, rd_rng1, rd_onR1, rd_rng2, rd_onR2, xEnumT, rd_onEt, rd_zip, rd_onZ1, rd_onZ2, rd_par, rd_onP, xPar3, rd_onP3, rd_gtup, rd_gnil, rd_gcons, rd_isi, noO_int, noO_bl, noO_str, noO_lst, noO_tup, noO_non, ini, iniB, wipeD, unw, kf, List.map_cons, List.map_nil, List.replicate_succ, List.replicate_zero, List.cons_append, List.nil_append, List.length_cons, List.length_nil, List.getElem?_cons_zero, List.getElem?_cons_succ, List.set_cons_zero, List.set_cons_succ, decide_eq_true_eq, Nat.zero_add, Nat.reduceAdd, Nat.reduceSub, Nat.reduceLeDiff, true_and, Bool.false_eq_true, if_false, if_true, isi_int_non, isi_int_bl, isi_int_int, isi_int_str, isi_int_lst, isi_int_tup, isi_bool_non, isi_bool_bl, isi_bool_int, isi_bool_str, isi_bool_lst, isi_bool_tup, isi_list_non, isi_list_bl, isi_list_int, isi_list_str, isi_list_lst, isi_list_tup, isi_tuple_non, isi_tuple_bl, isi_tuple_int, isi_tuple_str, isi_tuple_lst, isi_tuple_tup, isi_str_non, isi_str_bl, isi_str_int, isi_str_str, isi_str_lst, isi_str_tup, Bool.not_true, Bool.not_false, Bool.or_false, Bool.or_true, Bool.false_or, Bool.true_or, ite_true, ite_false, Option.some.injEq, true_or, false_or, or_false, and_true]
    rw [cut1, zipD_ints]
    exact hq
  · simp only [pairsOf, List.length_zip, List.length_drop]
    omega
  · simp only [xSeq, xSet, xRet, xIf, xExpr, xNext, xNever, xC, xNil, xCons, xTup, xLst, xOp, xEq, xNe, xUn, xNot, xAnd, xOr, xIfE, xCB, xCall, xCallB, xName, xAsg, xIsi3, toD_fz, toD_ow, toD_od, toD_bg, rd_var, rd_getv1, rd_getv2, rd_getv3, rd_test, rd_onB, rd_onI, rd_onSB, rd_andV, rd_orV, rd_notV, rd_chain, rd_II, rd_II0, rd_add1, rd_add2, rd_add3, rd_mul1, rd_mul2, rd_mul3, rd_isN, rd_notN, rd_isN1, rd_isN2, rd_isN3, rd_neg, rd_ix1, rd_ix2, rd_part, rd_sl, rd_onSl1, rd_onSl2, rd_rev, rd_onRv, rd_len1, rd_len2, rd_max2, rd_min2, rd_int1, rd_int2, rd_lst1, rd_lst2, rd_tup1, rd_tup2, rd_dm, rd_seqI, rd_onSq1, rd_onSq2, rd_rng1, rd_onR1, rd_rng2, rd_onR2, xEnumT, rd_onEt, rd_zip, rd_onZ1, rd_onZ2, rd_par, rd_onP, xPar3, rd_onP3, rd_gtup, rd_gnil, rd_gcons, rd_isi, noO_int, noO_bl, noO_str, noO_lst, noO_tup, noO_non, ini, iniB, wipeD, unw, kf, List.map_cons, List.map_nil, List.replicate_succ, List.replicate_zero, List.cons_append, List.nil_append, List.length_cons, List.length_nil, List.getElem?_cons_zero, List.getElem?_cons_succ, List.set_cons_zero, List.set_cons_succ, decide_eq_true_eq, Nat.zero_add, Nat.reduceAdd, Nat.reduceSub, Nat.reduceLeDiff, true_and, Bool.false_eq_true, if_false, if_true, isi_int_non, isi_int_bl, isi_int_int, isi_int_str, isi_int_lst, isi_int_tup, isi_bool_non, isi_bool_bl, isi_bool_int, isi_bool_str, isi_bool_lst, isi_bool_tup, isi_list_non, isi_list_bl, isi_list_int, isi_list_str, isi_list_lst, isi_list_tup, isi_tuple_non, isi_tuple_bl, isi_tuple_int, isi_tuple_str, isi_tuple_lst, isi_tuple_tup, isi_str_non, isi_str_bl, isi_str_int, isi_str_str, isi_str_lst, isi_str_tup, Bool.not_true, Bool.not_false, Bool.or_false, Bool.or_true, Bool.false_or, Bool.true_or, ite_true, ite_false, Option.some.injEq, true_or, false_or, or_false, and_true]
    exact h1 rfl
  · simp only [xSeq, xSet, xRet, xIf, xExpr, xNext, xNever, xC, xNil, xCons, xTup, xLst, xOp, xEq, xNe, xUn, xNot, xAnd, xOr, xIfE, xCB, xCall, xCallB, xName, xAsg, xIsi3, toD_fz, toD_ow, toD_od, toD_bg, rd_var, rd_getv1, rd_getv2, rd_getv3, rd_test, rd_onB, rd_onI, rd_onSB, rd_andV, rd_orV, rd_notV, rd_chain, rd_II, rd_II0, rd_add1, rd_add2, rd_add3, rd_mul1, rd_mul2, rd_mul3, rd_isN, rd_notN, rd_isN1, rd_isN2, rd_isN3, rd_neg, rd_ix1, rd_ix2, rd_part, rd_sl, rd_onSl1, rd_onSl2, rd_rev, rd_onRv, rd_len1, rd_len2, rd_max2, rd_min2, rd_int1, rd_int2, rd_lst1, rd_lst2, rd_tup1, rd_tup2, rd_dm, rd_seqI, rd_onSq1, rd_onSq2, rd_rng1, rd_onR1, rd_rng2, rd_onR2, xEnumT, rd_onEt, rd_zip, rd_onZ1, rd_onZ2, rd_par, rd_onP, xPar3, rd_onP3, rd_gtup, rd_gnil, rd_gcons, rd_isi, noO_int, noO_bl, noO_str, noO_lst, noO_tup, noO_non, ini, iniB, wipeD, unw, kf, List.map_cons, List.map_nil, List.replicate_succ, List.replicate_zero, List.cons_append, List.nil_append, List.length_cons, List.length_nil, List.getElem?_cons_zero, List.getElem?_cons_succ, List.set_cons_zero, List.set_cons_succ, decide_eq_true_eq, Nat.zero_add, Nat.reduceAdd, Nat.reduceSub, Nat.reduceLeDiff, true_and, Bool.false_eq_true, if_false, if_true, isi_int_non, isi_int_bl, isi_int_int, isi_int_str, isi_int_lst, isi_int_tup, isi_bool_non, isi_bool_bl, isi_bool_int, isi_bool_str, isi_bool_lst, isi_bool_tup, isi_list_non, isi_list_bl, isi_list_int, isi_list_str, isi_list_lst, isi_list_tup, isi_tuple_non, isi_tuple_bl, isi_tuple_int, isi_tuple_str, isi_tuple_lst, isi_tuple_tup, isi_str_non, isi_str_bl, isi_str_int, isi_str_str, isi_str_lst, isi_str_tup, Bool.not_true, Bool.not_false, Bool.or_false, Bool.or_true, Bool.false_or, Bool.true_or, ite_true, ite_false, Option.some.injEq, true_or, false_or, or_false, and_true]
    refine ⟨(pairsOf ns).map fun p => decide (p.2 < p.1), by simp [List.filter_eq_self.mpr], ?_⟩
    rw [falling_pairs]
    exact q

def marksD (top : Int) : D → Bool
  | .tup ds => decide (ds.length ≤ 8) && ((ds.all fun x => inR x 1 top) && falling (ds.map ival))
  | _ => false
theorem all_id {α : Type} (f : α → Bool) : ∀ l : List α, (l.map f).all id = l.all f
  | [] => rfl
  | x :: l => by rw [List.map_cons, List.all_cons, List.all_cons, all_id f l]; rfl
def dp_are_marks_of : DP := fun ds Q _ => ∃ (top : Int) (d : D), ds = [.int top, d] ∧ smA d ∧ Q (.fz (.bl (marksD top d)))

abbrev s_are_marks_of : Stmt := topS 18
theorem sc_are_marks_of : FnScope ["top", "thing", "one"] ["top", "thing"] (defScope s_are_marks_of) := ⟨rfl, rfl, rfl, by decide +kernel, rfl, by decide +kernel, by decide +kernel⟩
theorem ok_are_marks_of {P : Program} {w : World} {K : PySem.W.Frag} {mg : Str → Option Value} {base : Heap} (B : Bt mg) (d : Df K mg "are_marks_of" s_are_marks_of ["top", "thing"]) (h_falls : Fn P w K mg base "falls" 1 1 dp_falls) (h_is_within : Fn P w K mg base "is_within" 2 3 dp_is_within) : Fn P w K mg base "are_marks_of" (2 + 1) 2 dp_are_marks_of := by
  refine fn_mk d sc_are_marks_of rfl (by decide) fun f cdv A outer s H E C hr => ⟨_, _, (ds_cons (ds_if (PWV.pt (dw_or (dt_not (dt_val (d_isi_tuple (by rfl) B.isinstance B.tuple (dv 1)))) (dw_or1 (dt_cmp o_gt (d_callB (c_lenK K) (by rfl) B.len PySem.boot_len (da_cons (dv 1) da_nil)) (d_globI (by rfl) B.MOST_MARKS))))) (ds_one (ds_ret d_bl)) ds_nil)
      (ds_one (ds_ret (d_and (d_callB (c_allK K rfl) (by rfl) B.all (by decide +kernel) (da_cons (d_lc [("one", 2)] rfl sc_are_marks_of.nd (di_seqK K (dv 1)) (blkOk_by (by show blkC ["top", "thing", "one"] (defScope s_are_marks_of) _ [("one", 2)] = true; decide +kernel)) (fun _ _ _ _ _ _ => (dg_name 2 sc_are_marks_of.nd)) (fun _ _ _ _ _ _ => dts_nil) (fun _ _ _ _ _ _ => (d_fnK h_is_within (hr.mono (by decide)) (da_cons (dv 2) (da_cons d_int (da_cons (dv 0) da_nil)))))) da_nil)) (d_one (d_fnK h_falls (hr.mono (by decide)) (da_cons (dv 1) da_nil))))))), fun ds QD ED hl0 h => ?_⟩
  obtain ⟨a0, a1, rfl⟩ : ∃ a0 a1, ds = [a0, a1] := by
    match ds, hl0 with
    | [a0, a1], _ => exact ⟨a0, a1, rfl⟩
  clear hl0
  obtain ⟨top, d, e, sd, q⟩ := h
  cases e
  have no := smA_no sd
  cases a1 with
  | tup es =>
    obtain ⟨hl, he⟩ := smA_tup sd
    simp only [xSeq, xSet, xRet, xIf, xExpr, xNext, xNever, xC, xNil, xCons, xTup, xLst, xOp, xEq, xNe, xUn, xNot, xAnd, xOr, xIfE, xCB, xCall, xCallB, xName, xAsg, xIsi3, toD_fz, toD_ow, toD_od, toD_bg, rd_var, rd_getv1, rd_getv2, rd_getv3, rd_test, rd_onB, rd_onI, rd_onSB, rd_andV, rd_orV, rd_notV, rd_chain, rd_II, rd_II0, rd_add1, rd_add2, rd_add3, rd_mul1, rd_mul2, rd_mul3, rd_isN, rd_notN, rd_isN1, rd_isN2, rd_isN3, rd_neg, rd_ix1, rd_ix2, rd_part, rd_sl, rd_onSl1, rd_onSl2, rd_rev, rd_onRv, rd_len1, rd_len2, rd_max2, rd_min2, rd_int1, rd_int2, rd_lst1, rd_lst2, rd_tup1, rd_tup2, rd_dm, rd_seqI, rd_onSq1, rd_onSq2, rd_rng1, rd_onR1, rd_rng2, rd_onR2, xEnumT, rd_onEt, rd_zip, rd_onZ1, rd_onZ2, rd_par, rd_onP, xPar3, rd_onP3, rd_gtup, rd_gnil, rd_gcons, rd_isi, noO_int, noO_bl, noO_str, noO_lst, noO_tup, noO_non, ini, iniB, wipeD, unw, kf, List.map_cons, List.map_nil, List.replicate_succ, List.replicate_zero, List.cons_append, List.nil_append, List.length_cons, List.length_nil, List.getElem?_cons_zero, List.getElem?_cons_succ, List.set_cons_zero, List.set_cons_succ, decide_eq_true_eq, Nat.zero_add, Nat.reduceAdd, Nat.reduceSub, Nat.reduceLeDiff, true_and, Bool.false_eq_true, if_false, if_true, isi_int_non, isi_int_bl, isi_int_int, isi_int_str, isi_int_lst, isi_int_tup, isi_bool_non, isi_bool_bl, isi_bool_int, isi_bool_str, isi_bool_lst, isi_bool_tup, isi_list_non, isi_list_bl, isi_list_int, isi_list_str, isi_list_lst, isi_list_tup, isi_tuple_non, isi_tuple_bl, isi_tuple_int, isi_tuple_str, isi_tuple_lst, isi_tuple_tup, isi_str_non, isi_str_bl, isi_str_int, isi_str_str, isi_str_lst, isi_str_tup, Bool.not_true, Bool.not_false, Bool.or_false, Bool.or_true, Bool.false_or, Bool.true_or, ite_true, ite_false, Option.some.injEq, true_or, false_or, or_false, and_true]
    refine ite2 (fun h8 => ?_) (fun h8 => ?_)
    · simp only [marksD, decide_eq_false (show ¬ es.length ≤ 8 by omega), Bool.false_and] at q
      exact q
    · refine lc_pure es id (fun _ => true) (fun x => .bl (inR x 1 top)) [some (.fz (.int top)), some (.fz (.tup es)), none] (fun QL hq => ?_) hl (fun a ha QD QN h1 h2 => ?_) ?_
      · simp only [xSeq, xSet, xRet, xIf, xExpr, xNext, xNever, xC, xNil, xCons, xTup, xLst, xOp, xEq, xNe, xUn, xNot, xAnd, xOr, xIfE, xCB, xCall, xCallB, xName, xAsg, xIsi3, toD_fz, toD_ow, toD_od, toD_bg, rd_var, rd_getv1, rd_getv2, rd_getv3, rd_test, rd_onB, rd_onI, rd_onSB, rd_andV, rd_orV, rd_notV, rd_chain, rd_II, rd_II0, rd_add1, rd_add2, rd_add3, rd_mul1, rd_mul2, rd_mul3, rd_isN, rd_notN, rd_isN1, rd_isN2, rd_isN3, rd_neg, rd_ix1, rd_ix2, rd_part, rd_sl, rd_onSl1, rd_onSl2, rd_rev, rd_onRv, rd_len1, rd_len2, rd_max2, rd_min2, rd_int1, rd_int2, rd_lst1, rd_lst2, rd_tup1, rd_tup2, rd_dm, rd_seqI, rd_onSq1, rd_onSq2, rd_rng1, rd_onR1, rd_rng2, rd_onR2, xEnumT, rd_onEt, rd_zip, rd_onZ1, rd_onZ2, rd_par, rd_onP, xPar3, rd_onP3, rd_gtup, rd_gnil, rd_gcons, rd_isi, noO_int, noO_bl, noO_str, noO_lst, noO_tup, noO_non, ini, iniB, wipeD, unw, kf, List.map_cons, List.map_nil, List.replicate_succ, List.replicate_zero, List.cons_append, List.nil_append, List.length_cons, List.length_nil, List.getElem?_cons_zero, List.getElem?_cons_succ, List.set_cons_zero, List.set_cons_succ, decide_eq_true_eq, Nat.zero_add, Nat.reduceAdd, Nat.reduceSub, Nat.reduceLeDiff, true_and, Bool.false_eq_true, if_false, if_true, isi_int_non, isi_int_bl, isi_int_int, isi_int_str, isi_int_lst, isi_int_tup, isi_bool_non, isi_bool_bl, isi_bool_int, isi_bool_str, isi_bool_lst, isi_bool_tup, isi_list_non, isi_list_bl, isi_list_int, isi_list_str, isi_list_lst, isi_list_tup, isi_tuple_non, isi_tuple_bl, isi_tuple_int, isi_tuple_str, isi_tuple_lst, isi_tuple_tup, isi_str_non, isi_str_bl, isi_str_int, isi_str_str, isi_str_lst, isi_str_tup, Bool.not_true, Bool.not_false, Bool.or_false, Bool.or_true, Bool.false_or, Bool.true_or, ite_true, ite_false, Option.some.injEq, true_or, false_or, or_false, and_true]
        rw [List.map_id] at hq
        exact hq
      · simp only [xSeq, xSet, xRet, xIf, xExpr, xNext, xNever, xC, xNil, xCons, xTup, xLst, xOp, xEq, xNe, xUn, xNot, xAnd, xOr, xIfE, xCB, xCall, xCallB, xName, xAsg, xIsi3, toD_fz, toD_ow, toD_od, toD_bg, rd_var, rd_getv1, rd_getv2, rd_getv3, rd_test, rd_onB, rd_onI, rd_onSB, rd_andV, rd_orV, rd_notV, rd_chain, rd_II, rd_II0, rd_add1, rd_add2, rd_add3, rd_mul1, rd_mul2, rd_mul3, rd_isN, rd_notN, rd_isN1, rd_isN2, rd_isN3, rd_neg, rd_ix1, rd_ix2, rd_part, rd_sl, rd_onSl1, rd_onSl2, rd_rev, rd_onRv, rd_len1, rd_len2, rd_max2, rd_min2, rd_int1, rd_int2, rd_lst1, rd_lst2, rd_tup1, rd_tup2, rd_dm, rd_seqI, rd_onSq1, rd_onSq2, rd_rng1, rd_onR1, rd_rng2, rd_onR2, xEnumT, rd_onEt, rd_zip, rd_onZ1, rd_onZ2, rd_par, rd_onP, xPar3, rd_onP3, rd_gtup, rd_gnil, rd_gcons, rd_isi, noO_int, noO_bl, noO_str, noO_lst, noO_tup, noO_non, ini, iniB, wipeD, unw, kf, List.map_cons, List.map_nil, List.replicate_succ, List.replicate_zero, List.cons_append, List.nil_append, List.length_cons, List.length_nil, List.getElem?_cons_zero, List.getElem?_cons_succ, List.set_cons_zero, List.set_cons_succ, decide_eq_true_eq, Nat.zero_add, Nat.reduceAdd, Nat.reduceSub, Nat.reduceLeDiff, true_and, Bool.false_eq_true, if_false, if_true, isi_int_non, isi_int_bl, isi_int_int, isi_int_str, isi_int_lst, isi_int_tup, isi_bool_non, isi_bool_bl, isi_bool_int, isi_bool_str, isi_bool_lst, isi_bool_tup, isi_list_non, isi_list_bl, isi_list_int, isi_list_str, isi_list_lst, isi_list_tup, isi_tuple_non, isi_tuple_bl, isi_tuple_int, isi_tuple_str, isi_tuple_lst, isi_tuple_tup, isi_str_non, isi_str_bl, isi_str_int, isi_str_str, isi_str_lst, isi_str_tup, Bool.not_true, Bool.not_false, Bool.or_false, Bool.or_true, Bool.false_or, Bool.true_or, ite_true, ite_false, Option.some.injEq, true_or, false_or, or_false, and_true]
        exact ⟨a, 1, top, rfl, smA_no (he a ha), h1 rfl⟩
      · simp only [xSeq, xSet, xRet, xIf, xExpr, xNext, xNever, xC, xNil, xCons, xTup, xLst, xOp, xEq, xNe, xUn, xNot, xAnd, xOr, xIfE, xCB, xCall, xCallB, xName, xAsg, xIsi3, toD_fz, toD_ow, toD_od, toD_bg, rd_var, rd_getv1, rd_getv2, rd_getv3, rd_test, rd_onB, rd_onI, rd_onSB, rd_andV, rd_orV, rd_notV, rd_chain, rd_II, rd_II0, rd_add1, rd_add2, rd_add3, rd_mul1, rd_mul2, rd_mul3, rd_isN, rd_notN, rd_isN1, rd_isN2, rd_isN3, rd_neg, rd_ix1, rd_ix2, rd_part, rd_sl, rd_onSl1, rd_onSl2, rd_rev, rd_onRv, rd_len1, rd_len2, rd_max2, rd_min2, rd_int1, rd_int2, rd_lst1, rd_lst2, rd_tup1, rd_tup2, rd_dm, rd_seqI, rd_onSq1, rd_onSq2, rd_rng1, rd_onR1, rd_rng2, rd_onR2, xEnumT, rd_onEt, rd_zip, rd_onZ1, rd_onZ2, rd_par, rd_onP, xPar3, rd_onP3, rd_gtup, rd_gnil, rd_gcons, rd_isi, noO_int, noO_bl, noO_str, noO_lst, noO_tup, noO_non, ini, iniB, wipeD, unw, kf, List.map_cons, List.map_nil, List.replicate_succ, List.replicate_zero, List.cons_append, List.nil_append, List.length_cons, List.length_nil, List.getElem?_cons_zero, List.getElem?_cons_succ, List.set_cons_zero, List.set_cons_succ, decide_eq_true_eq, Nat.zero_add, Nat.reduceAdd, Nat.reduceSub, Nat.reduceLeDiff, true_and, Bool.false_eq_true, if_false, if_true, isi_int_non, isi_int_bl, isi_int_int, isi_int_str, isi_int_lst, isi_int_tup, isi_bool_non, isi_bool_bl, isi_bool_int, isi_bool_str, isi_bool_lst, isi_bool_tup, isi_list_non, isi_list_bl, isi_list_int, isi_list_str, isi_list_lst, isi_list_tup, isi_tuple_non, isi_tuple_bl, isi_tuple_int, isi_tuple_str, isi_tuple_lst, isi_tuple_tup, isi_str_non, isi_str_bl, isi_str_int, isi_str_str, isi_str_lst, isi_str_tup, Bool.not_true, Bool.not_false, Bool.or_false, Bool.or_true, Bool.false_or, Bool.true_or, ite_true, ite_false, Option.some.injEq, true_or, false_or, or_false, and_true]
        refine ⟨es.map fun x => inR x 1 top, by simp [List.filter_eq_self.mpr], ?_⟩
        simp only [marksD, decide_eq_true (show es.length ≤ 8 by omega), Bool.true_and] at q
        rw [all_id]
        simp only [xSeq, xSet, xRet, xIf, xExpr, xNext, xNever, xC, xNil, xCons, xTup, xLst, xOp, xEq, xNe, xUn, xNot, xAnd, xOr, xIfE, xCB, xCall, xCallB, xName, xAsg, xIsi3, toD_fz, toD_ow, toD_od, toD_bg, rd_var, rd_getv1, rd_getv2, rd_getv3, rd_test, rd_onB, rd_onI, rd_onSB, rd_andV, rd_orV, rd_notV, rd_chain, rd_II, rd_II0, rd_add1, rd_add2, rd_add3, rd_mul1, rd_mul2, rd_mul3, rd_isN, rd_notN, rd_isN1, rd_isN2, rd_isN3, rd_neg, rd_ix1, rd_ix2, rd_part, rd_sl, rd_onSl1, rd_onSl2, rd_rev, rd_onRv, rd_len1, rd_len2, rd_max2, rd_min2, rd_int1, rd_int2, rd_lst1, rd_lst2, rd_tup1, rd_tup2, rd_dm, rd_seqI, rd_onSq1, rd_onSq2, rd_rng1, rd_onR1, rd_rng2, rd_onR2, xEnumT, rd_onEt, rd_zip, rd_onZ1, rd_onZ2, rd_par, rd_onP, xPar3, rd_onP3, rd_gtup, rd_gnil, rd_gcons, rd_isi, noO_int, noO_bl, noO_str, noO_lst, noO_tup, noO_non, ini, iniB, wipeD, unw, kf, List.map_cons, List.map_nil, List.replicate_succ, List.replicate_zero, List.cons_append, List.nil_append, List.length_cons, List.length_nil, List.getElem?_cons_zero, List.getElem?_cons_succ, List.set_cons_zero, List.set_cons_succ, decide_eq_true_eq, Nat.zero_add, Nat.reduceAdd, Nat.reduceSub, Nat.reduceLeDiff, true_and, Bool.false_eq_true, if_false, if_true, isi_int_non, isi_int_bl, isi_int_int, isi_int_str, isi_int_lst, isi_int_tup, isi_bool_non, isi_bool_bl, isi_bool_int, isi_bool_str, isi_bool_lst, isi_bool_tup, isi_list_non, isi_list_bl, isi_list_int, isi_list_str, isi_list_lst, isi_list_tup, isi_tuple_non, isi_tuple_bl, isi_tuple_int, isi_tuple_str, isi_tuple_lst, isi_tuple_tup, isi_str_non, isi_str_bl, isi_str_int, isi_str_str, isi_str_lst, isi_str_tup, Bool.not_true, Bool.not_false, Bool.or_false, Bool.or_true, Bool.false_or, Bool.true_or, ite_true, ite_false, Option.some.injEq, true_or, false_or, or_false, and_true]
        refine ite2 (fun h1 => ?_) (fun h1 => ?_)
        · refine ⟨es.map ival, by rw [← ivals h1], by rw [List.length_map]; exact hl, ?_⟩
          rw [h1, Bool.true_and] at q
          exact q
        · rw [Bool.eq_false_iff.mpr h1, Bool.false_and] at q
          exact q
  | obj φ => cases no
  | dct ks es => 
    obtain ⟨n, sd⟩ := sd
    cases n <;> cases sd
  | _ =>
    simp only [xSeq, xSet, xRet, xIf, xExpr, xNext, xNever, xC, xNil, xCons, xTup, xLst, xOp, xEq, xNe, xUn, xNot, xAnd, xOr, xIfE, xCB, xCall, xCallB, xName, xAsg, xIsi3, toD_fz, toD_ow, toD_od, toD_bg, rd_var, rd_getv1, rd_getv2, rd_getv3, rd_test, rd_onB, rd_onI, rd_onSB, rd_andV, rd_orV, rd_notV, rd_chain, rd_II, rd_II0, rd_add1, rd_add2, rd_add3, rd_mul1, rd_mul2, rd_mul3, rd_isN, rd_notN, rd_isN1, rd_isN2, rd_isN3, rd_neg, rd_ix1, rd_ix2, rd_part, rd_sl, rd_onSl1, rd_onSl2, rd_rev, rd_onRv, rd_len1, rd_len2, rd_max2, rd_min2, rd_int1, rd_int2, rd_lst1, rd_lst2, rd_tup1, rd_tup2, rd_dm, rd_seqI, rd_onSq1, rd_onSq2, rd_rng1, rd_onR1, rd_rng2, rd_onR2, xEnumT, rd_onEt, rd_zip, rd_onZ1, rd_onZ2, rd_par, rd_onP, xPar3, rd_onP3, rd_gtup, rd_gnil, rd_gcons, rd_isi, noO_int, noO_bl, noO_str, noO_lst, noO_tup, noO_non, ini, iniB, wipeD, unw, kf, List.map_cons, List.map_nil, List.replicate_succ, List.replicate_zero, List.cons_append, List.nil_append, List.length_cons, List.length_nil, List.getElem?_cons_zero, List.getElem?_cons_succ, List.set_cons_zero, List.set_cons_succ, decide_eq_true_eq, Nat.zero_add, Nat.reduceAdd, Nat.reduceSub, Nat.reduceLeDiff, true_and, Bool.false_eq_true, if_false, if_true, isi_int_non, isi_int_bl, isi_int_int, isi_int_str, isi_int_lst, isi_int_tup, isi_bool_non, isi_bool_bl, isi_bool_int, isi_bool_str, isi_bool_lst, isi_bool_tup, isi_list_non, isi_list_bl, isi_list_int, isi_list_str, isi_list_lst, isi_list_tup, isi_tuple_non, isi_tuple_bl, isi_tuple_int, isi_tuple_str, isi_tuple_lst, isi_tuple_tup, isi_str_non, isi_str_bl, isi_str_int, isi_str_str, isi_str_lst, isi_str_tup, Bool.not_true, Bool.not_false, Bool.or_false, Bool.or_true, Bool.false_or, Bool.true_or, ite_true, ite_false, Option.some.injEq, true_or, false_or, or_false, and_true]
    exact q

def dp_are_marks : DP := fun ds Q ED => ∃ t m, ds = [t, m] ∧ smA t ∧ smA m ∧ toldV (rfTop t) (.fz (.bl (marksD (ival t) m))) Q ED

abbrev s_are_marks : Stmt := topS 19
theorem sc_are_marks : FnScope ["top", "thing"] ["top", "thing"] (defScope s_are_marks) := ⟨rfl, rfl, rfl, by decide +kernel, rfl, by decide +kernel, by decide +kernel⟩
theorem ok_are_marks {P : Program} {w : World} {K : PySem.W.Frag} {mg : Str → Option Value} {base : Heap} {A7 : Nat → Addr} {CF : Addr} (B : Bt mg) (CL : Cls K mg A7 CF) (d : Df K mg "are_marks" s_are_marks ["top", "thing"]) (h_are_marks_of : Fn P w K mg base "are_marks_of" 3 2 dp_are_marks_of) (h_look_at_top : FnX P w K mg base "look_at_top" 3 1 dp_look_at_top) : FnX P w K mg base "are_marks" (3 + 1) 2 dp_are_marks := by
  refine fn_mkX d sc_are_marks rfl (by decide) fun f cdv A outer s H E C ED hr hE => ⟨_, _, (ds_cons (ds_expr (d_fnX hE h_look_at_top (hr.mono (by decide)) (da_cons (dv 0) da_nil)))
      (ds_one (ds_ret (d_fnK h_are_marks_of (hr.mono (by decide)) (da_cons (dv 0) (da_cons (dv 1) da_nil)))))), fun ds QD hl0 h => ?_⟩
  obtain ⟨a0, a1, rfl⟩ : ∃ a0 a1, ds = [a0, a1] := by
    match ds, hl0 with
    | [a0, a1], _ => exact ⟨a0, a1, rfl⟩
  clear hl0
  obtain ⟨t, m, e, st, sd, q⟩ := h
  cases e
  simp only [xSeq, xSet, xRet, xIf, xExpr, xNext, xNever, xC, xNil, xCons, xTup, xLst, xOp, xEq, xNe, xUn, xNot, xAnd, xOr, xIfE, xCB, xCall, xCallB, xName, xAsg, xIsi3, toD_fz, toD_ow, toD_od, toD_bg, rd_var, rd_getv1, rd_getv2, rd_getv3, rd_test, rd_onB, rd_onI, rd_onSB, rd_andV, rd_orV, rd_notV, rd_chain, rd_II, rd_II0, rd_add1, rd_add2, rd_add3, rd_mul1, rd_mul2, rd_mul3, rd_isN, rd_notN, rd_isN1, rd_isN2, rd_isN3, rd_neg, rd_ix1, rd_ix2, rd_part, rd_sl, rd_onSl1, rd_onSl2, rd_rev, rd_onRv, rd_len1, rd_len2, rd_max2, rd_min2, rd_int1, rd_int2, rd_lst1, rd_lst2, rd_tup1, rd_tup2, rd_dm, rd_seqI, rd_onSq1, rd_onSq2, rd_rng1, rd_onR1, rd_rng2, rd_onR2, xEnumT, rd_onEt, rd_zip, rd_onZ1, rd_onZ2, rd_par, rd_onP, xPar3, rd_onP3, rd_gtup, rd_gnil, rd_gcons, rd_isi, noO_int, noO_bl, noO_str, noO_lst, noO_tup, noO_non, ini, iniB, wipeD, unw, kf, List.map_cons, List.map_nil, List.replicate_succ, List.replicate_zero, List.cons_append, List.nil_append, List.length_cons, List.length_nil, List.getElem?_cons_zero, List.getElem?_cons_succ, List.set_cons_zero, List.set_cons_succ, decide_eq_true_eq, Nat.zero_add, Nat.reduceAdd, Nat.reduceSub, Nat.reduceLeDiff, true_and, Bool.false_eq_true, if_false, if_true, isi_int_non, isi_int_bl, isi_int_int, isi_int_str, isi_int_lst, isi_int_tup, isi_bool_non, isi_bool_bl, isi_bool_int, isi_bool_str, isi_bool_lst, isi_bool_tup, isi_list_non, isi_list_bl, isi_list_int, isi_list_str, isi_list_lst, isi_list_tup, isi_tuple_non, isi_tuple_bl, isi_tuple_int, isi_tuple_str, isi_tuple_lst, isi_tuple_tup, isi_str_non, isi_str_bl, isi_str_int, isi_str_str, isi_str_lst, isi_str_tup, Bool.not_true, Bool.not_false, Bool.or_false, Bool.or_true, Bool.false_or, Bool.true_or, ite_true, ite_false, Option.some.injEq, true_or, false_or, or_false, and_true]
  refine ⟨a0, rfl, smA_no st, ?_⟩
  cases ht : rfTop a0 with
  | some c =>
    rw [ht] at q
    exact q
  | none =>
    rw [ht] at q
    obtain ⟨top, rfl, t1, t2⟩ := rfTop_none ht
    simp only [told_none]
    exact ⟨top, a1, rfl, sd, q⟩

def rfM (top : Int) (m : D) : Option Str := if marksD top m = true then none else some (nmC 1)
def rfMarks (t m : D) : Option Str := thenR (rfTop t) (rfM (ival t) m)
theorem rfM_none {top : Int} {m : D} (h : rfM top m = none) : marksD top m = true := by
  unfold rfM at h
  split at h
  · assumption
  · cases h
theorem rfMarks_none {t m : D} (h : rfMarks t m = none) : ∃ top, t = .int top ∧ 1 ≤ top ∧ top ≤ 40 ∧ marksD top m = true := by
  unfold rfMarks at h
  cases ht : rfTop t with
  | some c => rw [ht] at h; cases h
  | none =>
    rw [ht] at h
    obtain ⟨top, rfl, t1, t2⟩ := rfTop_none ht
    exact ⟨top, rfl, t1, t2, rfM_none h⟩
def dp_look_at_marks : DP := fun ds Q ED => ∃ t m, ds = [t, m] ∧ smA t ∧ smA m ∧ told (rfMarks t m) Q ED

abbrev s_look_at_marks : Stmt := topS 20
theorem sc_look_at_marks : FnScope ["top", "marks"] ["top", "marks"] (defScope s_look_at_marks) := ⟨rfl, rfl, rfl, by decide +kernel, rfl, by decide +kernel, by decide +kernel⟩
theorem ok_look_at_marks {P : Program} {w : World} {K : PySem.W.Frag} {mg : Str → Option Value} {base : Heap} {A7 : Nat → Addr} {CF : Addr} (B : Bt mg) (CL : Cls K mg A7 CF) (d : Df K mg "look_at_marks" s_look_at_marks ["top", "marks"]) (h_are_marks_of : Fn P w K mg base "are_marks_of" 3 2 dp_are_marks_of) (h_look_at_top : FnX P w K mg base "look_at_top" 3 1 dp_look_at_top) : FnX P w K mg base "look_at_marks" (3 + 1) 2 dp_look_at_marks := by
  refine fn_mkX d sc_look_at_marks rfl (by decide) fun f cdv A outer s H E C ED hr hE => ⟨_, _, (ds_cons (ds_expr (d_fnX hE h_look_at_top (hr.mono (by decide)) (da_cons (dv 0) da_nil)))
      (ds_one (ds_if (dt_not (dt_val (d_fnK h_are_marks_of (hr.mono (by decide)) (da_cons (dv 0) (da_cons (dv 1) da_nil))))) (ds_one (ds_raise hE (CL.ex 1 (by decide)))) ds_nil))), fun ds QD hl0 h => ?_⟩
  obtain ⟨a0, a1, rfl⟩ : ∃ a0 a1, ds = [a0, a1] := by
    match ds, hl0 with
    | [a0, a1], _ => exact ⟨a0, a1, rfl⟩
  clear hl0
  obtain ⟨t, m, e, st, sd, q⟩ := h
  cases e
  simp only [xSeq, xSet, xRet, xIf, xExpr, xNext, xNever, xC, xNil, xCons, xTup, xLst, xOp, xEq, xNe, xUn, xNot, xAnd, xOr, xIfE, xCB, xCall, xCallB, xName, xAsg, xIsi3, toD_fz, toD_ow, toD_od, toD_bg, rd_var, rd_getv1, rd_getv2, rd_getv3, rd_test, rd_onB, rd_onI, rd_onSB, rd_andV, rd_orV, rd_notV, rd_chain, rd_II, rd_II0, rd_add1, rd_add2, rd_add3, rd_mul1, rd_mul2, rd_mul3, rd_isN, rd_notN, rd_isN1, rd_isN2, rd_isN3, rd_neg, rd_ix1, rd_ix2, rd_part, rd_sl, rd_onSl1, rd_onSl2, rd_rev, rd_onRv, rd_len1, rd_len2, rd_max2, rd_min2, rd_int1, rd_int2, rd_lst1, rd_lst2, rd_tup1, rd_tup2, rd_dm, rd_seqI, rd_onSq1, rd_onSq2, rd_rng1, rd_onR1, rd_rng2, rd_onR2, xEnumT, rd_onEt, rd_zip, rd_onZ1, rd_onZ2, rd_par, rd_onP, xPar3, rd_onP3, rd_gtup, rd_gnil, rd_gcons, rd_isi, noO_int, noO_bl, noO_str, noO_lst, noO_tup, noO_non, ini, iniB, wipeD, unw, kf, List.map_cons, List.map_nil, List.replicate_succ, List.replicate_zero, List.cons_append, List.nil_append, List.length_cons, List.length_nil, List.getElem?_cons_zero, List.getElem?_cons_succ, List.set_cons_zero, List.set_cons_succ, decide_eq_true_eq, Nat.zero_add, Nat.reduceAdd, Nat.reduceSub, Nat.reduceLeDiff, true_and, Bool.false_eq_true, if_false, if_true, isi_int_non, isi_int_bl, isi_int_int, isi_int_str, isi_int_lst, isi_int_tup, isi_bool_non, isi_bool_bl, isi_bool_int, isi_bool_str, isi_bool_lst, isi_bool_tup, isi_list_non, isi_list_bl, isi_list_int, isi_list_str, isi_list_lst, isi_list_tup, isi_tuple_non, isi_tuple_bl, isi_tuple_int, isi_tuple_str, isi_tuple_lst, isi_tuple_tup, isi_str_non, isi_str_bl, isi_str_int, isi_str_str, isi_str_lst, isi_str_tup, Bool.not_true, Bool.not_false, Bool.or_false, Bool.or_true, Bool.false_or, Bool.true_or, ite_true, ite_false, Option.some.injEq, true_or, false_or, or_false, and_true, xRaise]
  refine ⟨a0, rfl, smA_no st, ?_⟩
  unfold rfMarks at q
  cases ht : rfTop a0 with
  | some c =>
    rw [ht] at q
    exact q
  | none =>
    rw [ht] at q
    obtain ⟨top, rfl, t1, t2⟩ := rfTop_none ht
    simp only [told_none]
    refine ⟨top, a1, rfl, sd, ?_⟩
    have q : told (rfM top a1) QD ED := q
    unfold rfM at q
    cases hm : marksD top a1 with
    | true =>
      rw [hm] at q
      simp only [xSeq, xSet, xRet, xIf, xExpr, xNext, xNever, xC, xNil, xCons, xTup, xLst, xOp, xEq, xNe, xUn, xNot, xAnd, xOr, xIfE, xCB, xCall, xCallB, xName, xAsg, xIsi3, toD_fz, toD_ow, toD_od, toD_bg, rd_var, rd_getv1, rd_getv2, rd_getv3, rd_test, rd_onB, rd_onI, rd_onSB, rd_andV, rd_orV, rd_notV, rd_chain, rd_II, rd_II0, rd_add1, rd_add2, rd_add3, rd_mul1, rd_mul2, rd_mul3, rd_isN, rd_notN, rd_isN1, rd_isN2, rd_isN3, rd_neg, rd_ix1, rd_ix2, rd_part, rd_sl, rd_onSl1, rd_onSl2, rd_rev, rd_onRv, rd_len1, rd_len2, rd_max2, rd_min2, rd_int1, rd_int2, rd_lst1, rd_lst2, rd_tup1, rd_tup2, rd_dm, rd_seqI, rd_onSq1, rd_onSq2, rd_rng1, rd_onR1, rd_rng2, rd_onR2, xEnumT, rd_onEt, rd_zip, rd_onZ1, rd_onZ2, rd_par, rd_onP, xPar3, rd_onP3, rd_gtup, rd_gnil, rd_gcons, rd_isi, noO_int, noO_bl, noO_str, noO_lst, noO_tup, noO_non, ini, iniB, wipeD, unw, kf, List.map_cons, List.map_nil, List.replicate_succ, List.replicate_zero, List.cons_append, List.nil_append, List.length_cons, List.length_nil, List.getElem?_cons_zero, List.getElem?_cons_succ, List.set_cons_zero, List.set_cons_succ, decide_eq_true_eq, Nat.zero_add, Nat.reduceAdd, Nat.reduceSub, Nat.reduceLeDiff, true_and, Bool.false_eq_true, if_false, if_true, isi_int_non, isi_int_bl, isi_int_int, isi_int_str, isi_int_lst, isi_int_tup, isi_bool_non, isi_bool_bl, isi_bool_int, isi_bool_str, isi_bool_lst, isi_bool_tup, isi_list_non, isi_list_bl, isi_list_int, isi_list_str, isi_list_lst, isi_list_tup, isi_tuple_non, isi_tuple_bl, isi_tuple_int, isi_tuple_str, isi_tuple_lst, isi_tuple_tup, isi_str_non, isi_str_bl, isi_str_int, isi_str_str, isi_str_lst, isi_str_tup, Bool.not_true, Bool.not_false, Bool.or_false, Bool.or_true, Bool.false_or, Bool.true_or, ite_true, ite_false, Option.some.injEq, true_or, false_or, or_false, and_true, xRaise]
      exact q
    | false =>
      rw [hm] at q
      simp only [xSeq, xSet, xRet, xIf, xExpr, xNext, xNever, xC, xNil, xCons, xTup, xLst, xOp, xEq, xNe, xUn, xNot, xAnd, xOr, xIfE, xCB, xCall, xCallB, xName, xAsg, xIsi3, toD_fz, toD_ow, toD_od, toD_bg, rd_var, rd_getv1, rd_getv2, rd_getv3, rd_test, rd_onB, rd_onI, rd_onSB, rd_andV, rd_orV, rd_notV, rd_chain, rd_II, rd_II0, rd_add1, rd_add2, rd_add3, rd_mul1, rd_mul2, rd_mul3, rd_isN, rd_notN, rd_isN1, rd_isN2, rd_isN3, rd_neg, rd_ix1, rd_ix2, rd_part, rd_sl, rd_onSl1, rd_onSl2, rd_rev, rd_onRv, rd_len1, rd_len2, rd_max2, rd_min2, rd_int1, rd_int2, rd_lst1, rd_lst2, rd_tup1, rd_tup2, rd_dm, rd_seqI, rd_onSq1, rd_onSq2, rd_rng1, rd_onR1, rd_rng2, rd_onR2, xEnumT, rd_onEt, rd_zip, rd_onZ1, rd_onZ2, rd_par, rd_onP, xPar3, rd_onP3, rd_gtup, rd_gnil, rd_gcons, rd_isi, noO_int, noO_bl, noO_str, noO_lst, noO_tup, noO_non, ini, iniB, wipeD, unw, kf, List.map_cons, List.map_nil, List.replicate_succ, List.replicate_zero, List.cons_append, List.nil_append, List.length_cons, List.length_nil, List.getElem?_cons_zero, List.getElem?_cons_succ, List.set_cons_zero, List.set_cons_succ, decide_eq_true_eq, Nat.zero_add, Nat.reduceAdd, Nat.reduceSub, Nat.reduceLeDiff, true_and, Bool.false_eq_true, if_false, if_true, isi_int_non, isi_int_bl, isi_int_int, isi_int_str, isi_int_lst, isi_int_tup, isi_bool_non, isi_bool_bl, isi_bool_int, isi_bool_str, isi_bool_lst, isi_bool_tup, isi_list_non, isi_list_bl, isi_list_int, isi_list_str, isi_list_lst, isi_list_tup, isi_tuple_non, isi_tuple_bl, isi_tuple_int, isi_tuple_str, isi_tuple_lst, isi_tuple_tup, isi_str_non, isi_str_bl, isi_str_int, isi_str_str, isi_str_lst, isi_str_tup, Bool.not_true, Bool.not_false, Bool.or_false, Bool.or_true, Bool.false_or, Bool.true_or, ite_true, ite_false, Option.some.injEq, true_or, false_or, or_false, and_true, xRaise]
      exact q

def rfMany (d : D) (most : Int) : Option Str := if inR d 0 most = true then none else some (nmC 3)
def dp_look_at_many : DP := fun ds Q ED => ∃ d most, ds = [d, .int most] ∧ noO d = true ∧ told (rfMany d most) Q ED

abbrev s_look_at_many : Stmt := topS 21
theorem sc_look_at_many : FnScope ["many", "most"] ["many", "most"] (defScope s_look_at_many) := ⟨rfl, rfl, rfl, by decide +kernel, rfl, by decide +kernel, by decide +kernel⟩
theorem ok_look_at_many {P : Program} {w : World} {K : PySem.W.Frag} {mg : Str → Option Value} {base : Heap} {A7 : Nat → Addr} {CF : Addr} (B : Bt mg) (CL : Cls K mg A7 CF) (d : Df K mg "look_at_many" s_look_at_many ["many", "most"]) (h_is_within : Fn P w K mg base "is_within" 2 3 dp_is_within) : FnX P w K mg base "look_at_many" (2 + 1) 2 dp_look_at_many := by
  refine fn_mkX d sc_look_at_many rfl (by decide) fun f cdv A outer s H E C ED hr hE => ⟨_, _, (ds_one (ds_if (dt_not (dt_val (d_fnK h_is_within (hr.mono (by decide)) (da_cons (dv 0) (da_cons d_int (da_cons (dv 1) da_nil)))))) (ds_one (ds_raise hE (CL.ex 3 (by decide)))) ds_nil)), fun ds QD hl0 h => ?_⟩
  obtain ⟨a0, a1, rfl⟩ : ∃ a0 a1, ds = [a0, a1] := by
    match ds, hl0 with
    | [a0, a1], _ => exact ⟨a0, a1, rfl⟩
  clear hl0
  obtain ⟨d, most, e, no, q⟩ := h
  cases e
  simp only [xSeq, xSet, xRet, xIf, xExpr, xNext, xNever, xC, xNil, xCons, xTup, xLst, xOp, xEq, xNe, xUn, xNot, xAnd, xOr, xIfE, xCB, xCall, xCallB, xName, xAsg, xIsi3, toD_fz, toD_ow, toD_od, toD_bg, rd_var, rd_getv1, rd_getv2, rd_getv3, rd_test, rd_onB, rd_onI, rd_onSB, rd_andV, rd_orV, rd_notV, rd_chain, rd_II, rd_II0, rd_add1, rd_add2, rd_add3, rd_mul1, rd_mul2, rd_mul3, rd_isN, rd_notN, rd_isN1, rd_isN2, rd_isN3, rd_neg, rd_ix1, rd_ix2, rd_part, rd_sl, rd_onSl1, rd_onSl2, rd_rev, rd_onRv, rd_len1, rd_len2, rd_max2, rd_min2, rd_int1, rd_int2, rd_lst1, rd_lst2, rd_tup1, rd_tup2, rd_dm, rd_seqI, rd_onSq1, rd_onSq2, rd_rng1, rd_onR1, rd_rng2, rd_onR2, xEnumT, rd_onEt, rd_zip, rd_onZ1, rd_onZ2, rd_par, rd_onP, xPar3, rd_onP3, rd_gtup, rd_gnil, rd_gcons, rd_isi, noO_int, noO_bl, noO_str, noO_lst, noO_tup, noO_non, ini, iniB, wipeD, unw, kf, List.map_cons, List.map_nil, List.replicate_succ, List.replicate_zero, List.cons_append, List.nil_append, List.length_cons, List.length_nil, List.getElem?_cons_zero, List.getElem?_cons_succ, List.set_cons_zero, List.set_cons_succ, decide_eq_true_eq, Nat.zero_add, Nat.reduceAdd, Nat.reduceSub, Nat.reduceLeDiff, true_and, Bool.false_eq_true, if_false, if_true, isi_int_non, isi_int_bl, isi_int_int, isi_int_str, isi_int_lst, isi_int_tup, isi_bool_non, isi_bool_bl, isi_bool_int, isi_bool_str, isi_bool_lst, isi_bool_tup, isi_list_non, isi_list_bl, isi_list_int, isi_list_str, isi_list_lst, isi_list_tup, isi_tuple_non, isi_tuple_bl, isi_tuple_int, isi_tuple_str, isi_tuple_lst, isi_tuple_tup, isi_str_non, isi_str_bl, isi_str_int, isi_str_str, isi_str_lst, isi_str_tup, Bool.not_true, Bool.not_false, Bool.or_false, Bool.or_true, Bool.false_or, Bool.true_or, ite_true, ite_false, Option.some.injEq, true_or, false_or, or_false, and_true, xRaise]
  refine ⟨a0, 0, most, rfl, no, ?_⟩
  unfold rfMany at q
  cases hi : inR a0 0 most with
  | true =>
    rw [hi] at q
    simp only [xSeq, xSet, xRet, xIf, xExpr, xNext, xNever, xC, xNil, xCons, xTup, xLst, xOp, xEq, xNe, xUn, xNot, xAnd, xOr, xIfE, xCB, xCall, xCallB, xName, xAsg, xIsi3, toD_fz, toD_ow, toD_od, toD_bg, rd_var, rd_getv1, rd_getv2, rd_getv3, rd_test, rd_onB, rd_onI, rd_onSB, rd_andV, rd_orV, rd_notV, rd_chain, rd_II, rd_II0, rd_add1, rd_add2, rd_add3, rd_mul1, rd_mul2, rd_mul3, rd_isN, rd_notN, rd_isN1, rd_isN2, rd_isN3, rd_neg, rd_ix1, rd_ix2, rd_part, rd_sl, rd_onSl1, rd_onSl2, rd_rev, rd_onRv, rd_len1, rd_len2, rd_max2, rd_min2, rd_int1, rd_int2, rd_lst1, rd_lst2, rd_tup1, rd_tup2, rd_dm, rd_seqI, rd_onSq1, rd_onSq2, rd_rng1, rd_onR1, rd_rng2, rd_onR2, xEnumT, rd_onEt, rd_zip, rd_onZ1, rd_onZ2, rd_par, rd_onP, xPar3, rd_onP3, rd_gtup, rd_gnil, rd_gcons, rd_isi, noO_int, noO_bl, noO_str, noO_lst, noO_tup, noO_non, ini, iniB, wipeD, unw, kf, List.map_cons, List.map_nil, List.replicate_succ, List.replicate_zero, List.cons_append, List.nil_append, List.length_cons, List.length_nil, List.getElem?_cons_zero, List.getElem?_cons_succ, List.set_cons_zero, List.set_cons_succ, decide_eq_true_eq, Nat.zero_add, Nat.reduceAdd, Nat.reduceSub, Nat.reduceLeDiff, true_and, Bool.false_eq_true, if_false, if_true, isi_int_non, isi_int_bl, isi_int_int, isi_int_str, isi_int_lst, isi_int_tup, isi_bool_non, isi_bool_bl, isi_bool_int, isi_bool_str, isi_bool_lst, isi_bool_tup, isi_list_non, isi_list_bl, isi_list_int, isi_list_str, isi_list_lst, isi_list_tup, isi_tuple_non, isi_tuple_bl, isi_tuple_int, isi_tuple_str, isi_tuple_lst, isi_tuple_tup, isi_str_non, isi_str_bl, isi_str_int, isi_str_str, isi_str_lst, isi_str_tup, Bool.not_true, Bool.not_false, Bool.or_false, Bool.or_true, Bool.false_or, Bool.true_or, ite_true, ite_false, Option.some.injEq, true_or, false_or, or_false, and_true, xRaise]
    exact q
  | false =>
    rw [hi] at q
    simp only [xSeq, xSet, xRet, xIf, xExpr, xNext, xNever, xC, xNil, xCons, xTup, xLst, xOp, xEq, xNe, xUn, xNot, xAnd, xOr, xIfE, xCB, xCall, xCallB, xName, xAsg, xIsi3, toD_fz, toD_ow, toD_od, toD_bg, rd_var, rd_getv1, rd_getv2, rd_getv3, rd_test, rd_onB, rd_onI, rd_onSB, rd_andV, rd_orV, rd_notV, rd_chain, rd_II, rd_II0, rd_add1, rd_add2, rd_add3, rd_mul1, rd_mul2, rd_mul3, rd_isN, rd_notN, rd_isN1, rd_isN2, rd_isN3, rd_neg, rd_ix1, rd_ix2, rd_part, rd_sl, rd_onSl1, rd_onSl2, rd_rev, rd_onRv, rd_len1, rd_len2, rd_max2, rd_min2, rd_int1, rd_int2, rd_lst1, rd_lst2, rd_tup1, rd_tup2, rd_dm, rd_seqI, rd_onSq1, rd_onSq2, rd_rng1, rd_onR1, rd_rng2, rd_onR2, xEnumT, rd_onEt, rd_zip, rd_onZ1, rd_onZ2, rd_par, rd_onP, xPar3, rd_onP3, rd_gtup, rd_gnil, rd_gcons, rd_isi, noO_int, noO_bl, noO_str, noO_lst, noO_tup, noO_non, ini, iniB, wipeD, unw, kf, List.map_cons, List.map_nil, List.replicate_succ, List.replicate_zero, List.cons_append, List.nil_append, List.length_cons, List.length_nil, List.getElem?_cons_zero, List.getElem?_cons_succ, List.set_cons_zero, List.set_cons_succ, decide_eq_true_eq, Nat.zero_add, Nat.reduceAdd, Nat.reduceSub, Nat.reduceLeDiff, true_and, Bool.false_eq_true, if_false, if_true, isi_int_non, isi_int_bl, isi_int_int, isi_int_str, isi_int_lst, isi_int_tup, isi_bool_non, isi_bool_bl, isi_bool_int, isi_bool_str, isi_bool_lst, isi_bool_tup, isi_list_non, isi_list_bl, isi_list_int, isi_list_str, isi_list_lst, isi_list_tup, isi_tuple_non, isi_tuple_bl, isi_tuple_int, isi_tuple_str, isi_tuple_lst, isi_tuple_tup, isi_str_non, isi_str_bl, isi_str_int, isi_str_str, isi_str_lst, isi_str_tup, Bool.not_true, Bool.not_false, Bool.or_false, Bool.or_true, Bool.false_or, Bool.true_or, ite_true, ite_false, Option.some.injEq, true_or, false_or, or_false, and_true, xRaise]
    exact q

def floodsD (top : Int) (d : D) (least : Int) : Bool := match d with
  | .lst hs => decide (least ≤ hs.length ∧ (hs.length : Int) ≤ 40) && hs.all fun x => inR x 1 top
  | _ => false
def dp_are_floods : DP := fun ds Q _ => ∃ (top : Int) (d : D) (least : Int), ds = [.int top, d, .int least] ∧ smA d ∧ Q (.fz (.bl (floodsD top d least)))

abbrev s_are_floods : Stmt := topS 24
theorem sc_are_floods : FnScope ["top", "thing", "least", "one"] ["top", "thing", "least"] (defScope s_are_floods) := ⟨rfl, rfl, rfl, by decide +kernel, rfl, by decide +kernel, by decide +kernel⟩
theorem ok_are_floods {P : Program} {w : World} {K : PySem.W.Frag} {mg : Str → Option Value} {base : Heap} (B : Bt mg) (d : Df K mg "are_floods" s_are_floods ["top", "thing", "least"]) (h_is_within : Fn P w K mg base "is_within" 2 3 dp_is_within) : Fn P w K mg base "are_floods" (2 + 1) 3 dp_are_floods := by
  refine fn_mk d sc_are_floods rfl (by decide) fun f cdv A outer s H E C hr => ⟨_, _, (ds_cons (ds_if (PWV.pt (dw_or (dt_not (dt_val (d_isi_list (by rfl) B.isinstance B.list (dv 1)))) (dw_or1 (dt_not (dt_chain o_le o_le (dv 2) (d_callB (c_lenK K) (by rfl) B.len PySem.boot_len (da_cons (dv 1) da_nil)) (d_globI (by rfl) B.MOST_FLOODS)))))) (ds_one (ds_ret d_bl)) ds_nil)
      (ds_one (ds_ret (d_callB (c_allK K rfl) (by rfl) B.all (by decide +kernel) (da_cons (d_lc [("one", 3)] rfl sc_are_floods.nd (di_seqK K (dv 1)) (blkOk_by (by show blkC ["top", "thing", "least", "one"] (defScope s_are_floods) _ [("one", 3)] = true; decide +kernel)) (fun _ _ _ _ _ _ => (dg_name 3 sc_are_floods.nd)) (fun _ _ _ _ _ _ => dts_nil) (fun _ _ _ _ _ _ => (d_fnK h_is_within (hr.mono (by decide)) (da_cons (dv 3) (da_cons d_int (da_cons (dv 0) da_nil)))))) da_nil))))), fun ds QD ED hl0 h => ?_⟩
  obtain ⟨a0, a1, a2, rfl⟩ : ∃ a0 a1 a2, ds = [a0, a1, a2] := by
    match ds, hl0 with
    | [a0, a1, a2], _ => exact ⟨a0, a1, a2, rfl⟩
  clear hl0
  obtain ⟨top, d, least, e, sd, q⟩ := h
  cases e
  have no := smA_no sd
  cases a1 with
  | lst hs =>
    obtain ⟨hl, he⟩ := smA_lst sd
    simp only [xSeq, xSet, xRet, xIf, xExpr, xNext, xNever, xC, xNil, xCons, xTup, xLst, xOp, xEq, xNe, xUn, xNot, xAnd, xOr, xIfE, xCB, xCall, xCallB, xName, xAsg, xIsi3, toD_fz, toD_ow, toD_od, toD_bg, rd_var, rd_getv1, rd_getv2, rd_getv3, rd_test, rd_onB, rd_onI, rd_onSB, rd_andV, rd_orV, rd_notV, rd_chain, rd_II, rd_II0, rd_add1, rd_add2, rd_add3, rd_mul1, rd_mul2, rd_mul3, rd_isN, rd_notN, rd_isN1, rd_isN2, rd_isN3, rd_neg, rd_ix1, rd_ix2, rd_part, rd_sl, rd_onSl1, rd_onSl2, rd_rev, rd_onRv, rd_len1, rd_len2, rd_max2, rd_min2, rd_int1, rd_int2, rd_lst1, rd_lst2, rd_tup1, rd_tup2, rd_dm, rd_seqI, rd_onSq1, rd_onSq2, rd_rng1, rd_onR1, rd_rng2, rd_onR2, xEnumT, rd_onEt, rd_zip, rd_onZ1, rd_onZ2, rd_par, rd_onP, xPar3, rd_onP3, rd_gtup, rd_gnil, rd_gcons, rd_isi, noO_int, noO_bl, noO_str, noO_lst, noO_tup, noO_non, ini, iniB, wipeD, unw, kf, List.map_cons, List.map_nil, List.replicate_succ, List.replicate_zero, List.cons_append, List.nil_append, List.length_cons, List.length_nil, List.getElem?_cons_zero, List.getElem?_cons_succ, List.set_cons_zero, List.set_cons_succ, decide_eq_true_eq, Nat.zero_add, Nat.reduceAdd, Nat.reduceSub, Nat.reduceLeDiff, true_and, Bool.false_eq_true, if_false, if_true, isi_int_non, isi_int_bl, isi_int_int, isi_int_str, isi_int_lst, isi_int_tup, isi_bool_non, isi_bool_bl, isi_bool_int, isi_bool_str, isi_bool_lst, isi_bool_tup, isi_list_non, isi_list_bl, isi_list_int, isi_list_str, isi_list_lst, isi_list_tup, isi_tuple_non, isi_tuple_bl, isi_tuple_int, isi_tuple_str, isi_tuple_lst, isi_tuple_tup, isi_str_non, isi_str_bl, isi_str_int, isi_str_str, isi_str_lst, isi_str_tup, Bool.not_true, Bool.not_false, Bool.or_false, Bool.or_true, Bool.false_or, Bool.true_or, ite_true, ite_false, Option.some.injEq, true_or, false_or, or_false, and_true]
    have fin : ∀ QF : S → Prop, (decide (least ≤ (hs.length : Int) ∧ (hs.length : Int) ≤ 40) = true) → QF (.fz (.bl (floodsD top (.lst hs) least))) → QF (.fz (.bl (hs.all fun x => inR x 1 top))) := fun QF h q => by
      unfold floodsD at q
      simp only [h, Bool.true_and] at q
      exact q
    have no : ¬ (least ≤ (hs.length : Int) ∧ (hs.length : Int) ≤ 40) → QD (.fz (.bl false)) := fun h => by
      unfold floodsD at q
      simp only [decide_eq_false h, Bool.false_and] at q
      exact q
    refine ite2 (fun h1 => ?_) (fun h1 => ?_)
    · by_cases h2 : (hs.length : Int) ≤ 40
      · simp only [decide_eq_true h2, Bool.not_true, Bool.false_eq_true, if_false]
        refine lc_pure hs id (fun _ => true) (fun x => .bl (inR x 1 top)) [some (.fz (.int top)), some (.fz (.lst hs)), some (.fz (.int least)), none] (fun QL hq => ?_) hl (fun a ha QD QN h1 h2 => ?_) ?_
        · simp only [xSeq, xSet, xRet, xIf, xExpr, xNext, xNever, xC, xNil, xCons, xTup, xLst, xOp, xEq, xNe, xUn, xNot, xAnd, xOr, xIfE, xCB, xCall, xCallB, xName, xAsg, xIsi3, toD_fz, toD_ow, toD_od, toD_bg, rd_var, rd_getv1, rd_getv2, rd_getv3, rd_test, rd_onB, rd_onI, rd_onSB, rd_andV, rd_orV, rd_notV, rd_chain, rd_II, rd_II0, rd_add1, rd_add2, rd_add3, rd_mul1, rd_mul2, rd_mul3, rd_isN, rd_notN, rd_isN1, rd_isN2, rd_isN3, rd_neg, rd_ix1, rd_ix2, rd_part, rd_sl, rd_onSl1, rd_onSl2, rd_rev, rd_onRv, rd_len1, rd_len2, rd_max2, rd_min2, rd_int1, rd_int2, rd_lst1, rd_lst2, rd_tup1, rd_tup2, rd_dm, rd_seqI, rd_onSq1, rd_onSq2, rd_rng1, rd_onR1, rd_rng2, rd_onR2, xEnumT, rd_onEt, rd_zip, rd_onZ1, rd_onZ2, rd_par, rd_onP, xPar3, rd_onP3, rd_gtup, rd_gnil, rd_gcons, rd_isi, noO_int, noO_bl, noO_str, noO_lst, noO_tup, noO_non, ini, iniB, wipeD, unw, kf, List.map_cons, List.map_nil, List.replicate_succ, List.replicate_zero, List.cons_append, List.nil_append, List.length_cons, List.length_nil, List.getElem?_cons_zero, List.getElem?_cons_succ, List.set_cons_zero, List.set_cons_succ, decide_eq_true_eq, Nat.zero_add, Nat.reduceAdd, Nat.reduceSub, Nat.reduceLeDiff, true_and, Bool.false_eq_true, if_false, if_true, isi_int_non, isi_int_bl, isi_int_int, isi_int_str, isi_int_lst, isi_int_tup, isi_bool_non, isi_bool_bl, isi_bool_int, isi_bool_str, isi_bool_lst, isi_bool_tup, isi_list_non, isi_list_bl, isi_list_int, isi_list_str, isi_list_lst, isi_list_tup, isi_tuple_non, isi_tuple_bl, isi_tuple_int, isi_tuple_str, isi_tuple_lst, isi_tuple_tup, isi_str_non, isi_str_bl, isi_str_int, isi_str_str, isi_str_lst, isi_str_tup, Bool.not_true, Bool.not_false, Bool.or_false, Bool.or_true, Bool.false_or, Bool.true_or, ite_true, ite_false, Option.some.injEq, true_or, false_or, or_false, and_true]
          rw [List.map_id] at hq
          exact hq
        · simp only [xSeq, xSet, xRet, xIf, xExpr, xNext, xNever, xC, xNil, xCons, xTup, xLst, xOp, xEq, xNe, xUn, xNot, xAnd, xOr, xIfE, xCB, xCall, xCallB, xName, xAsg, xIsi3, toD_fz, toD_ow, toD_od, toD_bg, rd_var, rd_getv1, rd_getv2, rd_getv3, rd_test, rd_onB, rd_onI, rd_onSB, rd_andV, rd_orV, rd_notV, rd_chain, rd_II, rd_II0, rd_add1, rd_add2, rd_add3, rd_mul1, rd_mul2, rd_mul3, rd_isN, rd_notN, rd_isN1, rd_isN2, rd_isN3, rd_neg, rd_ix1, rd_ix2, rd_part, rd_sl, rd_onSl1, rd_onSl2, rd_rev, rd_onRv, rd_len1, rd_len2, rd_max2, rd_min2, rd_int1, rd_int2, rd_lst1, rd_lst2, rd_tup1, rd_tup2, rd_dm, rd_seqI, rd_onSq1, rd_onSq2, rd_rng1, rd_onR1, rd_rng2, rd_onR2, xEnumT, rd_onEt, rd_zip, rd_onZ1, rd_onZ2, rd_par, rd_onP, xPar3, rd_onP3, rd_gtup, rd_gnil, rd_gcons, rd_isi, noO_int, noO_bl, noO_str, noO_lst, noO_tup, noO_non, ini, iniB, wipeD, unw, kf, List.map_cons, List.map_nil, List.replicate_succ, List.replicate_zero, List.cons_append, List.nil_append, List.length_cons, List.length_nil, List.getElem?_cons_zero, List.getElem?_cons_succ, List.set_cons_zero, List.set_cons_succ, decide_eq_true_eq, Nat.zero_add, Nat.reduceAdd, Nat.reduceSub, Nat.reduceLeDiff, true_and, Bool.false_eq_true, if_false, if_true, isi_int_non, isi_int_bl, isi_int_int, isi_int_str, isi_int_lst, isi_int_tup, isi_bool_non, isi_bool_bl, isi_bool_int, isi_bool_str, isi_bool_lst, isi_bool_tup, isi_list_non, isi_list_bl, isi_list_int, isi_list_str, isi_list_lst, isi_list_tup, isi_tuple_non, isi_tuple_bl, isi_tuple_int, isi_tuple_str, isi_tuple_lst, isi_tuple_tup, isi_str_non, isi_str_bl, isi_str_int, isi_str_str, isi_str_lst, isi_str_tup, Bool.not_true, Bool.not_false, Bool.or_false, Bool.or_true, Bool.false_or, Bool.true_or, ite_true, ite_false, Option.some.injEq, true_or, false_or, or_false, and_true]
          exact ⟨a, 1, top, rfl, smA_no (he a ha), h1 rfl⟩
        · simp only [xSeq, xSet, xRet, xIf, xExpr, xNext, xNever, xC, xNil, xCons, xTup, xLst, xOp, xEq, xNe, xUn, xNot, xAnd, xOr, xIfE, xCB, xCall, xCallB, xName, xAsg, xIsi3, toD_fz, toD_ow, toD_od, toD_bg, rd_var, rd_getv1, rd_getv2, rd_getv3, rd_test, rd_onB, rd_onI, rd_onSB, rd_andV, rd_orV, rd_notV, rd_chain, rd_II, rd_II0, rd_add1, rd_add2, rd_add3, rd_mul1, rd_mul2, rd_mul3, rd_isN, rd_notN, rd_isN1, rd_isN2, rd_isN3, rd_neg, rd_ix1, rd_ix2, rd_part, rd_sl, rd_onSl1, rd_onSl2, rd_rev, rd_onRv, rd_len1, rd_len2, rd_max2, rd_min2, rd_int1, rd_int2, rd_lst1, rd_lst2, rd_tup1, rd_tup2, rd_dm, rd_seqI, rd_onSq1, rd_onSq2, rd_rng1, rd_onR1, rd_rng2, rd_onR2, xEnumT, rd_onEt, rd_zip, rd_onZ1, rd_onZ2, rd_par, rd_onP, xPar3, rd_onP3, rd_gtup, rd_gnil, rd_gcons, rd_isi, noO_int, noO_bl, noO_str, noO_lst, noO_tup, noO_non, ini, iniB, wipeD, unw, kf, List.map_cons, List.map_nil, List.replicate_succ, List.replicate_zero, List.cons_append, List.nil_append, List.length_cons, List.length_nil, List.getElem?_cons_zero, List.getElem?_cons_succ, List.set_cons_zero, List.set_cons_succ, decide_eq_true_eq, Nat.zero_add, Nat.reduceAdd, Nat.reduceSub, Nat.reduceLeDiff, true_and, Bool.false_eq_true, if_false, if_true, isi_int_non, isi_int_bl, isi_int_int, isi_int_str, isi_int_lst, isi_int_tup, isi_bool_non, isi_bool_bl, isi_bool_int, isi_bool_str, isi_bool_lst, isi_bool_tup, isi_list_non, isi_list_bl, isi_list_int, isi_list_str, isi_list_lst, isi_list_tup, isi_tuple_non, isi_tuple_bl, isi_tuple_int, isi_tuple_str, isi_tuple_lst, isi_tuple_tup, isi_str_non, isi_str_bl, isi_str_int, isi_str_str, isi_str_lst, isi_str_tup, Bool.not_true, Bool.not_false, Bool.or_false, Bool.or_true, Bool.false_or, Bool.true_or, ite_true, ite_false, Option.some.injEq, true_or, false_or, or_false, and_true]
          refine ⟨hs.map fun x => inR x 1 top, by simp [List.filter_eq_self.mpr], ?_⟩
          rw [all_id]
          exact fin QD (decide_eq_true ⟨h1, h2⟩) q
      · simp only [decide_eq_false h2, Bool.not_false, if_true]
        exact no (by omega)
    · exact no (by omega)
  | obj φ => cases no
  | dct ks es =>
    obtain ⟨n, sd⟩ := sd
    cases n <;> cases sd
  | _ =>
    simp only [xSeq, xSet, xRet, xIf, xExpr, xNext, xNever, xC, xNil, xCons, xTup, xLst, xOp, xEq, xNe, xUn, xNot, xAnd, xOr, xIfE, xCB, xCall, xCallB, xName, xAsg, xIsi3, toD_fz, toD_ow, toD_od, toD_bg, rd_var, rd_getv1, rd_getv2, rd_getv3, rd_test, rd_onB, rd_onI, rd_onSB, rd_andV, rd_orV, rd_notV, rd_chain, rd_II, rd_II0, rd_add1, rd_add2, rd_add3, rd_mul1, rd_mul2, rd_mul3, rd_isN, rd_notN, rd_isN1, rd_isN2, rd_isN3, rd_neg, rd_ix1, rd_ix2, rd_part, rd_sl, rd_onSl1, rd_onSl2, rd_rev, rd_onRv, rd_len1, rd_len2, rd_max2, rd_min2, rd_int1, rd_int2, rd_lst1, rd_lst2, rd_tup1, rd_tup2, rd_dm, rd_seqI, rd_onSq1, rd_onSq2, rd_rng1, rd_onR1, rd_rng2, rd_onR2, xEnumT, rd_onEt, rd_zip, rd_onZ1, rd_onZ2, rd_par, rd_onP, xPar3, rd_onP3, rd_gtup, rd_gnil, rd_gcons, rd_isi, noO_int, noO_bl, noO_str, noO_lst, noO_tup, noO_non, ini, iniB, wipeD, unw, kf, List.map_cons, List.map_nil, List.replicate_succ, List.replicate_zero, List.cons_append, List.nil_append, List.length_cons, List.length_nil, List.getElem?_cons_zero, List.getElem?_cons_succ, List.set_cons_zero, List.set_cons_succ, decide_eq_true_eq, Nat.zero_add, Nat.reduceAdd, Nat.reduceSub, Nat.reduceLeDiff, true_and, Bool.false_eq_true, if_false, if_true, isi_int_non, isi_int_bl, isi_int_int, isi_int_str, isi_int_lst, isi_int_tup, isi_bool_non, isi_bool_bl, isi_bool_int, isi_bool_str, isi_bool_lst, isi_bool_tup, isi_list_non, isi_list_bl, isi_list_int, isi_list_str, isi_list_lst, isi_list_tup, isi_tuple_non, isi_tuple_bl, isi_tuple_int, isi_tuple_str, isi_tuple_lst, isi_tuple_tup, isi_str_non, isi_str_bl, isi_str_int, isi_str_str, isi_str_lst, isi_str_tup, Bool.not_true, Bool.not_false, Bool.or_false, Bool.or_true, Bool.false_or, Bool.true_or, ite_true, ite_false, Option.some.injEq, true_or, false_or, or_false, and_true]
    exact q

def rfFloods (top : Int) (f : D) (least : Int) : Option Str := if floodsD top f least = true then none else some (nmC 2)
def dp_behind : DP := fun ds _ ED => ∃ t m f, ds = [t, m, f] ∧ smA t ∧ smA m ∧ smA f ∧ toldF (thenR (rfMarks t m) (rfFloods (ival t) f 0)) ED

abbrev s_behind : Stmt := topS 25
theorem sc_behind : FnScope ["top", "marks", "floods"] ["top", "marks", "floods"] (defScope s_behind) := ⟨rfl, rfl, rfl, by decide +kernel, rfl, by decide +kernel, by decide +kernel⟩
theorem ok_behind {P : Program} {w : World} {K : PySem.W.Frag} {mg : Str → Option Value} {base : Heap} {A7 : Nat → Addr} {CF : Addr} (B : Bt mg) (CL : Cls K mg A7 CF) (d : Df K mg "behind" s_behind ["top", "marks", "floods"]) (h_are_floods : Fn P w K mg base "are_floods" 3 3 dp_are_floods) (h_look_at_marks : FnX P w K mg base "look_at_marks" 4 2 dp_look_at_marks) : FnX P w K mg base "behind" (4 + 1) 3 dp_behind := by
  refine fn_mkX d sc_behind rfl (by decide) fun f cdv A outer s H E C ED hr hE => ⟨_, _, (ds_cons (ds_expr (d_fnX hE h_look_at_marks (hr.mono (by decide)) (da_cons (dv 0) (da_cons (dv 1) da_nil))))
      (ds_cons (ds_if (dt_not (dt_val (d_fnK h_are_floods (hr.mono (by decide)) (da_cons (dv 0) (da_cons (dv 2) (da_cons d_int da_nil)))))) (ds_one (ds_raise hE (CL.ex 2 (by decide)))) ds_nil)
      (ds_one ds_never))), fun ds QD hl0 h => ?_⟩
  obtain ⟨a0, a1, a2, rfl⟩ : ∃ a0 a1 a2, ds = [a0, a1, a2] := by
    match ds, hl0 with
    | [a0, a1, a2], _ => exact ⟨a0, a1, a2, rfl⟩
  clear hl0
  obtain ⟨t, m, f, e, st, sm1, sf, c, hc, q⟩ := h
  cases e
  simp only [xSeq, xSet, xRet, xIf, xExpr, xNext, xNever, xC, xNil, xCons, xTup, xLst, xOp, xEq, xNe, xUn, xNot, xAnd, xOr, xIfE, xCB, xCall, xCallB, xName, xAsg, xIsi3, toD_fz, toD_ow, toD_od, toD_bg, rd_var, rd_getv1, rd_getv2, rd_getv3, rd_test, rd_onB, rd_onI, rd_onSB, rd_andV, rd_orV, rd_notV, rd_chain, rd_II, rd_II0, rd_add1, rd_add2, rd_add3, rd_mul1, rd_mul2, rd_mul3, rd_isN, rd_notN, rd_isN1, rd_isN2, rd_isN3, rd_neg, rd_ix1, rd_ix2, rd_part, rd_sl, rd_onSl1, rd_onSl2, rd_rev, rd_onRv, rd_len1, rd_len2, rd_max2, rd_min2, rd_int1, rd_int2, rd_lst1, rd_lst2, rd_tup1, rd_tup2, rd_dm, rd_seqI, rd_onSq1, rd_onSq2, rd_rng1, rd_onR1, rd_rng2, rd_onR2, xEnumT, rd_onEt, rd_zip, rd_onZ1, rd_onZ2, rd_par, rd_onP, xPar3, rd_onP3, rd_gtup, rd_gnil, rd_gcons, rd_isi, noO_int, noO_bl, noO_str, noO_lst, noO_tup, noO_non, ini, iniB, wipeD, unw, kf, List.map_cons, List.map_nil, List.replicate_succ, List.replicate_zero, List.cons_append, List.nil_append, List.length_cons, List.length_nil, List.getElem?_cons_zero, List.getElem?_cons_succ, List.set_cons_zero, List.set_cons_succ, decide_eq_true_eq, Nat.zero_add, Nat.reduceAdd, Nat.reduceSub, Nat.reduceLeDiff, true_and, Bool.false_eq_true, if_false, if_true, isi_int_non, isi_int_bl, isi_int_int, isi_int_str, isi_int_lst, isi_int_tup, isi_bool_non, isi_bool_bl, isi_bool_int, isi_bool_str, isi_bool_lst, isi_bool_tup, isi_list_non, isi_list_bl, isi_list_int, isi_list_str, isi_list_lst, isi_list_tup, isi_tuple_non, isi_tuple_bl, isi_tuple_int, isi_tuple_str, isi_tuple_lst, isi_tuple_tup, isi_str_non, isi_str_bl, isi_str_int, isi_str_str, isi_str_lst, isi_str_tup, Bool.not_true, Bool.not_false, Bool.or_false, Bool.or_true, Bool.false_or, Bool.true_or, ite_true, ite_false, Option.some.injEq, true_or, false_or, or_false, and_true, xRaise]
  refine ⟨a0, a1, rfl, st, sm1, ?_⟩
  cases hm : rfMarks a0 a1 with
  | some c' =>
    rw [hm] at hc
    cases hc
    exact q
  | none =>
    rw [hm] at hc
    obtain ⟨top, rfl, t1, t2, hk⟩ := rfMarks_none hm
    simp only [told_none]
    refine ⟨top, a2, 0, rfl, sf, ?_⟩
    have hc : rfFloods top a2 0 = some c := hc
    unfold rfFloods at hc
    cases hf : floodsD top a2 0 with
    | true =>
      rw [hf] at hc
      cases hc
    | false =>
      rw [hf] at hc
      cases hc
      simp only [xSeq, xSet, xRet, xIf, xExpr, xNext, xNever, xC, xNil, xCons, xTup, xLst, xOp, xEq, xNe, xUn, xNot, xAnd, xOr, xIfE, xCB, xCall, xCallB, xName, xAsg, xIsi3, toD_fz, toD_ow, toD_od, toD_bg, rd_var, rd_getv1, rd_getv2, rd_getv3, rd_test, rd_onB, rd_onI, rd_onSB, rd_andV, rd_orV, rd_notV, rd_chain, rd_II, rd_II0, rd_add1, rd_add2, rd_add3, rd_mul1, rd_mul2, rd_mul3, rd_isN, rd_notN, rd_isN1, rd_isN2, rd_isN3, rd_neg, rd_ix1, rd_ix2, rd_part, rd_sl, rd_onSl1, rd_onSl2, rd_rev, rd_onRv, rd_len1, rd_len2, rd_max2, rd_min2, rd_int1, rd_int2, rd_lst1, rd_lst2, rd_tup1, rd_tup2, rd_dm, rd_seqI, rd_onSq1, rd_onSq2, rd_rng1, rd_onR1, rd_rng2, rd_onR2, xEnumT, rd_onEt, rd_zip, rd_onZ1, rd_onZ2, rd_par, rd_onP, xPar3, rd_onP3, rd_gtup, rd_gnil, rd_gcons, rd_isi, noO_int, noO_bl, noO_str, noO_lst, noO_tup, noO_non, ini, iniB, wipeD, unw, kf, List.map_cons, List.map_nil, List.replicate_succ, List.replicate_zero, List.cons_append, List.nil_append, List.length_cons, List.length_nil, List.getElem?_cons_zero, List.getElem?_cons_succ, List.set_cons_zero, List.set_cons_succ, decide_eq_true_eq, Nat.zero_add, Nat.reduceAdd, Nat.reduceSub, Nat.reduceLeDiff, true_and, Bool.false_eq_true, if_false, if_true, isi_int_non, isi_int_bl, isi_int_int, isi_int_str, isi_int_lst, isi_int_tup, isi_bool_non, isi_bool_bl, isi_bool_int, isi_bool_str, isi_bool_lst, isi_bool_tup, isi_list_non, isi_list_bl, isi_list_int, isi_list_str, isi_list_lst, isi_list_tup, isi_tuple_non, isi_tuple_bl, isi_tuple_int, isi_tuple_str, isi_tuple_lst, isi_tuple_tup, isi_str_non, isi_str_bl, isi_str_int, isi_str_str, isi_str_lst, isi_str_tup, Bool.not_true, Bool.not_false, Bool.or_false, Bool.or_true, Bool.false_or, Bool.true_or, ite_true, ite_false, Option.some.injEq, true_or, false_or, or_false, and_true, xRaise]
      exact q

def dp_far : DP := fun ds _ ED => ∃ t m f n, ds = [t, m, f, n] ∧ smA t ∧ smA m ∧ smA f ∧ smA n ∧ toldF (thenR (rfMarks t m) (thenR (rfFloods (ival t) f 1) (rfMany n 1000000000000000000))) ED

abbrev s_far : Stmt := topS 26
theorem sc_far : FnScope ["top", "marks", "tour", "many", "rounds", "rest"] ["top", "marks", "tour", "many"] (defScope s_far) := ⟨rfl, rfl, rfl, by decide +kernel, rfl, by decide +kernel, by decide +kernel⟩
theorem ok_far {P : Program} {w : World} {K : PySem.W.Frag} {mg : Str → Option Value} {base : Heap} {A7 : Nat → Addr} {CF : Addr} (B : Bt mg) (CL : Cls K mg A7 CF) (d : Df K mg "far" s_far ["top", "marks", "tour", "many"]) (h_look_at_many : FnX P w K mg base "look_at_many" 3 2 dp_look_at_many) (h_are_floods : Fn P w K mg base "are_floods" 3 3 dp_are_floods) (h_look_at_marks : FnX P w K mg base "look_at_marks" 4 2 dp_look_at_marks) : FnX P w K mg base "far" (4 + 1) 4 dp_far := by
  refine fn_mkX d sc_far rfl (by decide) fun f cdv A outer s H E C ED hr hE => ⟨_, _, (ds_cons (ds_expr (d_fnX hE h_look_at_marks (hr.mono (by decide)) (da_cons (dv 0) (da_cons (dv 1) da_nil))))
      (ds_cons (ds_if (dt_not (dt_val (d_fnK h_are_floods (hr.mono (by decide)) (da_cons (dv 0) (da_cons (dv 2) (da_cons d_int da_nil)))))) (ds_one (ds_raise hE (CL.ex 2 (by decide)))) ds_nil)
      (ds_cons (ds_expr (d_fnX hE h_look_at_many (hr.mono (by decide)) (da_cons (dv 3) (da_cons (d_globI (by rfl) B.MOST_FAR) da_nil))))
      (ds_cons ds_never (ds_one ds_never))))), fun ds QD hl0 h => ?_⟩
  obtain ⟨a0, a1, a2, a3, rfl⟩ : ∃ a0 a1 a2 a3, ds = [a0, a1, a2, a3] := by
    match ds, hl0 with
    | [a0, a1, a2, a3], _ => exact ⟨a0, a1, a2, a3, rfl⟩
  clear hl0
  obtain ⟨t, m, f, n, e, st, sm1, sf, sn, c, hc, q⟩ := h
  cases e
  simp only [xSeq, xSet, xRet, xIf, xExpr, xNext, xNever, xC, xNil, xCons, xTup, xLst, xOp, xEq, xNe, xUn, xNot, xAnd, xOr, xIfE, xCB, xCall, xCallB, xName, xAsg, xIsi3, toD_fz, toD_ow, toD_od, toD_bg, rd_var, rd_getv1, rd_getv2, rd_getv3, rd_test, rd_onB, rd_onI, rd_onSB, rd_andV, rd_orV, rd_notV, rd_chain, rd_II, rd_II0, rd_add1, rd_add2, rd_add3, rd_mul1, rd_mul2, rd_mul3, rd_isN, rd_notN, rd_isN1, rd_isN2, rd_isN3, rd_neg, rd_ix1, rd_ix2, rd_part, rd_sl, rd_onSl1, rd_onSl2, rd_rev, rd_onRv, rd_len1, rd_len2, rd_max2, rd_min2, rd_int1, rd_int2, rd_lst1, rd_lst2, rd_tup1, rd_tup2, rd_dm, rd_seqI, rd_onSq1, rd_onSq2, rd_rng1, rd_onR1, rd_rng2, rd_onR2, xEnumT, rd_onEt, rd_zip, rd_onZ1, rd_onZ2, rd_par, rd_onP, xPar3, rd_onP3, rd_gtup, rd_gnil, rd_gcons, rd_isi, noO_int, noO_bl, noO_str, noO_lst, noO_tup, noO_non, ini, iniB, wipeD, unw, kf, List.map_cons, List.map_nil, List.replicate_succ, List.replicate_zero, List.cons_append, List.nil_append, List.length_cons, List.length_nil, List.getElem?_cons_zero, List.getElem?_cons_succ, List.set_cons_zero, List.set_cons_succ, decide_eq_true_eq, Nat.zero_add, Nat.reduceAdd, Nat.reduceSub, Nat.reduceLeDiff, true_and, Bool.false_eq_true, if_false, if_true, isi_int_non, isi_int_bl, isi_int_int, isi_int_str, isi_int_lst, isi_int_tup, isi_bool_non, isi_bool_bl, isi_bool_int, isi_bool_str, isi_bool_lst, isi_bool_tup, isi_list_non, isi_list_bl, isi_list_int, isi_list_str, isi_list_lst, isi_list_tup, isi_tuple_non, isi_tuple_bl, isi_tuple_int, isi_tuple_str, isi_tuple_lst, isi_tuple_tup, isi_str_non, isi_str_bl, isi_str_int, isi_str_str, isi_str_lst, isi_str_tup, Bool.not_true, Bool.not_false, Bool.or_false, Bool.or_true, Bool.false_or, Bool.true_or, ite_true, ite_false, Option.some.injEq, true_or, false_or, or_false, and_true, xRaise]
  refine ⟨a0, a1, rfl, st, sm1, ?_⟩
  cases hm : rfMarks a0 a1 with
  | some c' =>
    rw [hm] at hc
    cases hc
    exact q
  | none =>
    rw [hm] at hc
    obtain ⟨top, rfl, t1, t2, hk⟩ := rfMarks_none hm
    simp only [told_none]
    refine ⟨top, a2, 1, rfl, sf, ?_⟩
    have hc : thenR (rfFloods top a2 1) (rfMany a3 1000000000000000000) = some c := hc
    unfold rfFloods at hc
    cases hf : floodsD top a2 1 with
    | false =>
      rw [hf] at hc
      cases hc
      simp only [xSeq, xSet, xRet, xIf, xExpr, xNext, xNever, xC, xNil, xCons, xTup, xLst, xOp, xEq, xNe, xUn, xNot, xAnd, xOr, xIfE, xCB, xCall, xCallB, xName, xAsg, xIsi3, toD_fz, toD_ow, toD_od, toD_bg, rd_var, rd_getv1, rd_getv2, rd_getv3, rd_test, rd_onB, rd_onI, rd_onSB, rd_andV, rd_orV, rd_notV, rd_chain, rd_II, rd_II0, rd_add1, rd_add2, rd_add3, rd_mul1, rd_mul2, rd_mul3, rd_isN, rd_notN, rd_isN1, rd_isN2, rd_isN3, rd_neg, rd_ix1, rd_ix2, rd_part, rd_sl, rd_onSl1, rd_onSl2, rd_rev, rd_onRv, rd_len1, rd_len2, rd_max2, rd_min2, rd_int1, rd_int2, rd_lst1, rd_lst2, rd_tup1, rd_tup2, rd_dm, rd_seqI, rd_onSq1, rd_onSq2, rd_rng1, rd_onR1, rd_rng2, rd_onR2, xEnumT, rd_onEt, rd_zip, rd_onZ1, rd_onZ2, rd_par, rd_onP, xPar3, rd_onP3, rd_gtup, rd_gnil, rd_gcons, rd_isi, noO_int, noO_bl, noO_str, noO_lst, noO_tup, noO_non, ini, iniB, wipeD, unw, kf, List.map_cons, List.map_nil, List.replicate_succ, List.replicate_zero, List.cons_append, List.nil_append, List.length_cons, List.length_nil, List.getElem?_cons_zero, List.getElem?_cons_succ, List.set_cons_zero, List.set_cons_succ, decide_eq_true_eq, Nat.zero_add, Nat.reduceAdd, Nat.reduceSub, Nat.reduceLeDiff, true_and, Bool.false_eq_true, if_false, if_true, isi_int_non, isi_int_bl, isi_int_int, isi_int_str, isi_int_lst, isi_int_tup, isi_bool_non, isi_bool_bl, isi_bool_int, isi_bool_str, isi_bool_lst, isi_bool_tup, isi_list_non, isi_list_bl, isi_list_int, isi_list_str, isi_list_lst, isi_list_tup, isi_tuple_non, isi_tuple_bl, isi_tuple_int, isi_tuple_str, isi_tuple_lst, isi_tuple_tup, isi_str_non, isi_str_bl, isi_str_int, isi_str_str, isi_str_lst, isi_str_tup, Bool.not_true, Bool.not_false, Bool.or_false, Bool.or_true, Bool.false_or, Bool.true_or, ite_true, ite_false, Option.some.injEq, true_or, false_or, or_false, and_true, xRaise]
      exact q
    | true =>
      rw [hf] at hc
      have hc : rfMany a3 1000000000000000000 = some c := hc
      simp only [xSeq, xSet, xRet, xIf, xExpr, xNext, xNever, xC, xNil, xCons, xTup, xLst, xOp, xEq, xNe, xUn, xNot, xAnd, xOr, xIfE, xCB, xCall, xCallB, xName, xAsg, xIsi3, toD_fz, toD_ow, toD_od, toD_bg, rd_var, rd_getv1, rd_getv2, rd_getv3, rd_test, rd_onB, rd_onI, rd_onSB, rd_andV, rd_orV, rd_notV, rd_chain, rd_II, rd_II0, rd_add1, rd_add2, rd_add3, rd_mul1, rd_mul2, rd_mul3, rd_isN, rd_notN, rd_isN1, rd_isN2, rd_isN3, rd_neg, rd_ix1, rd_ix2, rd_part, rd_sl, rd_onSl1, rd_onSl2, rd_rev, rd_onRv, rd_len1, rd_len2, rd_max2, rd_min2, rd_int1, rd_int2, rd_lst1, rd_lst2, rd_tup1, rd_tup2, rd_dm, rd_seqI, rd_onSq1, rd_onSq2, rd_rng1, rd_onR1, rd_rng2, rd_onR2, xEnumT, rd_onEt, rd_zip, rd_onZ1, rd_onZ2, rd_par, rd_onP, xPar3, rd_onP3, rd_gtup, rd_gnil, rd_gcons, rd_isi, noO_int, noO_bl, noO_str, noO_lst, noO_tup, noO_non, ini, iniB, wipeD, unw, kf, List.map_cons, List.map_nil, List.replicate_succ, List.replicate_zero, List.cons_append, List.nil_append, List.length_cons, List.length_nil, List.getElem?_cons_zero, List.getElem?_cons_succ, List.set_cons_zero, List.set_cons_succ, decide_eq_true_eq, Nat.zero_add, Nat.reduceAdd, Nat.reduceSub, Nat.reduceLeDiff, true_and, Bool.false_eq_true, if_false, if_true, isi_int_non, isi_int_bl, isi_int_int, isi_int_str, isi_int_lst, isi_int_tup, isi_bool_non, isi_bool_bl, isi_bool_int, isi_bool_str, isi_bool_lst, isi_bool_tup, isi_list_non, isi_list_bl, isi_list_int, isi_list_str, isi_list_lst, isi_list_tup, isi_tuple_non, isi_tuple_bl, isi_tuple_int, isi_tuple_str, isi_tuple_lst, isi_tuple_tup, isi_str_non, isi_str_bl, isi_str_int, isi_str_str, isi_str_lst, isi_str_tup, Bool.not_true, Bool.not_false, Bool.or_false, Bool.or_true, Bool.false_or, Bool.true_or, ite_true, ite_false, Option.some.injEq, true_or, false_or, or_false, and_true, xRaise]
      refine ⟨a3, _, rfl, smA_no sn, ?_⟩
      rw [hc]
      exact q

def rfBoth (t m l : D) : Option Str := thenR (rfMarks t m) (rfMarks t l)
theorem rfBoth_none {t m l : D} (h : rfBoth t m l = none) : ∃ top, t = .int top ∧ 1 ≤ top ∧ top ≤ 40 ∧ marksD top m = true ∧ marksD top l = true := by
  unfold rfBoth at h
  cases hm : rfMarks t m with
  | some c => rw [hm] at h; cases h
  | none =>
    rw [hm] at h
    obtain ⟨top, rfl, t1, t2, hk⟩ := rfMarks_none hm
    obtain ⟨_, e, _, _, hk2⟩ := rfMarks_none (show rfMarks (.int top) l = none from h)
    cases e
    exact ⟨top, rfl, t1, t2, hk, hk2⟩
def dp_look_at_both : DP := fun ds Q ED => ∃ t m l, ds = [t, m, l] ∧ smA t ∧ smA m ∧ smA l ∧ told (rfBoth t m l) Q ED

abbrev s_look_at_both : Stmt := topS 37
theorem sc_look_at_both : FnScope ["top", "marks", "later"] ["top", "marks", "later"] (defScope s_look_at_both) := ⟨rfl, rfl, rfl, by decide +kernel, rfl, by decide +kernel, by decide +kernel⟩
theorem ok_look_at_both {P : Program} {w : World} {K : PySem.W.Frag} {mg : Str → Option Value} {base : Heap} {A7 : Nat → Addr} {CF : Addr} (B : Bt mg) (CL : Cls K mg A7 CF) (d : Df K mg "look_at_both" s_look_at_both ["top", "marks", "later"]) (h_look_at_marks : FnX P w K mg base "look_at_marks" 4 2 dp_look_at_marks) : FnX P w K mg base "look_at_both" (4 + 1) 3 dp_look_at_both := by
  refine fn_mkX d sc_look_at_both rfl (by decide) fun f cdv A outer s H E C ED hr hE => ⟨_, _, (ds_cons (ds_expr (d_fnX hE h_look_at_marks (hr.mono (by decide)) (da_cons (dv 0) (da_cons (dv 1) da_nil))))
      (ds_one (ds_expr (d_fnX hE h_look_at_marks (hr.mono (by decide)) (da_cons (dv 0) (da_cons (dv 2) da_nil)))))), fun ds QD hl0 h => ?_⟩
  obtain ⟨a0, a1, a2, rfl⟩ : ∃ a0 a1 a2, ds = [a0, a1, a2] := by
    match ds, hl0 with
    | [a0, a1, a2], _ => exact ⟨a0, a1, a2, rfl⟩
  clear hl0
  obtain ⟨t, m, l, e, st, sd, sl, q⟩ := h
  cases e
  simp only [xSeq, xSet, xRet, xIf, xExpr, xNext, xNever, xC, xNil, xCons, xTup, xLst, xOp, xEq, xNe, xUn, xNot, xAnd, xOr, xIfE, xCB, xCall, xCallB, xName, xAsg, xIsi3, toD_fz, toD_ow, toD_od, toD_bg, rd_var, rd_getv1, rd_getv2, rd_getv3, rd_test, rd_onB, rd_onI, rd_onSB, rd_andV, rd_orV, rd_notV, rd_chain, rd_II, rd_II0, rd_add1, rd_add2, rd_add3, rd_mul1, rd_mul2, rd_mul3, rd_isN, rd_notN, rd_isN1, rd_isN2, rd_isN3, rd_neg, rd_ix1, rd_ix2, rd_part, rd_sl, rd_onSl1, rd_onSl2, rd_rev, rd_onRv, rd_len1, rd_len2, rd_max2, rd_min2, rd_int1, rd_int2, rd_lst1, rd_lst2, rd_tup1, rd_tup2, rd_dm, rd_seqI, rd_onSq1, rd_onSq2, rd_rng1, rd_onR1, rd_rng2, rd_onR2, xEnumT, rd_onEt, rd_zip, rd_onZ1, rd_onZ2, rd_par, rd_onP, xPar3, rd_onP3, rd_gtup, rd_gnil, rd_gcons, rd_isi, noO_int, noO_bl, noO_str, noO_lst, noO_tup, noO_non, ini, iniB, wipeD, unw, kf, List.map_cons, List.map_nil, List.replicate_succ, List.replicate_zero, List.cons_append, List.nil_append, List.length_cons, List.length_nil, List.getElem?_cons_zero, List.getElem?_cons_succ, List.set_cons_zero, List.set_cons_succ, decide_eq_true_eq, Nat.zero_add, Nat.reduceAdd, Nat.reduceSub, Nat.reduceLeDiff, true_and, Bool.false_eq_true, if_false, if_true, isi_int_non, isi_int_bl, isi_int_int, isi_int_str, isi_int_lst, isi_int_tup, isi_bool_non, isi_bool_bl, isi_bool_int, isi_bool_str, isi_bool_lst, isi_bool_tup, isi_list_non, isi_list_bl, isi_list_int, isi_list_str, isi_list_lst, isi_list_tup, isi_tuple_non, isi_tuple_bl, isi_tuple_int, isi_tuple_str, isi_tuple_lst, isi_tuple_tup, isi_str_non, isi_str_bl, isi_str_int, isi_str_str, isi_str_lst, isi_str_tup, Bool.not_true, Bool.not_false, Bool.or_false, Bool.or_true, Bool.false_or, Bool.true_or, ite_true, ite_false, Option.some.injEq, true_or, false_or, or_false, and_true, xRaise]
  refine ⟨a0, a1, rfl, st, sd, ?_⟩
  unfold rfBoth at q
  cases hm : rfMarks a0 a1 with
  | some c =>
    rw [hm] at q
    exact q
  | none =>
    rw [hm] at q
    simp only [told_none]
    exact ⟨a0, a2, rfl, st, sl, q⟩

def dp_how_many : DP := fun ds _ ED => ∃ t m l n, ds = [t, m, l, n] ∧ smA t ∧ smA m ∧ smA l ∧ smA n ∧ toldF (thenR (rfBoth t m l) (rfMany n 40)) ED

abbrev s_how_many : Stmt := topS 38
theorem sc_how_many : FnScope ["top", "marks", "later", "many"] ["top", "marks", "later", "many"] (defScope s_how_many) := ⟨rfl, rfl, rfl, by decide +kernel, rfl, by decide +kernel, by decide +kernel⟩
theorem ok_how_many {P : Program} {w : World} {K : PySem.W.Frag} {mg : Str → Option Value} {base : Heap} {A7 : Nat → Addr} {CF : Addr} (B : Bt mg) (CL : Cls K mg A7 CF) (d : Df K mg "how_many" s_how_many ["top", "marks", "later", "many"]) (h_look_at_many : FnX P w K mg base "look_at_many" 3 2 dp_look_at_many) (h_look_at_both : FnX P w K mg base "look_at_both" 5 3 dp_look_at_both) : FnX P w K mg base "how_many" (5 + 1) 4 dp_how_many := by
  refine fn_mkX d sc_how_many rfl (by decide) fun f cdv A outer s H E C ED hr hE => ⟨_, _, (ds_cons (ds_expr (d_fnX hE h_look_at_both (hr.mono (by decide)) (da_cons (dv 0) (da_cons (dv 1) (da_cons (dv 2) da_nil)))))
      (ds_cons (ds_expr (d_fnX hE h_look_at_many (hr.mono (by decide)) (da_cons (dv 3) (da_cons (d_globI (by rfl) B.MOST_FLOODS) da_nil))))
      (ds_one ds_never))), fun ds QD hl0 h => ?_⟩
  obtain ⟨a0, a1, a2, a3, rfl⟩ : ∃ a0 a1 a2 a3, ds = [a0, a1, a2, a3] := by
    match ds, hl0 with
    | [a0, a1, a2, a3], _ => exact ⟨a0, a1, a2, a3, rfl⟩
  clear hl0
  obtain ⟨t, m, l, n, e, st, sd, sl, sn, c, hc, q⟩ := h
  cases e
  simp only [xSeq, xSet, xRet, xIf, xExpr, xNext, xNever, xC, xNil, xCons, xTup, xLst, xOp, xEq, xNe, xUn, xNot, xAnd, xOr, xIfE, xCB, xCall, xCallB, xName, xAsg, xIsi3, toD_fz, toD_ow, toD_od, toD_bg, rd_var, rd_getv1, rd_getv2, rd_getv3, rd_test, rd_onB, rd_onI, rd_onSB, rd_andV, rd_orV, rd_notV, rd_chain, rd_II, rd_II0, rd_add1, rd_add2, rd_add3, rd_mul1, rd_mul2, rd_mul3, rd_isN, rd_notN, rd_isN1, rd_isN2, rd_isN3, rd_neg, rd_ix1, rd_ix2, rd_part, rd_sl, rd_onSl1, rd_onSl2, rd_rev, rd_onRv, rd_len1, rd_len2, rd_max2, rd_min2, rd_int1, rd_int2, rd_lst1, rd_lst2, rd_tup1, rd_tup2, rd_dm, rd_seqI, rd_onSq1, rd_onSq2, rd_rng1, rd_onR1, rd_rng2, rd_onR2, xEnumT, rd_onEt, rd_zip, rd_onZ1, rd_onZ2, rd_par, rd_onP, xPar3, rd_onP3, rd_gtup, rd_gnil, rd_gcons, rd_isi, noO_int, noO_bl, noO_str, noO_lst, noO_tup, noO_non, ini, iniB, wipeD, unw, kf, List.map_cons, List.map_nil, List.replicate_succ, List.replicate_zero, List.cons_append, List.nil_append, List.length_cons, List.length_nil, List.getElem?_cons_zero, List.getElem?_cons_succ, List.set_cons_zero, List.set_cons_succ, decide_eq_true_eq, Nat.zero_add, Nat.reduceAdd, Nat.reduceSub, Nat.reduceLeDiff, true_and, Bool.false_eq_true, if_false, if_true, isi_int_non, isi_int_bl, isi_int_int, isi_int_str, isi_int_lst, isi_int_tup, isi_bool_non, isi_bool_bl, isi_bool_int, isi_bool_str, isi_bool_lst, isi_bool_tup, isi_list_non, isi_list_bl, isi_list_int, isi_list_str, isi_list_lst, isi_list_tup, isi_tuple_non, isi_tuple_bl, isi_tuple_int, isi_tuple_str, isi_tuple_lst, isi_tuple_tup, isi_str_non, isi_str_bl, isi_str_int, isi_str_str, isi_str_lst, isi_str_tup, Bool.not_true, Bool.not_false, Bool.or_false, Bool.or_true, Bool.false_or, Bool.true_or, ite_true, ite_false, Option.some.injEq, true_or, false_or, or_false, and_true, xRaise]
  refine ⟨a0, a1, a2, rfl, st, sd, sl, ?_⟩
  cases hm : rfBoth a0 a1 a2 with
  | some c' =>
    rw [hm] at hc
    cases hc
    exact q
  | none =>
    rw [hm] at hc
    obtain ⟨top, rfl, t1, t2, hk, hk2⟩ := rfBoth_none hm
    simp only [then_none] at hc
    simp only [told_none]
    refine ⟨a3, _, rfl, smA_no sn, ?_⟩
    rw [hc]
    exact q

def dp_rest : DP := fun ds _ ED => ∃ t m l n b, ds = [t, m, l, n, b] ∧ smA t ∧ smA m ∧ smA l ∧ smA n ∧ smA b ∧ toldF (thenR (rfBoth t m l) (thenR (rfMany n 1000000000000000000) (if inR b 2 1000000000 = true then none else some (nmC 4)))) ED

abbrev s_rest : Stmt := topS 39
theorem sc_rest : FnScope ["top", "marks", "later", "many", "by", "some", "place"] ["top", "marks", "later", "many", "by"] (defScope s_rest) := ⟨rfl, rfl, rfl, by decide +kernel, rfl, by decide +kernel, by decide +kernel⟩
theorem ok_rest {P : Program} {w : World} {K : PySem.W.Frag} {mg : Str → Option Value} {base : Heap} {A7 : Nat → Addr} {CF : Addr} (B : Bt mg) (CL : Cls K mg A7 CF) (d : Df K mg "rest" s_rest ["top", "marks", "later", "many", "by"]) (h_is_within : Fn P w K mg base "is_within" 2 3 dp_is_within) (h_look_at_many : FnX P w K mg base "look_at_many" 3 2 dp_look_at_many) (h_look_at_both : FnX P w K mg base "look_at_both" 5 3 dp_look_at_both) : FnX P w K mg base "rest" (5 + 1) 5 dp_rest := by
  refine fn_mkX d sc_rest rfl (by decide) fun f cdv A outer s H E C ED hr hE => ⟨_, _, (ds_cons (ds_expr (d_fnX hE h_look_at_both (hr.mono (by decide)) (da_cons (dv 0) (da_cons (dv 1) (da_cons (dv 2) da_nil)))))
      (ds_cons (ds_expr (d_fnX hE h_look_at_many (hr.mono (by decide)) (da_cons (dv 3) (da_cons (d_globI (by rfl) B.MOST_FAR) da_nil))))
      (ds_cons (ds_if (dt_not (dt_val (d_fnK h_is_within (hr.mono (by decide)) (da_cons (dv 4) (da_cons d_int (da_cons (d_globI (by rfl) B.MOST_BY) da_nil)))))) (ds_one (ds_raise hE (CL.ex 4 (by decide)))) ds_nil)
      (ds_cons ds_never (ds_cons ds_never (ds_one ds_never)))))), fun ds QD hl0 h => ?_⟩
  obtain ⟨a0, a1, a2, a3, a4, rfl⟩ : ∃ a0 a1 a2 a3 a4, ds = [a0, a1, a2, a3, a4] := by
    match ds, hl0 with
    | [a0, a1, a2, a3, a4], _ => exact ⟨a0, a1, a2, a3, a4, rfl⟩
  clear hl0
  obtain ⟨t, m, l, n, b, e, st, sd, sl, sn, sb, c, hc, q⟩ := h
  cases e
  simp only [xSeq, xSet, xRet, xIf, xExpr, xNext, xNever, xC, xNil, xCons, xTup, xLst, xOp, xEq, xNe, xUn, xNot, xAnd, xOr, xIfE, xCB, xCall, xCallB, xName, xAsg, xIsi3, toD_fz, toD_ow, toD_od, toD_bg, rd_var, rd_getv1, rd_getv2, rd_getv3, rd_test, rd_onB, rd_onI, rd_onSB, rd_andV, rd_orV, rd_notV, rd_chain, rd_II, rd_II0, rd_add1, rd_add2, rd_add3, rd_mul1, rd_mul2, rd_mul3, rd_isN, rd_notN, rd_isN1, rd_isN2, rd_isN3, rd_neg, rd_ix1, rd_ix2, rd_part, rd_sl, rd_onSl1, rd_onSl2, rd_rev, rd_onRv, rd_len1, rd_len2, rd_max2, rd_min2, rd_int1, rd_int2, rd_lst1, rd_lst2, rd_tup1, rd_tup2, rd_dm, rd_seqI, rd_onSq1, rd_onSq2, rd_rng1, rd_onR1, rd_rng2, rd_onR2, xEnumT, rd_onEt, rd_zip, rd_onZ1, rd_onZ2, rd_par, rd_onP, xPar3, rd_onP3, rd_gtup, rd_gnil, rd_gcons, rd_isi, noO_int, noO_bl, noO_str, noO_lst, noO_tup, noO_non, ini, iniB, wipeD, unw, kf, List.map_cons, List.map_nil, List.replicate_succ, List.replicate_zero, List.cons_append, List.nil_append, List.length_cons, List.length_nil, List.getElem?_cons_zero, List.getElem?_cons_succ, List.set_cons_zero, List.set_cons_succ, decide_eq_true_eq, Nat.zero_add, Nat.reduceAdd, Nat.reduceSub, Nat.reduceLeDiff, true_and, Bool.false_eq_true, if_false, if_true, isi_int_non, isi_int_bl, isi_int_int, isi_int_str, isi_int_lst, isi_int_tup, isi_bool_non, isi_bool_bl, isi_bool_int, isi_bool_str, isi_bool_lst, isi_bool_tup, isi_list_non, isi_list_bl, isi_list_int, isi_list_str, isi_list_lst, isi_list_tup, isi_tuple_non, isi_tuple_bl, isi_tuple_int, isi_tuple_str, isi_tuple_lst, isi_tuple_tup, isi_str_non, isi_str_bl, isi_str_int, isi_str_str, isi_str_lst, isi_str_tup, Bool.not_true, Bool.not_false, Bool.or_false, Bool.or_true, Bool.false_or, Bool.true_or, ite_true, ite_false, Option.some.injEq, true_or, false_or, or_false, and_true, xRaise]
  refine ⟨a0, a1, a2, rfl, st, sd, sl, ?_⟩
  cases hm : rfBoth a0 a1 a2 with
  | some c' =>
    rw [hm] at hc
    cases hc
    exact q
  | none =>
    rw [hm] at hc
    obtain ⟨top, rfl, t1, t2, hk, hk2⟩ := rfBoth_none hm
    simp only [then_none] at hc
    simp only [told_none]
    refine ⟨a3, _, rfl, smA_no sn, ?_⟩
    cases h2 : rfMany a3 1000000000000000000 with
    | some c' =>
      rw [h2] at hc
      cases hc
      exact q
    | none =>
      rw [h2] at hc
      simp only [then_none] at hc
      simp only [told_none]
      refine ⟨a4, 2, _, rfl, smA_no sb, ?_⟩
      cases h3 : inR a4 2 1000000000 with
      | true =>
        rw [h3] at hc
        cases hc
      | false =>
        rw [h3] at hc
        cases hc
        simp only [xSeq, xSet, xRet, xIf, xExpr, xNext, xNever, xC, xNil, xCons, xTup, xLst, xOp, xEq, xNe, xUn, xNot, xAnd, xOr, xIfE, xCB, xCall, xCallB, xName, xAsg, xIsi3, toD_fz, toD_ow, toD_od, toD_bg, rd_var, rd_getv1, rd_getv2, rd_getv3, rd_test, rd_onB, rd_onI, rd_onSB, rd_andV, rd_orV, rd_notV, rd_chain, rd_II, rd_II0, rd_add1, rd_add2, rd_add3, rd_mul1, rd_mul2, rd_mul3, rd_isN, rd_notN, rd_isN1, rd_isN2, rd_isN3, rd_neg, rd_ix1, rd_ix2, rd_part, rd_sl, rd_onSl1, rd_onSl2, rd_rev, rd_onRv, rd_len1, rd_len2, rd_max2, rd_min2, rd_int1, rd_int2, rd_lst1, rd_lst2, rd_tup1, rd_tup2, rd_dm, rd_seqI, rd_onSq1, rd_onSq2, rd_rng1, rd_onR1, rd_rng2, rd_onR2, xEnumT, rd_onEt, rd_zip, rd_onZ1, rd_onZ2, rd_par, rd_onP, xPar3, rd_onP3, rd_gtup, rd_gnil, rd_gcons, rd_isi, noO_int, noO_bl, noO_str, noO_lst, noO_tup, noO_non, ini, iniB, wipeD, unw, kf, List.map_cons, List.map_nil, List.replicate_succ, List.replicate_zero, List.cons_append, List.nil_append, List.length_cons, List.length_nil, List.getElem?_cons_zero, List.getElem?_cons_succ, List.set_cons_zero, List.set_cons_succ, decide_eq_true_eq, Nat.zero_add, Nat.reduceAdd, Nat.reduceSub, Nat.reduceLeDiff, true_and, Bool.false_eq_true, if_false, if_true, isi_int_non, isi_int_bl, isi_int_int, isi_int_str, isi_int_lst, isi_int_tup, isi_bool_non, isi_bool_bl, isi_bool_int, isi_bool_str, isi_bool_lst, isi_bool_tup, isi_list_non, isi_list_bl, isi_list_int, isi_list_str, isi_list_lst, isi_list_tup, isi_tuple_non, isi_tuple_bl, isi_tuple_int, isi_tuple_str, isi_tuple_lst, isi_tuple_tup, isi_str_non, isi_str_bl, isi_str_int, isi_str_str, isi_str_lst, isi_str_tup, Bool.not_true, Bool.not_false, Bool.or_false, Bool.or_true, Bool.false_or, Bool.true_or, ite_true, ite_false, Option.some.injEq, true_or, false_or, or_false, and_true, xRaise]
        exact q

def dp_shortest : DP := fun ds _ ED => ∃ t m l, ds = [t, m, l] ∧ smA t ∧ smA m ∧ smA l ∧ toldF (rfBoth t m l) ED

abbrev s_shortest : Stmt := topS 40
theorem sc_shortest : FnScope ["top", "marks", "later", "some"] ["top", "marks", "later"] (defScope s_shortest) := ⟨rfl, rfl, rfl, by decide +kernel, rfl, by decide +kernel, by decide +kernel⟩
theorem ok_shortest {P : Program} {w : World} {K : PySem.W.Frag} {mg : Str → Option Value} {base : Heap} {A7 : Nat → Addr} {CF : Addr} (B : Bt mg) (CL : Cls K mg A7 CF) (d : Df K mg "shortest" s_shortest ["top", "marks", "later"]) (h_look_at_both : FnX P w K mg base "look_at_both" 5 3 dp_look_at_both) : FnX P w K mg base "shortest" (5 + 1) 3 dp_shortest := by
  refine fn_mkX d sc_shortest rfl (by decide) fun f cdv A outer s H E C ED hr hE => ⟨_, _, (ds_cons (ds_expr (d_fnX hE h_look_at_both (hr.mono (by decide)) (da_cons (dv 0) (da_cons (dv 1) (da_cons (dv 2) da_nil)))))
      (ds_cons ds_never (ds_cons ds_never (ds_one ds_never)))), fun ds QD hl0 h => ?_⟩
  obtain ⟨a0, a1, a2, rfl⟩ : ∃ a0 a1 a2, ds = [a0, a1, a2] := by
    match ds, hl0 with
    | [a0, a1, a2], _ => exact ⟨a0, a1, a2, rfl⟩
  clear hl0
  obtain ⟨t, m, l, e, st, sd, sl, c, hc, q⟩ := h
  cases e
  simp only [xSeq, xSet, xRet, xIf, xExpr, xNext, xNever, xC, xNil, xCons, xTup, xLst, xOp, xEq, xNe, xUn, xNot, xAnd, xOr, xIfE, xCB, xCall, xCallB, xName, xAsg, xIsi3, toD_fz, toD_ow, toD_od, toD_bg, rd_var, rd_getv1, rd_getv2, rd_getv3, rd_test, rd_onB, rd_onI, rd_onSB, rd_andV, rd_orV, rd_notV, rd_chain, rd_II, rd_II0, rd_add1, rd_add2, rd_add3, rd_mul1, rd_mul2, rd_mul3, rd_isN, rd_notN, rd_isN1, rd_isN2, rd_isN3, rd_neg, rd_ix1, rd_ix2, rd_part, rd_sl, rd_onSl1, rd_onSl2, rd_rev, rd_onRv, rd_len1, rd_len2, rd_max2, rd_min2, rd_int1, rd_int2, rd_lst1, rd_lst2, rd_tup1, rd_tup2, rd_dm, rd_seqI, rd_onSq1, rd_onSq2, rd_rng1, rd_onR1, rd_rng2, rd_onR2, xEnumT, rd_onEt, rd_zip, rd_onZ1, rd_onZ2, rd_par, rd_onP, xPar3, rd_onP3, rd_gtup, rd_gnil, rd_gcons, rd_isi, noO_int, noO_bl, noO_str, noO_lst, noO_tup, noO_non, ini, iniB, wipeD, unw, kf, List.map_cons, List.map_nil, List.replicate_succ, List.replicate_zero, List.cons_append, List.nil_append, List.length_cons, List.length_nil, List.getElem?_cons_zero, List.getElem?_cons_succ, List.set_cons_zero, List.set_cons_succ, decide_eq_true_eq, Nat.zero_add, Nat.reduceAdd, Nat.reduceSub, Nat.reduceLeDiff, true_and, Bool.false_eq_true, if_false, if_true, isi_int_non, isi_int_bl, isi_int_int, isi_int_str, isi_int_lst, isi_int_tup, isi_bool_non, isi_bool_bl, isi_bool_int, isi_bool_str, isi_bool_lst, isi_bool_tup, isi_list_non, isi_list_bl, isi_list_int, isi_list_str, isi_list_lst, isi_list_tup, isi_tuple_non, isi_tuple_bl, isi_tuple_int, isi_tuple_str, isi_tuple_lst, isi_tuple_tup, isi_str_non, isi_str_bl, isi_str_int, isi_str_str, isi_str_lst, isi_str_tup, Bool.not_true, Bool.not_false, Bool.or_false, Bool.or_true, Bool.false_or, Bool.true_or, ite_true, ite_false, Option.some.injEq, true_or, false_or, or_false, and_true, xRaise]
  refine ⟨a0, a1, a2, rfl, st, sd, sl, ?_⟩
  rw [hc]
  exact q

def dp_first_row : DP := fun ds _ ED => ∃ t m l n, ds = [t, m, l, n] ∧ smA t ∧ smA m ∧ smA l ∧ smA n ∧ toldF (thenR (rfBoth t m l) (rfMany n 40)) ED

abbrev s_first_row : Stmt := topS 41
theorem sc_first_row : FnScope ["top", "marks", "later", "many", "found", "now", "left", "height"] ["top", "marks", "later", "many"] (defScope s_first_row) := ⟨rfl, rfl, rfl, by decide +kernel, rfl, by decide +kernel, by decide +kernel⟩
theorem ok_first_row {P : Program} {w : World} {K : PySem.W.Frag} {mg : Str → Option Value} {base : Heap} {A7 : Nat → Addr} {CF : Addr} (B : Bt mg) (CL : Cls K mg A7 CF) (d : Df K mg "first_row" s_first_row ["top", "marks", "later", "many"]) (h_look_at_many : FnX P w K mg base "look_at_many" 3 2 dp_look_at_many) (h_look_at_both : FnX P w K mg base "look_at_both" 5 3 dp_look_at_both) : FnX P w K mg base "first_row" (5 + 1) 4 dp_first_row := by
  refine fn_mkX d sc_first_row rfl (by decide) fun f cdv A outer s H E C ED hr hE => ⟨_, _, (ds_cons (ds_expr (d_fnX hE h_look_at_both (hr.mono (by decide)) (da_cons (dv 0) (da_cons (dv 1) (da_cons (dv 2) da_nil)))))
      (ds_cons (ds_expr (d_fnX hE h_look_at_many (hr.mono (by decide)) (da_cons (dv 3) (da_cons (d_globI (by rfl) B.MOST_FLOODS) da_nil))))
      (ds_cons ds_never (ds_cons ds_never (ds_cons ds_never (ds_cons ds_never (ds_one ds_never))))))), fun ds QD hl0 h => ?_⟩
  obtain ⟨a0, a1, a2, a3, rfl⟩ : ∃ a0 a1 a2 a3, ds = [a0, a1, a2, a3] := by
    match ds, hl0 with
    | [a0, a1, a2, a3], _ => exact ⟨a0, a1, a2, a3, rfl⟩
  clear hl0
  obtain ⟨t, m, l, n, e, st, sd, sl, sn, c, hc, q⟩ := h
  cases e
  simp only [xSeq, xSet, xRet, xIf, xExpr, xNext, xNever, xC, xNil, xCons, xTup, xLst, xOp, xEq, xNe, xUn, xNot, xAnd, xOr, xIfE, xCB, xCall, xCallB, xName, xAsg, xIsi3, toD_fz, toD_ow, toD_od, toD_bg, rd_var, rd_getv1, rd_getv2, rd_getv3, rd_test, rd_onB, rd_onI, rd_onSB, rd_andV, rd_orV, rd_notV, rd_chain, rd_II, rd_II0, rd_add1, rd_add2, rd_add3, rd_mul1, rd_mul2, rd_mul3, rd_isN, rd_notN, rd_isN1, rd_isN2, rd_isN3, rd_neg, rd_ix1, rd_ix2, rd_part, rd_sl, rd_onSl1, rd_onSl2, rd_rev, rd_onRv, rd_len1, rd_len2, rd_max2, rd_min2, rd_int1, rd_int2, rd_lst1, rd_lst2, rd_tup1, rd_tup2, rd_dm, rd_seqI, rd_onSq1, rd_onSq2, rd_rng1, rd_onR1, rd_rng2, rd_onR2, xEnumT, rd_onEt, rd_zip, rd_onZ1, rd_onZ2, rd_par, rd_onP, xPar3, rd_onP3, rd_gtup, rd_gnil, rd_gcons, rd_isi, noO_int, noO_bl, noO_str, noO_lst, noO_tup, noO_non, ini, iniB, wipeD, unw, kf, List.map_cons, List.map_nil, List.replicate_succ, List.replicate_zero, List.cons_append, List.nil_append, List.length_cons, List.length_nil, List.getElem?_cons_zero, List.getElem?_cons_succ, List.set_cons_zero, List.set_cons_succ, decide_eq_true_eq, Nat.zero_add, Nat.reduceAdd, Nat.reduceSub, Nat.reduceLeDiff, true_and, Bool.false_eq_true, if_false, if_true, isi_int_non, isi_int_bl, isi_int_int, isi_int_str, isi_int_lst, isi_int_tup, isi_bool_non, isi_bool_bl, isi_bool_int, isi_bool_str, isi_bool_lst, isi_bool_tup, isi_list_non, isi_list_bl, isi_list_int, isi_list_str, isi_list_lst, isi_list_tup, isi_tuple_non, isi_tuple_bl, isi_tuple_int, isi_tuple_str, isi_tuple_lst, isi_tuple_tup, isi_str_non, isi_str_bl, isi_str_int, isi_str_str, isi_str_lst, isi_str_tup, Bool.not_true, Bool.not_false, Bool.or_false, Bool.or_true, Bool.false_or, Bool.true_or, ite_true, ite_false, Option.some.injEq, true_or, false_or, or_false, and_true, xRaise]
  refine ⟨a0, a1, a2, rfl, st, sd, sl, ?_⟩
  cases hm : rfBoth a0 a1 a2 with
  | some c' =>
    rw [hm] at hc
    cases hc
    exact q
  | none =>
    rw [hm] at hc
    obtain ⟨top, rfl, t1, t2, hk, hk2⟩ := rfBoth_none hm
    simp only [then_none] at hc
    simp only [told_none]
    refine ⟨a3, _, rfl, smA_no sn, ?_⟩
    rw [hc]
    exact q

def rowOk (top : Int) : D → Bool
  | .tup [a, b] => inR a 0 40 && (isNonD b || marksD top b)
  | _ => false
def logD (top : Int) : D → Bool
  | .tup rows => decide (1 ≤ (rows.length : Int) ∧ (rows.length : Int) ≤ 6) && rows.all (rowOk top)
  | _ => false
def dp_is_log : DP := fun ds Q _ => ∃ (top : Int) (d : D), ds = [.int top, d] ∧ smA d ∧ Q (.fz (.bl (logD top d)))
theorem take_all {α : Type} {p : α → Bool} {l : List α} {i : Nat} {x : α} (h : l[i]? = some x) : (l.take (i + 1)).all p = ((l.take i).all p && p x) := by
  rw [List.take_add_one, h]
  simp
theorem all_false {α : Type} {p : α → Bool} {l : List α} {i : Nat} {x : α} (h : l[i]? = some x) (hp : p x = false) : l.all p = false := by
  rw [List.all_eq_false]
  exact ⟨x, List.mem_of_getElem? h, by simp [hp]⟩

abbrev s_is_log : Stmt := topS 42
theorem sc_is_log : FnScope ["top", "thing", "row"] ["top", "thing"] (defScope s_is_log) := ⟨rfl, rfl, rfl, by decide +kernel, rfl, by decide +kernel, by decide +kernel⟩
theorem ok_is_log {P : Program} {w : World} {K : PySem.W.Frag} {mg : Str → Option Value} {base : Heap} (B : Bt mg) (d : Df K mg "is_log" s_is_log ["top", "thing"]) (h_are_marks_of : Fn P w K mg base "are_marks_of" 3 2 dp_are_marks_of) (h_is_within : Fn P w K mg base "is_within" 2 3 dp_is_within) : Fn P w K mg base "is_log" (3 + 1) 2 dp_is_log := by
  refine fn_mk d sc_is_log rfl (by decide) fun f cdv A outer s H E C hr => ⟨_, _, (ds_cons (ds_if (PWV.pt (dw_or (dt_not (dt_val (d_isi_tuple (by rfl) B.isinstance B.tuple (dv 1)))) (dw_or1 (dt_not (dt_chain o_le o_le d_int (d_callB (c_lenK K) (by rfl) B.len PySem.boot_len (da_cons (dv 1) da_nil)) (d_globI (by rfl) B.MOST_LOG)))))) (ds_one (ds_ret d_bl)) ds_nil)
      (ds_cons (ds_for PassesOwn.never rfl (di_seqK K (dv 1)) (dg_name 2 sc_is_log.nd) (ds_cons (ds_if (PWV.pt (dw_or (dt_not (dt_val (d_isi_tuple (by rfl) B.isinstance B.tuple (dv 2)))) (dw_or (dt_cmp (o_neK K hr.units) (d_callB (c_lenK K) (by rfl) B.len PySem.boot_len (da_cons (dv 2) da_nil)) d_int) (dw_or1 (dt_not (dt_val (d_fnK h_is_within (hr.mono (by decide)) (da_cons (d_ixK K (dv 2) d_int) (da_cons d_int (da_cons (d_globI (by rfl) B.MOST_FLOODS) da_nil)))))))))) (ds_one (ds_ret d_bl)) ds_nil)
      (ds_one (ds_if (PWV.pt (dw_and (dt_cmp o_notN (d_ixK K (dv 2) d_int) d_non) (dw_and1 (dt_not (dt_val (d_fnK h_are_marks_of (hr.mono (by decide)) (da_cons (dv 0) (da_cons (d_ixK K (dv 2) d_int) da_nil)))))))) (ds_one (ds_ret d_bl)) ds_nil))))
      (ds_one (ds_ret d_bl)))), fun ds QD ED hl0 h => ?_⟩
  obtain ⟨a0, a1, rfl⟩ : ∃ a0 a1, ds = [a0, a1] := by
    match ds, hl0 with
    | [a0, a1], _ => exact ⟨a0, a1, rfl⟩
  clear hl0
  obtain ⟨top, d, e, sd, q⟩ := h
  cases e
  have no := smA_no sd
  cases a1 with
  | tup rows =>
    obtain ⟨hl, he⟩ := smA_tup sd
    simp only [xSeq, xSet, xRet, xIf, xExpr, xNext, xNever, xC, xNil, xCons, xTup, xLst, xOp, xEq, xNe, xUn, xNot, xAnd, xOr, xIfE, xCB, xCall, xCallB, xName, xAsg, xIsi3, toD_fz, toD_ow, toD_od, toD_bg, rd_var, rd_getv1, rd_getv2, rd_getv3, rd_test, rd_onB, rd_onI, rd_onSB, rd_andV, rd_orV, rd_notV, rd_chain, rd_II, rd_II0, rd_add1, rd_add2, rd_add3, rd_mul1, rd_mul2, rd_mul3, rd_isN, rd_notN, rd_isN1, rd_isN2, rd_isN3, rd_neg, rd_ix1, rd_ix2, rd_part, rd_sl, rd_onSl1, rd_onSl2, rd_rev, rd_onRv, rd_len1, rd_len2, rd_max2, rd_min2, rd_int1, rd_int2, rd_lst1, rd_lst2, rd_tup1, rd_tup2, rd_dm, rd_seqI, rd_onSq1, rd_onSq2, rd_rng1, rd_onR1, rd_rng2, rd_onR2, xEnumT, rd_onEt, rd_zip, rd_onZ1, rd_onZ2, rd_par, rd_onP, xPar3, rd_onP3, rd_gtup, rd_gnil, rd_gcons, rd_isi, noO_int, noO_bl, noO_str, noO_lst, noO_tup, noO_non, ini, iniB, wipeD, unw, kf, List.map_cons, List.map_nil, List.replicate_succ, List.replicate_zero, List.cons_append, List.nil_append, List.length_cons, List.length_nil, List.getElem?_cons_zero, List.getElem?_cons_succ, List.set_cons_zero, List.set_cons_succ, decide_eq_true_eq, Nat.zero_add, Nat.reduceAdd, Nat.reduceSub, Nat.reduceLeDiff, true_and, Bool.false_eq_true, if_false, if_true, isi_int_non, isi_int_bl, isi_int_int, isi_int_str, isi_int_lst, isi_int_tup, isi_bool_non, isi_bool_bl, isi_bool_int, isi_bool_str, isi_bool_lst, isi_bool_tup, isi_list_non, isi_list_bl, isi_list_int, isi_list_str, isi_list_lst, isi_list_tup, isi_tuple_non, isi_tuple_bl, isi_tuple_int, isi_tuple_str, isi_tuple_lst, isi_tuple_tup, isi_str_non, isi_str_bl, isi_str_int, isi_str_str, isi_str_lst, isi_str_tup, Bool.not_true, Bool.not_false, Bool.or_false, Bool.or_true, Bool.false_or, Bool.true_or, ite_true, ite_false, Option.some.injEq, true_or, false_or, or_false, and_true]
    by_cases hlen : (1 : Int) ≤ (rows.length : Int) ∧ (rows.length : Int) ≤ 6
    · have ql : logD top (.tup rows) = rows.all (rowOk top) := by
        unfold logD
        simp only [decide_eq_true hlen, Bool.true_and]
      rw [ql] at q
      simp only [xSeq, xSet, xRet, xIf, xExpr, xNext, xNever, xC, xNil, xCons, xTup, xLst, xOp, xEq, xNe, xUn, xNot, xAnd, xOr, xIfE, xCB, xCall, xCallB, xName, xAsg, xIsi3, toD_fz, toD_ow, toD_od, toD_bg, rd_var, rd_getv1, rd_getv2, rd_getv3, rd_test, rd_onB, rd_onI, rd_onSB, rd_andV, rd_orV, rd_notV, rd_chain, rd_II, rd_II0, rd_add1, rd_add2, rd_add3, rd_mul1, rd_mul2, rd_mul3, rd_isN, rd_notN, rd_isN1, rd_isN2, rd_isN3, rd_neg, rd_ix1, rd_ix2, rd_part, rd_sl, rd_onSl1, rd_onSl2, rd_rev, rd_onRv, rd_len1, rd_len2, rd_max2, rd_min2, rd_int1, rd_int2, rd_lst1, rd_lst2, rd_tup1, rd_tup2, rd_dm, rd_seqI, rd_onSq1, rd_onSq2, rd_rng1, rd_onR1, rd_rng2, rd_onR2, xEnumT, rd_onEt, rd_zip, rd_onZ1, rd_onZ2, rd_par, rd_onP, xPar3, rd_onP3, rd_gtup, rd_gnil, rd_gcons, rd_isi, noO_int, noO_bl, noO_str, noO_lst, noO_tup, noO_non, ini, iniB, wipeD, unw, kf, List.map_cons, List.map_nil, List.replicate_succ, List.replicate_zero, List.cons_append, List.nil_append, List.length_cons, List.length_nil, List.getElem?_cons_zero, List.getElem?_cons_succ, List.set_cons_zero, List.set_cons_succ, decide_eq_true_eq, Nat.zero_add, Nat.reduceAdd, Nat.reduceSub, Nat.reduceLeDiff, true_and, Bool.false_eq_true, if_false, if_true, isi_int_non, isi_int_bl, isi_int_int, isi_int_str, isi_int_lst, isi_int_tup, isi_bool_non, isi_bool_bl, isi_bool_int, isi_bool_str, isi_bool_lst, isi_bool_tup, isi_list_non, isi_list_bl, isi_list_int, isi_list_str, isi_list_lst, isi_list_tup, isi_tuple_non, isi_tuple_bl, isi_tuple_int, isi_tuple_str, isi_tuple_lst, isi_tuple_tup, isi_str_non, isi_str_bl, isi_str_int, isi_str_str, isi_str_lst, isi_str_tup, Bool.not_true, Bool.not_false, Bool.or_false, Bool.or_true, Bool.false_or, Bool.true_or, ite_true, ite_false, Option.some.injEq, true_or, false_or, or_false, and_true, hlen.1, hlen.2, decide_true, if_true, xFor]
      refine ⟨fun i ρ => (rows.take i).all (rowOk top) = true ∧ ∃ x2, ρ = [some (.fz (.int top)), some (.fz (.tup rows)), x2], ⟨rfl, none, rfl⟩, fun i d ρ hd hI => ?_, fun ρ hI => ?_⟩
      · obtain ⟨ha, x2, rfl⟩ := hI
        have hsd := he d (List.mem_of_getElem? hd)
        have no2 := smA_no hsd
        have bad : rowOk top d = false → QD (.fz (.bl false)) := fun hb => by
          rw [all_false hd hb] at q
          exact q
        have good : rowOk top d = true → (rows.take (i + 1)).all (rowOk top) = true := fun hb => by
          rw [take_all hd, ha, hb]; rfl
        cases d with
        | tup es =>
          obtain ⟨hl2, he2⟩ := smA_tup hsd
          simp only [xSeq, xSet, xRet, xIf, xExpr, xNext, xNever, xC, xNil, xCons, xTup, xLst, xOp, xEq, xNe, xUn, xNot, xAnd, xOr, xIfE, xCB, xCall, xCallB, xName, xAsg, xIsi3, toD_fz, toD_ow, toD_od, toD_bg, rd_var, rd_getv1, rd_getv2, rd_getv3, rd_test, rd_onB, rd_onI, rd_onSB, rd_andV, rd_orV, rd_notV, rd_chain, rd_II, rd_II0, rd_add1, rd_add2, rd_add3, rd_mul1, rd_mul2, rd_mul3, rd_isN, rd_notN, rd_isN1, rd_isN2, rd_isN3, rd_neg, rd_ix1, rd_ix2, rd_part, rd_sl, rd_onSl1, rd_onSl2, rd_rev, rd_onRv, rd_len1, rd_len2, rd_max2, rd_min2, rd_int1, rd_int2, rd_lst1, rd_lst2, rd_tup1, rd_tup2, rd_dm, rd_seqI, rd_onSq1, rd_onSq2, rd_rng1, rd_onR1, rd_rng2, rd_onR2, xEnumT, rd_onEt, rd_zip, rd_onZ1, rd_onZ2, rd_par, rd_onP, xPar3, rd_onP3, rd_gtup, rd_gnil, rd_gcons, rd_isi, noO_int, noO_bl, noO_str, noO_lst, noO_tup, noO_non, ini, iniB, wipeD, unw, kf, List.map_cons, List.map_nil, List.replicate_succ, List.replicate_zero, List.cons_append, List.nil_append, List.length_cons, List.length_nil, List.getElem?_cons_zero, List.getElem?_cons_succ, List.set_cons_zero, List.set_cons_succ, decide_eq_true_eq, Nat.zero_add, Nat.reduceAdd, Nat.reduceSub, Nat.reduceLeDiff, true_and, Bool.false_eq_true, if_false, if_true, isi_int_non, isi_int_bl, isi_int_int, isi_int_str, isi_int_lst, isi_int_tup, isi_bool_non, isi_bool_bl, isi_bool_int, isi_bool_str, isi_bool_lst, isi_bool_tup, isi_list_non, isi_list_bl, isi_list_int, isi_list_str, isi_list_lst, isi_list_tup, isi_tuple_non, isi_tuple_bl, isi_tuple_int, isi_tuple_str, isi_tuple_lst, isi_tuple_tup, isi_str_non, isi_str_bl, isi_str_int, isi_str_str, isi_str_lst, isi_str_tup, Bool.not_true, Bool.not_false, Bool.or_false, Bool.or_true, Bool.false_or, Bool.true_or, ite_true, ite_false, Option.some.injEq, true_or, false_or, or_false, and_true, eqD_int]
          by_cases h2 : (es.length : Int) = 2
          · obtain ⟨a, b, rfl⟩ : ∃ a b, es = [a, b] := by
              match es, h2 with
              | [a, b], _ => exact ⟨a, b, rfl⟩
              | [], h => simp at h
              | [_], h => simp at h
              | _ :: _ :: _ :: _, h => simp at h; omega
            have na : smA a := he2 a (by simp)
            have nb : smA b := he2 b (by simp)
            simp only [xSeq, xSet, xRet, xIf, xExpr, xNext, xNever, xC, xNil, xCons, xTup, xLst, xOp, xEq, xNe, xUn, xNot, xAnd, xOr, xIfE, xCB, xCall, xCallB, xName, xAsg, xIsi3, toD_fz, toD_ow, toD_od, toD_bg, rd_var, rd_getv1, rd_getv2, rd_getv3, rd_test, rd_onB, rd_onI, rd_onSB, rd_andV, rd_orV, rd_notV, rd_chain, rd_II, rd_II0, rd_add1, rd_add2, rd_add3, rd_mul1, rd_mul2, rd_mul3, rd_isN, rd_notN, rd_isN1, rd_isN2, rd_isN3, rd_neg, rd_ix1, rd_ix2, rd_part, rd_sl, rd_onSl1, rd_onSl2, rd_rev, rd_onRv, rd_len1, rd_len2, rd_max2, rd_min2, rd_int1, rd_int2, rd_lst1, rd_lst2, rd_tup1, rd_tup2, rd_dm, rd_seqI, rd_onSq1, rd_onSq2, rd_rng1, rd_onR1, rd_rng2, rd_onR2, xEnumT, rd_onEt, rd_zip, rd_onZ1, rd_onZ2, rd_par, rd_onP, xPar3, rd_onP3, rd_gtup, rd_gnil, rd_gcons, rd_isi, noO_int, noO_bl, noO_str, noO_lst, noO_tup, noO_non, ini, iniB, wipeD, unw, kf, List.map_cons, List.map_nil, List.replicate_succ, List.replicate_zero, List.cons_append, List.nil_append, List.length_cons, List.length_nil, List.getElem?_cons_zero, List.getElem?_cons_succ, List.set_cons_zero, List.set_cons_succ, decide_eq_true_eq, Nat.zero_add, Nat.reduceAdd, Nat.reduceSub, Nat.reduceLeDiff, true_and, Bool.false_eq_true, if_false, if_true, isi_int_non, isi_int_bl, isi_int_int, isi_int_str, isi_int_lst, isi_int_tup, isi_bool_non, isi_bool_bl, isi_bool_int, isi_bool_str, isi_bool_lst, isi_bool_tup, isi_list_non, isi_list_bl, isi_list_int, isi_list_str, isi_list_lst, isi_list_tup, isi_tuple_non, isi_tuple_bl, isi_tuple_int, isi_tuple_str, isi_tuple_lst, isi_tuple_tup, isi_str_non, isi_str_bl, isi_str_int, isi_str_str, isi_str_lst, isi_str_tup, Bool.not_true, Bool.not_false, Bool.or_false, Bool.or_true, Bool.false_or, Bool.true_or, ite_true, ite_false, Option.some.injEq, true_or, false_or, or_false, and_true, eqD_int, h2, decide_true]
            refine ⟨rfl, rfl, a, rfl, a, 0, 40, rfl, smA_no na, ?_⟩
            rcases Bool.eq_false_or_eq_true (inR a 0 40) with h1 | h1
            · simp only [xSeq, xSet, xRet, xIf, xExpr, xNext, xNever, xC, xNil, xCons, xTup, xLst, xOp, xEq, xNe, xUn, xNot, xAnd, xOr, xIfE, xCB, xCall, xCallB, xName, xAsg, xIsi3, toD_fz, toD_ow, toD_od, toD_bg, rd_var, rd_getv1, rd_getv2, rd_getv3, rd_test, rd_onB, rd_onI, rd_onSB, rd_andV, rd_orV, rd_notV, rd_chain, rd_II, rd_II0, rd_add1, rd_add2, rd_add3, rd_mul1, rd_mul2, rd_mul3, rd_isN, rd_notN, rd_isN1, rd_isN2, rd_isN3, rd_neg, rd_ix1, rd_ix2, rd_part, rd_sl, rd_onSl1, rd_onSl2, rd_rev, rd_onRv, rd_len1, rd_len2, rd_max2, rd_min2, rd_int1, rd_int2, rd_lst1, rd_lst2, rd_tup1, rd_tup2, rd_dm, rd_seqI, rd_onSq1, rd_onSq2, rd_rng1, rd_onR1, rd_rng2, rd_onR2, xEnumT, rd_onEt, rd_zip, rd_onZ1, rd_onZ2, rd_par, rd_onP, xPar3, rd_onP3, rd_gtup, rd_gnil, rd_gcons, rd_isi, noO_int, noO_bl, noO_str, noO_lst, noO_tup, noO_non, ini, iniB, wipeD, unw, kf, List.map_cons, List.map_nil, List.replicate_succ, List.replicate_zero, List.cons_append, List.nil_append, List.length_cons, List.length_nil, List.getElem?_cons_zero, List.getElem?_cons_succ, List.set_cons_zero, List.set_cons_succ, decide_eq_true_eq, Nat.zero_add, Nat.reduceAdd, Nat.reduceSub, Nat.reduceLeDiff, true_and, Bool.false_eq_true, if_false, if_true, isi_int_non, isi_int_bl, isi_int_int, isi_int_str, isi_int_lst, isi_int_tup, isi_bool_non, isi_bool_bl, isi_bool_int, isi_bool_str, isi_bool_lst, isi_bool_tup, isi_list_non, isi_list_bl, isi_list_int, isi_list_str, isi_list_lst, isi_list_tup, isi_tuple_non, isi_tuple_bl, isi_tuple_int, isi_tuple_str, isi_tuple_lst, isi_tuple_tup, isi_str_non, isi_str_bl, isi_str_int, isi_str_str, isi_str_lst, isi_str_tup, Bool.not_true, Bool.not_false, Bool.or_false, Bool.or_true, Bool.false_or, Bool.true_or, ite_true, ite_false, Option.some.injEq, true_or, false_or, or_false, and_true, h1]
              refine ⟨b, rfl, ?_⟩
              rcases Bool.eq_false_or_eq_true (isNonD b) with h3 | h3
              · simp only [xSeq, xSet, xRet, xIf, xExpr, xNext, xNever, xC, xNil, xCons, xTup, xLst, xOp, xEq, xNe, xUn, xNot, xAnd, xOr, xIfE, xCB, xCall, xCallB, xName, xAsg, xIsi3, toD_fz, toD_ow, toD_od, toD_bg, rd_var, rd_getv1, rd_getv2, rd_getv3, rd_test, rd_onB, rd_onI, rd_onSB, rd_andV, rd_orV, rd_notV, rd_chain, rd_II, rd_II0, rd_add1, rd_add2, rd_add3, rd_mul1, rd_mul2, rd_mul3, rd_isN, rd_notN, rd_isN1, rd_isN2, rd_isN3, rd_neg, rd_ix1, rd_ix2, rd_part, rd_sl, rd_onSl1, rd_onSl2, rd_rev, rd_onRv, rd_len1, rd_len2, rd_max2, rd_min2, rd_int1, rd_int2, rd_lst1, rd_lst2, rd_tup1, rd_tup2, rd_dm, rd_seqI, rd_onSq1, rd_onSq2, rd_rng1, rd_onR1, rd_rng2, rd_onR2, xEnumT, rd_onEt, rd_zip, rd_onZ1, rd_onZ2, rd_par, rd_onP, xPar3, rd_onP3, rd_gtup, rd_gnil, rd_gcons, rd_isi, noO_int, noO_bl, noO_str, noO_lst, noO_tup, noO_non, ini, iniB, wipeD, unw, kf, List.map_cons, List.map_nil, List.replicate_succ, List.replicate_zero, List.cons_append, List.nil_append, List.length_cons, List.length_nil, List.getElem?_cons_zero, List.getElem?_cons_succ, List.set_cons_zero, List.set_cons_succ, decide_eq_true_eq, Nat.zero_add, Nat.reduceAdd, Nat.reduceSub, Nat.reduceLeDiff, true_and, Bool.false_eq_true, if_false, if_true, isi_int_non, isi_int_bl, isi_int_int, isi_int_str, isi_int_lst, isi_int_tup, isi_bool_non, isi_bool_bl, isi_bool_int, isi_bool_str, isi_bool_lst, isi_bool_tup, isi_list_non, isi_list_bl, isi_list_int, isi_list_str, isi_list_lst, isi_list_tup, isi_tuple_non, isi_tuple_bl, isi_tuple_int, isi_tuple_str, isi_tuple_lst, isi_tuple_tup, isi_str_non, isi_str_bl, isi_str_int, isi_str_str, isi_str_lst, isi_str_tup, Bool.not_true, Bool.not_false, Bool.or_false, Bool.or_true, Bool.false_or, Bool.true_or, ite_true, ite_false, Option.some.injEq, true_or, false_or, or_false, and_true, h3]
                exact ⟨good (by simp [rowOk, h1, h3]), _, rfl⟩
              · simp only [xSeq, xSet, xRet, xIf, xExpr, xNext, xNever, xC, xNil, xCons, xTup, xLst, xOp, xEq, xNe, xUn, xNot, xAnd, xOr, xIfE, xCB, xCall, xCallB, xName, xAsg, xIsi3, toD_fz, toD_ow, toD_od, toD_bg, rd_var, rd_getv1, rd_getv2, rd_getv3, rd_test, rd_onB, rd_onI, rd_onSB, rd_andV, rd_orV, rd_notV, rd_chain, rd_II, rd_II0, rd_add1, rd_add2, rd_add3, rd_mul1, rd_mul2, rd_mul3, rd_isN, rd_notN, rd_isN1, rd_isN2, rd_isN3, rd_neg, rd_ix1, rd_ix2, rd_part, rd_sl, rd_onSl1, rd_onSl2, rd_rev, rd_onRv, rd_len1, rd_len2, rd_max2, rd_min2, rd_int1, rd_int2, rd_lst1, rd_lst2, rd_tup1, rd_tup2, rd_dm, rd_seqI, rd_onSq1, rd_onSq2, rd_rng1, rd_onR1, rd_rng2, rd_onR2, xEnumT, rd_onEt, rd_zip, rd_onZ1, rd_onZ2, rd_par, rd_onP, xPar3, rd_onP3, rd_gtup, rd_gnil, rd_gcons, rd_isi, noO_int, noO_bl, noO_str, noO_lst, noO_tup, noO_non, ini, iniB, wipeD, unw, kf, List.map_cons, List.map_nil, List.replicate_succ, List.replicate_zero, List.cons_append, List.nil_append, List.length_cons, List.length_nil, List.getElem?_cons_zero, List.getElem?_cons_succ, List.set_cons_zero, List.set_cons_succ, decide_eq_true_eq, Nat.zero_add, Nat.reduceAdd, Nat.reduceSub, Nat.reduceLeDiff, true_and, Bool.false_eq_true, if_false, if_true, isi_int_non, isi_int_bl, isi_int_int, isi_int_str, isi_int_lst, isi_int_tup, isi_bool_non, isi_bool_bl, isi_bool_int, isi_bool_str, isi_bool_lst, isi_bool_tup, isi_list_non, isi_list_bl, isi_list_int, isi_list_str, isi_list_lst, isi_list_tup, isi_tuple_non, isi_tuple_bl, isi_tuple_int, isi_tuple_str, isi_tuple_lst, isi_tuple_tup, isi_str_non, isi_str_bl, isi_str_int, isi_str_str, isi_str_lst, isi_str_tup, Bool.not_true, Bool.not_false, Bool.or_false, Bool.or_true, Bool.false_or, Bool.true_or, ite_true, ite_false, Option.some.injEq, true_or, false_or, or_false, and_true, h3]
                refine ⟨b, rfl, top, b, rfl, nb, ?_⟩
                rcases Bool.eq_false_or_eq_true (marksD top b) with h4 | h4
                · simp only [xSeq, xSet, xRet, xIf, xExpr, xNext, xNever, xC, xNil, xCons, xTup, xLst, xOp, xEq, xNe, xUn, xNot, xAnd, xOr, xIfE, xCB, xCall, xCallB, xName, xAsg, xIsi3, toD_fz, toD_ow, toD_od, toD_bg, rd_var, rd_getv1, rd_getv2, rd_getv3, rd_test, rd_onB, rd_onI, rd_onSB, rd_andV, rd_orV, rd_notV, rd_chain, rd_II, rd_II0, rd_add1, rd_add2, rd_add3, rd_mul1, rd_mul2, rd_mul3, rd_isN, rd_notN, rd_isN1, rd_isN2, rd_isN3, rd_neg, rd_ix1, rd_ix2, rd_part, rd_sl, rd_onSl1, rd_onSl2, rd_rev, rd_onRv, rd_len1, rd_len2, rd_max2, rd_min2, rd_int1, rd_int2, rd_lst1, rd_lst2, rd_tup1, rd_tup2, rd_dm, rd_seqI, rd_onSq1, rd_onSq2, rd_rng1, rd_onR1, rd_rng2, rd_onR2, xEnumT, rd_onEt, rd_zip, rd_onZ1, rd_onZ2, rd_par, rd_onP, xPar3, rd_onP3, rd_gtup, rd_gnil, rd_gcons, rd_isi, noO_int, noO_bl, noO_str, noO_lst, noO_tup, noO_non, ini, iniB, wipeD, unw, kf, List.map_cons, List.map_nil, List.replicate_succ, List.replicate_zero, List.cons_append, List.nil_append, List.length_cons, List.length_nil, List.getElem?_cons_zero, List.getElem?_cons_succ, List.set_cons_zero, List.set_cons_succ, decide_eq_true_eq, Nat.zero_add, Nat.reduceAdd, Nat.reduceSub, Nat.reduceLeDiff, true_and, Bool.false_eq_true, if_false, if_true, isi_int_non, isi_int_bl, isi_int_int, isi_int_str, isi_int_lst, isi_int_tup, isi_bool_non, isi_bool_bl, isi_bool_int, isi_bool_str, isi_bool_lst, isi_bool_tup, isi_list_non, isi_list_bl, isi_list_int, isi_list_str, isi_list_lst, isi_list_tup, isi_tuple_non, isi_tuple_bl, isi_tuple_int, isi_tuple_str, isi_tuple_lst, isi_tuple_tup, isi_str_non, isi_str_bl, isi_str_int, isi_str_str, isi_str_lst, isi_str_tup, Bool.not_true, Bool.not_false, Bool.or_false, Bool.or_true, Bool.false_or, Bool.true_or, ite_true, ite_false, Option.some.injEq, true_or, false_or, or_false, and_true, h4]
                  exact ⟨good (by simp [rowOk, h1, h4]), _, rfl⟩
                · simp only [xSeq, xSet, xRet, xIf, xExpr, xNext, xNever, xC, xNil, xCons, xTup, xLst, xOp, xEq, xNe, xUn, xNot, xAnd, xOr, xIfE, xCB, xCall, xCallB, xName, xAsg, xIsi3, toD_fz, toD_ow, toD_od, toD_bg, rd_var, rd_getv1, rd_getv2, rd_getv3, rd_test, rd_onB, rd_onI, rd_onSB, rd_andV, rd_orV, rd_notV, rd_chain, rd_II, rd_II0, rd_add1, rd_add2, rd_add3, rd_mul1, rd_mul2, rd_mul3, rd_isN, rd_notN, rd_isN1, rd_isN2, rd_isN3, rd_neg, rd_ix1, rd_ix2, rd_part, rd_sl, rd_onSl1, rd_onSl2, rd_rev, rd_onRv, rd_len1, rd_len2, rd_max2, rd_min2, rd_int1, rd_int2, rd_lst1, rd_lst2, rd_tup1, rd_tup2, rd_dm, rd_seqI, rd_onSq1, rd_onSq2, rd_rng1, rd_onR1, rd_rng2, rd_onR2, xEnumT, rd_onEt, rd_zip, rd_onZ1, rd_onZ2, rd_par, rd_onP, xPar3, rd_onP3, rd_gtup, rd_gnil, rd_gcons, rd_isi, noO_int, noO_bl, noO_str, noO_lst, noO_tup, noO_non, ini, iniB, wipeD, unw, kf, List.map_cons, List.map_nil, List.replicate_succ, List.replicate_zero, List.cons_append, List.nil_append, List.length_cons, List.length_nil, List.getElem?_cons_zero, List.getElem?_cons_succ, List.set_cons_zero, List.set_cons_succ, decide_eq_true_eq, Nat.zero_add, Nat.reduceAdd, Nat.reduceSub, Nat.reduceLeDiff, true_and, Bool.false_eq_true, if_false, if_true, isi_int_non, isi_int_bl, isi_int_int, isi_int_str, isi_int_lst, isi_int_tup, isi_bool_non, isi_bool_bl, isi_bool_int, isi_bool_str, isi_bool_lst, isi_bool_tup, isi_list_non, isi_list_bl, isi_list_int, isi_list_str, isi_list_lst, isi_list_tup, isi_tuple_non, isi_tuple_bl, isi_tuple_int, isi_tuple_str, isi_tuple_lst, isi_tuple_tup, isi_str_non, isi_str_bl, isi_str_int, isi_str_str, isi_str_lst, isi_str_tup, Bool.not_true, Bool.not_false, Bool.or_false, Bool.or_true, Bool.false_or, Bool.true_or, ite_true, ite_false, Option.some.injEq, true_or, false_or, or_false, and_true, h4]
                  exact bad (by simp [rowOk, h3, h4])
            · simp only [xSeq, xSet, xRet, xIf, xExpr, xNext, xNever, xC, xNil, xCons, xTup, xLst, xOp, xEq, xNe, xUn, xNot, xAnd, xOr, xIfE, xCB, xCall, xCallB, xName, xAsg, xIsi3, toD_fz, toD_ow, toD_od, toD_bg, rd_var, rd_getv1, rd_getv2, rd_getv3, rd_test, rd_onB, rd_onI, rd_onSB, rd_andV, rd_orV, rd_notV, rd_chain, rd_II, rd_II0, rd_add1, rd_add2, rd_add3, rd_mul1, rd_mul2, rd_mul3, rd_isN, rd_notN, rd_isN1, rd_isN2, rd_isN3, rd_neg, rd_ix1, rd_ix2, rd_part, rd_sl, rd_onSl1, rd_onSl2, rd_rev, rd_onRv, rd_len1, rd_len2, rd_max2, rd_min2, rd_int1, rd_int2, rd_lst1, rd_lst2, rd_tup1, rd_tup2, rd_dm, rd_seqI, rd_onSq1, rd_onSq2, rd_rng1, rd_onR1, rd_rng2, rd_onR2, xEnumT, rd_onEt, rd_zip, rd_onZ1, rd_onZ2, rd_par, rd_onP, xPar3, rd_onP3, rd_gtup, rd_gnil, rd_gcons, rd_isi, noO_int, noO_bl, noO_str, noO_lst, noO_tup, noO_non, ini, iniB, wipeD, unw, kf, List.map_cons, List.map_nil, List.replicate_succ, List.replicate_zero, List.cons_append, List.nil_append, List.length_cons, List.length_nil, List.getElem?_cons_zero, List.getElem?_cons_succ, List.set_cons_zero, List.set_cons_succ, decide_eq_true_eq, Nat.zero_add, Nat.reduceAdd, Nat.reduceSub, Nat.reduceLeDiff, true_and, Bool.false_eq_true, if_false, if_true, isi_int_non, isi_int_bl, isi_int_int, isi_int_str, isi_int_lst, isi_int_tup, isi_bool_non, isi_bool_bl, isi_bool_int, isi_bool_str, isi_bool_lst, isi_bool_tup, isi_list_non, isi_list_bl, isi_list_int, isi_list_str, isi_list_lst, isi_list_tup, isi_tuple_non, isi_tuple_bl, isi_tuple_int, isi_tuple_str, isi_tuple_lst, isi_tuple_tup, isi_str_non, isi_str_bl, isi_str_int, isi_str_str, isi_str_lst, isi_str_tup, Bool.not_true, Bool.not_false, Bool.or_false, Bool.or_true, Bool.false_or, Bool.true_or, ite_true, ite_false, Option.some.injEq, true_or, false_or, or_false, and_true, h1]
              exact bad (by simp [rowOk, h1])
          · simp only [xSeq, xSet, xRet, xIf, xExpr, xNext, xNever, xC, xNil, xCons, xTup, xLst, xOp, xEq, xNe, xUn, xNot, xAnd, xOr, xIfE, xCB, xCall, xCallB, xName, xAsg, xIsi3, toD_fz, toD_ow, toD_od, toD_bg, rd_var, rd_getv1, rd_getv2, rd_getv3, rd_test, rd_onB, rd_onI, rd_onSB, rd_andV, rd_orV, rd_notV, rd_chain, rd_II, rd_II0, rd_add1, rd_add2, rd_add3, rd_mul1, rd_mul2, rd_mul3, rd_isN, rd_notN, rd_isN1, rd_isN2, rd_isN3, rd_neg, rd_ix1, rd_ix2, rd_part, rd_sl, rd_onSl1, rd_onSl2, rd_rev, rd_onRv, rd_len1, rd_len2, rd_max2, rd_min2, rd_int1, rd_int2, rd_lst1, rd_lst2, rd_tup1, rd_tup2, rd_dm, rd_seqI, rd_onSq1, rd_onSq2, rd_rng1, rd_onR1, rd_rng2, rd_onR2, xEnumT, rd_onEt, rd_zip, rd_onZ1, rd_onZ2, rd_par, rd_onP, xPar3, rd_onP3, rd_gtup, rd_gnil, rd_gcons, rd_isi, noO_int, noO_bl, noO_str, noO_lst, noO_tup, noO_non, ini, iniB, wipeD, unw, kf, List.map_cons, List.map_nil, List.replicate_succ, List.replicate_zero, List.cons_append, List.nil_append, List.length_cons, List.length_nil, List.getElem?_cons_zero, List.getElem?_cons_succ, List.set_cons_zero, List.set_cons_succ, decide_eq_true_eq, Nat.zero_add, Nat.reduceAdd, Nat.reduceSub, Nat.reduceLeDiff, true_and, Bool.false_eq_true, if_false, if_true, isi_int_non, isi_int_bl, isi_int_int, isi_int_str, isi_int_lst, isi_int_tup, isi_bool_non, isi_bool_bl, isi_bool_int, isi_bool_str, isi_bool_lst, isi_bool_tup, isi_list_non, isi_list_bl, isi_list_int, isi_list_str, isi_list_lst, isi_list_tup, isi_tuple_non, isi_tuple_bl, isi_tuple_int, isi_tuple_str, isi_tuple_lst, isi_tuple_tup, isi_str_non, isi_str_bl, isi_str_int, isi_str_str, isi_str_lst, isi_str_tup, Bool.not_true, Bool.not_false, Bool.or_false, Bool.or_true, Bool.false_or, Bool.true_or, ite_true, ite_false, Option.some.injEq, true_or, false_or, or_false, and_true, eqD_int, h2, decide_false]
            refine ⟨rfl, rfl, ?_⟩
            refine bad ?_
            match es, h2 with
            | [a, b], h => simp at h
            | [], h => rfl
            | [_], h => rfl
            | _ :: _ :: _ :: _, h => rfl
        | obj φ => cases no2
        | dct ks es =>
          obtain ⟨n, hsd⟩ := hsd
          cases n <;> cases hsd
        | _ =>
          simp only [xSeq, xSet, xRet, xIf, xExpr, xNext, xNever, xC, xNil, xCons, xTup, xLst, xOp, xEq, xNe, xUn, xNot, xAnd, xOr, xIfE, xCB, xCall, xCallB, xName, xAsg, xIsi3, toD_fz, toD_ow, toD_od, toD_bg, rd_var, rd_getv1, rd_getv2, rd_getv3, rd_test, rd_onB, rd_onI, rd_onSB, rd_andV, rd_orV, rd_notV, rd_chain, rd_II, rd_II0, rd_add1, rd_add2, rd_add3, rd_mul1, rd_mul2, rd_mul3, rd_isN, rd_notN, rd_isN1, rd_isN2, rd_isN3, rd_neg, rd_ix1, rd_ix2, rd_part, rd_sl, rd_onSl1, rd_onSl2, rd_rev, rd_onRv, rd_len1, rd_len2, rd_max2, rd_min2, rd_int1, rd_int2, rd_lst1, rd_lst2, rd_tup1, rd_tup2, rd_dm, rd_seqI, rd_onSq1, rd_onSq2, rd_rng1, rd_onR1, rd_rng2, rd_onR2, xEnumT, rd_onEt, rd_zip, rd_onZ1, rd_onZ2, rd_par, rd_onP, xPar3, rd_onP3, rd_gtup, rd_gnil, rd_gcons, rd_isi, noO_int, noO_bl, noO_str, noO_lst, noO_tup, noO_non, ini, iniB, wipeD, unw, kf, List.map_cons, List.map_nil, List.replicate_succ, List.replicate_zero, List.cons_append, List.nil_append, List.length_cons, List.length_nil, List.getElem?_cons_zero, List.getElem?_cons_succ, List.set_cons_zero, List.set_cons_succ, decide_eq_true_eq, Nat.zero_add, Nat.reduceAdd, Nat.reduceSub, Nat.reduceLeDiff, true_and, Bool.false_eq_true, if_false, if_true, isi_int_non, isi_int_bl, isi_int_int, isi_int_str, isi_int_lst, isi_int_tup, isi_bool_non, isi_bool_bl, isi_bool_int, isi_bool_str, isi_bool_lst, isi_bool_tup, isi_list_non, isi_list_bl, isi_list_int, isi_list_str, isi_list_lst, isi_list_tup, isi_tuple_non, isi_tuple_bl, isi_tuple_int, isi_tuple_str, isi_tuple_lst, isi_tuple_tup, isi_str_non, isi_str_bl, isi_str_int, isi_str_str, isi_str_lst, isi_str_tup, Bool.not_true, Bool.not_false, Bool.or_false, Bool.or_true, Bool.false_or, Bool.true_or, ite_true, ite_false, Option.some.injEq, true_or, false_or, or_false, and_true]
          exact bad rfl
      · obtain ⟨ha, x2, rfl⟩ := hI
        rw [List.take_length] at ha
        rw [ha] at q
        first | exact q | (simp only [xSeq, xSet, xRet, xIf, xExpr, xNext, xNever, xC, xNil, xCons, xTup, xLst, xOp, xEq, xNe, xUn, xNot, xAnd, xOr, xIfE, xCB, xCall, xCallB, xName, xAsg, xIsi3, toD_fz, toD_ow, toD_od, toD_bg, rd_var, rd_getv1, rd_getv2, rd_getv3, rd_test, rd_onB, rd_onI, rd_onSB, rd_andV, rd_orV, rd_notV, rd_chain, rd_II, rd_II0, rd_add1, rd_add2, rd_add3, rd_mul1, rd_mul2, rd_mul3, rd_isN, rd_notN, rd_isN1, rd_isN2, rd_isN3, rd_neg, rd_ix1, rd_ix2, rd_part, rd_sl, rd_onSl1, rd_onSl2, rd_rev, rd_onRv, rd_len1, rd_len2, rd_max2, rd_min2, rd_int1, rd_int2, rd_lst1, rd_lst2, rd_tup1, rd_tup2, rd_dm, rd_seqI, rd_onSq1, rd_onSq2, rd_rng1, rd_onR1, rd_rng2, rd_onR2, xEnumT, rd_onEt, rd_zip, rd_onZ1, rd_onZ2, rd_par, rd_onP, xPar3, rd_onP3, rd_gtup, rd_gnil, rd_gcons, rd_isi, noO_int, noO_bl, noO_str, noO_lst, noO_tup, noO_non, ini, iniB, wipeD, unw, kf, List.map_cons, List.map_nil, List.replicate_succ, List.replicate_zero, List.cons_append, List.nil_append, List.length_cons, List.length_nil, List.getElem?_cons_zero, List.getElem?_cons_succ, List.set_cons_zero, List.set_cons_succ, decide_eq_true_eq, Nat.zero_add, Nat.reduceAdd, Nat.reduceSub, Nat.reduceLeDiff, true_and, Bool.false_eq_true, if_false, if_true, isi_int_non, isi_int_bl, isi_int_int, isi_int_str, isi_int_lst, isi_int_tup, isi_bool_non, isi_bool_bl, isi_bool_int, isi_bool_str, isi_bool_lst, isi_bool_tup, isi_list_non, isi_list_bl, isi_list_int, isi_list_str, isi_list_lst, isi_list_tup, isi_tuple_non, isi_tuple_bl, isi_tuple_int, isi_tuple_str, isi_tuple_lst, isi_tuple_tup, isi_str_non, isi_str_bl, isi_str_int, isi_str_str, isi_str_lst, isi_str_tup, Bool.not_true, Bool.not_false, Bool.or_false, Bool.or_true, Bool.false_or, Bool.true_or, ite_true, ite_false, Option.some.injEq, true_or, false_or, or_false, and_true]; exact q)
    · have ql : logD top (.tup rows) = false := by
        unfold logD
        simp only [decide_eq_false hlen, Bool.false_and]
      rw [ql] at q
      by_cases h1 : (1 : Int) ≤ (rows.length : Int)
      · simp only [xSeq, xSet, xRet, xIf, xExpr, xNext, xNever, xC, xNil, xCons, xTup, xLst, xOp, xEq, xNe, xUn, xNot, xAnd, xOr, xIfE, xCB, xCall, xCallB, xName, xAsg, xIsi3, toD_fz, toD_ow, toD_od, toD_bg, rd_var, rd_getv1, rd_getv2, rd_getv3, rd_test, rd_onB, rd_onI, rd_onSB, rd_andV, rd_orV, rd_notV, rd_chain, rd_II, rd_II0, rd_add1, rd_add2, rd_add3, rd_mul1, rd_mul2, rd_mul3, rd_isN, rd_notN, rd_isN1, rd_isN2, rd_isN3, rd_neg, rd_ix1, rd_ix2, rd_part, rd_sl, rd_onSl1, rd_onSl2, rd_rev, rd_onRv, rd_len1, rd_len2, rd_max2, rd_min2, rd_int1, rd_int2, rd_lst1, rd_lst2, rd_tup1, rd_tup2, rd_dm, rd_seqI, rd_onSq1, rd_onSq2, rd_rng1, rd_onR1, rd_rng2, rd_onR2, xEnumT, rd_onEt, rd_zip, rd_onZ1, rd_onZ2, rd_par, rd_onP, xPar3, rd_onP3, rd_gtup, rd_gnil, rd_gcons, rd_isi, noO_int, noO_bl, noO_str, noO_lst, noO_tup, noO_non, ini, iniB, wipeD, unw, kf, List.map_cons, List.map_nil, List.replicate_succ, List.replicate_zero, List.cons_append, List.nil_append, List.length_cons, List.length_nil, List.getElem?_cons_zero, List.getElem?_cons_succ, List.set_cons_zero, List.set_cons_succ, decide_eq_true_eq, Nat.zero_add, Nat.reduceAdd, Nat.reduceSub, Nat.reduceLeDiff, true_and, Bool.false_eq_true, if_false, if_true, isi_int_non, isi_int_bl, isi_int_int, isi_int_str, isi_int_lst, isi_int_tup, isi_bool_non, isi_bool_bl, isi_bool_int, isi_bool_str, isi_bool_lst, isi_bool_tup, isi_list_non, isi_list_bl, isi_list_int, isi_list_str, isi_list_lst, isi_list_tup, isi_tuple_non, isi_tuple_bl, isi_tuple_int, isi_tuple_str, isi_tuple_lst, isi_tuple_tup, isi_str_non, isi_str_bl, isi_str_int, isi_str_str, isi_str_lst, isi_str_tup, Bool.not_true, Bool.not_false, Bool.or_false, Bool.or_true, Bool.false_or, Bool.true_or, ite_true, ite_false, Option.some.injEq, true_or, false_or, or_false, and_true, h1, decide_true]
        have h2 : ¬ (rows.length : Int) ≤ 6 := fun h => hlen ⟨h1, h⟩
        simp only [xSeq, xSet, xRet, xIf, xExpr, xNext, xNever, xC, xNil, xCons, xTup, xLst, xOp, xEq, xNe, xUn, xNot, xAnd, xOr, xIfE, xCB, xCall, xCallB, xName, xAsg, xIsi3, toD_fz, toD_ow, toD_od, toD_bg, rd_var, rd_getv1, rd_getv2, rd_getv3, rd_test, rd_onB, rd_onI, rd_onSB, rd_andV, rd_orV, rd_notV, rd_chain, rd_II, rd_II0, rd_add1, rd_add2, rd_add3, rd_mul1, rd_mul2, rd_mul3, rd_isN, rd_notN, rd_isN1, rd_isN2, rd_isN3, rd_neg, rd_ix1, rd_ix2, rd_part, rd_sl, rd_onSl1, rd_onSl2, rd_rev, rd_onRv, rd_len1, rd_len2, rd_max2, rd_min2, rd_int1, rd_int2, rd_lst1, rd_lst2, rd_tup1, rd_tup2, rd_dm, rd_seqI, rd_onSq1, rd_onSq2, rd_rng1, rd_onR1, rd_rng2, rd_onR2, xEnumT, rd_onEt, rd_zip, rd_onZ1, rd_onZ2, rd_par, rd_onP, xPar3, rd_onP3, rd_gtup, rd_gnil, rd_gcons, rd_isi, noO_int, noO_bl, noO_str, noO_lst, noO_tup, noO_non, ini, iniB, wipeD, unw, kf, List.map_cons, List.map_nil, List.replicate_succ, List.replicate_zero, List.cons_append, List.nil_append, List.length_cons, List.length_nil, List.getElem?_cons_zero, List.getElem?_cons_succ, List.set_cons_zero, List.set_cons_succ, decide_eq_true_eq, Nat.zero_add, Nat.reduceAdd, Nat.reduceSub, Nat.reduceLeDiff, true_and, Bool.false_eq_true, if_false, if_true, isi_int_non, isi_int_bl, isi_int_int, isi_int_str, isi_int_lst, isi_int_tup, isi_bool_non, isi_bool_bl, isi_bool_int, isi_bool_str, isi_bool_lst, isi_bool_tup, isi_list_non, isi_list_bl, isi_list_int, isi_list_str, isi_list_lst, isi_list_tup, isi_tuple_non, isi_tuple_bl, isi_tuple_int, isi_tuple_str, isi_tuple_lst, isi_tuple_tup, isi_str_non, isi_str_bl, isi_str_int, isi_str_str, isi_str_lst, isi_str_tup, Bool.not_true, Bool.not_false, Bool.or_false, Bool.or_true, Bool.false_or, Bool.true_or, ite_true, ite_false, Option.some.injEq, true_or, false_or, or_false, and_true, h2, decide_false]
        exact q
      · simp only [xSeq, xSet, xRet, xIf, xExpr, xNext, xNever, xC, xNil, xCons, xTup, xLst, xOp, xEq, xNe, xUn, xNot, xAnd, xOr, xIfE, xCB, xCall, xCallB, xName, xAsg, xIsi3, toD_fz, toD_ow, toD_od, toD_bg, rd_var, rd_getv1, rd_getv2, rd_getv3, rd_test, rd_onB, rd_onI, rd_onSB, rd_andV, rd_orV, rd_notV, rd_chain, rd_II, rd_II0, rd_add1, rd_add2, rd_add3, rd_mul1, rd_mul2, rd_mul3, rd_isN, rd_notN, rd_isN1, rd_isN2, rd_isN3, rd_neg, rd_ix1, rd_ix2, rd_part, rd_sl, rd_onSl1, rd_onSl2, rd_rev, rd_onRv, rd_len1, rd_len2, rd_max2, rd_min2, rd_int1, rd_int2, rd_lst1, rd_lst2, rd_tup1, rd_tup2, rd_dm, rd_seqI, rd_onSq1, rd_onSq2, rd_rng1, rd_onR1, rd_rng2, rd_onR2, xEnumT, rd_onEt, rd_zip, rd_onZ1, rd_onZ2, rd_par, rd_onP, xPar3, rd_onP3, rd_gtup, rd_gnil, rd_gcons, rd_isi, noO_int, noO_bl, noO_str, noO_lst, noO_tup, noO_non, ini, iniB, wipeD, unw, kf, List.map_cons, List.map_nil, List.replicate_succ, List.replicate_zero, List.cons_append, List.nil_append, List.length_cons, List.length_nil, List.getElem?_cons_zero, List.getElem?_cons_succ, List.set_cons_zero, List.set_cons_succ, decide_eq_true_eq, Nat.zero_add, Nat.reduceAdd, Nat.reduceSub, Nat.reduceLeDiff, true_and, Bool.false_eq_true, if_false, if_true, isi_int_non, isi_int_bl, isi_int_int, isi_int_str, isi_int_lst, isi_int_tup, isi_bool_non, isi_bool_bl, isi_bool_int, isi_bool_str, isi_bool_lst, isi_bool_tup, isi_list_non, isi_list_bl, isi_list_int, isi_list_str, isi_list_lst, isi_list_tup, isi_tuple_non, isi_tuple_bl, isi_tuple_int, isi_tuple_str, isi_tuple_lst, isi_tuple_tup, isi_str_non, isi_str_bl, isi_str_int, isi_str_str, isi_str_lst, isi_str_tup, Bool.not_true, Bool.not_false, Bool.or_false, Bool.or_true, Bool.false_or, Bool.true_or, ite_true, ite_false, Option.some.injEq, true_or, false_or, or_false, and_true, h1, decide_false]
        exact q
  | obj φ => cases no
  | dct ks es =>
    obtain ⟨n, sd⟩ := sd
    cases n <;> cases sd
  | _ =>
    simp only [xSeq, xSet, xRet, xIf, xExpr, xNext, xNever, xC, xNil, xCons, xTup, xLst, xOp, xEq, xNe, xUn, xNot, xAnd, xOr, xIfE, xCB, xCall, xCallB, xName, xAsg, xIsi3, toD_fz, toD_ow, toD_od, toD_bg, rd_var, rd_getv1, rd_getv2, rd_getv3, rd_test, rd_onB, rd_onI, rd_onSB, rd_andV, rd_orV, rd_notV, rd_chain, rd_II, rd_II0, rd_add1, rd_add2, rd_add3, rd_mul1, rd_mul2, rd_mul3, rd_isN, rd_notN, rd_isN1, rd_isN2, rd_isN3, rd_neg, rd_ix1, rd_ix2, rd_part, rd_sl, rd_onSl1, rd_onSl2, rd_rev, rd_onRv, rd_len1, rd_len2, rd_max2, rd_min2, rd_int1, rd_int2, rd_lst1, rd_lst2, rd_tup1, rd_tup2, rd_dm, rd_seqI, rd_onSq1, rd_onSq2, rd_rng1, rd_onR1, rd_rng2, rd_onR2, xEnumT, rd_onEt, rd_zip, rd_onZ1, rd_onZ2, rd_par, rd_onP, xPar3, rd_onP3, rd_gtup, rd_gnil, rd_gcons, rd_isi, noO_int, noO_bl, noO_str, noO_lst, noO_tup, noO_non, ini, iniB, wipeD, unw, kf, List.map_cons, List.map_nil, List.replicate_succ, List.replicate_zero, List.cons_append, List.nil_append, List.length_cons, List.length_nil, List.getElem?_cons_zero, List.getElem?_cons_succ, List.set_cons_zero, List.set_cons_succ, decide_eq_true_eq, Nat.zero_add, Nat.reduceAdd, Nat.reduceSub, Nat.reduceLeDiff, true_and, Bool.false_eq_true, if_false, if_true, isi_int_non, isi_int_bl, isi_int_int, isi_int_str, isi_int_lst, isi_int_tup, isi_bool_non, isi_bool_bl, isi_bool_int, isi_bool_str, isi_bool_lst, isi_bool_tup, isi_list_non, isi_list_bl, isi_list_int, isi_list_str, isi_list_lst, isi_list_tup, isi_tuple_non, isi_tuple_bl, isi_tuple_int, isi_tuple_str, isi_tuple_lst, isi_tuple_tup, isi_str_non, isi_str_bl, isi_str_int, isi_str_str, isi_str_lst, isi_str_tup, Bool.not_true, Bool.not_false, Bool.or_false, Bool.or_true, Bool.false_or, Bool.true_or, ite_true, ite_false, Option.some.injEq, true_or, false_or, or_false, and_true]
    exact q

def dp_log_ways : DP := fun ds _ ED => ∃ t m g, ds = [t, m, g] ∧ smA t ∧ smA m ∧ smA g ∧ toldF (thenR (rfMarks t m) (if logD (ival t) g = true then none else some (nmC 2))) ED

abbrev s_log_ways : Stmt := topS 43
theorem sc_log_ways : FnScope ["top", "marks", "log", "found", "left", "many", "later", "turn"] ["top", "marks", "log"] (defScope s_log_ways) := ⟨rfl, rfl, rfl, by decide +kernel, rfl, by decide +kernel, by decide +kernel⟩
theorem ok_log_ways {P : Program} {w : World} {K : PySem.W.Frag} {mg : Str → Option Value} {base : Heap} {A7 : Nat → Addr} {CF : Addr} (B : Bt mg) (CL : Cls K mg A7 CF) (d : Df K mg "log_ways" s_log_ways ["top", "marks", "log"]) (h_is_log : Fn P w K mg base "is_log" 4 2 dp_is_log) (h_look_at_marks : FnX P w K mg base "look_at_marks" 4 2 dp_look_at_marks) : FnX P w K mg base "log_ways" (4 + 1) 3 dp_log_ways := by
  refine fn_mkX d sc_log_ways rfl (by decide) fun f cdv A outer s H E C ED hr hE => ⟨_, _, (ds_cons (ds_expr (d_fnX hE h_look_at_marks (hr.mono (by decide)) (da_cons (dv 0) (da_cons (dv 1) da_nil))))
      (ds_cons (ds_if (dt_not (dt_val (d_fnK h_is_log (hr.mono (by decide)) (da_cons (dv 0) (da_cons (dv 2) da_nil))))) (ds_one (ds_raise hE (CL.ex 2 (by decide)))) ds_nil)
      (ds_cons ds_never (ds_cons ds_never (ds_cons ds_never (ds_cons ds_never (ds_one ds_never))))))), fun ds QD hl0 h => ?_⟩
  obtain ⟨a0, a1, a2, rfl⟩ : ∃ a0 a1 a2, ds = [a0, a1, a2] := by
    match ds, hl0 with
    | [a0, a1, a2], _ => exact ⟨a0, a1, a2, rfl⟩
  clear hl0
  obtain ⟨t, m, g, e, st, sd, sg, c, hc, q⟩ := h
  cases e
  simp only [xSeq, xSet, xRet, xIf, xExpr, xNext, xNever, xC, xNil, xCons, xTup, xLst, xOp, xEq, xNe, xUn, xNot, xAnd, xOr, xIfE, xCB, xCall, xCallB, xName, xAsg, xIsi3, toD_fz, toD_ow, toD_od, toD_bg, rd_var, rd_getv1, rd_getv2, rd_getv3, rd_test, rd_onB, rd_onI, rd_onSB, rd_andV, rd_orV, rd_notV, rd_chain, rd_II, rd_II0, rd_add1, rd_add2, rd_add3, rd_mul1, rd_mul2, rd_mul3, rd_isN, rd_notN, rd_isN1, rd_isN2, rd_isN3, rd_neg, rd_ix1, rd_ix2, rd_part, rd_sl, rd_onSl1, rd_onSl2, rd_rev, rd_onRv, rd_len1, rd_len2, rd_max2, rd_min2, rd_int1, rd_int2, rd_lst1, rd_lst2, rd_tup1, rd_tup2, rd_dm, rd_seqI, rd_onSq1, rd_onSq2, rd_rng1, rd_onR1, rd_rng2, rd_onR2, xEnumT, rd_onEt, rd_zip, rd_onZ1, rd_onZ2, rd_par, rd_onP, xPar3, rd_onP3, rd_gtup, rd_gnil, rd_gcons, rd_isi, noO_int, noO_bl, noO_str, noO_lst, noO_tup, noO_non, ini, iniB, wipeD, unw, kf, List.map_cons, List.map_nil, List.replicate_succ, List.replicate_zero, List.cons_append, List.nil_append, List.length_cons, List.length_nil, List.getElem?_cons_zero, List.getElem?_cons_succ, List.set_cons_zero, List.set_cons_succ, decide_eq_true_eq, Nat.zero_add, Nat.reduceAdd, Nat.reduceSub, Nat.reduceLeDiff, true_and, Bool.false_eq_true, if_false, if_true, isi_int_non, isi_int_bl, isi_int_int, isi_int_str, isi_int_lst, isi_int_tup, isi_bool_non, isi_bool_bl, isi_bool_int, isi_bool_str, isi_bool_lst, isi_bool_tup, isi_list_non, isi_list_bl, isi_list_int, isi_list_str, isi_list_lst, isi_list_tup, isi_tuple_non, isi_tuple_bl, isi_tuple_int, isi_tuple_str, isi_tuple_lst, isi_tuple_tup, isi_str_non, isi_str_bl, isi_str_int, isi_str_str, isi_str_lst, isi_str_tup, Bool.not_true, Bool.not_false, Bool.or_false, Bool.or_true, Bool.false_or, Bool.true_or, ite_true, ite_false, Option.some.injEq, true_or, false_or, or_false, and_true, xRaise]
  refine ⟨a0, a1, rfl, st, sd, ?_⟩
  cases hm : rfMarks a0 a1 with
  | some c' =>
    rw [hm] at hc
    cases hc
    exact q
  | none =>
    rw [hm] at hc
    obtain ⟨top, rfl, t1, t2, hk⟩ := rfMarks_none hm
    simp only [told_none]
    refine ⟨top, a2, rfl, sg, ?_⟩
    have hc : (if logD top a2 = true then none else some (nmC 2)) = some c := hc
    cases hf : logD top a2 with
    | true =>
      rw [hf] at hc
      cases hc
    | false =>
      rw [hf] at hc
      cases hc
      simp only [xSeq, xSet, xRet, xIf, xExpr, xNext, xNever, xC, xNil, xCons, xTup, xLst, xOp, xEq, xNe, xUn, xNot, xAnd, xOr, xIfE, xCB, xCall, xCallB, xName, xAsg, xIsi3, toD_fz, toD_ow, toD_od, toD_bg, rd_var, rd_getv1, rd_getv2, rd_getv3, rd_test, rd_onB, rd_onI, rd_onSB, rd_andV, rd_orV, rd_notV, rd_chain, rd_II, rd_II0, rd_add1, rd_add2, rd_add3, rd_mul1, rd_mul2, rd_mul3, rd_isN, rd_notN, rd_isN1, rd_isN2, rd_isN3, rd_neg, rd_ix1, rd_ix2, rd_part, rd_sl, rd_onSl1, rd_onSl2, rd_rev, rd_onRv, rd_len1, rd_len2, rd_max2, rd_min2, rd_int1, rd_int2, rd_lst1, rd_lst2, rd_tup1, rd_tup2, rd_dm, rd_seqI, rd_onSq1, rd_onSq2, rd_rng1, rd_onR1, rd_rng2, rd_onR2, xEnumT, rd_onEt, rd_zip, rd_onZ1, rd_onZ2, rd_par, rd_onP, xPar3, rd_onP3, rd_gtup, rd_gnil, rd_gcons, rd_isi, noO_int, noO_bl, noO_str, noO_lst, noO_tup, noO_non, ini, iniB, wipeD, unw, kf, List.map_cons, List.map_nil, List.replicate_succ, List.replicate_zero, List.cons_append, List.nil_append, List.length_cons, List.length_nil, List.getElem?_cons_zero, List.getElem?_cons_succ, List.set_cons_zero, List.set_cons_succ, decide_eq_true_eq, Nat.zero_add, Nat.reduceAdd, Nat.reduceSub, Nat.reduceLeDiff, true_and, Bool.false_eq_true, if_false, if_true, isi_int_non, isi_int_bl, isi_int_int, isi_int_str, isi_int_lst, isi_int_tup, isi_bool_non, isi_bool_bl, isi_bool_int, isi_bool_str, isi_bool_lst, isi_bool_tup, isi_list_non, isi_list_bl, isi_list_int, isi_list_str, isi_list_lst, isi_list_tup, isi_tuple_non, isi_tuple_bl, isi_tuple_int, isi_tuple_str, isi_tuple_lst, isi_tuple_tup, isi_str_non, isi_str_bl, isi_str_int, isi_str_str, isi_str_lst, isi_str_tup, Bool.not_true, Bool.not_false, Bool.or_false, Bool.or_true, Bool.false_or, Bool.true_or, ite_true, ite_false, Option.some.injEq, true_or, false_or, or_false, and_true, xRaise]
      exact q

def dp_alike_by : DP := fun ds _ ED => ∃ t m l, ds = [t, m, l] ∧ smA t ∧ smA m ∧ smA l ∧ toldF (rfBoth t m l) ED

abbrev s_alike_by : Stmt := topS 45
theorem sc_alike_by : FnScope ["top", "one", "other", "height"] ["top", "one", "other"] (defScope s_alike_by) := ⟨rfl, rfl, rfl, by decide +kernel, rfl, by decide +kernel, by decide +kernel⟩
theorem ok_alike_by {P : Program} {w : World} {K : PySem.W.Frag} {mg : Str → Option Value} {base : Heap} {A7 : Nat → Addr} {CF : Addr} (B : Bt mg) (CL : Cls K mg A7 CF) (d : Df K mg "alike_by" s_alike_by ["top", "one", "other"]) (h_look_at_both : FnX P w K mg base "look_at_both" 5 3 dp_look_at_both) : FnX P w K mg base "alike_by" (5 + 1) 3 dp_alike_by := by
  refine fn_mkX d sc_alike_by rfl (by decide) fun f cdv A outer s H E C ED hr hE => ⟨_, _, (ds_cons (ds_expr (d_fnX hE h_look_at_both (hr.mono (by decide)) (da_cons (dv 0) (da_cons (dv 1) (da_cons (dv 2) da_nil)))))
      (ds_one ds_never)), fun ds QD hl0 h => ?_⟩
  obtain ⟨a0, a1, a2, rfl⟩ : ∃ a0 a1 a2, ds = [a0, a1, a2] := by
    match ds, hl0 with
    | [a0, a1, a2], _ => exact ⟨a0, a1, a2, rfl⟩
  clear hl0
  obtain ⟨t, m, l, e, st, sd, sl, c, hc, q⟩ := h
  cases e
  simp only [xSeq, xSet, xRet, xIf, xExpr, xNext, xNever, xC, xNil, xCons, xTup, xLst, xOp, xEq, xNe, xUn, xNot, xAnd, xOr, xIfE, xCB, xCall, xCallB, xName, xAsg, xIsi3, toD_fz, toD_ow, toD_od, toD_bg, rd_var, rd_getv1, rd_getv2, rd_getv3, rd_test, rd_onB, rd_onI, rd_onSB, rd_andV, rd_orV, rd_notV, rd_chain, rd_II, rd_II0, rd_add1, rd_add2, rd_add3, rd_mul1, rd_mul2, rd_mul3, rd_isN, rd_notN, rd_isN1, rd_isN2, rd_isN3, rd_neg, rd_ix1, rd_ix2, rd_part, rd_sl, rd_onSl1, rd_onSl2, rd_rev, rd_onRv, rd_len1, rd_len2, rd_max2, rd_min2, rd_int1, rd_int2, rd_lst1, rd_lst2, rd_tup1, rd_tup2, rd_dm, rd_seqI, rd_onSq1, rd_onSq2, rd_rng1, rd_onR1, rd_rng2, rd_onR2, xEnumT, rd_onEt, rd_zip, rd_onZ1, rd_onZ2, rd_par, rd_onP, xPar3, rd_onP3, rd_gtup, rd_gnil, rd_gcons, rd_isi, noO_int, noO_bl, noO_str, noO_lst, noO_tup, noO_non, ini, iniB, wipeD, unw, kf, List.map_cons, List.map_nil, List.replicate_succ, List.replicate_zero, List.cons_append, List.nil_append, List.length_cons, List.length_nil, List.getElem?_cons_zero, List.getElem?_cons_succ, List.set_cons_zero, List.set_cons_succ, decide_eq_true_eq, Nat.zero_add, Nat.reduceAdd, Nat.reduceSub, Nat.reduceLeDiff, true_and, Bool.false_eq_true, if_false, if_true, isi_int_non, isi_int_bl, isi_int_int, isi_int_str, isi_int_lst, isi_int_tup, isi_bool_non, isi_bool_bl, isi_bool_int, isi_bool_str, isi_bool_lst, isi_bool_tup, isi_list_non, isi_list_bl, isi_list_int, isi_list_str, isi_list_lst, isi_list_tup, isi_tuple_non, isi_tuple_bl, isi_tuple_int, isi_tuple_str, isi_tuple_lst, isi_tuple_tup, isi_str_non, isi_str_bl, isi_str_int, isi_str_str, isi_str_lst, isi_str_tup, Bool.not_true, Bool.not_false, Bool.or_false, Bool.or_true, Bool.false_or, Bool.true_or, ite_true, ite_false, Option.some.injEq, true_or, false_or, or_false, and_true, xRaise]
  refine ⟨a0, a1, a2, rfl, st, sd, sl, ?_⟩
  rw [hc]
  exact q

def dp_how_many_marks : DP := fun ds _ ED => ∃ t m n, ds = [t, m, n] ∧ smA t ∧ smA m ∧ smA n ∧ toldF (thenR (rfMarks t m) (rfMany n 40)) ED

abbrev s_how_many_marks : Stmt := topS 47
theorem sc_how_many_marks : FnScope ["top", "marks", "many", "found", "height", "below", "one"] ["top", "marks", "many"] (defScope s_how_many_marks) := ⟨rfl, rfl, rfl, by decide +kernel, rfl, by decide +kernel, by decide +kernel⟩
theorem ok_how_many_marks {P : Program} {w : World} {K : PySem.W.Frag} {mg : Str → Option Value} {base : Heap} {A7 : Nat → Addr} {CF : Addr} (B : Bt mg) (CL : Cls K mg A7 CF) (d : Df K mg "how_many_marks" s_how_many_marks ["top", "marks", "many"]) (h_look_at_many : FnX P w K mg base "look_at_many" 3 2 dp_look_at_many) (h_look_at_marks : FnX P w K mg base "look_at_marks" 4 2 dp_look_at_marks) : FnX P w K mg base "how_many_marks" (4 + 1) 3 dp_how_many_marks := by
  refine fn_mkX d sc_how_many_marks rfl (by decide) fun f cdv A outer s H E C ED hr hE => ⟨_, _, (ds_cons (ds_expr (d_fnX hE h_look_at_marks (hr.mono (by decide)) (da_cons (dv 0) (da_cons (dv 1) da_nil))))
      (ds_cons (ds_expr (d_fnX hE h_look_at_many (hr.mono (by decide)) (da_cons (dv 2) (da_cons (d_globI (by rfl) B.MOST_FLOODS) da_nil))))
      (ds_cons ds_never (ds_cons ds_never (ds_cons ds_never (ds_one ds_never)))))), fun ds QD hl0 h => ?_⟩
  obtain ⟨a0, a1, a2, rfl⟩ : ∃ a0 a1 a2, ds = [a0, a1, a2] := by
    match ds, hl0 with
    | [a0, a1, a2], _ => exact ⟨a0, a1, a2, rfl⟩
  clear hl0
  obtain ⟨t, m, n, e, st, sd, sn, c, hc, q⟩ := h
  cases e
  simp only [xSeq, xSet, xRet, xIf, xExpr, xNext, xNever, xC, xNil, xCons, xTup, xLst, xOp, xEq, xNe, xUn, xNot, xAnd, xOr, xIfE, xCB, xCall, xCallB, xName, xAsg, xIsi3, toD_fz, toD_ow, toD_od, toD_bg, rd_var, rd_getv1, rd_getv2, rd_getv3, rd_test, rd_onB, rd_onI, rd_onSB, rd_andV, rd_orV, rd_notV, rd_chain, rd_II, rd_II0, rd_add1, rd_add2, rd_add3, rd_mul1, rd_mul2, rd_mul3, rd_isN, rd_notN, rd_isN1, rd_isN2, rd_isN3, rd_neg, rd_ix1, rd_ix2, rd_part, rd_sl, rd_onSl1, rd_onSl2, rd_rev, rd_onRv, rd_len1, rd_len2, rd_max2, rd_min2, rd_int1, rd_int2, rd_lst1, rd_lst2, rd_tup1, rd_tup2, rd_dm, rd_seqI, rd_onSq1, rd_onSq2, rd_rng1, rd_onR1, rd_rng2, rd_onR2, xEnumT, rd_onEt, rd_zip, rd_onZ1, rd_onZ2, rd_par, rd_onP, xPar3, rd_onP3, rd_gtup, rd_gnil, rd_gcons, rd_isi, noO_int, noO_bl, noO_str, noO_lst, noO_tup, noO_non, ini, iniB, wipeD, unw, kf, List.map_cons, List.map_nil, List.replicate_succ, List.replicate_zero, List.cons_append, List.nil_append, List.length_cons, List.length_nil, List.getElem?_cons_zero, List.getElem?_cons_succ, List.set_cons_zero, List.set_cons_succ, decide_eq_true_eq, Nat.zero_add, Nat.reduceAdd, Nat.reduceSub, Nat.reduceLeDiff, true_and, Bool.false_eq_true, if_false, if_true, isi_int_non, isi_int_bl, isi_int_int, isi_int_str, isi_int_lst, isi_int_tup, isi_bool_non, isi_bool_bl, isi_bool_int, isi_bool_str, isi_bool_lst, isi_bool_tup, isi_list_non, isi_list_bl, isi_list_int, isi_list_str, isi_list_lst, isi_list_tup, isi_tuple_non, isi_tuple_bl, isi_tuple_int, isi_tuple_str, isi_tuple_lst, isi_tuple_tup, isi_str_non, isi_str_bl, isi_str_int, isi_str_str, isi_str_lst, isi_str_tup, Bool.not_true, Bool.not_false, Bool.or_false, Bool.or_true, Bool.false_or, Bool.true_or, ite_true, ite_false, Option.some.injEq, true_or, false_or, or_false, and_true, xRaise]
  refine ⟨a0, a1, rfl, st, sd, ?_⟩
  cases hm : rfMarks a0 a1 with
  | some c' =>
    rw [hm] at hc
    cases hc
    exact q
  | none =>
    rw [hm] at hc
    simp only [then_none] at hc
    simp only [told_none]
    refine ⟨a2, _, rfl, smA_no sn, ?_⟩
    rw [hc]
    exact q

def llen : D → Int
  | .tup ds => ds.length
  | _ => 0
theorem marksD_tup {top : Int} {d : D} (h : marksD top d = true) : ∃ ds, d = .tup ds ∧ ds.length ≤ 8 := by
  cases d with
  | tup ds =>
    simp only [marksD, Bool.and_eq_true, decide_eq_true_eq] at h
    exact ⟨ds, rfl, h.1⟩
  | _ => cases h
def dp_days : DP := fun ds _ ED => ∃ t m l n p, ds = [t, m, l, n, p] ∧ smA t ∧ smA m ∧ smA l ∧ smA n ∧ smA p ∧ toldF (thenR (rfBoth t m l) (thenR (rfMany n 40) (if inR p 0 (llen l - 1) = true then none else some (nmC 5)))) ED

abbrev s_days : Stmt := topS 50
theorem sc_days : FnScope ["top", "marks", "later", "many", "place", "table", "begin", "number", "ahead", "behind"] ["top", "marks", "later", "many", "place"] (defScope s_days) := ⟨rfl, rfl, rfl, by decide +kernel, rfl, by decide +kernel, by decide +kernel⟩
theorem ok_days {P : Program} {w : World} {K : PySem.W.Frag} {mg : Str → Option Value} {base : Heap} {A7 : Nat → Addr} {CF : Addr} (B : Bt mg) (CL : Cls K mg A7 CF) (d : Df K mg "days" s_days ["top", "marks", "later", "many", "place"]) (h_is_within : Fn P w K mg base "is_within" 2 3 dp_is_within) (h_look_at_many : FnX P w K mg base "look_at_many" 3 2 dp_look_at_many) (h_look_at_both : FnX P w K mg base "look_at_both" 5 3 dp_look_at_both) : FnX P w K mg base "days" (5 + 1) 5 dp_days := by
  refine fn_mkX d sc_days rfl (by decide) fun f cdv A outer s H E C ED hr hE => ⟨_, _, (ds_cons (ds_expr (d_fnX hE h_look_at_both (hr.mono (by decide)) (da_cons (dv 0) (da_cons (dv 1) (da_cons (dv 2) da_nil)))))
      (ds_cons (ds_expr (d_fnX hE h_look_at_many (hr.mono (by decide)) (da_cons (dv 3) (da_cons (d_globI (by rfl) B.MOST_FLOODS) da_nil))))
      (ds_cons (ds_if (dt_not (dt_val (d_fnK h_is_within (hr.mono (by decide)) (da_cons (dv 4) (da_cons d_int (da_cons (d_op o_sub (d_callB (c_lenK K) (by rfl) B.len PySem.boot_len (da_cons (dv 2) da_nil)) d_int) da_nil)))))) (ds_one (ds_raise hE (CL.ex 5 (by decide)))) ds_nil)
      (ds_cons ds_never (ds_cons ds_never (ds_one ds_never)))))), fun ds QD hl0 h => ?_⟩
  obtain ⟨a0, a1, a2, a3, a4, rfl⟩ : ∃ a0 a1 a2 a3 a4, ds = [a0, a1, a2, a3, a4] := by
    match ds, hl0 with
    | [a0, a1, a2, a3, a4], _ => exact ⟨a0, a1, a2, a3, a4, rfl⟩
  clear hl0
  obtain ⟨t, m, l, n, p, e, st, sd, sl, sn, sb, c, hc, q⟩ := h
  cases e
  simp only [xSeq, xSet, xRet, xIf, xExpr, xNext, xNever, xC, xNil, xCons, xTup, xLst, xOp, xEq, xNe, xUn, xNot, xAnd, xOr, xIfE, xCB, xCall, xCallB, xName, xAsg, xIsi3, toD_fz, toD_ow, toD_od, toD_bg, rd_var, rd_getv1, rd_getv2, rd_getv3, rd_test, rd_onB, rd_onI, rd_onSB, rd_andV, rd_orV, rd_notV, rd_chain, rd_II, rd_II0, rd_add1, rd_add2, rd_add3, rd_mul1, rd_mul2, rd_mul3, rd_isN, rd_notN, rd_isN1, rd_isN2, rd_isN3, rd_neg, rd_ix1, rd_ix2, rd_part, rd_sl, rd_onSl1, rd_onSl2, rd_rev, rd_onRv, rd_len1, rd_len2, rd_max2, rd_min2, rd_int1, rd_int2, rd_lst1, rd_lst2, rd_tup1, rd_tup2, rd_dm, rd_seqI, rd_onSq1, rd_onSq2, rd_rng1, rd_onR1, rd_rng2, rd_onR2, xEnumT, rd_onEt, rd_zip, rd_onZ1, rd_onZ2, rd_par, rd_onP, xPar3, rd_onP3, rd_gtup, rd_gnil, rd_gcons, rd_isi, noO_int, noO_bl, noO_str, noO_lst, noO_tup, noO_non, ini, iniB, wipeD, unw, kf, List.map_cons, List.map_nil, List.replicate_succ, List.replicate_zero, List.cons_append, List.nil_append, List.length_cons, List.length_nil, List.getElem?_cons_zero, List.getElem?_cons_succ, List.set_cons_zero, List.set_cons_succ, decide_eq_true_eq, Nat.zero_add, Nat.reduceAdd, Nat.reduceSub, Nat.reduceLeDiff, true_and, Bool.false_eq_true, if_false, if_true, isi_int_non, isi_int_bl, isi_int_int, isi_int_str, isi_int_lst, isi_int_tup, isi_bool_non, isi_bool_bl, isi_bool_int, isi_bool_str, isi_bool_lst, isi_bool_tup, isi_list_non, isi_list_bl, isi_list_int, isi_list_str, isi_list_lst, isi_list_tup, isi_tuple_non, isi_tuple_bl, isi_tuple_int, isi_tuple_str, isi_tuple_lst, isi_tuple_tup, isi_str_non, isi_str_bl, isi_str_int, isi_str_str, isi_str_lst, isi_str_tup, Bool.not_true, Bool.not_false, Bool.or_false, Bool.or_true, Bool.false_or, Bool.true_or, ite_true, ite_false, Option.some.injEq, true_or, false_or, or_false, and_true, xRaise]
  refine ⟨a0, a1, a2, rfl, st, sd, sl, ?_⟩
  cases hm : rfBoth a0 a1 a2 with
  | some c' =>
    rw [hm] at hc
    cases hc
    exact q
  | none =>
    rw [hm] at hc
    obtain ⟨top, rfl, t1, t2, hk, hk2⟩ := rfBoth_none hm
    simp only [then_none] at hc
    simp only [told_none]
    refine ⟨a3, _, rfl, smA_no sn, ?_⟩
    cases h2 : rfMany a3 40 with
    | some c' =>
      rw [h2] at hc
      cases hc
      exact q
    | none =>
      rw [h2] at hc
      simp only [then_none] at hc
      simp only [told_none]
      obtain ⟨ls, rfl, _⟩ := marksD_tup hk2
      simp only [xSeq, xSet, xRet, xIf, xExpr, xNext, xNever, xC, xNil, xCons, xTup, xLst, xOp, xEq, xNe, xUn, xNot, xAnd, xOr, xIfE, xCB, xCall, xCallB, xName, xAsg, xIsi3, toD_fz, toD_ow, toD_od, toD_bg, rd_var, rd_getv1, rd_getv2, rd_getv3, rd_test, rd_onB, rd_onI, rd_onSB, rd_andV, rd_orV, rd_notV, rd_chain, rd_II, rd_II0, rd_add1, rd_add2, rd_add3, rd_mul1, rd_mul2, rd_mul3, rd_isN, rd_notN, rd_isN1, rd_isN2, rd_isN3, rd_neg, rd_ix1, rd_ix2, rd_part, rd_sl, rd_onSl1, rd_onSl2, rd_rev, rd_onRv, rd_len1, rd_len2, rd_max2, rd_min2, rd_int1, rd_int2, rd_lst1, rd_lst2, rd_tup1, rd_tup2, rd_dm, rd_seqI, rd_onSq1, rd_onSq2, rd_rng1, rd_onR1, rd_rng2, rd_onR2, xEnumT, rd_onEt, rd_zip, rd_onZ1, rd_onZ2, rd_par, rd_onP, xPar3, rd_onP3, rd_gtup, rd_gnil, rd_gcons, rd_isi, noO_int, noO_bl, noO_str, noO_lst, noO_tup, noO_non, ini, iniB, wipeD, unw, kf, List.map_cons, List.map_nil, List.replicate_succ, List.replicate_zero, List.cons_append, List.nil_append, List.length_cons, List.length_nil, List.getElem?_cons_zero, List.getElem?_cons_succ, List.set_cons_zero, List.set_cons_succ, decide_eq_true_eq, Nat.zero_add, Nat.reduceAdd, Nat.reduceSub, Nat.reduceLeDiff, true_and, Bool.false_eq_true, if_false, if_true, isi_int_non, isi_int_bl, isi_int_int, isi_int_str, isi_int_lst, isi_int_tup, isi_bool_non, isi_bool_bl, isi_bool_int, isi_bool_str, isi_bool_lst, isi_bool_tup, isi_list_non, isi_list_bl, isi_list_int, isi_list_str, isi_list_lst, isi_list_tup, isi_tuple_non, isi_tuple_bl, isi_tuple_int, isi_tuple_str, isi_tuple_lst, isi_tuple_tup, isi_str_non, isi_str_bl, isi_str_int, isi_str_str, isi_str_lst, isi_str_tup, Bool.not_true, Bool.not_false, Bool.or_false, Bool.or_true, Bool.false_or, Bool.true_or, ite_true, ite_false, Option.some.injEq, true_or, false_or, or_false, and_true, xRaise]
      refine ⟨a4, 0, _, rfl, smA_no sb, ?_⟩
      have hc : (if inR a4 0 ((ls.length : Int) - 1) = true then none else some (nmC 5)) = some c := hc
      cases h3 : inR a4 0 ((ls.length : Int) - 1) with
      | true =>
        rw [h3] at hc
        cases hc
      | false =>
        rw [h3] at hc
        cases hc
        simp only [xSeq, xSet, xRet, xIf, xExpr, xNext, xNever, xC, xNil, xCons, xTup, xLst, xOp, xEq, xNe, xUn, xNot, xAnd, xOr, xIfE, xCB, xCall, xCallB, xName, xAsg, xIsi3, toD_fz, toD_ow, toD_od, toD_bg, rd_var, rd_getv1, rd_getv2, rd_getv3, rd_test, rd_onB, rd_onI, rd_onSB, rd_andV, rd_orV, rd_notV, rd_chain, rd_II, rd_II0, rd_add1, rd_add2, rd_add3, rd_mul1, rd_mul2, rd_mul3, rd_isN, rd_notN, rd_isN1, rd_isN2, rd_isN3, rd_neg, rd_ix1, rd_ix2, rd_part, rd_sl, rd_onSl1, rd_onSl2, rd_rev, rd_onRv, rd_len1, rd_len2, rd_max2, rd_min2, rd_int1, rd_int2, rd_lst1, rd_lst2, rd_tup1, rd_tup2, rd_dm, rd_seqI, rd_onSq1, rd_onSq2, rd_rng1, rd_onR1, rd_rng2, rd_onR2, xEnumT, rd_onEt, rd_zip, rd_onZ1, rd_onZ2, rd_par, rd_onP, xPar3, rd_onP3, rd_gtup, rd_gnil, rd_gcons, rd_isi, noO_int, noO_bl, noO_str, noO_lst, noO_tup, noO_non, ini, iniB, wipeD, unw, kf, List.map_cons, List.map_nil, List.replicate_succ, List.replicate_zero, List.cons_append, List.nil_append, List.length_cons, List.length_nil, List.getElem?_cons_zero, List.getElem?_cons_succ, List.set_cons_zero, List.set_cons_succ, decide_eq_true_eq, Nat.zero_add, Nat.reduceAdd, Nat.reduceSub, Nat.reduceLeDiff, true_and, Bool.false_eq_true, if_false, if_true, isi_int_non, isi_int_bl, isi_int_int, isi_int_str, isi_int_lst, isi_int_tup, isi_bool_non, isi_bool_bl, isi_bool_int, isi_bool_str, isi_bool_lst, isi_bool_tup, isi_list_non, isi_list_bl, isi_list_int, isi_list_str, isi_list_lst, isi_list_tup, isi_tuple_non, isi_tuple_bl, isi_tuple_int, isi_tuple_str, isi_tuple_lst, isi_tuple_tup, isi_str_non, isi_str_bl, isi_str_int, isi_str_str, isi_str_lst, isi_str_tup, Bool.not_true, Bool.not_false, Bool.or_false, Bool.or_true, Bool.false_or, Bool.true_or, ite_true, ite_false, Option.some.injEq, true_or, false_or, or_false, and_true, xRaise]
        exact q

def dp_heights : DP := fun ds _ ED => ∃ t m l n p, ds = [t, m, l, n, p] ∧ smA t ∧ smA m ∧ smA l ∧ smA n ∧ smA p ∧ toldF (thenR (rfBoth t m l) (thenR (rfMany n 40) (if inR p 1 (ival n) = true then none else some (nmC 6)))) ED

abbrev s_heights : Stmt := topS 51
theorem sc_heights : FnScope ["top", "marks", "later", "many", "number", "table", "begin", "place", "ahead", "between", "behind", "height"] ["top", "marks", "later", "many", "number"] (defScope s_heights) := ⟨rfl, rfl, rfl, by decide +kernel, rfl, by decide +kernel, by decide +kernel⟩
theorem ok_heights {P : Program} {w : World} {K : PySem.W.Frag} {mg : Str → Option Value} {base : Heap} {A7 : Nat → Addr} {CF : Addr} (B : Bt mg) (CL : Cls K mg A7 CF) (d : Df K mg "heights" s_heights ["top", "marks", "later", "many", "number"]) (h_is_within : Fn P w K mg base "is_within" 2 3 dp_is_within) (h_look_at_many : FnX P w K mg base "look_at_many" 3 2 dp_look_at_many) (h_look_at_both : FnX P w K mg base "look_at_both" 5 3 dp_look_at_both) : FnX P w K mg base "heights" (5 + 1) 5 dp_heights := by
  refine fn_mkX d sc_heights rfl (by decide) fun f cdv A outer s H E C ED hr hE => ⟨_, _, (ds_cons (ds_expr (d_fnX hE h_look_at_both (hr.mono (by decide)) (da_cons (dv 0) (da_cons (dv 1) (da_cons (dv 2) da_nil)))))
      (ds_cons (ds_expr (d_fnX hE h_look_at_many (hr.mono (by decide)) (da_cons (dv 3) (da_cons (d_globI (by rfl) B.MOST_FLOODS) da_nil))))
      (ds_cons (ds_if (dt_not (dt_val (d_fnK h_is_within (hr.mono (by decide)) (da_cons (dv 4) (da_cons d_int (da_cons (dv 3) da_nil)))))) (ds_one (ds_raise hE (CL.ex 6 (by decide)))) ds_nil)
      (ds_cons ds_never (ds_cons ds_never (ds_one ds_never)))))), fun ds QD hl0 h => ?_⟩
  obtain ⟨a0, a1, a2, a3, a4, rfl⟩ : ∃ a0 a1 a2 a3 a4, ds = [a0, a1, a2, a3, a4] := by
    match ds, hl0 with
    | [a0, a1, a2, a3, a4], _ => exact ⟨a0, a1, a2, a3, a4, rfl⟩
  clear hl0
  obtain ⟨t, m, l, n, p, e, st, sd, sl, sn, sb, c, hc, q⟩ := h
  cases e
  simp only [xSeq, xSet, xRet, xIf, xExpr, xNext, xNever, xC, xNil, xCons, xTup, xLst, xOp, xEq, xNe, xUn, xNot, xAnd, xOr, xIfE, xCB, xCall, xCallB, xName, xAsg, xIsi3, toD_fz, toD_ow, toD_od, toD_bg, rd_var, rd_getv1, rd_getv2, rd_getv3, rd_test, rd_onB, rd_onI, rd_onSB, rd_andV, rd_orV, rd_notV, rd_chain, rd_II, rd_II0, rd_add1, rd_add2, rd_add3, rd_mul1, rd_mul2, rd_mul3, rd_isN, rd_notN, rd_isN1, rd_isN2, rd_isN3, rd_neg, rd_ix1, rd_ix2, rd_part, rd_sl, rd_onSl1, rd_onSl2, rd_rev, rd_onRv, rd_len1, rd_len2, rd_max2, rd_min2, rd_int1, rd_int2, rd_lst1, rd_lst2, rd_tup1, rd_tup2, rd_dm, rd_seqI, rd_onSq1, rd_onSq2, rd_rng1, rd_onR1, rd_rng2, rd_onR2, xEnumT, rd_onEt, rd_zip, rd_onZ1, rd_onZ2, rd_par, rd_onP, xPar3, rd_onP3, rd_gtup, rd_gnil, rd_gcons, rd_isi, noO_int, noO_bl, noO_str, noO_lst, noO_tup, noO_non, ini, iniB, wipeD, unw, kf, List.map_cons, List.map_nil, List.replicate_succ, List.replicate_zero, List.cons_append, List.nil_append, List.length_cons, List.length_nil, List.getElem?_cons_zero, List.getElem?_cons_succ, List.set_cons_zero, List.set_cons_succ, decide_eq_true_eq, Nat.zero_add, Nat.reduceAdd, Nat.reduceSub, Nat.reduceLeDiff, true_and, Bool.false_eq_true, if_false, if_true, isi_int_non, isi_int_bl, isi_int_int, isi_int_str, isi_int_lst, isi_int_tup, isi_bool_non, isi_bool_bl, isi_bool_int, isi_bool_str, isi_bool_lst, isi_bool_tup, isi_list_non, isi_list_bl, isi_list_int, isi_list_str, isi_list_lst, isi_list_tup, isi_tuple_non, isi_tuple_bl, isi_tuple_int, isi_tuple_str, isi_tuple_lst, isi_tuple_tup, isi_str_non, isi_str_bl, isi_str_int, isi_str_str, isi_str_lst, isi_str_tup, Bool.not_true, Bool.not_false, Bool.or_false, Bool.or_true, Bool.false_or, Bool.true_or, ite_true, ite_false, Option.some.injEq, true_or, false_or, or_false, and_true, xRaise]
  refine ⟨a0, a1, a2, rfl, st, sd, sl, ?_⟩
  cases hm : rfBoth a0 a1 a2 with
  | some c' =>
    rw [hm] at hc
    cases hc
    exact q
  | none =>
    rw [hm] at hc
    obtain ⟨top, rfl, t1, t2, hk, hk2⟩ := rfBoth_none hm
    simp only [then_none] at hc
    simp only [told_none]
    refine ⟨a3, _, rfl, smA_no sn, ?_⟩
    cases h2 : rfMany a3 40 with
    | some c' =>
      rw [h2] at hc
      cases hc
      exact q
    | none =>
      rw [h2] at hc
      simp only [then_none] at hc
      simp only [told_none]
      have hn : ∃ n, a3 = .int n := by
        unfold rfMany at h2
        split at h2
        · rename_i h3
          obtain ⟨n, e, _⟩ := inR_int h3
          exact ⟨n, e⟩
        · cases h2
      obtain ⟨n, rfl⟩ := hn
      refine ⟨a4, 1, n, rfl, smA_no sb, ?_⟩
      have hc : (if inR a4 1 n = true then none else some (nmC 6)) = some c := hc
      cases h3 : inR a4 1 n with
      | true =>
        rw [h3] at hc
        cases hc
      | false =>
        rw [h3] at hc
        cases hc
        simp only [xSeq, xSet, xRet, xIf, xExpr, xNext, xNever, xC, xNil, xCons, xTup, xLst, xOp, xEq, xNe, xUn, xNot, xAnd, xOr, xIfE, xCB, xCall, xCallB, xName, xAsg, xIsi3, toD_fz, toD_ow, toD_od, toD_bg, rd_var, rd_getv1, rd_getv2, rd_getv3, rd_test, rd_onB, rd_onI, rd_onSB, rd_andV, rd_orV, rd_notV, rd_chain, rd_II, rd_II0, rd_add1, rd_add2, rd_add3, rd_mul1, rd_mul2, rd_mul3, rd_isN, rd_notN, rd_isN1, rd_isN2, rd_isN3, rd_neg, rd_ix1, rd_ix2, rd_part, rd_sl, rd_onSl1, rd_onSl2, rd_rev, rd_onRv, rd_len1, rd_len2, rd_max2, rd_min2, rd_int1, rd_int2, rd_lst1, rd_lst2, rd_tup1, rd_tup2, rd_dm, rd_seqI, rd_onSq1, rd_onSq2, rd_rng1, rd_onR1, rd_rng2, rd_onR2, xEnumT, rd_onEt, rd_zip, rd_onZ1, rd_onZ2, rd_par, rd_onP, xPar3, rd_onP3, rd_gtup, rd_gnil, rd_gcons, rd_isi, noO_int, noO_bl, noO_str, noO_lst, noO_tup, noO_non, ini, iniB, wipeD, unw, kf, List.map_cons, List.map_nil, List.replicate_succ, List.replicate_zero, List.cons_append, List.nil_append, List.length_cons, List.length_nil, List.getElem?_cons_zero, List.getElem?_cons_succ, List.set_cons_zero, List.set_cons_succ, decide_eq_true_eq, Nat.zero_add, Nat.reduceAdd, Nat.reduceSub, Nat.reduceLeDiff, true_and, Bool.false_eq_true, if_false, if_true, isi_int_non, isi_int_bl, isi_int_int, isi_int_str, isi_int_lst, isi_int_tup, isi_bool_non, isi_bool_bl, isi_bool_int, isi_bool_str, isi_bool_lst, isi_bool_tup, isi_list_non, isi_list_bl, isi_list_int, isi_list_str, isi_list_lst, isi_list_tup, isi_tuple_non, isi_tuple_bl, isi_tuple_int, isi_tuple_str, isi_tuple_lst, isi_tuple_tup, isi_str_non, isi_str_bl, isi_str_int, isi_str_str, isi_str_lst, isi_str_tup, Bool.not_true, Bool.not_false, Bool.or_false, Bool.or_true, Bool.false_or, Bool.true_or, ite_true, ite_false, Option.some.injEq, true_or, false_or, or_false, and_true, xRaise]
        exact q

def nones : List D → List Nat
  | ds => (List.range ds.length).filter fun i => isNonD (ds.getD i (.int 0))
def rfUn (top : Int) : D → Option Str
  | .tup ds => if ds.length ≤ 8 then (match nones ds with | [p] => rfM top (.tup (ds.take p ++ ds.drop (p + 1))) | _ => some (nmC 1)) else some (nmC 1)
  | _ => some (nmC 1)
def dp_unread : DP := fun ds _ ED => ∃ t m l n, ds = [t, m, l, n] ∧ smA t ∧ smA m ∧ smA l ∧ smA n ∧ toldF (thenR (rfMarks t m) (thenR (rfUn (ival t) l) (rfMany n 40))) ED
theorem een (dl : List D) : enumD dl = (List.range dl.length).map fun i => D.tup [.int (i : Nat), dl.getD i (.int 0)] := by
  refine List.ext_getElem? fun i => ?_
  unfold enumD
  rw [List.getElem?_map, List.getElem?_zipIdx, List.getElem?_map]
  by_cases h : i < dl.length
  · rw [List.getElem?_eq_getElem h, List.getElem?_range h, Option.map_some, Option.map_some, Option.map_some, List.getD_eq_getElem?_getD, List.getElem?_eq_getElem h, Nat.zero_add]
    rfl
  · rw [List.getElem?_eq_none (by omega), List.getElem?_eq_none (by rw [List.length_range]; omega)]
    rfl
theorem smA_sub {ds es : List D} (h : smA (.tup ds)) (hm : ∀ x ∈ es, x ∈ ds) (hl : es.length ≤ 100000) : smA (.tup es) := by
  obtain ⟨n, h⟩ := h
  cases n with
  | zero => cases h
  | succ n =>
    simp only [sm, Bool.and_eq_true, decide_eq_true_eq] at h
    refine ⟨n + 1, ?_⟩
    simp only [sm, Bool.and_eq_true, decide_eq_true_eq]
    exact ⟨hl, sms_of fun d hd => sms_mem h.2 d (hm d hd)⟩

abbrev s_unread : Stmt := topS 52
theorem sc_unread : FnScope ["top", "marks", "later", "many", "places", "place", "one", "found", "height", "whole"] ["top", "marks", "later", "many"] (defScope s_unread) := ⟨rfl, rfl, rfl, by decide +kernel, rfl, by decide +kernel, by decide +kernel⟩
theorem ok_unread {P : Program} {w : World} {K : PySem.W.Frag} {mg : Str → Option Value} {base : Heap} {A7 : Nat → Addr} {CF : Addr} (B : Bt mg) (CL : Cls K mg A7 CF) (d : Df K mg "unread" s_unread ["top", "marks", "later", "many"]) (h_look_at_many : FnX P w K mg base "look_at_many" 3 2 dp_look_at_many) (h_are_marks_of : Fn P w K mg base "are_marks_of" 3 2 dp_are_marks_of) (h_look_at_marks : FnX P w K mg base "look_at_marks" 4 2 dp_look_at_marks) : FnX P w K mg base "unread" (4 + 1) 4 dp_unread := by
  refine fn_mkX d sc_unread rfl (by decide) fun f cdv A outer s H E C ED hr hE => ⟨_, _, (ds_cons (ds_expr (d_fnX hE h_look_at_marks (hr.mono (by decide)) (da_cons (dv 0) (da_cons (dv 1) da_nil))))
      (ds_cons (ds_if (PWV.pt (dw_or (dt_not (dt_val (d_isi_tuple (by rfl) B.isinstance B.tuple (dv 2)))) (dw_or1 (dt_cmp o_gt (d_callB (c_lenK K) (by rfl) B.len PySem.boot_len (da_cons (dv 2) da_nil)) (d_globI (by rfl) B.MOST_MARKS))))) (ds_one (ds_raise hE (CL.ex 1 (by decide)))) ds_nil)
      (ds_cons (ds_setLc 4 [("place", 5), ("one", 6)] rfl sc_unread.nd (di_enumT K (by rfl) B.enumerate (da_cons (dv 2) da_nil)) (blkOk_by (by show blkC ["top", "marks", "later", "many", "places", "place", "one", "found", "height", "whole"] (defScope s_unread) _ [("place", 5), ("one", 6)] = true; decide +kernel)) (fun _ _ _ _ _ _ => (dg_tupK K (n := 2) rfl (dgs_cons (dg_name 5 sc_unread.nd) (dgs_cons (dg_name 6 sc_unread.nd) dgs_nil)))) (fun _ _ _ _ _ _ => (dts_one (dt_cmp o_isN (dv 6) d_non))) (fun _ _ _ _ _ _ => (dv 5)) (sw_true rfl rfl rfl (by decide +kernel)))
      (ds_cons (ds_if (PWV.pt (dw_or (dt_cmp (o_neK K hr.units) (d_callB (c_lenK K) (by rfl) B.len PySem.boot_len (da_cons (dv 4) da_nil)) d_int) (dw_or1 (dt_not (dt_val (d_fnK h_are_marks_of (hr.mono (by decide)) (da_cons (dv 0) (da_cons (d_op (o_addK K) (d_slK K (dv 2) do_none (do_some (d_ixK K (dv 4) d_int))) (d_slK K (dv 2) (do_some (d_op (o_addK K) (d_ixK K (dv 4) d_int) d_int)) do_none)) da_nil)))))))) (ds_one (ds_raise hE (CL.ex 1 (by decide)))) ds_nil)
      (ds_cons (ds_expr (d_fnX hE h_look_at_many (hr.mono (by decide)) (da_cons (dv 3) (da_cons (d_globI (by rfl) B.MOST_FLOODS) da_nil))))
      (ds_cons ds_never (ds_cons ds_never (ds_one ds_never)))))))), fun ds QD hl0 h => ?_⟩
  obtain ⟨a0, a1, a2, a3, rfl⟩ : ∃ a0 a1 a2 a3, ds = [a0, a1, a2, a3] := by
    match ds, hl0 with
    | [a0, a1, a2, a3], _ => exact ⟨a0, a1, a2, a3, rfl⟩
  clear hl0
  obtain ⟨t, m, l, n, e, st, sd, sl, sn, c, hc, q⟩ := h
  cases e
  have no := smA_no sl
  simp only [xSeq, xSet, xRet, xIf, xExpr, xNext, xNever, xC, xNil, xCons, xTup, xLst, xOp, xEq, xNe, xUn, xNot, xAnd, xOr, xIfE, xCB, xCall, xCallB, xName, xAsg, xIsi3, toD_fz, toD_ow, toD_od, toD_bg, rd_var, rd_getv1, rd_getv2, rd_getv3, rd_test, rd_onB, rd_onI, rd_onSB, rd_andV, rd_orV, rd_notV, rd_chain, rd_II, rd_II0, rd_add1, rd_add2, rd_add3, rd_mul1, rd_mul2, rd_mul3, rd_isN, rd_notN, rd_isN1, rd_isN2, rd_isN3, rd_neg, rd_ix1, rd_ix2, rd_part, rd_sl, rd_onSl1, rd_onSl2, rd_rev, rd_onRv, rd_len1, rd_len2, rd_max2, rd_min2, rd_int1, rd_int2, rd_lst1, rd_lst2, rd_tup1, rd_tup2, rd_dm, rd_seqI, rd_onSq1, rd_onSq2, rd_rng1, rd_onR1, rd_rng2, rd_onR2, xEnumT, rd_onEt, rd_zip, rd_onZ1, rd_onZ2, rd_par, rd_onP, xPar3, rd_onP3, rd_gtup, rd_gnil, rd_gcons, rd_isi, noO_int, noO_bl, noO_str, noO_lst, noO_tup, noO_non, ini, iniB, wipeD, unw, kf, List.map_cons, List.map_nil, List.replicate_succ, List.replicate_zero, List.cons_append, List.nil_append, List.length_cons, List.length_nil, List.getElem?_cons_zero, List.getElem?_cons_succ, List.set_cons_zero, List.set_cons_succ, decide_eq_true_eq, Nat.zero_add, Nat.reduceAdd, Nat.reduceSub, Nat.reduceLeDiff, true_and, Bool.false_eq_true, if_false, if_true, isi_int_non, isi_int_bl, isi_int_int, isi_int_str, isi_int_lst, isi_int_tup, isi_bool_non, isi_bool_bl, isi_bool_int, isi_bool_str, isi_bool_lst, isi_bool_tup, isi_list_non, isi_list_bl, isi_list_int, isi_list_str, isi_list_lst, isi_list_tup, isi_tuple_non, isi_tuple_bl, isi_tuple_int, isi_tuple_str, isi_tuple_lst, isi_tuple_tup, isi_str_non, isi_str_bl, isi_str_int, isi_str_str, isi_str_lst, isi_str_tup, Bool.not_true, Bool.not_false, Bool.or_false, Bool.or_true, Bool.false_or, Bool.true_or, ite_true, ite_false, Option.some.injEq, true_or, false_or, or_false, and_true, xRaise]
  refine ⟨a0, a1, rfl, st, sd, ?_⟩
  cases hm : rfMarks a0 a1 with
  | some c' =>
    rw [hm] at hc
    cases hc
    exact q
  | none =>
    rw [hm] at hc
    simp only [then_none] at hc
    obtain ⟨top, rfl, t1, t2, hk⟩ := rfMarks_none hm
    simp only [told_none]
    have hc : thenR (rfUn top a2) (rfMany a3 40) = some c := hc
    cases a2 with
    | tup es =>
      obtain ⟨hl, he⟩ := smA_tup sl
      simp only [xSeq, xSet, xRet, xIf, xExpr, xNext, xNever, xC, xNil, xCons, xTup, xLst, xOp, xEq, xNe, xUn, xNot, xAnd, xOr, xIfE, xCB, xCall, xCallB, xName, xAsg, xIsi3, toD_fz, toD_ow, toD_od, toD_bg, rd_var, rd_getv1, rd_getv2, rd_getv3, rd_test, rd_onB, rd_onI, rd_onSB, rd_andV, rd_orV, rd_notV, rd_chain, rd_II, rd_II0, rd_add1, rd_add2, rd_add3, rd_mul1, rd_mul2, rd_mul3, rd_isN, rd_notN, rd_isN1, rd_isN2, rd_isN3, rd_neg, rd_ix1, rd_ix2, rd_part, rd_sl, rd_onSl1, rd_onSl2, rd_rev, rd_onRv, rd_len1, rd_len2, rd_max2, rd_min2, rd_int1, rd_int2, rd_lst1, rd_lst2, rd_tup1, rd_tup2, rd_dm, rd_seqI, rd_onSq1, rd_onSq2, rd_rng1, rd_onR1, rd_rng2, rd_onR2, xEnumT, rd_onEt, rd_zip, rd_onZ1, rd_onZ2, rd_par, rd_onP, xPar3, rd_onP3, rd_gtup, rd_gnil, rd_gcons, rd_isi, noO_int, noO_bl, noO_str, noO_lst, noO_tup, noO_non, ini, iniB, wipeD, unw, kf, List.map_cons, List.map_nil, List.replicate_succ, List.replicate_zero, List.cons_append, List.nil_append, List.length_cons, List.length_nil, List.getElem?_cons_zero, List.getElem?_cons_succ, List.set_cons_zero, List.set_cons_succ, decide_eq_true_eq, Nat.zero_add, Nat.reduceAdd, Nat.reduceSub, Nat.reduceLeDiff, true_and, Bool.false_eq_true, if_false, if_true, isi_int_non, isi_int_bl, isi_int_int, isi_int_str, isi_int_lst, isi_int_tup, isi_bool_non, isi_bool_bl, isi_bool_int, isi_bool_str, isi_bool_lst, isi_bool_tup, isi_list_non, isi_list_bl, isi_list_int, isi_list_str, isi_list_lst, isi_list_tup, isi_tuple_non, isi_tuple_bl, isi_tuple_int, isi_tuple_str, isi_tuple_lst, isi_tuple_tup, isi_str_non, isi_str_bl, isi_str_int, isi_str_str, isi_str_lst, isi_str_tup, Bool.not_true, Bool.not_false, Bool.or_false, Bool.or_true, Bool.false_or, Bool.true_or, ite_true, ite_false, Option.some.injEq, true_or, false_or, or_false, and_true, xRaise]
      refine ite2 (fun h8 => ?_) (fun h8 => ?_)
      · have h9 : rfUn top (.tup es) = some (nmC 1) := by
          simp only [rfUn, if_neg (show ¬ es.length ≤ 8 by omega)]
        rw [h9] at hc
        cases hc
        exact q
      · have h9 : rfUn top (.tup es) = (match nones es with | [p] => rfM top (.tup (es.take p ++ es.drop (p + 1))) | _ => some (nmC 1)) := by
          simp only [rfUn, if_pos (show es.length ≤ 8 by omega)]
        rw [h9] at hc
        refine lc_pure0 (List.range es.length) (fun i => D.tup [.int (i : Nat), es.getD i (.int 0)]) (fun i => isNonD (es.getD i (.int 0))) (fun i => D.int (i : Nat)) (fun QL hq => ?_) (by rw [List.length_range]; omega) (fun i hi QD QN h1 h2 => ?_) ?_
        · simp only [xSeq, xSet, xRet, xIf, xExpr, xNext, xNever, xC, xNil, xCons, xTup, xLst, xOp, xEq, xNe, xUn, xNot, xAnd, xOr, xIfE, xCB, xCall, xCallB, xName, xAsg, xIsi3, toD_fz, toD_ow, toD_od, toD_bg, rd_var, rd_getv1, rd_getv2, rd_getv3, rd_test, rd_onB, rd_onI, rd_onSB, rd_andV, rd_orV, rd_notV, rd_chain, rd_II, rd_II0, rd_add1, rd_add2, rd_add3, rd_mul1, rd_mul2, rd_mul3, rd_isN, rd_notN, rd_isN1, rd_isN2, rd_isN3, rd_neg, rd_ix1, rd_ix2, rd_part, rd_sl, rd_onSl1, rd_onSl2, rd_rev, rd_onRv, rd_len1, rd_len2, rd_max2, rd_min2, rd_int1, rd_int2, rd_lst1, rd_lst2, rd_tup1, rd_tup2, rd_dm, rd_seqI, rd_onSq1, rd_onSq2, rd_rng1, rd_onR1, rd_rng2, rd_onR2, xEnumT, rd_onEt, rd_zip, rd_onZ1, rd_onZ2, rd_par, rd_onP, xPar3, rd_onP3, rd_gtup, rd_gnil, rd_gcons, rd_isi, noO_int, noO_bl, noO_str, noO_lst, noO_tup, noO_non, ini, iniB, wipeD, unw, kf, List.map_cons, List.map_nil, List.replicate_succ, List.replicate_zero, List.cons_append, List.nil_append, List.length_cons, List.length_nil, List.getElem?_cons_zero, List.getElem?_cons_succ, List.set_cons_zero, List.set_cons_succ, decide_eq_true_eq, Nat.zero_add, Nat.reduceAdd, Nat.reduceSub, Nat.reduceLeDiff, true_and, Bool.false_eq_true, if_false, if_true, isi_int_non, isi_int_bl, isi_int_int, isi_int_str, isi_int_lst, isi_int_tup, isi_bool_non, isi_bool_bl, isi_bool_int, isi_bool_str, isi_bool_lst, isi_bool_tup, isi_list_non, isi_list_bl, isi_list_int, isi_list_str, isi_list_lst, isi_list_tup, isi_tuple_non, isi_tuple_bl, isi_tuple_int, isi_tuple_str, isi_tuple_lst, isi_tuple_tup, isi_str_non, isi_str_bl, isi_str_int, isi_str_str, isi_str_lst, isi_str_tup, Bool.not_true, Bool.not_false, Bool.or_false, Bool.or_true, Bool.false_or, Bool.true_or, ite_true, ite_false, Option.some.injEq, true_or, false_or, or_false, and_true]
          rw [een]
          exact hq
        · simp only [xSeq, xSet, xRet, xIf, xExpr, xNext, xNever, xC, xNil, xCons, xTup, xLst, xOp, xEq, xNe, xUn, xNot, xAnd, xOr, xIfE, xCB, xCall, xCallB, xName, xAsg, xIsi3, toD_fz, toD_ow, toD_od, toD_bg, rd_var, rd_getv1, rd_getv2, rd_getv3, rd_test, rd_onB, rd_onI, rd_onSB, rd_andV, rd_orV, rd_notV, rd_chain, rd_II, rd_II0, rd_add1, rd_add2, rd_add3, rd_mul1, rd_mul2, rd_mul3, rd_isN, rd_notN, rd_isN1, rd_isN2, rd_isN3, rd_neg, rd_ix1, rd_ix2, rd_part, rd_sl, rd_onSl1, rd_onSl2, rd_rev, rd_onRv, rd_len1, rd_len2, rd_max2, rd_min2, rd_int1, rd_int2, rd_lst1, rd_lst2, rd_tup1, rd_tup2, rd_dm, rd_seqI, rd_onSq1, rd_onSq2, rd_rng1, rd_onR1, rd_rng2, rd_onR2, xEnumT, rd_onEt, rd_zip, rd_onZ1, rd_onZ2, rd_par, rd_onP, xPar3, rd_onP3, rd_gtup, rd_gnil, rd_gcons, rd_isi, noO_int, noO_bl, noO_str, noO_lst, noO_tup, noO_non, ini, iniB, wipeD, unw, kf, List.map_cons, List.map_nil, List.replicate_succ, List.replicate_zero, List.cons_append, List.nil_append, List.length_cons, List.length_nil, List.getElem?_cons_zero, List.getElem?_cons_succ, List.set_cons_zero, List.set_cons_succ, decide_eq_true_eq, Nat.zero_add, Nat.reduceAdd, Nat.reduceSub, Nat.reduceLeDiff, true_and, Bool.false_eq_true, if_false, if_true, isi_int_non, isi_int_bl, isi_int_int, isi_int_str, isi_int_lst, isi_int_tup, isi_bool_non, isi_bool_bl, isi_bool_int, isi_bool_str, isi_bool_lst, isi_bool_tup, isi_list_non, isi_list_bl, isi_list_int, isi_list_str, isi_list_lst, isi_list_tup, isi_tuple_non, isi_tuple_bl, isi_tuple_int, isi_tuple_str, isi_tuple_lst, isi_tuple_tup, isi_str_non, isi_str_bl, isi_str_int, isi_str_str, isi_str_lst, isi_str_tup, Bool.not_true, Bool.not_false, Bool.or_false, Bool.or_true, Bool.false_or, Bool.true_or, ite_true, ite_false, Option.some.injEq, true_or, false_or, or_false, and_true]
          rcases Bool.eq_false_or_eq_true (isNonD (es.getD i (.int 0))) with h3 | h3
          · simp only [xSeq, xSet, xRet, xIf, xExpr, xNext, xNever, xC, xNil, xCons, xTup, xLst, xOp, xEq, xNe, xUn, xNot, xAnd, xOr, xIfE, xCB, xCall, xCallB, xName, xAsg, xIsi3, toD_fz, toD_ow, toD_od, toD_bg, rd_var, rd_getv1, rd_getv2, rd_getv3, rd_test, rd_onB, rd_onI, rd_onSB, rd_andV, rd_orV, rd_notV, rd_chain, rd_II, rd_II0, rd_add1, rd_add2, rd_add3, rd_mul1, rd_mul2, rd_mul3, rd_isN, rd_notN, rd_isN1, rd_isN2, rd_isN3, rd_neg, rd_ix1, rd_ix2, rd_part, rd_sl, rd_onSl1, rd_onSl2, rd_rev, rd_onRv, rd_len1, rd_len2, rd_max2, rd_min2, rd_int1, rd_int2, rd_lst1, rd_lst2, rd_tup1, rd_tup2, rd_dm, rd_seqI, rd_onSq1, rd_onSq2, rd_rng1, rd_onR1, rd_rng2, rd_onR2, xEnumT, rd_onEt, rd_zip, rd_onZ1, rd_onZ2, rd_par, rd_onP, xPar3, rd_onP3, rd_gtup, rd_gnil, rd_gcons, rd_isi, noO_int, noO_bl, noO_str, noO_lst, noO_tup, noO_non, ini, iniB, wipeD, unw, kf, List.map_cons, List.map_nil, List.replicate_succ, List.replicate_zero, List.cons_append, List.nil_append, List.length_cons, List.length_nil, List.getElem?_cons_zero, List.getElem?_cons_succ, List.set_cons_zero, List.set_cons_succ, decide_eq_true_eq, Nat.zero_add, Nat.reduceAdd, Nat.reduceSub, Nat.reduceLeDiff, true_and, Bool.false_eq_true, if_false, if_true, isi_int_non, isi_int_bl, isi_int_int, isi_int_str, isi_int_lst, isi_int_tup, isi_bool_non, isi_bool_bl, isi_bool_int, isi_bool_str, isi_bool_lst, isi_bool_tup, isi_list_non, isi_list_bl, isi_list_int, isi_list_str, isi_list_lst, isi_list_tup, isi_tuple_non, isi_tuple_bl, isi_tuple_int, isi_tuple_str, isi_tuple_lst, isi_tuple_tup, isi_str_non, isi_str_bl, isi_str_int, isi_str_str, isi_str_lst, isi_str_tup, Bool.not_true, Bool.not_false, Bool.or_false, Bool.or_true, Bool.false_or, Bool.true_or, ite_true, ite_false, Option.some.injEq, true_or, false_or, or_false, and_true, h3]
            exact h1 h3
          · simp only [xSeq, xSet, xRet, xIf, xExpr, xNext, xNever, xC, xNil, xCons, xTup, xLst, xOp, xEq, xNe, xUn, xNot, xAnd, xOr, xIfE, xCB, xCall, xCallB, xName, xAsg, xIsi3, toD_fz, toD_ow, toD_od, toD_bg, rd_var, rd_getv1, rd_getv2, rd_getv3, rd_test, rd_onB, rd_onI, rd_onSB, rd_andV, rd_orV, rd_notV, rd_chain, rd_II, rd_II0, rd_add1, rd_add2, rd_add3, rd_mul1, rd_mul2, rd_mul3, rd_isN, rd_notN, rd_isN1, rd_isN2, rd_isN3, rd_neg, rd_ix1, rd_ix2, rd_part, rd_sl, rd_onSl1, rd_onSl2, rd_rev, rd_onRv, rd_len1, rd_len2, rd_max2, rd_min2, rd_int1, rd_int2, rd_lst1, rd_lst2, rd_tup1, rd_tup2, rd_dm, rd_seqI, rd_onSq1, rd_onSq2, rd_rng1, rd_onR1, rd_rng2, rd_onR2, xEnumT, rd_onEt, rd_zip, rd_onZ1, rd_onZ2, rd_par, rd_onP, xPar3, rd_onP3, rd_gtup, rd_gnil, rd_gcons, rd_isi, noO_int, noO_bl, noO_str, noO_lst, noO_tup, noO_non, ini, iniB, wipeD, unw, kf, List.map_cons, List.map_nil, List.replicate_succ, List.replicate_zero, List.cons_append, List.nil_append, List.length_cons, List.length_nil, List.getElem?_cons_zero, List.getElem?_cons_succ, List.set_cons_zero, List.set_cons_succ, decide_eq_true_eq, Nat.zero_add, Nat.reduceAdd, Nat.reduceSub, Nat.reduceLeDiff, true_and, Bool.false_eq_true, if_false, if_true, isi_int_non, isi_int_bl, isi_int_int, isi_int_str, isi_int_lst, isi_int_tup, isi_bool_non, isi_bool_bl, isi_bool_int, isi_bool_str, isi_bool_lst, isi_bool_tup, isi_list_non, isi_list_bl, isi_list_int, isi_list_str, isi_list_lst, isi_list_tup, isi_tuple_non, isi_tuple_bl, isi_tuple_int, isi_tuple_str, isi_tuple_lst, isi_tuple_tup, isi_str_non, isi_str_bl, isi_str_int, isi_str_str, isi_str_lst, isi_str_tup, Bool.not_true, Bool.not_false, Bool.or_false, Bool.or_true, Bool.false_or, Bool.true_or, ite_true, ite_false, Option.some.injEq, true_or, false_or, or_false, and_true, h3]
            exact h2 h3
        · have hps : (List.range es.length).filter (fun i => isNonD (es.getD i (.int 0))) = nones es := rfl
          rw [hps]
          generalize nones es = ps at hc
          by_cases h1 : (ps.length : Int) = 1
          · obtain ⟨p, rfl⟩ : ∃ p, ps = [p] := by
              match ps, h1 with
              | [p], _ => exact ⟨p, rfl⟩
              | [], h => simp at h
              | _ :: _ :: _, h => simp at h; omega
            simp only [xSeq, xSet, xRet, xIf, xExpr, xNext, xNever, xC, xNil, xCons, xTup, xLst, xOp, xEq, xNe, xUn, xNot, xAnd, xOr, xIfE, xCB, xCall, xCallB, xName, xAsg, xIsi3, toD_fz, toD_ow, toD_od, toD_bg, rd_var, rd_getv1, rd_getv2, rd_getv3, rd_test, rd_onB, rd_onI, rd_onSB, rd_andV, rd_orV, rd_notV, rd_chain, rd_II, rd_II0, rd_add1, rd_add2, rd_add3, rd_mul1, rd_mul2, rd_mul3, rd_isN, rd_notN, rd_isN1, rd_isN2, rd_isN3, rd_neg, rd_ix1, rd_ix2, rd_part, rd_sl, rd_onSl1, rd_onSl2, rd_rev, rd_onRv, rd_len1, rd_len2, rd_max2, rd_min2, rd_int1, rd_int2, rd_lst1, rd_lst2, rd_tup1, rd_tup2, rd_dm, rd_seqI, rd_onSq1, rd_onSq2, rd_rng1, rd_onR1, rd_rng2, rd_onR2, xEnumT, rd_onEt, rd_zip, rd_onZ1, rd_onZ2, rd_par, rd_onP, xPar3, rd_onP3, rd_gtup, rd_gnil, rd_gcons, rd_isi, noO_int, noO_bl, noO_str, noO_lst, noO_tup, noO_non, ini, iniB, wipeD, unw, kf, List.map_cons, List.map_nil, List.replicate_succ, List.replicate_zero, List.cons_append, List.nil_append, List.length_cons, List.length_nil, List.getElem?_cons_zero, List.getElem?_cons_succ, List.set_cons_zero, List.set_cons_succ, decide_eq_true_eq, Nat.zero_add, Nat.reduceAdd, Nat.reduceSub, Nat.reduceLeDiff, true_and, Bool.false_eq_true, if_false, if_true, isi_int_non, isi_int_bl, isi_int_int, isi_int_str, isi_int_lst, isi_int_tup, isi_bool_non, isi_bool_bl, isi_bool_int, isi_bool_str, isi_bool_lst, isi_bool_tup, isi_list_non, isi_list_bl, isi_list_int, isi_list_str, isi_list_lst, isi_list_tup, isi_tuple_non, isi_tuple_bl, isi_tuple_int, isi_tuple_str, isi_tuple_lst, isi_tuple_tup, isi_str_non, isi_str_bl, isi_str_int, isi_str_str, isi_str_lst, isi_str_tup, Bool.not_true, Bool.not_false, Bool.or_false, Bool.or_true, Bool.false_or, Bool.true_or, ite_true, ite_false, Option.some.injEq, true_or, false_or, or_false, and_true, xRaise, eqD_int, decide_true]
            refine ⟨rfl, rfl, ?_⟩
            rw [if_neg (by simp)]
            refine ⟨.int p, rfl, ?_⟩
            simp only [xSeq, xSet, xRet, xIf, xExpr, xNext, xNever, xC, xNil, xCons, xTup, xLst, xOp, xEq, xNe, xUn, xNot, xAnd, xOr, xIfE, xCB, xCall, xCallB, xName, xAsg, xIsi3, toD_fz, toD_ow, toD_od, toD_bg, rd_var, rd_getv1, rd_getv2, rd_getv3, rd_test, rd_onB, rd_onI, rd_onSB, rd_andV, rd_orV, rd_notV, rd_chain, rd_II, rd_II0, rd_add1, rd_add2, rd_add3, rd_mul1, rd_mul2, rd_mul3, rd_isN, rd_notN, rd_isN1, rd_isN2, rd_isN3, rd_neg, rd_ix1, rd_ix2, rd_part, rd_sl, rd_onSl1, rd_onSl2, rd_rev, rd_onRv, rd_len1, rd_len2, rd_max2, rd_min2, rd_int1, rd_int2, rd_lst1, rd_lst2, rd_tup1, rd_tup2, rd_dm, rd_seqI, rd_onSq1, rd_onSq2, rd_rng1, rd_onR1, rd_rng2, rd_onR2, xEnumT, rd_onEt, rd_zip, rd_onZ1, rd_onZ2, rd_par, rd_onP, xPar3, rd_onP3, rd_gtup, rd_gnil, rd_gcons, rd_isi, noO_int, noO_bl, noO_str, noO_lst, noO_tup, noO_non, ini, iniB, wipeD, unw, kf, List.map_cons, List.map_nil, List.replicate_succ, List.replicate_zero, List.cons_append, List.nil_append, List.length_cons, List.length_nil, List.getElem?_cons_zero, List.getElem?_cons_succ, List.set_cons_zero, List.set_cons_succ, decide_eq_true_eq, Nat.zero_add, Nat.reduceAdd, Nat.reduceSub, Nat.reduceLeDiff, true_and, Bool.false_eq_true, if_false, if_true, isi_int_non, isi_int_bl, isi_int_int, isi_int_str, isi_int_lst, isi_int_tup, isi_bool_non, isi_bool_bl, isi_bool_int, isi_bool_str, isi_bool_lst, isi_bool_tup, isi_list_non, isi_list_bl, isi_list_int, isi_list_str, isi_list_lst, isi_list_tup, isi_tuple_non, isi_tuple_bl, isi_tuple_int, isi_tuple_str, isi_tuple_lst, isi_tuple_tup, isi_str_non, isi_str_bl, isi_str_int, isi_str_str, isi_str_lst, isi_str_tup, Bool.not_true, Bool.not_false, Bool.or_false, Bool.or_true, Bool.false_or, Bool.true_or, ite_true, ite_false, Option.some.injEq, true_or, false_or, or_false, and_true, xRaise]
            refine ⟨.int p, rfl, ?_⟩
            simp only [xSeq, xSet, xRet, xIf, xExpr, xNext, xNever, xC, xNil, xCons, xTup, xLst, xOp, xEq, xNe, xUn, xNot, xAnd, xOr, xIfE, xCB, xCall, xCallB, xName, xAsg, xIsi3, toD_fz, toD_ow, toD_od, toD_bg, rd_var, rd_getv1, rd_getv2, rd_getv3, rd_test, rd_onB, rd_onI, rd_onSB, rd_andV, rd_orV, rd_notV, rd_chain, rd_II, rd_II0, rd_add1, rd_add2, rd_add3, rd_mul1, rd_mul2, rd_mul3, rd_isN, rd_notN, rd_isN1, rd_isN2, rd_isN3, rd_neg, rd_ix1, rd_ix2, rd_part, rd_sl, rd_onSl1, rd_onSl2, rd_rev, rd_onRv, rd_len1, rd_len2, rd_max2, rd_min2, rd_int1, rd_int2, rd_lst1, rd_lst2, rd_tup1, rd_tup2, rd_dm, rd_seqI, rd_onSq1, rd_onSq2, rd_rng1, rd_onR1, rd_rng2, rd_onR2, xEnumT, rd_onEt, rd_zip, rd_onZ1, rd_onZ2, rd_par, rd_onP, xPar3, rd_onP3, rd_gtup, rd_gnil, rd_gcons, rd_isi, noO_int, noO_bl, noO_str, noO_lst, noO_tup, noO_non, ini, iniB, wipeD, unw, kf, List.map_cons, List.map_nil, List.replicate_succ, List.replicate_zero, List.cons_append, List.nil_append, List.length_cons, List.length_nil, List.getElem?_cons_zero, List.getElem?_cons_succ, List.set_cons_zero, List.set_cons_succ, decide_eq_true_eq, Nat.zero_add, Nat.reduceAdd, Nat.reduceSub, Nat.reduceLeDiff, true_and, Bool.false_eq_true, if_false, if_true, isi_int_non, isi_int_bl, isi_int_int, isi_int_str, isi_int_lst, isi_int_tup, isi_bool_non, isi_bool_bl, isi_bool_int, isi_bool_str, isi_bool_lst, isi_bool_tup, isi_list_non, isi_list_bl, isi_list_int, isi_list_str, isi_list_lst, isi_list_tup, isi_tuple_non, isi_tuple_bl, isi_tuple_int, isi_tuple_str, isi_tuple_lst, isi_tuple_tup, isi_str_non, isi_str_bl, isi_str_int, isi_str_str, isi_str_lst, isi_str_tup, Bool.not_true, Bool.not_false, Bool.or_false, Bool.or_true, Bool.false_or, Bool.true_or, ite_true, ite_false, Option.some.injEq, true_or, false_or, or_false, and_true, xRaise]
            have hc : thenR (rfM top (.tup (es.take p ++ es.drop (p + 1)))) (rfMany a3 40) = some c := hc
            rw [cut_take _ _ (by omega), cut_drop _ _ (by omega), Int.toNat_natCast, show ((p : Int) + 1).toNat = p + 1 from by omega]
            have hl4 : (es.take p).length + (es.drop (p + 1)).length ≤ 100000 := by
              rw [List.length_take, List.length_drop]
              omega
            refine ⟨hl4, top, _, rfl, smA_sub sl (fun x hx => ?_) (by rw [List.length_append]; exact hl4), ?_⟩
            · rcases List.mem_append.mp hx with h | h
              · exact List.mem_of_mem_take h
              · exact List.mem_of_mem_drop h
            unfold rfM at hc
            rcases Bool.eq_false_or_eq_true (marksD top (.tup (es.take p ++ es.drop (p + 1)))) with h4 | h4
            · rw [h4] at hc ⊢
              have hc : rfMany a3 40 = some c := hc
              simp only [xSeq, xSet, xRet, xIf, xExpr, xNext, xNever, xC, xNil, xCons, xTup, xLst, xOp, xEq, xNe, xUn, xNot, xAnd, xOr, xIfE, xCB, xCall, xCallB, xName, xAsg, xIsi3, toD_fz, toD_ow, toD_od, toD_bg, rd_var, rd_getv1, rd_getv2, rd_getv3, rd_test, rd_onB, rd_onI, rd_onSB, rd_andV, rd_orV, rd_notV, rd_chain, rd_II, rd_II0, rd_add1, rd_add2, rd_add3, rd_mul1, rd_mul2, rd_mul3, rd_isN, rd_notN, rd_isN1, rd_isN2, rd_isN3, rd_neg, rd_ix1, rd_ix2, rd_part, rd_sl, rd_onSl1, rd_onSl2, rd_rev, rd_onRv, rd_len1, rd_len2, rd_max2, rd_min2, rd_int1, rd_int2, rd_lst1, rd_lst2, rd_tup1, rd_tup2, rd_dm, rd_seqI, rd_onSq1, rd_onSq2, rd_rng1, rd_onR1, rd_rng2, rd_onR2, xEnumT, rd_onEt, rd_zip, rd_onZ1, rd_onZ2, rd_par, rd_onP, xPar3, rd_onP3, rd_gtup, rd_gnil, rd_gcons, rd_isi, noO_int, noO_bl, noO_str, noO_lst, noO_tup, noO_non, ini, iniB, wipeD, unw, kf, List.map_cons, List.map_nil, List.replicate_succ, List.replicate_zero, List.cons_append, List.nil_append, List.length_cons, List.length_nil, List.getElem?_cons_zero, List.getElem?_cons_succ, List.set_cons_zero, List.set_cons_succ, decide_eq_true_eq, Nat.zero_add, Nat.reduceAdd, Nat.reduceSub, Nat.reduceLeDiff, true_and, Bool.false_eq_true, if_false, if_true, isi_int_non, isi_int_bl, isi_int_int, isi_int_str, isi_int_lst, isi_int_tup, isi_bool_non, isi_bool_bl, isi_bool_int, isi_bool_str, isi_bool_lst, isi_bool_tup, isi_list_non, isi_list_bl, isi_list_int, isi_list_str, isi_list_lst, isi_list_tup, isi_tuple_non, isi_tuple_bl, isi_tuple_int, isi_tuple_str, isi_tuple_lst, isi_tuple_tup, isi_str_non, isi_str_bl, isi_str_int, isi_str_str, isi_str_lst, isi_str_tup, Bool.not_true, Bool.not_false, Bool.or_false, Bool.or_true, Bool.false_or, Bool.true_or, ite_true, ite_false, Option.some.injEq, true_or, false_or, or_false, and_true, xRaise]
              refine ⟨a3, _, rfl, smA_no sn, ?_⟩
              rw [hc]
              exact q
            · rw [h4] at hc ⊢
              simp only [xSeq, xSet, xRet, xIf, xExpr, xNext, xNever, xC, xNil, xCons, xTup, xLst, xOp, xEq, xNe, xUn, xNot, xAnd, xOr, xIfE, xCB, xCall, xCallB, xName, xAsg, xIsi3, toD_fz, toD_ow, toD_od, toD_bg, rd_var, rd_getv1, rd_getv2, rd_getv3, rd_test, rd_onB, rd_onI, rd_onSB, rd_andV, rd_orV, rd_notV, rd_chain, rd_II, rd_II0, rd_add1, rd_add2, rd_add3, rd_mul1, rd_mul2, rd_mul3, rd_isN, rd_notN, rd_isN1, rd_isN2, rd_isN3, rd_neg, rd_ix1, rd_ix2, rd_part, rd_sl, rd_onSl1, rd_onSl2, rd_rev, rd_onRv, rd_len1, rd_len2, rd_max2, rd_min2, rd_int1, rd_int2, rd_lst1, rd_lst2, rd_tup1, rd_tup2, rd_dm, rd_seqI, rd_onSq1, rd_onSq2, rd_rng1, rd_onR1, rd_rng2, rd_onR2, xEnumT, rd_onEt, rd_zip, rd_onZ1, rd_onZ2, rd_par, rd_onP, xPar3, rd_onP3, rd_gtup, rd_gnil, rd_gcons, rd_isi, noO_int, noO_bl, noO_str, noO_lst, noO_tup, noO_non, ini, iniB, wipeD, unw, kf, List.map_cons, List.map_nil, List.replicate_succ, List.replicate_zero, List.cons_append, List.nil_append, List.length_cons, List.length_nil, List.getElem?_cons_zero, List.getElem?_cons_succ, List.set_cons_zero, List.set_cons_succ, decide_eq_true_eq, Nat.zero_add, Nat.reduceAdd, Nat.reduceSub, Nat.reduceLeDiff, true_and, Bool.false_eq_true, if_false, if_true, isi_int_non, isi_int_bl, isi_int_int, isi_int_str, isi_int_lst, isi_int_tup, isi_bool_non, isi_bool_bl, isi_bool_int, isi_bool_str, isi_bool_lst, isi_bool_tup, isi_list_non, isi_list_bl, isi_list_int, isi_list_str, isi_list_lst, isi_list_tup, isi_tuple_non, isi_tuple_bl, isi_tuple_int, isi_tuple_str, isi_tuple_lst, isi_tuple_tup, isi_str_non, isi_str_bl, isi_str_int, isi_str_str, isi_str_lst, isi_str_tup, Bool.not_true, Bool.not_false, Bool.or_false, Bool.or_true, Bool.false_or, Bool.true_or, ite_true, ite_false, Option.some.injEq, true_or, false_or, or_false, and_true, xRaise]
              cases hc
              exact q
          · simp only [xSeq, xSet, xRet, xIf, xExpr, xNext, xNever, xC, xNil, xCons, xTup, xLst, xOp, xEq, xNe, xUn, xNot, xAnd, xOr, xIfE, xCB, xCall, xCallB, xName, xAsg, xIsi3, toD_fz, toD_ow, toD_od, toD_bg, rd_var, rd_getv1, rd_getv2, rd_getv3, rd_test, rd_onB, rd_onI, rd_onSB, rd_andV, rd_orV, rd_notV, rd_chain, rd_II, rd_II0, rd_add1, rd_add2, rd_add3, rd_mul1, rd_mul2, rd_mul3, rd_isN, rd_notN, rd_isN1, rd_isN2, rd_isN3, rd_neg, rd_ix1, rd_ix2, rd_part, rd_sl, rd_onSl1, rd_onSl2, rd_rev, rd_onRv, rd_len1, rd_len2, rd_max2, rd_min2, rd_int1, rd_int2, rd_lst1, rd_lst2, rd_tup1, rd_tup2, rd_dm, rd_seqI, rd_onSq1, rd_onSq2, rd_rng1, rd_onR1, rd_rng2, rd_onR2, xEnumT, rd_onEt, rd_zip, rd_onZ1, rd_onZ2, rd_par, rd_onP, xPar3, rd_onP3, rd_gtup, rd_gnil, rd_gcons, rd_isi, noO_int, noO_bl, noO_str, noO_lst, noO_tup, noO_non, ini, iniB, wipeD, unw, kf, List.map_cons, List.map_nil, List.replicate_succ, List.replicate_zero, List.cons_append, List.nil_append, List.length_cons, List.length_nil, List.getElem?_cons_zero, List.getElem?_cons_succ, List.set_cons_zero, List.set_cons_succ, decide_eq_true_eq, Nat.zero_add, Nat.reduceAdd, Nat.reduceSub, Nat.reduceLeDiff, true_and, Bool.false_eq_true, if_false, if_true, isi_int_non, isi_int_bl, isi_int_int, isi_int_str, isi_int_lst, isi_int_tup, isi_bool_non, isi_bool_bl, isi_bool_int, isi_bool_str, isi_bool_lst, isi_bool_tup, isi_list_non, isi_list_bl, isi_list_int, isi_list_str, isi_list_lst, isi_list_tup, isi_tuple_non, isi_tuple_bl, isi_tuple_int, isi_tuple_str, isi_tuple_lst, isi_tuple_tup, isi_str_non, isi_str_bl, isi_str_int, isi_str_str, isi_str_lst, isi_str_tup, Bool.not_true, Bool.not_false, Bool.or_false, Bool.or_true, Bool.false_or, Bool.true_or, ite_true, ite_false, Option.some.injEq, true_or, false_or, or_false, and_true, xRaise, eqD_int, List.length_map, decide_eq_false h1]
            refine ⟨rfl, rfl, ?_⟩
            match ps, h1, hc with
            | [p], h, _ => simp at h
            | [], _, hc => cases hc; exact q
            | _ :: _ :: _, _, hc => cases hc; exact q
    | obj φ => cases no
    | dct ks es =>
      obtain ⟨n, sl⟩ := sl
      cases n <;> cases sl
    | _ =>
      simp only [xSeq, xSet, xRet, xIf, xExpr, xNext, xNever, xC, xNil, xCons, xTup, xLst, xOp, xEq, xNe, xUn, xNot, xAnd, xOr, xIfE, xCB, xCall, xCallB, xName, xAsg, xIsi3, toD_fz, toD_ow, toD_od, toD_bg, rd_var, rd_getv1, rd_getv2, rd_getv3, rd_test, rd_onB, rd_onI, rd_onSB, rd_andV, rd_orV, rd_notV, rd_chain, rd_II, rd_II0, rd_add1, rd_add2, rd_add3, rd_mul1, rd_mul2, rd_mul3, rd_isN, rd_notN, rd_isN1, rd_isN2, rd_isN3, rd_neg, rd_ix1, rd_ix2, rd_part, rd_sl, rd_onSl1, rd_onSl2, rd_rev, rd_onRv, rd_len1, rd_len2, rd_max2, rd_min2, rd_int1, rd_int2, rd_lst1, rd_lst2, rd_tup1, rd_tup2, rd_dm, rd_seqI, rd_onSq1, rd_onSq2, rd_rng1, rd_onR1, rd_rng2, rd_onR2, xEnumT, rd_onEt, rd_zip, rd_onZ1, rd_onZ2, rd_par, rd_onP, xPar3, rd_onP3, rd_gtup, rd_gnil, rd_gcons, rd_isi, noO_int, noO_bl, noO_str, noO_lst, noO_tup, noO_non, ini, iniB, wipeD, unw, kf, List.map_cons, List.map_nil, List.replicate_succ, List.replicate_zero, List.cons_append, List.nil_append, List.length_cons, List.length_nil, List.getElem?_cons_zero, List.getElem?_cons_succ, List.set_cons_zero, List.set_cons_succ, decide_eq_true_eq, Nat.zero_add, Nat.reduceAdd, Nat.reduceSub, Nat.reduceLeDiff, true_and, Bool.false_eq_true, if_false, if_true, isi_int_non, isi_int_bl, isi_int_int, isi_int_str, isi_int_lst, isi_int_tup, isi_bool_non, isi_bool_bl, isi_bool_int, isi_bool_str, isi_bool_lst, isi_bool_tup, isi_list_non, isi_list_bl, isi_list_int, isi_list_str, isi_list_lst, isi_list_tup, isi_tuple_non, isi_tuple_bl, isi_tuple_int, isi_tuple_str, isi_tuple_lst, isi_tuple_tup, isi_str_non, isi_str_bl, isi_str_int, isi_str_str, isi_str_lst, isi_str_tup, Bool.not_true, Bool.not_false, Bool.or_false, Bool.or_true, Bool.false_or, Bool.true_or, ite_true, ite_false, Option.some.injEq, true_or, false_or, or_false, and_true, xRaise]
      cases hc
      exact q

def dp__law_well : DP := fun ds Q _ => ∃ c t : Int, ds = [.int c, .int t] ∧ ∀ a b : Int, 0 ≤ a → 0 ≤ b → b < 2305843009213693951 → Q (.ow [.int a, .int b, .int t])

abbrev s__law_well : Stmt := topS 54
theorem sc__law_well : FnScope ["cell", "turn"] ["cell", "turn"] (defScope s__law_well) := ⟨rfl, rfl, rfl, by decide +kernel, rfl, by decide +kernel, by decide +kernel⟩
theorem ok__law_well {P : Program} {w : World} {K : PySem.W.Frag} {mg : Str → Option Value} {base : Heap} (B : Bt mg) (d : Df K mg "_law_well" s__law_well ["cell", "turn"])  : Fn P w K mg base "_law_well" (0 + 1) 2 dp__law_well := by
  refine fn_mk d sc__law_well rfl (by decide) fun f cdv A outer s H E C hr => ⟨_, _, (ds_cons (ds_if (dt_cmp o_ge (dv 0) (d_op o_pow d_int d_int)) (ds_one (ds_ret (d_lst (da_cons (d_op o_sub (dv 0) (d_op o_pow d_int d_int)) (da_cons (d_op o_mod (dv 0) d_int) (da_cons (dv 1) da_nil)))))) ds_nil)
      (ds_one (ds_ret (d_lst (da_cons d_int (da_cons (d_op o_mod (dv 0) d_int) (da_cons (dv 1) da_nil))))))), fun ds QD ED hl0 h => ?_⟩
  obtain ⟨a0, a1, rfl⟩ : ∃ a0 a1, ds = [a0, a1] := by
    match ds, hl0 with
    | [a0, a1], _ => exact ⟨a0, a1, rfl⟩
  clear hl0
  obtain ⟨c, t, e, q⟩ := h
  cases e
  have hb : 0 ≤ c % 2305843009213693951 := Int.emod_nonneg _ (by decide)
  have hb2 : c % 2305843009213693951 < 2305843009213693951 := Int.emod_lt_of_pos _ (by decide)
  simp only [xSeq, xSet, xRet, xIf, xExpr, xNext, xNever, xC, xNil, xCons, xTup, xLst, xOp, xEq, xNe, xUn, xNot, xAnd, xOr, xIfE, xCB, xCall, xCallB, xName, xAsg, xIsi3, toD_fz, toD_ow, toD_od, toD_bg, rd_var, rd_getv1, rd_getv2, rd_getv3, rd_test, rd_onB, rd_onI, rd_onSB, rd_andV, rd_orV, rd_notV, rd_chain, rd_II, rd_II0, rd_add1, rd_add2, rd_add3, rd_mul1, rd_mul2, rd_mul3, rd_isN, rd_notN, rd_isN1, rd_isN2, rd_isN3, rd_neg, rd_ix1, rd_ix2, rd_part, rd_sl, rd_onSl1, rd_onSl2, rd_rev, rd_onRv, rd_len1, rd_len2, rd_max2, rd_min2, rd_int1, rd_int2, rd_lst1, rd_lst2, rd_tup1, rd_tup2, rd_dm, rd_seqI, rd_onSq1, rd_onSq2, rd_rng1, rd_onR1, rd_rng2, rd_onR2, xEnumT, rd_onEt, rd_zip, rd_onZ1, rd_onZ2, rd_par, rd_onP, xPar3, rd_onP3, rd_gtup, rd_gnil, rd_gcons, rd_isi, noO_int, noO_bl, noO_str, noO_lst, noO_tup, noO_non, ini, iniB, wipeD, unw, kf, List.map_cons, List.map_nil, List.replicate_succ, List.replicate_zero, List.cons_append, List.nil_append, List.length_cons, List.length_nil, List.getElem?_cons_zero, List.getElem?_cons_succ, List.set_cons_zero, List.set_cons_succ, decide_eq_true_eq, Nat.zero_add, Nat.reduceAdd, Nat.reduceSub, Nat.reduceLeDiff, true_and, Bool.false_eq_true, if_false, if_true, isi_int_non, isi_int_bl, isi_int_int, isi_int_str, isi_int_lst, isi_int_tup, isi_bool_non, isi_bool_bl, isi_bool_int, isi_bool_str, isi_bool_lst, isi_bool_tup, isi_list_non, isi_list_bl, isi_list_int, isi_list_str, isi_list_lst, isi_list_tup, isi_tuple_non, isi_tuple_bl, isi_tuple_int, isi_tuple_str, isi_tuple_lst, isi_tuple_tup, isi_str_non, isi_str_bl, isi_str_int, isi_str_str, isi_str_lst, isi_str_tup, Bool.not_true, Bool.not_false, Bool.or_false, Bool.or_true, Bool.false_or, Bool.true_or, ite_true, ite_false, Option.some.injEq, true_or, false_or, or_false, and_true]
  refine ⟨cpw (by decide) (by decide) (by decide) (by decide), ?_⟩
  refine ite2 (fun h1 => ?_) (fun h1 => ?_)
  · refine ⟨cpw (by decide) (by decide) (by decide) (by decide), by decide, ?_⟩
    exact q _ _ (Int.sub_nonneg_of_le h1) hb hb2
  · exact ⟨by decide, q _ _ (by decide) hb hb2⟩

def dp__law_take : DB := fun bd ds Q => ∃ (m : Nat) (many : Int), bagOK m bd ∧ m ≤ 1000000 ∧ ds = [.int many] ∧ 1 ≤ many ∧ many ≤ 1000000000000000001 ∧ ∀ (r : Int) (bd' : List D), 0 ≤ r → r < many → bagOK (m + 1) bd' → Q (.fz (.int r)) bd'

abbrev s__law_take : Stmt := topS 55
theorem sc__law_take : FnScope ["bag", "many", "found", "p", "n"] ["bag", "many"] (defScope s__law_take) := ⟨rfl, rfl, rfl, by decide +kernel, rfl, by decide +kernel, by decide +kernel⟩
theorem ok__law_take {P : Program} {w : World} {K : PySem.W.Frag} {mg : Str → Option Value} {base : Heap} (B : Bt mg) (d : Df K mg "_law_take" s__law_take ["bag", "many"])  : FnB P w K mg base "_law_take" (0 + 1) 1 dp__law_take := by
  refine fn_mkB d sc__law_take rfl (by decide) fun f cdv A outer s H E C hr => ⟨_, _, (ds_cons (ds_if (dt_cmp o_gt (d_ixOK K 0 d_int) d_int) (ds_cons (ds_set 2 sc__law_take.nd (d_op o_mod (d_ixOK K 0 d_int) (dv 1)))
      (ds_cons (ds_store 0 (d_op o_div (d_ixOK K 0 d_int) (dv 1)) d_int)
      (ds_one (ds_ret (dv 2))))) ds_nil)
      (ds_cons (ds_store 0 (d_op (o_addK K) (d_ixOK K 0 d_int) d_int) d_int)
      (ds_cons (ds_set 3 sc__law_take.nd d_int)
      (ds_cons (ds_set 4 sc__law_take.nd (d_op o_mod (d_op (o_addK K) (d_ixOK K 0 d_int) (d_op (o_mulK K) d_int (d_ixOK K 0 d_int))) (dv 3)))
      (ds_cons (ds_set 4 sc__law_take.nd (d_op o_mod (d_op (o_addK K) (d_op (o_addK K) (d_op (o_mulK K) (dv 4) (dv 4)) (d_op (o_mulK K) d_int (d_op o_pow (d_ixOK K 0 d_int) d_int))) d_int) (dv 3)))
      (ds_one (ds_ret (d_op o_mod (d_op o_div (d_op o_mod (d_op o_pow (dv 4) d_int) (dv 3)) d_int) (dv 1))))))))), fun bd ds QD hl0 h => ?_⟩
  obtain ⟨a0, rfl⟩ : ∃ a0, ds = [a0] := by
    match ds, hl0 with
    | [a0], _ => exact ⟨a0, rfl⟩
  clear hl0
  obtain ⟨m, many, ⟨a, b, c, rfl, ha, hb, hb2, hc, hc2⟩, hm, e, h1, h2, q⟩ := h
  cases e
  simp only [xSeq, xSet, xRet, xIf, xExpr, xNext, xNever, xC, xNil, xCons, xTup, xLst, xOp, xEq, xNe, xUn, xNot, xAnd, xOr, xIfE, xCB, xCall, xCallB, xName, xAsg, xIsi3, toD_fz, toD_ow, toD_od, toD_bg, rd_var, rd_getv1, rd_getv2, rd_getv3, rd_test, rd_onB, rd_onI, rd_onSB, rd_andV, rd_orV, rd_notV, rd_chain, rd_II, rd_II0, rd_add1, rd_add2, rd_add3, rd_mul1, rd_mul2, rd_mul3, rd_isN, rd_notN, rd_isN1, rd_isN2, rd_isN3, rd_neg, rd_ix1, rd_ix2, rd_part, rd_sl, rd_onSl1, rd_onSl2, rd_rev, rd_onRv, rd_len1, rd_len2, rd_max2, rd_min2, rd_int1, rd_int2, rd_lst1, rd_lst2, rd_tup1, rd_tup2, rd_dm, rd_seqI, rd_onSq1, rd_onSq2, rd_rng1, rd_onR1, rd_rng2, rd_onR2, xEnumT, rd_onEt, rd_zip, rd_onZ1, rd_onZ2, rd_par, rd_onP, xPar3, rd_onP3, rd_gtup, rd_gnil, rd_gcons, rd_isi, noO_int, noO_bl, noO_str, noO_lst, noO_tup, noO_non, ini, iniB, wipeD, unw, kf, List.map_cons, List.map_nil, List.replicate_succ, List.replicate_zero, List.cons_append, List.nil_append, List.length_cons, List.length_nil, List.getElem?_cons_zero, List.getElem?_cons_succ, List.set_cons_zero, List.set_cons_succ, decide_eq_true_eq, Nat.zero_add, Nat.reduceAdd, Nat.reduceSub, Nat.reduceLeDiff, true_and, Bool.false_eq_true, if_false, if_true, isi_int_non, isi_int_bl, isi_int_int, isi_int_str, isi_int_lst, isi_int_tup, isi_bool_non, isi_bool_bl, isi_bool_int, isi_bool_str, isi_bool_lst, isi_bool_tup, isi_list_non, isi_list_bl, isi_list_int, isi_list_str, isi_list_lst, isi_list_tup, isi_tuple_non, isi_tuple_bl, isi_tuple_int, isi_tuple_str, isi_tuple_lst, isi_tuple_tup, isi_str_non, isi_str_bl, isi_str_int, isi_str_str, isi_str_lst, isi_str_tup, Bool.not_true, Bool.not_false, Bool.or_false, Bool.or_true, Bool.false_or, Bool.true_or, ite_true, ite_false, Option.some.injEq, true_or, false_or, or_false, and_true, rd_isOwn, rd_own1, rd_own2, rd_own3, rd_ixO, rd_onIx1, rd_onIx2, rd_store, rd_onStore1, rd_onStore2, ex_eq, xApp, xDput, S.ow.injEq, S.bg.injEq, S.od.injEq, reduceCtorEq, exists_eq_left', exists_eq_left, exists_eq', D.int.injEq, atI_c0, atI_c1, atI_c2, ixN3_0, ixN3_1, ixN3_2, false_and, and_self]
  have n0 : ∀ x : Int, 0 ≤ x % 2305843009213693951 := fun x => Int.emod_nonneg _ (by decide)
  have n1 : ∀ x : Int, x % 2305843009213693951 < 2305843009213693951 := fun x => Int.emod_lt_of_pos _ (by decide)
  refine ite2 (fun h3 => ?_) (fun h3 => ?_)
  · exact ⟨by omega, cdW (by omega) (by omega), q _ _ (Int.emod_nonneg _ (by omega)) (Int.emod_lt_of_pos _ (by omega)) ⟨_, b, c, rfl, Int.ediv_nonneg ha (by omega), hb, hb2, hc, by omega⟩⟩
  · have sq : (c + 1) ^ Int.toNat 2 = (c + 1) * (c + 1) := by
      show (c + 1) ^ 2 = _
      rw [Int.pow_succ, Int.pow_succ, Int.pow_zero, Int.one_mul]
    have hsq : (c + 1) * (c + 1) ≤ 2000000 * 2000000 := Int.mul_le_mul (by omega) (by omega) (by omega) (by omega)
    have hsq0 : 0 ≤ (c + 1) * (c + 1) := Int.mul_nonneg (by omega) (by omega)
    generalize hn : (b + 1000003 * (c + 1)) % 2305843009213693951 = n
    have g0 : 0 ≤ n := by rw [← hn]; exact n0 _
    have g1 : n < 2305843009213693951 := by rw [← hn]; exact n1 _
    generalize hn2 : (n * n + 7919 * (c + 1) ^ Int.toNat 2 + 5) % 2305843009213693951 = k
    have k0 : 0 ≤ k := by rw [← hn2]; exact n0 _
    have k1 : k < 2305843009213693951 := by rw [← hn2]; exact n1 _
    refine ⟨cm64 (by decide) (by decide) (by omega) (by omega), by decide, cm64 (by omega) (by omega) (by omega) (by omega), cpw (by decide) (by decide) (by omega) (by omega), ?_, by decide,
      cpw (by decide) (by decide) (by omega) (by omega), by decide, cdW (by decide) (by decide), by omega, ?_⟩
    · rw [sq]
      exact cm64 (by decide) (by decide) (by omega) (by omega)
    · exact q _ _ (Int.emod_nonneg _ (by omega)) (Int.emod_lt_of_pos _ (by omega)) ⟨a, b, c + 1, rfl, ha, hb, hb2, by omega, by omega⟩

def spBags (K : PySem.W.Frag) : Sp := fun vs H Q _ => ∃ (a : Addr) (ns : List Int) (most : Int), vs = [.ref a, .int most] ∧ SqL K H a (ns.map V.int) ∧ ns.length ≤ 63 ∧ 0 ≤ most ∧ most ≤ 100 ∧
  ∀ (p : Addr) (H' : Hp) (bs : List Addr), Same H H' → H p = none → H' p = some (.lst (bs.map V.ref)) → bs.length ≤ 64 → bs.Nodup → (∀ b ∈ bs, H b = none ∧ b ≠ p ∧ ∃ bd, bagOK 0 bd ∧ ∃ vs, H' b = some (.lst vs) ∧ ∀ G, Dats G bd vs) → Q (.ref p) H'

abbrev s__law_bags : Stmt := topS 56
theorem sc__law_bags : FnScope ["script", "most", "k", "cell"] ["script", "most"] (defScope s__law_bags) := ⟨rfl, rfl, rfl, by decide +kernel, rfl, by decide +kernel, by decide +kernel⟩

theorem ok__law_bags {P : Program} {w : World} {K : PySem.W.Frag} {mg : Str → Option Value} {base : Heap} (B : Bt mg) (h__law_well : Fn P w K mg base "_law_well" 1 2 dp__law_well) {f : Addr} {fd : FuncData} (F : Fun K "_law_bags" "_law_bags" s__law_bags f fd) : FnOk P w K mg base CX0 2 f fd ["script", "most"] (spBags K) := by
  refine F.ok sc__law_bags (fun vs H Q E h => ?_) (fun cdv A outer s H vs Q E hr h => ?_)
  · obtain ⟨a, ns, most, rfl, _⟩ := h
    rfl
  · obtain ⟨a, ns, most, rfl, hS, hl, m0, m1, q⟩ := h
    refine ⟨_, PSsV.pe (C := ⟨H, H, none, []⟩) (ds_one (ds_ret (d_lc [("k", 2), ("cell", 3)] rfl sc__law_bags.nd (di_enumL K (by rfl) B.enumerate (da_cons (d_op (o_addK K) (d_slK K (dv 0) do_none (do_some (dv 1))) (d_lst (da_cons d_int da_nil))) da_nil)) (blkOk_by (by show blkC ["script", "most", "k", "cell"] (defScope s__law_bags) _ [("k", 2), ("cell", 3)] = true; decide +kernel)) (fun _ _ _ _ _ _ => (dg_tupK K (n := 2) rfl (dgs_cons (dg_name 2 sc__law_bags.nd) (dgs_cons (dg_name 3 sc__law_bags.nd) dgs_nil)))) (fun _ _ _ _ _ _ => dts_nil) (fun _ _ _ _ _ _ => (d_fnK h__law_well (hr.mono (by decide)) (da_cons (dv 3) (da_cons (d_op (o_mulK K) d_int (dv 2)) da_nil))))))), ?_⟩
    refine ⟨.ref a, rfl, .int most, rfl, most, rfl, .inl ⟨a, _, rfl, hS, fun c nc => ?_⟩⟩
    have hcut : cutV (ns.map V.int) none (some most) = (ns.take most.toNat).map V.int := by
      have e : cutV (ns.map V.int) none (some most) = (ns.map V.int).take most.toNat := by
        unfold cutV
        obtain ⟨n, rfl⟩ : ∃ n : Nat, most = (n : Int) := ⟨most.toNat, by omega⟩
        rw [HT.sIx_none, HT.sIx_nat, List.drop_zero, Nat.sub_zero, Int.toNat_natCast]
        by_cases hn : n ≤ (ns.map V.int).length
        · rw [Nat.min_eq_left hn]
        · rw [Nat.min_eq_right (by omega), List.take_of_length_le (Nat.le_refl _), List.take_of_length_le (by omega)]
      rw [e, List.map_take]
    rw [hcut]
    have s1 : Same H (upd H c (.lst ((ns.take most.toNat).map V.int))) := L3.Same.new nc
    refine ⟨by decide, fun z nz => ?_⟩
    have s2 : Same (upd H c (.lst ((ns.take most.toNat).map V.int))) (upd (upd H c (.lst ((ns.take most.toNat).map V.int))) z (.lst [.int 0])) := L3.Same.new nz
    refine .inr (.inl ⟨c, z, _, _, rfl, rfl, s2 _ _ upd_same, upd_same, ?_, fun l nl => ?_⟩)
    · simp only [List.length_map, List.length_take, List.length_cons, List.length_nil]
      exact Nat.le_trans (show _ ≤ 100000 by omega) (by decide)
    generalize hH3 : upd (upd H c (.lst ((ns.take most.toNat).map V.int))) z (.lst [.int 0]) = H3 at nl
    have s3 : Same H H3 := by rw [← hH3]; exact s1.trans s2
    obtain ⟨ms, hms⟩ : ∃ ms : List Int, ms = ns.take most.toNat ++ [0] := ⟨_, rfl⟩
    have hms1 : (ns.take most.toNat).map V.int ++ [V.int 0] = ms.map V.int := by rw [hms]; simp
    have hmsl : ms.length ≤ 64 := by
      rw [hms]
      simp only [List.length_append, List.length_take, List.length_cons, List.length_nil]
      omega
    rw [hms1]
    have s4 : Same H3 (upd H3 l (.lst (ms.map V.int))) := L3.Same.new nl
    refine ⟨l, _, rfl, .inl (.inl upd_same), fun Dl nD => ?_⟩
    generalize hH4 : upd H3 l (.lst (ms.map V.int)) = H4 at nD s4
    have hl4 : H4 l = some (.lst (ms.map V.int)) := by rw [← hH4]; exact upd_same
    have nDl : l ≠ Dl := ne_of_none hl4 nD
    refine ⟨fun i m H' => m = ms.length - i ∧ i ≤ ms.length ∧ ∃ bs : List Addr, bs.length = i ∧ Same H4 H' ∧ H' Dl = some (.lst (bs.map V.ref)) ∧ bs.Nodup ∧ ∀ b ∈ bs, H4 b = none ∧ b ≠ Dl ∧ ∃ bd, bagOK 0 bd ∧ ∃ vs, H' b = some (.lst vs) ∧ ∀ G, Dats G bd vs,
      ⟨_, rfl, Nat.zero_le _, [], rfl, L3.Same.new nD, upd_same, List.nodup_nil, fun b hb => by cases hb⟩, ?_⟩
    rintro i m H' ⟨rfl, hi', bs, hbl, sH, hD, nd, hbs⟩
    have hl' : SqL K H' l (ms.map V.int) := .inl (.inl (sH _ _ hl4))
    by_cases hlt : i < ms.length
    · have g1 : (ms.map V.int)[i]? = some (.int ms[i]) := by rw [List.getElem?_map, List.getElem?_eq_getElem hlt]; rfl
      refine .inr ⟨⟨_, _, hl', g1⟩, fun H' => ∃ bs : List Addr, bs.length = i + 1 ∧ Same H4 H' ∧ H' Dl = some (.lst (bs.map V.ref)) ∧ bs.Nodup ∧ ∀ b ∈ bs, H4 b = none ∧ b ≠ Dl ∧ ∃ bd, bagOK 0 bd ∧ ∃ vs, H' b = some (.lst vs) ∧ ∀ G, Dats G bd vs,
        fun H2 hN => ⟨ms.length - (i + 1), by omega, rfl, hlt, hN⟩, fun x H2 hy => ?_⟩
      obtain ⟨T, x1, rfl, nT, rfl, f1⟩ := hy
      have ex : x1 = .int ms[i] := Option.some.inj ((f1 _ hl').symm.trans g1)
      subst ex
      have sT : Same H' (upd H' T (.tup [.int (i : Nat), .int ms[i]])) := L3.Same.new nT
      refine ⟨T, _, rfl, .inl (.inl upd_same), rfl, _, _, rfl, _, _, rfl, rfl, rfl, ?_⟩
      refine ⟨_, rfl, .int (i : Nat), rfl, .inl ⟨977, (i : Nat), rfl, rfl, cm64 (by decide) (by decide) (by omega) (by omega), ?_⟩⟩
      refine ⟨fun _ => none, [.int ms[i], .int (977 * (i : Nat))], fun s => ∃ a b : Int, s = .ow [.int a, .int b, .int (977 * (i : Nat))] ∧ 0 ≤ a ∧ 0 ≤ b ∧ b < 2305843009213693951, fun _ => False, fun _ _ e => (by cases e), fun _ _ e => (by cases e), ⟨_, _, rfl, rfl, _, _, rfl, rfl, rfl⟩, rfl,
        ⟨_, _, rfl, fun a b h1 h2 h3 => ⟨a, b, rfl, h1, h2, h3⟩⟩, fun v sv G' H5 hs P => ?_, fun _ _ _ h _ _ => h.elim⟩
      obtain ⟨av, bv, rfl, a0, b0, b1⟩ := hs
      obtain ⟨p, rfl, ⟨vs, hp, hdv⟩, _, np, _⟩ := P.ret
      have s5 := P.h
      obtain ⟨v1, r1, rfl, e1, v2, r2, rfl, e2, v3, r3, rfl, e3, e4⟩ := hdv
      cases (show v1 = _ from e1)
      cases (show v2 = _ from e2)
      cases (show v3 = _ from e3)
      cases (show r3 = _ from e4)
      have hD5 : H5 Dl = some (.lst (bs.map V.ref)) := s5 _ _ (sT _ _ hD)
      have npD : p ≠ Dl := fun z => by
        subst z
        rw [sT _ _ hD] at np
        cases np
      have np4 : H4 p = none := sH.free (sT.free np)
      refine ⟨_, hD5, ?_, bs ++ [p], by simp [hbl], fun b o e => ?_, ?_, ?_, fun b hb => ?_⟩
      · rw [List.length_map, hbl]
        exact Nat.lt_of_lt_of_le (show i < 100000 by omega) (by decide)
      · rw [upd_ne (ne_of_none e nD)]
        exact s5 _ _ (sT _ _ (sH _ _ e))
      · rw [upd_same, List.map_append]
        rfl
      · refine List.nodup_append.mpr ⟨nd, by simp, fun b hb c hc => ?_⟩
        simp only [List.mem_singleton] at hc
        subst hc
        obtain ⟨_, _, _, _, vs, hv, _⟩ := hbs b hb
        intro z
        subst z
        rw [sT _ _ hv] at np
        cases np
      · rcases List.mem_append.mp hb with hb | hb
        · obtain ⟨n4, nbD, bd, ok, vs, hv, hd⟩ := hbs b hb
          exact ⟨n4, nbD, bd, ok, vs, by rw [upd_ne nbD]; exact s5 _ _ (sT _ _ hv), hd⟩
        · simp only [List.mem_singleton] at hb
          subst hb
          exact ⟨np4, npD, [.int av, .int bv, .int (977 * (i : Nat))], ⟨av, bv, 977 * (i : Nat), rfl, a0, b0, b1, by omega, by omega⟩, _, by rw [upd_ne npD]; exact hp, fun G => ⟨_, _, rfl, rfl, _, _, rfl, rfl, _, _, rfl, rfl, rfl⟩⟩
    · refine .inl ⟨⟨_, hl', by rw [List.length_map]; omega⟩, ?_⟩
      refine q Dl H' bs ((s3.trans s4).trans sH) (s3.free (s4.free nD)) hD (by omega) nd fun b hb => ?_
      obtain ⟨n4, nbD, bd, ok, vs, hv, hd⟩ := hbs b hb
      exact ⟨s3.free (s4.free n4), nbD, bd, ok, vs, hv, hd⟩

def dp__law_same : DP := fun ds Q _ => ∃ b : Bool, ds = [.bl b, .bl b] ∧ Q (.fz (.bl true))
theorem eqD_bl (b : Bool) : eqD (.bl b) (.bl b) = true := by simp [eqD, toP, PyData.eqv]

abbrev s__law_same : Stmt := topS 57
theorem sc__law_same : FnScope ["a", "b", "x", "y"] ["a", "b"] (defScope s__law_same) := ⟨rfl, rfl, rfl, by decide +kernel, rfl, by decide +kernel, by decide +kernel⟩

theorem ok__law_same {P : Program} {w : World} {K : PySem.W.Frag} {mg : Str → Option Value} {base : Heap} (B : Bt mg) (d : Df K mg "_law_same" s__law_same ["a", "b"]) : Fn P w K mg base "_law_same" 1 2 dp__law_same := by
  have h__law_same := fn_void (P := P) (w := w) (base := base) 2 d rfl
  refine fn_mk d sc__law_same rfl (by decide) fun f cdv A outer s H E C hr => ⟨_, _, (ds_cons (ds_if (PWV.pt (dw_or (PWV.pt (dw_and (dt_val (d_isi_list (by rfl) B.isinstance B.list (dv 0))) (dw_and1 (dt_val (d_isi_list (by rfl) B.isinstance B.list (dv 1)))))) (dw_or1 (PWV.pt (dw_and (dt_val (d_isi_tuple (by rfl) B.isinstance B.tuple (dv 0))) (dw_and1 (dt_val (d_isi_tuple (by rfl) B.isinstance B.tuple (dv 1))))))))) (ds_one (ds_ret (d_and (d_cmp (o_eqK K hr.units) (d_callB (c_lenK K) (by rfl) B.len PySem.boot_len (da_cons (dv 0) da_nil)) (d_callB (c_lenK K) (by rfl) B.len PySem.boot_len (da_cons (dv 1) da_nil))) (d_one (d_callB (c_allK K rfl) (by rfl) B.all (by decide +kernel) (da_cons (d_lc [("x", 2), ("y", 3)] rfl sc__law_same.nd (di_zipK K (by rfl) B.zip (da_cons (dv 0) (da_cons (dv 1) da_nil))) (blkOk_by (by show blkC ["a", "b", "x", "y"] (defScope s__law_same) _ [("x", 2), ("y", 3)] = true; decide +kernel)) (fun _ _ _ _ _ _ => (dg_tupK K (n := 2) rfl (dgs_cons (dg_name 2 sc__law_same.nd) (dgs_cons (dg_name 3 sc__law_same.nd) dgs_nil)))) (fun _ _ _ _ _ _ => dts_nil) (fun _ _ _ _ _ _ => (d_fnK h__law_same hr (da_cons (dv 2) (da_cons (dv 3) da_nil))))) da_nil)))))) ds_nil)
      (ds_cons (ds_if (PWV.pt (dw_or (dt_val (d_isi_bool_list_tuple (by rfl) B.isinstance B.bool B.list B.tuple (dv 0))) (dw_or1 (dt_val (d_isi_bool_list_tuple (by rfl) B.isinstance B.bool B.list B.tuple (dv 1)))))) (ds_one (ds_ret (d_and (d_isi_bool (by rfl) B.isinstance B.bool (dv 0)) (d_and (d_isi_bool (by rfl) B.isinstance B.bool (dv 1)) (d_one (d_cmp (o_eqK K hr.units) (dv 0) (dv 1))))))) ds_nil)
      (ds_cons (ds_if (PWV.pt (dw_or (dt_val (d_isi_int (by rfl) B.isinstance B.int (dv 0))) (dw_or1 (dt_val (d_isi_int (by rfl) B.isinstance B.int (dv 1)))))) (ds_one (ds_ret (d_and (d_isi_int (by rfl) B.isinstance B.int (dv 0)) (d_and (d_isi_int (by rfl) B.isinstance B.int (dv 1)) (d_one (d_cmp (o_eqK K hr.units) (dv 0) (dv 1))))))) ds_nil)
      (ds_cons (ds_if (PWV.pt (dw_or (dt_val (d_isi_str (by rfl) B.isinstance B.str (dv 0))) (dw_or1 (dt_val (d_isi_str (by rfl) B.isinstance B.str (dv 1)))))) (ds_one (ds_ret (d_and (d_isi_str (by rfl) B.isinstance B.str (dv 0)) (d_and (d_isi_str (by rfl) B.isinstance B.str (dv 1)) (d_one (d_cmp (o_eqK K hr.units) (dv 0) (dv 1))))))) ds_nil)
      (ds_one (ds_ret (d_and (d_cmp o_isN (dv 0) d_non) (d_one (d_cmp o_isN (dv 1) d_non))))))))), fun ds QD ED hl0 h => ?_⟩
  obtain ⟨b, rfl, q⟩ := h
  simp only [xSeq, xSet, xRet, xIf, xExpr, xNext, xNever, xC, xNil, xCons, xTup, xLst, xOp, xEq, xNe, xUn, xNot, xAnd, xOr, xIfE, xCB, xCall, xCallB, xName, xAsg, xIsi3, toD_fz, toD_ow, toD_od, toD_bg, rd_var, rd_getv1, rd_getv2, rd_getv3, rd_test, rd_onB, rd_onI, rd_onSB, rd_andV, rd_orV, rd_notV, rd_chain, rd_II, rd_II0, rd_add1, rd_add2, rd_add3, rd_mul1, rd_mul2, rd_mul3, rd_isN, rd_notN, rd_isN1, rd_isN2, rd_isN3, rd_neg, rd_ix1, rd_ix2, rd_part, rd_sl, rd_onSl1, rd_onSl2, rd_rev, rd_onRv, rd_len1, rd_len2, rd_max2, rd_min2, rd_int1, rd_int2, rd_lst1, rd_lst2, rd_tup1, rd_tup2, rd_dm, rd_seqI, rd_onSq1, rd_onSq2, rd_rng1, rd_onR1, rd_rng2, rd_onR2, xEnumT, rd_onEt, rd_zip, rd_onZ1, rd_onZ2, rd_par, rd_onP, xPar3, rd_onP3, rd_gtup, rd_gnil, rd_gcons, rd_isi, noO_int, noO_bl, noO_str, noO_lst, noO_tup, noO_non, ini, iniB, wipeD, unw, kf, List.map_cons, List.map_nil, List.replicate_succ, List.replicate_zero, List.cons_append, List.nil_append, List.length_cons, List.length_nil, List.getElem?_cons_zero, List.getElem?_cons_succ, List.set_cons_zero, List.set_cons_succ, decide_eq_true_eq, Nat.zero_add, Nat.reduceAdd, Nat.reduceSub, Nat.reduceLeDiff, true_and, Bool.false_eq_true, if_false, if_true, isi_int_non, isi_int_bl, isi_int_int, isi_int_str, isi_int_lst, isi_int_tup, isi_bool_non, isi_bool_bl, isi_bool_int, isi_bool_str, isi_bool_lst, isi_bool_tup, isi_list_non, isi_list_bl, isi_list_int, isi_list_str, isi_list_lst, isi_list_tup, isi_tuple_non, isi_tuple_bl, isi_tuple_int, isi_tuple_str, isi_tuple_lst, isi_tuple_tup, isi_str_non, isi_str_bl, isi_str_int, isi_str_str, isi_str_lst, isi_str_tup, Bool.not_true, Bool.not_false, Bool.or_false, Bool.or_true, Bool.false_or, Bool.true_or, ite_true, ite_false, Option.some.injEq, true_or, false_or, or_false, and_true, eqD_bl]
  exact ⟨rfl, rfl, q⟩

def dp__law_in : DP := fun ds Q _ => ∃ d lo hi, ds = [d, .int lo, .int hi] ∧ noO d = true ∧ Q (.fz (.bl (inR d lo hi)))

abbrev s__law_in : Stmt := topS 58
theorem sc__law_in : FnScope ["x", "low", "high"] ["x", "low", "high"] (defScope s__law_in) := ⟨rfl, rfl, rfl, by decide +kernel, rfl, by decide +kernel, by decide +kernel⟩
theorem ok__law_in {P : Program} {w : World} {K : PySem.W.Frag} {mg : Str → Option Value} {base : Heap} (B : Bt mg) (d : Df K mg "_law_in" s__law_in ["x", "low", "high"])  : Fn P w K mg base "_law_in" (0 + 1) 3 dp__law_in := by
  refine fn_mk d sc__law_in rfl (by decide) fun f cdv A outer s H E C hr => ⟨_, _, (ds_one (ds_ret (d_and (d_isi_int (by rfl) B.isinstance B.int (dv 0)) (d_and (d_not (d_isi_bool (by rfl) B.isinstance B.bool (dv 0))) (d_one (d_chain o_le o_le (dv 1) (dv 0) (dv 2))))))), fun ds QD ED hl0 h => ?_⟩
  obtain ⟨a0, a1, a2, rfl⟩ : ∃ a0 a1 a2, ds = [a0, a1, a2] := by
    match ds, hl0 with
    | [a0, a1, a2], _ => exact ⟨a0, a1, a2, rfl⟩
  clear hl0
  obtain ⟨d, lo, hi, e, no, q⟩ := h
  cases e
  cases a0 with
  | int i =>
    simp only [xSeq, xSet, xRet, xIf, xExpr, xNext, xNever, xC, xNil, xCons, xTup, xLst, xOp, xEq, xNe, xUn, xNot, xAnd, xOr, xIfE, xCB, xCall, xCallB, xName, xAsg, xIsi3, toD_fz, toD_ow, toD_od, toD_bg, rd_var, rd_getv1, rd_getv2, rd_getv3, rd_test, rd_onB, rd_onI, rd_onSB, rd_andV, rd_orV, rd_notV, rd_chain, rd_II, rd_II0, rd_add1, rd_add2, rd_add3, rd_mul1, rd_mul2, rd_mul3, rd_isN, rd_notN, rd_isN1, rd_isN2, rd_isN3, rd_neg, rd_ix1, rd_ix2, rd_part, rd_sl, rd_onSl1, rd_onSl2, rd_rev, rd_onRv, rd_len1, rd_len2, rd_max2, rd_min2, rd_int1, rd_int2, rd_lst1, rd_lst2, rd_tup1, rd_tup2, rd_dm, rd_seqI, rd_onSq1, rd_onSq2, rd_rng1, rd_onR1, rd_rng2, rd_onR2, xEnumT, rd_onEt, rd_zip, rd_onZ1, rd_onZ2, rd_par, rd_onP, xPar3, rd_onP3, rd_gtup, rd_gnil, rd_gcons, rd_isi, noO_int, noO_bl, noO_str, noO_lst, noO_tup, noO_non, ini, iniB, wipeD, unw, kf, List.map_cons, List.map_nil, List.replicate_succ, List.replicate_zero, List.cons_append, List.nil_append, List.length_cons, List.length_nil, List.getElem?_cons_zero, List.getElem?_cons_succ, List.set_cons_zero, List.set_cons_succ, decide_eq_true_eq, Nat.zero_add, Nat.reduceAdd, Nat.reduceSub, Nat.reduceLeDiff, true_and, Bool.false_eq_true, if_false, if_true, isi_int_non, isi_int_bl, isi_int_int, isi_int_str, isi_int_lst, isi_int_tup, isi_bool_non, isi_bool_bl, isi_bool_int, isi_bool_str, isi_bool_lst, isi_bool_tup, isi_list_non, isi_list_bl, isi_list_int, isi_list_str, isi_list_lst, isi_list_tup, isi_tuple_non, isi_tuple_bl, isi_tuple_int, isi_tuple_str, isi_tuple_lst, isi_tuple_tup, isi_str_non, isi_str_bl, isi_str_int, isi_str_str, isi_str_lst, isi_str_tup, Bool.not_true, Bool.not_false, Bool.or_false, Bool.or_true, Bool.false_or, Bool.true_or, ite_true, ite_false, Option.some.injEq, true_or, false_or, or_false, and_true]
    by_cases h1 : lo ≤ i
    · simpa [inR, h1] using q
    · simpa [inR, h1] using q
  | obj φ => cases no
  | dct ks ds =>
    simp only [xSeq, xSet, xRet, xIf, xExpr, xNext, xNever, xC, xNil, xCons, xTup, xLst, xOp, xEq, xNe, xUn, xNot, xAnd, xOr, xIfE, xCB, xCall, xCallB, xName, xAsg, xIsi3, toD_fz, toD_ow, toD_od, toD_bg, rd_var, rd_getv1, rd_getv2, rd_getv3, rd_test, rd_onB, rd_onI, rd_onSB, rd_andV, rd_orV, rd_notV, rd_chain, rd_II, rd_II0, rd_add1, rd_add2, rd_add3, rd_mul1, rd_mul2, rd_mul3, rd_isN, rd_notN, rd_isN1, rd_isN2, rd_isN3, rd_neg, rd_ix1, rd_ix2, rd_part, rd_sl, rd_onSl1, rd_onSl2, rd_rev, rd_onRv, rd_len1, rd_len2, rd_max2, rd_min2, rd_int1, rd_int2, rd_lst1, rd_lst2, rd_tup1, rd_tup2, rd_dm, rd_seqI, rd_onSq1, rd_onSq2, rd_rng1, rd_onR1, rd_rng2, rd_onR2, xEnumT, rd_onEt, rd_zip, rd_onZ1, rd_onZ2, rd_par, rd_onP, xPar3, rd_onP3, rd_gtup, rd_gnil, rd_gcons, rd_isi, noO_int, noO_bl, noO_str, noO_lst, noO_tup, noO_non, ini, iniB, wipeD, unw, kf, List.map_cons, List.map_nil, List.replicate_succ, List.replicate_zero, List.cons_append, List.nil_append, List.length_cons, List.length_nil, List.getElem?_cons_zero, List.getElem?_cons_succ, List.set_cons_zero, List.set_cons_succ, decide_eq_true_eq, Nat.zero_add, Nat.reduceAdd, Nat.reduceSub, Nat.reduceLeDiff, true_and, Bool.false_eq_true, if_false, if_true, isi_int_non, isi_int_bl, isi_int_int, isi_int_str, isi_int_lst, isi_int_tup, isi_bool_non, isi_bool_bl, isi_bool_int, isi_bool_str, isi_bool_lst, isi_bool_tup, isi_list_non, isi_list_bl, isi_list_int, isi_list_str, isi_list_lst, isi_list_tup, isi_tuple_non, isi_tuple_bl, isi_tuple_int, isi_tuple_str, isi_tuple_lst, isi_tuple_tup, isi_str_non, isi_str_bl, isi_str_int, isi_str_str, isi_str_lst, isi_str_tup, Bool.not_true, Bool.not_false, Bool.or_false, Bool.or_true, Bool.false_or, Bool.true_or, ite_true, ite_false, Option.some.injEq, true_or, false_or, or_false, and_true, noO]
    simp [isiD, isiN, tyN]
    exact q
  | _ =>
    simp only [xSeq, xSet, xRet, xIf, xExpr, xNext, xNever, xC, xNil, xCons, xTup, xLst, xOp, xEq, xNe, xUn, xNot, xAnd, xOr, xIfE, xCB, xCall, xCallB, xName, xAsg, xIsi3, toD_fz, toD_ow, toD_od, toD_bg, rd_var, rd_getv1, rd_getv2, rd_getv3, rd_test, rd_onB, rd_onI, rd_onSB, rd_andV, rd_orV, rd_notV, rd_chain, rd_II, rd_II0, rd_add1, rd_add2, rd_add3, rd_mul1, rd_mul2, rd_mul3, rd_isN, rd_notN, rd_isN1, rd_isN2, rd_isN3, rd_neg, rd_ix1, rd_ix2, rd_part, rd_sl, rd_onSl1, rd_onSl2, rd_rev, rd_onRv, rd_len1, rd_len2, rd_max2, rd_min2, rd_int1, rd_int2, rd_lst1, rd_lst2, rd_tup1, rd_tup2, rd_dm, rd_seqI, rd_onSq1, rd_onSq2, rd_rng1, rd_onR1, rd_rng2, rd_onR2, xEnumT, rd_onEt, rd_zip, rd_onZ1, rd_onZ2, rd_par, rd_onP, xPar3, rd_onP3, rd_gtup, rd_gnil, rd_gcons, rd_isi, noO_int, noO_bl, noO_str, noO_lst, noO_tup, noO_non, ini, iniB, wipeD, unw, kf, List.map_cons, List.map_nil, List.replicate_succ, List.replicate_zero, List.cons_append, List.nil_append, List.length_cons, List.length_nil, List.getElem?_cons_zero, List.getElem?_cons_succ, List.set_cons_zero, List.set_cons_succ, decide_eq_true_eq, Nat.zero_add, Nat.reduceAdd, Nat.reduceSub, Nat.reduceLeDiff, true_and, Bool.false_eq_true, if_false, if_true, isi_int_non, isi_int_bl, isi_int_int, isi_int_str, isi_int_lst, isi_int_tup, isi_bool_non, isi_bool_bl, isi_bool_int, isi_bool_str, isi_bool_lst, isi_bool_tup, isi_list_non, isi_list_bl, isi_list_int, isi_list_str, isi_list_lst, isi_list_tup, isi_tuple_non, isi_tuple_bl, isi_tuple_int, isi_tuple_str, isi_tuple_lst, isi_tuple_tup, isi_str_non, isi_str_bl, isi_str_int, isi_str_str, isi_str_lst, isi_str_tup, Bool.not_true, Bool.not_false, Bool.or_false, Bool.or_true, Bool.false_or, Bool.true_or, ite_true, ite_false, Option.some.injEq, true_or, false_or, or_false, and_true]
    exact q

def wordsK : List Str := (List.range 7).map nmC
def flagsK (i : Nat) : List Bool := (List.range 7).map fun j => decide (i = j)
theorem kind_sel : ∀ i, i < 7 → (((wordsK.zip (flagsK i)).filter (·.2)).map fun p => D.str p.1) = [D.str (nmC i)]
  | 0, _ => rfl
  | 1, _ => rfl
  | 2, _ => rfl
  | 3, _ => rfl
  | 4, _ => rfl
  | 5, _ => rfl
  | 6, _ => rfl
  | n + 7, h => by omega
theorem nmC_len : ∀ i, i < 7 → (nmC i).length ≤ 1000
  | 0, _ => by decide
  | 1, _ => by decide
  | 2, _ => by decide
  | 3, _ => by decide
  | 4, _ => by decide
  | 5, _ => by decide
  | 6, _ => by decide
  | n + 7, h => by omega

abbrev s__law_kind : Stmt := topS 59
theorem sc__law_kind : FnScope ["e", "some", "words", "word", "good"] ["e"] (defScope s__law_kind) := ⟨rfl, rfl, rfl, by decide +kernel, rfl, by decide +kernel, by decide +kernel⟩

theorem ok__law_kind {P : Program} {w : World} {K : PySem.W.Frag} {mg : Str → Option Value} {base : Heap} {A7 : Nat → Addr} {CF : Addr} (B : Bt mg) (CL : L3.Cls K mg A7 CF) {f : Addr} {fd : FuncData} (F : Fun K "_law_kind" "_law_kind" s__law_kind f fd) (hb : Binds K fd ["e"] []) : KindOk P w K mg base A7 1 f := by
  refine kind_of F sc__law_kind hb (by decide) fun cdv A outer s H C a oe i hr hot hi hz hget hn hfs => ?_
  have hf : ∃ vs, oe.data = .fields vs := ⟨hot.2.choose, hot.2.choose_spec.1⟩
  have h0 : PHot (L2H.cxH CX0 P w K mg base ["e", "some", "words", "word", "good"] "_law_kind" (defScope s__law_kind) f cdv A outer s H E0 (a, oe)).stack (a, oe) s H [] := by
    refine ⟨hget, hn, fun z => ?_, by simp⟩
    rcases List.mem_cons.mp (show a ∈ s.heap.objs.size :: frs outer from z) with e | e
    · exact Nat.ne_of_lt (Heap.lt_size hget) e
    · exact hfs e
  refine ⟨_, _, (ds_cons (ds_set 1 sc__law_kind.nd (d_lst (da_cons (d_callB (c_isE K (CL.ec i hi) hz hf hget hn hfs) (by rfl) B.isinstance (by decide +kernel) (da_cons (dv 0) (da_cons (d_cls (CL.ex 0 (by decide)).m) da_nil))) (da_cons (d_callB (c_isE K (CL.ec i hi) hz hf hget hn hfs) (by rfl) B.isinstance (by decide +kernel) (da_cons (dv 0) (da_cons (d_cls (CL.ex 1 (by decide)).m) da_nil))) (da_cons (d_callB (c_isE K (CL.ec i hi) hz hf hget hn hfs) (by rfl) B.isinstance (by decide +kernel) (da_cons (dv 0) (da_cons (d_cls (CL.ex 2 (by decide)).m) da_nil))) (da_cons (d_callB (c_isE K (CL.ec i hi) hz hf hget hn hfs) (by rfl) B.isinstance (by decide +kernel) (da_cons (dv 0) (da_cons (d_cls (CL.ex 3 (by decide)).m) da_nil))) da_nil))))))
      (ds_cons (ds_set 1 sc__law_kind.nd (d_op (o_addK K) (dv 1) (d_lst (da_cons (d_callB (c_isE K (CL.ec i hi) hz hf hget hn hfs) (by rfl) B.isinstance (by decide +kernel) (da_cons (dv 0) (da_cons (d_cls (CL.ex 4 (by decide)).m) da_nil))) (da_cons (d_callB (c_isE K (CL.ec i hi) hz hf hget hn hfs) (by rfl) B.isinstance (by decide +kernel) (da_cons (dv 0) (da_cons (d_cls (CL.ex 5 (by decide)).m) da_nil))) (da_cons (d_callB (c_isE K (CL.ec i hi) hz hf hget hn hfs) (by rfl) B.isinstance (by decide +kernel) (da_cons (dv 0) (da_cons (d_cls (CL.ex 6 (by decide)).m) da_nil))) da_nil))))))
      (ds_cons (ds_set 2 sc__law_kind.nd (d_lst (da_cons d_str (da_cons d_str (da_cons d_str (da_cons d_str (da_cons d_str (da_cons d_str (da_cons d_str da_nil)))))))))
      (ds_one (ds_ret (d_joinE K (d_lcH (p0 := (a, oe)) K [("word", 3), ("good", 4)] hot (List.mem_singleton.mpr rfl) sc__law_kind.nd (by rfl) B.zip (da_cons (dv 2) (da_cons (dv 1) da_nil))
        (blkOk_by (by show blkC ["e", "some", "words", "word", "good"] (defScope s__law_kind) _ [("word", 3), ("good", 4)] = true; decide +kernel)) h0
        (fun _ _ _ _ _ _ z => dg_tupH (p0 := (a, oe)) (n := 2) K hot z.1 z.2.1 z.2.2.1 z.2.2.2 (dgs_cons (dg_name 3 sc__law_kind.nd) (dgs_cons (dg_name 4 sc__law_kind.nd) dgs_nil)) rfl)
        (fun _ _ _ _ _ _ => dts_one (dt_val (dv 4))) (fun _ _ _ _ _ _ => dv 3)))))))), ?_⟩
  simp only [xSeq, xSet, xRet, xIf, xExpr, xNext, xNever, xC, xNil, xCons, xTup, xLst, xOp, xEq, xNe, xUn, xNot, xAnd, xOr, xIfE, xCB, xCall, xCallB, xName, xAsg, xIsi3, toD_fz, toD_ow, toD_od, toD_bg, rd_var, rd_getv1, rd_getv2, rd_getv3, rd_test, rd_onB, rd_onI, rd_onSB, rd_andV, rd_orV, rd_notV, rd_chain, rd_II, rd_II0, rd_add1, rd_add2, rd_add3, rd_mul1, rd_mul2, rd_mul3, rd_isN, rd_notN, rd_isN1, rd_isN2, rd_isN3, rd_neg, rd_ix1, rd_ix2, rd_part, rd_sl, rd_onSl1, rd_onSl2, rd_rev, rd_onRv, rd_len1, rd_len2, rd_max2, rd_min2, rd_int1, rd_int2, rd_lst1, rd_lst2, rd_tup1, rd_tup2, rd_dm, rd_seqI, rd_onSq1, rd_onSq2, rd_rng1, rd_onR1, rd_rng2, rd_onR2, xEnumT, rd_onEt, rd_zip, rd_onZ1, rd_onZ2, rd_par, rd_onP, xPar3, rd_onP3, rd_gtup, rd_gnil, rd_gcons, rd_isi, noO_int, noO_bl, noO_str, noO_lst, noO_tup, noO_non, ini, iniB, wipeD, unw, kf, List.map_cons, List.map_nil, List.replicate_succ, List.replicate_zero, List.cons_append, List.nil_append, List.length_cons, List.length_nil, List.getElem?_cons_zero, List.getElem?_cons_succ, List.set_cons_zero, List.set_cons_succ, decide_eq_true_eq, Nat.zero_add, Nat.reduceAdd, Nat.reduceSub, Nat.reduceLeDiff, true_and, Bool.false_eq_true, if_false, if_true, isi_int_non, isi_int_bl, isi_int_int, isi_int_str, isi_int_lst, isi_int_tup, isi_bool_non, isi_bool_bl, isi_bool_int, isi_bool_str, isi_bool_lst, isi_bool_tup, isi_list_non, isi_list_bl, isi_list_int, isi_list_str, isi_list_lst, isi_list_tup, isi_tuple_non, isi_tuple_bl, isi_tuple_int, isi_tuple_str, isi_tuple_lst, isi_tuple_tup, isi_str_non, isi_str_bl, isi_str_int, isi_str_str, isi_str_lst, isi_str_tup, Bool.not_true, Bool.not_false, Bool.or_false, Bool.or_true, Bool.false_or, Bool.true_or, ite_true, ite_false, Option.some.injEq, true_or, false_or, or_false, and_true, xIsE, xJoin]
  refine ⟨A7 0, _, rfl, CL.kit i 0 hi (by decide), A7 1, _, rfl, CL.kit i 1 hi (by decide), A7 2, _, rfl, CL.kit i 2 hi (by decide), A7 3, _, rfl, CL.kit i 3 hi (by decide), A7 4, _, rfl, CL.kit i 4 hi (by decide), A7 5, _, rfl, CL.kit i 5 hi (by decide), A7 6, _, rfl, CL.kit i 6 hi (by decide), ?_⟩
  refine lc_pure (wordsK.zip (flagsK i)) (fun p => D.tup [.str p.1, .bl p.2]) (fun p => p.2) (fun p => D.str p.1) [some (.fz (refD a)), some (.fz (.lst ((flagsK i).map D.bl))), some (.fz (.lst (wordsK.map D.str))), none, none] (fun QL hq => ?_) (by simp [wordsK, flagsK]) (fun p hp QD QN h1 h2 => ?_) ?_
  · exact (⟨rfl, hq⟩ : 7 = 7 ∧ QL _ _)
  · simp only [xSeq, xSet, xRet, xIf, xExpr, xNext, xNever, xC, xNil, xCons, xTup, xLst, xOp, xEq, xNe, xUn, xNot, xAnd, xOr, xIfE, xCB, xCall, xCallB, xName, xAsg, xIsi3, toD_fz, toD_ow, toD_od, toD_bg, rd_var, rd_getv1, rd_getv2, rd_getv3, rd_test, rd_onB, rd_onI, rd_onSB, rd_andV, rd_orV, rd_notV, rd_chain, rd_II, rd_II0, rd_add1, rd_add2, rd_add3, rd_mul1, rd_mul2, rd_mul3, rd_isN, rd_notN, rd_isN1, rd_isN2, rd_isN3, rd_neg, rd_ix1, rd_ix2, rd_part, rd_sl, rd_onSl1, rd_onSl2, rd_rev, rd_onRv, rd_len1, rd_len2, rd_max2, rd_min2, rd_int1, rd_int2, rd_lst1, rd_lst2, rd_tup1, rd_tup2, rd_dm, rd_seqI, rd_onSq1, rd_onSq2, rd_rng1, rd_onR1, rd_rng2, rd_onR2, xEnumT, rd_onEt, rd_zip, rd_onZ1, rd_onZ2, rd_par, rd_onP, xPar3, rd_onP3, rd_gtup, rd_gnil, rd_gcons, rd_isi, noO_int, noO_bl, noO_str, noO_lst, noO_tup, noO_non, ini, iniB, wipeD, unw, kf, List.map_cons, List.map_nil, List.replicate_succ, List.replicate_zero, List.cons_append, List.nil_append, List.length_cons, List.length_nil, List.getElem?_cons_zero, List.getElem?_cons_succ, List.set_cons_zero, List.set_cons_succ, decide_eq_true_eq, Nat.zero_add, Nat.reduceAdd, Nat.reduceSub, Nat.reduceLeDiff, true_and, Bool.false_eq_true, if_false, if_true, isi_int_non, isi_int_bl, isi_int_int, isi_int_str, isi_int_lst, isi_int_tup, isi_bool_non, isi_bool_bl, isi_bool_int, isi_bool_str, isi_bool_lst, isi_bool_tup, isi_list_non, isi_list_bl, isi_list_int, isi_list_str, isi_list_lst, isi_list_tup, isi_tuple_non, isi_tuple_bl, isi_tuple_int, isi_tuple_str, isi_tuple_lst, isi_tuple_tup, isi_str_non, isi_str_bl, isi_str_int, isi_str_str, isi_str_lst, isi_str_tup, Bool.not_true, Bool.not_false, Bool.or_false, Bool.or_true, Bool.false_or, Bool.true_or, ite_true, ite_false, Option.some.injEq, true_or, false_or, or_false, and_true]
    exact ite2 (fun h => h1 h) (fun h => h2 (Bool.eq_false_iff.mpr h))
  · simp only [xSeq, xSet, xRet, xIf, xExpr, xNext, xNever, xC, xNil, xCons, xTup, xLst, xOp, xEq, xNe, xUn, xNot, xAnd, xOr, xIfE, xCB, xCall, xCallB, xName, xAsg, xIsi3, toD_fz, toD_ow, toD_od, toD_bg, rd_var, rd_getv1, rd_getv2, rd_getv3, rd_test, rd_onB, rd_onI, rd_onSB, rd_andV, rd_orV, rd_notV, rd_chain, rd_II, rd_II0, rd_add1, rd_add2, rd_add3, rd_mul1, rd_mul2, rd_mul3, rd_isN, rd_notN, rd_isN1, rd_isN2, rd_isN3, rd_neg, rd_ix1, rd_ix2, rd_part, rd_sl, rd_onSl1, rd_onSl2, rd_rev, rd_onRv, rd_len1, rd_len2, rd_max2, rd_min2, rd_int1, rd_int2, rd_lst1, rd_lst2, rd_tup1, rd_tup2, rd_dm, rd_seqI, rd_onSq1, rd_onSq2, rd_rng1, rd_onR1, rd_rng2, rd_onR2, xEnumT, rd_onEt, rd_zip, rd_onZ1, rd_onZ2, rd_par, rd_onP, xPar3, rd_onP3, rd_gtup, rd_gnil, rd_gcons, rd_isi, noO_int, noO_bl, noO_str, noO_lst, noO_tup, noO_non, ini, iniB, wipeD, unw, kf, List.map_cons, List.map_nil, List.replicate_succ, List.replicate_zero, List.cons_append, List.nil_append, List.length_cons, List.length_nil, List.getElem?_cons_zero, List.getElem?_cons_succ, List.set_cons_zero, List.set_cons_succ, decide_eq_true_eq, Nat.zero_add, Nat.reduceAdd, Nat.reduceSub, Nat.reduceLeDiff, true_and, Bool.false_eq_true, if_false, if_true, isi_int_non, isi_int_bl, isi_int_int, isi_int_str, isi_int_lst, isi_int_tup, isi_bool_non, isi_bool_bl, isi_bool_int, isi_bool_str, isi_bool_lst, isi_bool_tup, isi_list_non, isi_list_bl, isi_list_int, isi_list_str, isi_list_lst, isi_list_tup, isi_tuple_non, isi_tuple_bl, isi_tuple_int, isi_tuple_str, isi_tuple_lst, isi_tuple_tup, isi_str_non, isi_str_bl, isi_str_int, isi_str_str, isi_str_lst, isi_str_tup, Bool.not_true, Bool.not_false, Bool.or_false, Bool.or_true, Bool.false_or, Bool.true_or, ite_true, ite_false, Option.some.injEq, true_or, false_or, or_false, and_true]
    rw [kind_sel i hi]
    have hl := nmC_len i hi
    refine ⟨[nmC i], rfl, ?_, by rw [L3.join_one]⟩
    simp only [List.map_cons, List.map_nil, List.sum_cons, List.sum_nil]
    omega

def dp__law_tried (P : Program) (w : World) (K : PySem.W.Frag) (mg : Str → Option Value) (base : Heap) : DP := fun ds Q _ => ∃ i, i < 7 ∧ ds = [.obj (Deed P w K mg base 7 (nmC i))] ∧ Q (.fz (.tup [.str (nmC i)]))

abbrev s__law_tried : Stmt := topS 60
theorem sc__law_tried : FnScope ["deed", "found", "e"] ["deed"] (defScope s__law_tried) := ⟨rfl, rfl, rfl, by decide +kernel, rfl, by decide +kernel, by decide +kernel⟩

theorem ok__law_tried {P : Program} {w : World} {K : PySem.W.Frag} {mg : Str → Option Value} {base : Heap} {A7 : Nat → Addr} {CF fk : Addr} (B : Bt mg) (CL : L3.Cls K mg A7 CF) (FK : KindOk P w K mg base A7 1 fk) (hmk : mg "_law_kind" = some (.ref fk)) (hkk : PySem.W.keepIn K (.ref fk) = true)
    (d : Df K mg "_law_tried" s__law_tried ["deed"]) : Fn P w K mg base "_law_tried" 8 1 (dp__law_tried P w K mg base) := by
  refine fn_mk d sc__law_tried rfl (by decide) fun f cdv A outer s H E C hr => ⟨_, _, ds_cons (ds_set 1 sc__law_tried.nd (d_tup (da_cons d_str da_nil)))
      (ds_cons (ds_tried (k := 7) (kk := 1) CL FK hmk hkk (hr.mono (by decide)) hr sc__law_tried.nd) (ds_one (ds_ret (dv 1)))), fun ds QD ED hl0 h => ?_⟩
  obtain ⟨i, hi, rfl, q⟩ := h
  simp only [xSeq, xSet, xRet, xIf, xExpr, xNext, xNever, xC, xNil, xCons, xTup, xLst, xOp, xEq, xNe, xUn, xNot, xAnd, xOr, xIfE, xCB, xCall, xCallB, xName, xAsg, xIsi3, toD_fz, toD_ow, toD_od, toD_bg, rd_var, rd_getv1, rd_getv2, rd_getv3, rd_test, rd_onB, rd_onI, rd_onSB, rd_andV, rd_orV, rd_notV, rd_chain, rd_II, rd_II0, rd_add1, rd_add2, rd_add3, rd_mul1, rd_mul2, rd_mul3, rd_isN, rd_notN, rd_isN1, rd_isN2, rd_isN3, rd_neg, rd_ix1, rd_ix2, rd_part, rd_sl, rd_onSl1, rd_onSl2, rd_rev, rd_onRv, rd_len1, rd_len2, rd_max2, rd_min2, rd_int1, rd_int2, rd_lst1, rd_lst2, rd_tup1, rd_tup2, rd_dm, rd_seqI, rd_onSq1, rd_onSq2, rd_rng1, rd_onR1, rd_rng2, rd_onR2, xEnumT, rd_onEt, rd_zip, rd_onZ1, rd_onZ2, rd_par, rd_onP, xPar3, rd_onP3, rd_gtup, rd_gnil, rd_gcons, rd_isi, noO_int, noO_bl, noO_str, noO_lst, noO_tup, noO_non, ini, iniB, wipeD, unw, kf, List.map_cons, List.map_nil, List.replicate_succ, List.replicate_zero, List.cons_append, List.nil_append, List.length_cons, List.length_nil, List.getElem?_cons_zero, List.getElem?_cons_succ, List.set_cons_zero, List.set_cons_succ, decide_eq_true_eq, Nat.zero_add, Nat.reduceAdd, Nat.reduceSub, Nat.reduceLeDiff, true_and, Bool.false_eq_true, if_false, if_true, isi_int_non, isi_int_bl, isi_int_int, isi_int_str, isi_int_lst, isi_int_tup, isi_bool_non, isi_bool_bl, isi_bool_int, isi_bool_str, isi_bool_lst, isi_bool_tup, isi_list_non, isi_list_bl, isi_list_int, isi_list_str, isi_list_lst, isi_list_tup, isi_tuple_non, isi_tuple_bl, isi_tuple_int, isi_tuple_str, isi_tuple_lst, isi_tuple_tup, isi_str_non, isi_str_bl, isi_str_int, isi_str_str, isi_str_lst, isi_str_tup, Bool.not_true, Bool.not_false, Bool.or_false, Bool.or_true, Bool.false_or, Bool.true_or, ite_true, ite_false, Option.some.injEq, true_or, false_or, or_false, and_true, xTried]
  exact ⟨i, hi, by decide, rfl, q⟩

theorem ks_small {ks : List Int} {top : Int} (hn : ks.Nodup) (h : ∀ k ∈ ks, 1 ≤ k ∧ k ≤ top) : True := trivial
def strictDown (ns : List Int) : Prop := ns.Pairwise (· > ·)
theorem falling_of : ∀ {ns : List Int}, ns.Pairwise (· > ·) → falling ns = true
  | [], _ => rfl
  | [_], _ => rfl
  | x :: y :: r, h => by
    obtain ⟨h1, h2⟩ := List.pairwise_cons.mp h
    simp only [falling, Bool.and_eq_true, decide_eq_true_eq]
    exact ⟨h1 y (by simp), falling_of h2⟩
theorem down_of {ks ys : List Int} (hn : ks.Nodup) (pm : ys.Perm ks) (pw : ys.Pairwise (· ≥ ·)) : ys.Pairwise (· > ·) := by
  have hn2 : ys.Nodup := pm.nodup_iff.mpr hn
  exact (pw.and hn2).imp fun ⟨a, b⟩ => by omega
def MarksP (top most : Int) (ns : List Int) : Prop := (ns.length : Int) ≤ most ∧ ns.Pairwise (· > ·) ∧ ∀ x ∈ ns, 1 ≤ x ∧ x ≤ top
theorem all_ints {top : Int} : ∀ {ns : List Int}, (∀ x ∈ ns, 1 ≤ x ∧ x ≤ top) → ((ns.map D.int).all fun x => inR x 1 top) = true
  | [], _ => rfl
  | x :: r, h => by
    rw [List.map_cons, List.all_cons, all_ints fun y hy => h y (by simp [hy])]
    have := h x (by simp)
    simp [inR, this.1, this.2]
theorem ival_ints : ∀ ns : List Int, (ns.map D.int).map ival = ns
  | [] => rfl
  | x :: r => by rw [List.map_cons, List.map_cons, ival_ints r]; rfl
theorem MarksP.ok {top most : Int} {ns : List Int} (h : MarksP top most ns) (hm : most ≤ 8) : marksD top (.tup (ns.map D.int)) = true := by
  have hl := h.1
  simp only [marksD, List.length_map, decide_eq_true (show ns.length ≤ 8 by omega), Bool.true_and, all_ints h.2.2, ival_ints]
  exact falling_of h.2.1
theorem MarksP.sub {top most : Int} {ms ns : List Int} (h : MarksP top most ms) (s : ns.Sublist ms) : MarksP top most ns :=
  ⟨by have := s.length_le; have := h.1; omega, h.2.1.sublist s, fun x hx => h.2.2 x (s.subset hx)⟩
def dp__law_marks : DB := fun bd ds Q => ∃ (m : Nat) (top most : Int), bagOK m bd ∧ m ≤ 900000 ∧ ds = [.int top, .int most] ∧ 1 ≤ top ∧ top ≤ 1000 ∧ 0 ≤ most ∧ most ≤ 100 ∧
  ∀ (ns : List Int) (bd' : List D), MarksP top most ns → bagOK (m + 200) bd' → Q (.fz (.tup (ns.map D.int))) bd'
theorem putKs_nd {ks : List Int} {k : Int} (h : ks.Nodup) : (putKs ks k).Nodup := by
  unfold putKs
  split
  · exact h
  · rename_i hk
    exact List.nodup_append.mpr ⟨h, by simp, fun a ha b hb => by simp at hb; subst hb; exact fun e => hk (e ▸ ha)⟩
theorem putKs_mem {ks : List Int} {k x : Int} (h : x ∈ putKs ks k) : x ∈ ks ∨ x = k := by
  unfold putKs at h
  split at h
  · exact .inl h
  · simpa using h
theorem putKs_le (ks : List Int) (k : Int) : (putKs ks k).length ≤ ks.length + 1 := by
  unfold putKs
  split <;> simp

abbrev s__law_marks : Stmt := topS 61
theorem sc__law_marks : FnScope ["bag", "top", "most", "found", "turn"] ["bag", "top", "most"] (defScope s__law_marks) := ⟨rfl, rfl, rfl, by decide +kernel, rfl, by decide +kernel, by decide +kernel⟩
theorem ok__law_marks {P : Program} {w : World} {K : PySem.W.Frag} {mg : Str → Option Value} {base : Heap} (B : Bt mg) (d : Df K mg "_law_marks" s__law_marks ["bag", "top", "most"]) (h__law_take : FnB P w K mg base "_law_take" 1 1 dp__law_take) : FnB P w K mg base "_law_marks" (1 + 1) 2 dp__law_marks := by
  refine fn_mkB d sc__law_marks rfl (by decide) fun f cdv A outer s H E C hr => ⟨_, _, (ds_cons (ds_set 3 sc__law_marks.nd d_dnew)
      (ds_cons (ds_for PassesOwn.never rfl (di_range1 (by rfl) B.range (da_cons (d_fnBK 0 h__law_take (hr.mono (by decide)) (da_cons (d_op (o_addK K) (dv 2) d_int) da_nil)) da_nil)) (dg_name 4 sc__law_marks.nd) (ds_one (ds_dput 3 (hu_of hr) d_bl (d_op (o_addK K) d_int (d_fnBK 0 h__law_take (hr.mono (by decide)) (da_cons (dv 1) da_nil))))))
      (ds_one (ds_ret (d_callTy (c_tupleK K) (by rfl) B.tuple (by decide +kernel) (da_cons (d_sortedDR rfl (by rfl) B.sorted (da_cons (dv 3) da_nil)) da_nil)))))), fun bd ds QD hl0 h => ?_⟩
  obtain ⟨a0, a1, rfl⟩ : ∃ a0 a1, ds = [a0, a1] := by
    match ds, hl0 with
    | [a0, a1], _ => exact ⟨a0, a1, rfl⟩
  clear hl0
  obtain ⟨m, top, most, hb, hm, e, t1, t2, m1, m2, q⟩ := h
  cases e
  simp only [xSeq, xSet, xRet, xIf, xExpr, xNext, xNever, xC, xNil, xCons, xTup, xLst, xOp, xEq, xNe, xUn, xNot, xAnd, xOr, xIfE, xCB, xCall, xCallB, xName, xAsg, xIsi3, toD_fz, toD_ow, toD_od, toD_bg, rd_var, rd_getv1, rd_getv2, rd_getv3, rd_test, rd_onB, rd_onI, rd_onSB, rd_andV, rd_orV, rd_notV, rd_chain, rd_II, rd_II0, rd_add1, rd_add2, rd_add3, rd_mul1, rd_mul2, rd_mul3, rd_isN, rd_notN, rd_isN1, rd_isN2, rd_isN3, rd_neg, rd_ix1, rd_ix2, rd_part, rd_sl, rd_onSl1, rd_onSl2, rd_rev, rd_onRv, rd_len1, rd_len2, rd_max2, rd_min2, rd_int1, rd_int2, rd_lst1, rd_lst2, rd_tup1, rd_tup2, rd_dm, rd_seqI, rd_onSq1, rd_onSq2, rd_rng1, rd_onR1, rd_rng2, rd_onR2, xEnumT, rd_onEt, rd_zip, rd_onZ1, rd_onZ2, rd_par, rd_onP, xPar3, rd_onP3, rd_gtup, rd_gnil, rd_gcons, rd_isi, noO_int, noO_bl, noO_str, noO_lst, noO_tup, noO_non, ini, iniB, wipeD, unw, kf, List.map_cons, List.map_nil, List.replicate_succ, List.replicate_zero, List.cons_append, List.nil_append, List.length_cons, List.length_nil, List.getElem?_cons_zero, List.getElem?_cons_succ, List.set_cons_zero, List.set_cons_succ, decide_eq_true_eq, Nat.zero_add, Nat.reduceAdd, Nat.reduceSub, Nat.reduceLeDiff, true_and, Bool.false_eq_true, if_false, if_true, isi_int_non, isi_int_bl, isi_int_int, isi_int_str, isi_int_lst, isi_int_tup, isi_bool_non, isi_bool_bl, isi_bool_int, isi_bool_str, isi_bool_lst, isi_bool_tup, isi_list_non, isi_list_bl, isi_list_int, isi_list_str, isi_list_lst, isi_list_tup, isi_tuple_non, isi_tuple_bl, isi_tuple_int, isi_tuple_str, isi_tuple_lst, isi_tuple_tup, isi_str_non, isi_str_bl, isi_str_int, isi_str_str, isi_str_lst, isi_str_tup, Bool.not_true, Bool.not_false, Bool.or_false, Bool.or_true, Bool.false_or, Bool.true_or, ite_true, ite_false, Option.some.injEq, true_or, false_or, or_false, and_true, rd_isOwn, rd_own1, rd_own2, rd_own3, rd_ixO, rd_onIx1, rd_onIx2, rd_store, rd_onStore1, rd_onStore2, ex_eq, xApp, xDput, S.ow.injEq, S.bg.injEq, S.od.injEq, reduceCtorEq, exists_eq_left', exists_eq_left, exists_eq', D.int.injEq, atI_c0, atI_c1, atI_c2, ixN3_0, ixN3_1, ixN3_2, false_and, and_self, xFor]
  refine ⟨m, most + 1, hb, by omega, rfl, by omega, by omega, fun r b1 h0 h1 hb1 => ?_⟩
  simp only [xSeq, xSet, xRet, xIf, xExpr, xNext, xNever, xC, xNil, xCons, xTup, xLst, xOp, xEq, xNe, xUn, xNot, xAnd, xOr, xIfE, xCB, xCall, xCallB, xName, xAsg, xIsi3, toD_fz, toD_ow, toD_od, toD_bg, rd_var, rd_getv1, rd_getv2, rd_getv3, rd_test, rd_onB, rd_onI, rd_onSB, rd_andV, rd_orV, rd_notV, rd_chain, rd_II, rd_II0, rd_add1, rd_add2, rd_add3, rd_mul1, rd_mul2, rd_mul3, rd_isN, rd_notN, rd_isN1, rd_isN2, rd_isN3, rd_neg, rd_ix1, rd_ix2, rd_part, rd_sl, rd_onSl1, rd_onSl2, rd_rev, rd_onRv, rd_len1, rd_len2, rd_max2, rd_min2, rd_int1, rd_int2, rd_lst1, rd_lst2, rd_tup1, rd_tup2, rd_dm, rd_seqI, rd_onSq1, rd_onSq2, rd_rng1, rd_onR1, rd_rng2, rd_onR2, xEnumT, rd_onEt, rd_zip, rd_onZ1, rd_onZ2, rd_par, rd_onP, xPar3, rd_onP3, rd_gtup, rd_gnil, rd_gcons, rd_isi, noO_int, noO_bl, noO_str, noO_lst, noO_tup, noO_non, ini, iniB, wipeD, unw, kf, List.map_cons, List.map_nil, List.replicate_succ, List.replicate_zero, List.cons_append, List.nil_append, List.length_cons, List.length_nil, List.getElem?_cons_zero, List.getElem?_cons_succ, List.set_cons_zero, List.set_cons_succ, decide_eq_true_eq, Nat.zero_add, Nat.reduceAdd, Nat.reduceSub, Nat.reduceLeDiff, true_and, Bool.false_eq_true, if_false, if_true, isi_int_non, isi_int_bl, isi_int_int, isi_int_str, isi_int_lst, isi_int_tup, isi_bool_non, isi_bool_bl, isi_bool_int, isi_bool_str, isi_bool_lst, isi_bool_tup, isi_list_non, isi_list_bl, isi_list_int, isi_list_str, isi_list_lst, isi_list_tup, isi_tuple_non, isi_tuple_bl, isi_tuple_int, isi_tuple_str, isi_tuple_lst, isi_tuple_tup, isi_str_non, isi_str_bl, isi_str_int, isi_str_str, isi_str_lst, isi_str_tup, Bool.not_true, Bool.not_false, Bool.or_false, Bool.or_true, Bool.false_or, Bool.true_or, ite_true, ite_false, Option.some.injEq, true_or, false_or, or_false, and_true, rd_isOwn, rd_own1, rd_own2, rd_own3, rd_ixO, rd_onIx1, rd_onIx2, rd_store, rd_onStore1, rd_onStore2, ex_eq, xApp, xDput, S.ow.injEq, S.bg.injEq, S.od.injEq, reduceCtorEq, exists_eq_left', exists_eq_left, exists_eq', D.int.injEq, atI_c0, atI_c1, atI_c2, ixN3_0, ixN3_1, ixN3_2, false_and, and_self]
  refine ⟨by omega, by omega, fun i ρ => ∃ bd ks vs x, ρ = [some (.bg bd), some (.fz (.int top)), some (.fz (.int most)), some (.od ks vs), x] ∧ bagOK (m + 1 + i) bd ∧ ks.Nodup ∧ ks.length ≤ i ∧ ∀ k ∈ ks, 1 ≤ k ∧ k ≤ top,
    ⟨b1, [], [], none, rfl, hb1, List.nodup_nil, Nat.le_refl _, fun k hk => by cases hk⟩, fun i d ρ hd hI => ?_, fun ρ hI => ?_⟩
  · obtain ⟨bd, ks, vs, x, rfl, hb, nd, hl, hk⟩ := hI
    obtain ⟨hi, rfl⟩ := rngD_get hd
    simp only [xSeq, xSet, xRet, xIf, xExpr, xNext, xNever, xC, xNil, xCons, xTup, xLst, xOp, xEq, xNe, xUn, xNot, xAnd, xOr, xIfE, xCB, xCall, xCallB, xName, xAsg, xIsi3, toD_fz, toD_ow, toD_od, toD_bg, rd_var, rd_getv1, rd_getv2, rd_getv3, rd_test, rd_onB, rd_onI, rd_onSB, rd_andV, rd_orV, rd_notV, rd_chain, rd_II, rd_II0, rd_add1, rd_add2, rd_add3, rd_mul1, rd_mul2, rd_mul3, rd_isN, rd_notN, rd_isN1, rd_isN2, rd_isN3, rd_neg, rd_ix1, rd_ix2, rd_part, rd_sl, rd_onSl1, rd_onSl2, rd_rev, rd_onRv, rd_len1, rd_len2, rd_max2, rd_min2, rd_int1, rd_int2, rd_lst1, rd_lst2, rd_tup1, rd_tup2, rd_dm, rd_seqI, rd_onSq1, rd_onSq2, rd_rng1, rd_onR1, rd_rng2, rd_onR2, xEnumT, rd_onEt, rd_zip, rd_onZ1, rd_onZ2, rd_par, rd_onP, xPar3, rd_onP3, rd_gtup, rd_gnil, rd_gcons, rd_isi, noO_int, noO_bl, noO_str, noO_lst, noO_tup, noO_non, ini, iniB, wipeD, unw, kf, List.map_cons, List.map_nil, List.replicate_succ, List.replicate_zero, List.cons_append, List.nil_append, List.length_cons, List.length_nil, List.getElem?_cons_zero, List.getElem?_cons_succ, List.set_cons_zero, List.set_cons_succ, decide_eq_true_eq, Nat.zero_add, Nat.reduceAdd, Nat.reduceSub, Nat.reduceLeDiff, true_and, Bool.false_eq_true, if_false, if_true, isi_int_non, isi_int_bl, isi_int_int, isi_int_str, isi_int_lst, isi_int_tup, isi_bool_non, isi_bool_bl, isi_bool_int, isi_bool_str, isi_bool_lst, isi_bool_tup, isi_list_non, isi_list_bl, isi_list_int, isi_list_str, isi_list_lst, isi_list_tup, isi_tuple_non, isi_tuple_bl, isi_tuple_int, isi_tuple_str, isi_tuple_lst, isi_tuple_tup, isi_str_non, isi_str_bl, isi_str_int, isi_str_str, isi_str_lst, isi_str_tup, Bool.not_true, Bool.not_false, Bool.or_false, Bool.or_true, Bool.false_or, Bool.true_or, ite_true, ite_false, Option.some.injEq, true_or, false_or, or_false, and_true, rd_isOwn, rd_own1, rd_own2, rd_own3, rd_ixO, rd_onIx1, rd_onIx2, rd_store, rd_onStore1, rd_onStore2, ex_eq, xApp, xDput, S.ow.injEq, S.bg.injEq, S.od.injEq, reduceCtorEq, exists_eq_left', exists_eq_left, exists_eq', D.int.injEq, atI_c0, atI_c1, atI_c2, ixN3_0, ixN3_1, ixN3_2, false_and, and_self]
    refine ⟨⟨ks, vs, rfl, rfl⟩, m + 1 + i, top, hb, by omega, rfl, t1, by omega, fun r2 b2 g0 g1 hb2 => ?_⟩
    simp only [xSeq, xSet, xRet, xIf, xExpr, xNext, xNever, xC, xNil, xCons, xTup, xLst, xOp, xEq, xNe, xUn, xNot, xAnd, xOr, xIfE, xCB, xCall, xCallB, xName, xAsg, xIsi3, toD_fz, toD_ow, toD_od, toD_bg, rd_var, rd_getv1, rd_getv2, rd_getv3, rd_test, rd_onB, rd_onI, rd_onSB, rd_andV, rd_orV, rd_notV, rd_chain, rd_II, rd_II0, rd_add1, rd_add2, rd_add3, rd_mul1, rd_mul2, rd_mul3, rd_isN, rd_notN, rd_isN1, rd_isN2, rd_isN3, rd_neg, rd_ix1, rd_ix2, rd_part, rd_sl, rd_onSl1, rd_onSl2, rd_rev, rd_onRv, rd_len1, rd_len2, rd_max2, rd_min2, rd_int1, rd_int2, rd_lst1, rd_lst2, rd_tup1, rd_tup2, rd_dm, rd_seqI, rd_onSq1, rd_onSq2, rd_rng1, rd_onR1, rd_rng2, rd_onR2, xEnumT, rd_onEt, rd_zip, rd_onZ1, rd_onZ2, rd_par, rd_onP, xPar3, rd_onP3, rd_gtup, rd_gnil, rd_gcons, rd_isi, noO_int, noO_bl, noO_str, noO_lst, noO_tup, noO_non, ini, iniB, wipeD, unw, kf, List.map_cons, List.map_nil, List.replicate_succ, List.replicate_zero, List.cons_append, List.nil_append, List.length_cons, List.length_nil, List.getElem?_cons_zero, List.getElem?_cons_succ, List.set_cons_zero, List.set_cons_succ, decide_eq_true_eq, Nat.zero_add, Nat.reduceAdd, Nat.reduceSub, Nat.reduceLeDiff, true_and, Bool.false_eq_true, if_false, if_true, isi_int_non, isi_int_bl, isi_int_int, isi_int_str, isi_int_lst, isi_int_tup, isi_bool_non, isi_bool_bl, isi_bool_int, isi_bool_str, isi_bool_lst, isi_bool_tup, isi_list_non, isi_list_bl, isi_list_int, isi_list_str, isi_list_lst, isi_list_tup, isi_tuple_non, isi_tuple_bl, isi_tuple_int, isi_tuple_str, isi_tuple_lst, isi_tuple_tup, isi_str_non, isi_str_bl, isi_str_int, isi_str_str, isi_str_lst, isi_str_tup, Bool.not_true, Bool.not_false, Bool.or_false, Bool.or_true, Bool.false_or, Bool.true_or, ite_true, ite_false, Option.some.injEq, true_or, false_or, or_false, and_true, rd_isOwn, rd_own1, rd_own2, rd_own3, rd_ixO, rd_onIx1, rd_onIx2, rd_store, rd_onStore1, rd_onStore2, ex_eq, xApp, xDput, S.ow.injEq, S.bg.injEq, S.od.injEq, reduceCtorEq, exists_eq_left', exists_eq_left, exists_eq', D.int.injEq, atI_c0, atI_c1, atI_c2, ixN3_0, ixN3_1, ixN3_2, false_and, and_self]
    refine ⟨ks, vs, ⟨rfl, rfl⟩, by omega, _, _, _, _, rfl, hb2, putKs_nd nd, ?_, fun k hk2 => ?_⟩
    · have := putKs_le ks (1 + r2)
      omega
    · rcases putKs_mem hk2 with h | rfl
      · exact hk k h
      · omega
  · obtain ⟨bd, ks, vs, x, rfl, hb, nd, hl, hk⟩ := hI
    rw [rngD_len] at hb hl
    simp only [xSeq, xSet, xRet, xIf, xExpr, xNext, xNever, xC, xNil, xCons, xTup, xLst, xOp, xEq, xNe, xUn, xNot, xAnd, xOr, xIfE, xCB, xCall, xCallB, xName, xAsg, xIsi3, toD_fz, toD_ow, toD_od, toD_bg, rd_var, rd_getv1, rd_getv2, rd_getv3, rd_test, rd_onB, rd_onI, rd_onSB, rd_andV, rd_orV, rd_notV, rd_chain, rd_II, rd_II0, rd_add1, rd_add2, rd_add3, rd_mul1, rd_mul2, rd_mul3, rd_isN, rd_notN, rd_isN1, rd_isN2, rd_isN3, rd_neg, rd_ix1, rd_ix2, rd_part, rd_sl, rd_onSl1, rd_onSl2, rd_rev, rd_onRv, rd_len1, rd_len2, rd_max2, rd_min2, rd_int1, rd_int2, rd_lst1, rd_lst2, rd_tup1, rd_tup2, rd_dm, rd_seqI, rd_onSq1, rd_onSq2, rd_rng1, rd_onR1, rd_rng2, rd_onR2, xEnumT, rd_onEt, rd_zip, rd_onZ1, rd_onZ2, rd_par, rd_onP, xPar3, rd_onP3, rd_gtup, rd_gnil, rd_gcons, rd_isi, noO_int, noO_bl, noO_str, noO_lst, noO_tup, noO_non, ini, iniB, wipeD, unw, kf, List.map_cons, List.map_nil, List.replicate_succ, List.replicate_zero, List.cons_append, List.nil_append, List.length_cons, List.length_nil, List.getElem?_cons_zero, List.getElem?_cons_succ, List.set_cons_zero, List.set_cons_succ, decide_eq_true_eq, Nat.zero_add, Nat.reduceAdd, Nat.reduceSub, Nat.reduceLeDiff, true_and, Bool.false_eq_true, if_false, if_true, isi_int_non, isi_int_bl, isi_int_int, isi_int_str, isi_int_lst, isi_int_tup, isi_bool_non, isi_bool_bl, isi_bool_int, isi_bool_str, isi_bool_lst, isi_bool_tup, isi_list_non, isi_list_bl, isi_list_int, isi_list_str, isi_list_lst, isi_list_tup, isi_tuple_non, isi_tuple_bl, isi_tuple_int, isi_tuple_str, isi_tuple_lst, isi_tuple_tup, isi_str_non, isi_str_bl, isi_str_int, isi_str_str, isi_str_lst, isi_str_tup, Bool.not_true, Bool.not_false, Bool.or_false, Bool.or_true, Bool.false_or, Bool.true_or, ite_true, ite_false, Option.some.injEq, true_or, false_or, or_false, and_true, rd_isOwn, rd_own1, rd_own2, rd_own3, rd_ixO, rd_onIx1, rd_onIx2, rd_store, rd_onStore1, rd_onStore2, ex_eq, xApp, xDput, S.ow.injEq, S.bg.injEq, S.od.injEq, reduceCtorEq, exists_eq_left', exists_eq_left, exists_eq', D.int.injEq, atI_c0, atI_c1, atI_c2, ixN3_0, ixN3_1, ixN3_2, false_and, and_self, xSortedDR]
    refine ⟨ks, vs, ⟨rfl, by omega⟩, fun ys pm pw => ?_⟩
    refine q ys bd ⟨?_, down_of nd pm pw, fun x hx => hk x (pm.mem_iff.mp hx)⟩ (hb.mono (by omega))
    rw [pm.length_eq]
    omega

def dp__law_flooded : DP := fun ds Q _ => ∃ ms hs : List Int, ds = [.tup (ms.map D.int), .lst (hs.map D.int)] ∧ ms.length + hs.length ≤ 80000 ∧ Q (.fz (.tup ((floods ms hs).map D.int)))

abbrev s__law_flooded : Stmt := topS 62
theorem sc__law_flooded : FnScope ["marks1", "heights1", "height", "one"] ["marks1", "heights1"] (defScope s__law_flooded) := ⟨rfl, rfl, rfl, by decide +kernel, rfl, by decide +kernel, by decide +kernel⟩
theorem ok__law_flooded {P : Program} {w : World} {K : PySem.W.Frag} {mg : Str → Option Value} {base : Heap} (B : Bt mg) (d : Df K mg "_law_flooded" s__law_flooded ["marks1", "heights1"])  : Fn P w K mg base "_law_flooded" (0 + 1) 2 dp__law_flooded := by
  refine fn_mk d sc__law_flooded rfl (by decide) fun f cdv A outer s H E C hr => ⟨_, _, (ds_cons (ds_for PassesOwn.never rfl (di_seqK K (dv 1)) (dg_name 2 sc__law_flooded.nd) (ds_one (ds_set 0 sc__law_flooded.nd (d_callTy (c_tupleK K) (by rfl) B.tuple (by decide +kernel) (da_cons (d_op (o_addK K) (d_lc [("one", 3)] rfl sc__law_flooded.nd (di_seqK K (dv 0)) (blkOk_by (by show blkC ["marks1", "heights1", "height", "one"] (defScope s__law_flooded) _ [("one", 3)] = true; decide +kernel)) (fun _ _ _ _ _ _ => (dg_name 3 sc__law_flooded.nd)) (fun _ _ _ _ _ _ => (dts_one (dt_cmp o_lt (dv 2) (dv 3)))) (fun _ _ _ _ _ _ => (dv 3))) (d_lst (da_cons (dv 2) da_nil))) da_nil)))))
      (ds_one (ds_ret (dv 0)))), fun ds QD ED hl0 h => ?_⟩
  obtain ⟨a0, a1, rfl⟩ : ∃ a0 a1, ds = [a0, a1] := by
    match ds, hl0 with
    | [a0, a1], _ => exact ⟨a0, a1, rfl⟩
  clear hl0
  obtain ⟨ms, hs, e, hl, q⟩ := h
  cases e
  simp only [xSeq, xSet, xRet, xIf, xExpr, xNext, xNever, xC, xNil, xCons, xTup, xLst, xOp, xEq, xNe, xUn, xNot, xAnd, xOr, xIfE, xCB, xCall, xCallB, xName, xAsg, xIsi3, toD_fz, toD_ow, toD_od, toD_bg, rd_var, rd_getv1, rd_getv2, rd_getv3, rd_test, rd_onB, rd_onI, rd_onSB, rd_andV, rd_orV, rd_notV, rd_chain, rd_II, rd_II0, rd_add1, rd_add2, rd_add3, rd_mul1, rd_mul2, rd_mul3, rd_isN, rd_notN, rd_isN1, rd_isN2, rd_isN3, rd_neg, rd_ix1, rd_ix2, rd_part, rd_sl, rd_onSl1, rd_onSl2, rd_rev, rd_onRv, rd_len1, rd_len2, rd_max2, rd_min2, rd_int1, rd_int2, rd_lst1, rd_lst2, rd_tup1, rd_tup2, rd_dm, rd_seqI, rd_onSq1, rd_onSq2, rd_rng1, rd_onR1, rd_rng2, rd_onR2, xEnumT, rd_onEt, rd_zip, rd_onZ1, rd_onZ2, rd_par, rd_onP, xPar3, rd_onP3, rd_gtup, rd_gnil, rd_gcons, rd_isi, noO_int, noO_bl, noO_str, noO_lst, noO_tup, noO_non, ini, iniB, wipeD, unw, kf, List.map_cons, List.map_nil, List.replicate_succ, List.replicate_zero, List.cons_append, List.nil_append, List.length_cons, List.length_nil, List.getElem?_cons_zero, List.getElem?_cons_succ, List.set_cons_zero, List.set_cons_succ, decide_eq_true_eq, Nat.zero_add, Nat.reduceAdd, Nat.reduceSub, Nat.reduceLeDiff, true_and, Bool.false_eq_true, if_false, if_true, isi_int_non, isi_int_bl, isi_int_int, isi_int_str, isi_int_lst, isi_int_tup, isi_bool_non, isi_bool_bl, isi_bool_int, isi_bool_str, isi_bool_lst, isi_bool_tup, isi_list_non, isi_list_bl, isi_list_int, isi_list_str, isi_list_lst, isi_list_tup, isi_tuple_non, isi_tuple_bl, isi_tuple_int, isi_tuple_str, isi_tuple_lst, isi_tuple_tup, isi_str_non, isi_str_bl, isi_str_int, isi_str_str, isi_str_lst, isi_str_tup, Bool.not_true, Bool.not_false, Bool.or_false, Bool.or_true, Bool.false_or, Bool.true_or, ite_true, ite_false, Option.some.injEq, true_or, false_or, or_false, and_true, xFor]
  refine ⟨fun i ρ => ∃ x, ρ = [some (.fz (.tup ((floods ms (hs.take i)).map D.int))), some (.fz (.lst (hs.map D.int))), x, none], ⟨none, by simp [floods]⟩, fun i d ρ hd hI => ?_, fun ρ hI => ?_⟩
  · obtain ⟨x, rfl⟩ := hI
    rw [List.getElem?_map] at hd
    obtain ⟨hh, he, rfl⟩ := Option.map_eq_some_iff.mp hd
    have hf := floods_len (hs.take i) ms
    rw [List.length_take] at hf
    simp only [xSeq, xSet, xRet, xIf, xExpr, xNext, xNever, xC, xNil, xCons, xTup, xLst, xOp, xEq, xNe, xUn, xNot, xAnd, xOr, xIfE, xCB, xCall, xCallB, xName, xAsg, xIsi3, toD_fz, toD_ow, toD_od, toD_bg, rd_var, rd_getv1, rd_getv2, rd_getv3, rd_test, rd_onB, rd_onI, rd_onSB, rd_andV, rd_orV, rd_notV, rd_chain, rd_II, rd_II0, rd_add1, rd_add2, rd_add3, rd_mul1, rd_mul2, rd_mul3, rd_isN, rd_notN, rd_isN1, rd_isN2, rd_isN3, rd_neg, rd_ix1, rd_ix2, rd_part, rd_sl, rd_onSl1, rd_onSl2, rd_rev, rd_onRv, rd_len1, rd_len2, rd_max2, rd_min2, rd_int1, rd_int2, rd_lst1, rd_lst2, rd_tup1, rd_tup2, rd_dm, rd_seqI, rd_onSq1, rd_onSq2, rd_rng1, rd_onR1, rd_rng2, rd_onR2, xEnumT, rd_onEt, rd_zip, rd_onZ1, rd_onZ2, rd_par, rd_onP, xPar3, rd_onP3, rd_gtup, rd_gnil, rd_gcons, rd_isi, noO_int, noO_bl, noO_str, noO_lst, noO_tup, noO_non, ini, iniB, wipeD, unw, kf, List.map_cons, List.map_nil, List.replicate_succ, List.replicate_zero, List.cons_append, List.nil_append, List.length_cons, List.length_nil, List.getElem?_cons_zero, List.getElem?_cons_succ, List.set_cons_zero, List.set_cons_succ, decide_eq_true_eq, Nat.zero_add, Nat.reduceAdd, Nat.reduceSub, Nat.reduceLeDiff, true_and, Bool.false_eq_true, if_false, if_true, isi_int_non, isi_int_bl, isi_int_int, isi_int_str, isi_int_lst, isi_int_tup, isi_bool_non, isi_bool_bl, isi_bool_int, isi_bool_str, isi_bool_lst, isi_bool_tup, isi_list_non, isi_list_bl, isi_list_int, isi_list_str, isi_list_lst, isi_list_tup, isi_tuple_non, isi_tuple_bl, isi_tuple_int, isi_tuple_str, isi_tuple_lst, isi_tuple_tup, isi_str_non, isi_str_bl, isi_str_int, isi_str_str, isi_str_lst, isi_str_tup, Bool.not_true, Bool.not_false, Bool.or_false, Bool.or_true, Bool.false_or, Bool.true_or, ite_true, ite_false, Option.some.injEq, true_or, false_or, or_false, and_true]
    refine lc_pure (floods ms (hs.take i)) D.int (fun x => decide (hh < x)) D.int [some (.fz (.tup ((floods ms (hs.take i)).map D.int))), some (.fz (.lst (hs.map D.int))), some (.fz (.int hh)), none] (fun QL hq => ?_) (by omega) (fun a ha QD QN h1 h2 => ?_) ?_
    · simp only [xSeq, xSet, xRet, xIf, xExpr, xNext, xNever, xC, xNil, xCons, xTup, xLst, xOp, xEq, xNe, xUn, xNot, xAnd, xOr, xIfE, xCB, xCall, xCallB, xName, xAsg, xIsi3, toD_fz, toD_ow, toD_od, toD_bg, rd_var, rd_getv1, rd_getv2, rd_getv3, rd_test, rd_onB, rd_onI, rd_onSB, rd_andV, rd_orV, rd_notV, rd_chain, rd_II, rd_II0, rd_add1, rd_add2, rd_add3, rd_mul1, rd_mul2, rd_mul3, rd_isN, rd_notN, rd_isN1, rd_isN2, rd_isN3, rd_neg, rd_ix1, rd_ix2, rd_part, rd_sl, rd_onSl1, rd_onSl2, rd_rev, rd_onRv, rd_len1, rd_len2, rd_max2, rd_min2, rd_int1, rd_int2, rd_lst1, rd_lst2, rd_tup1, rd_tup2, rd_dm, rd_seqI, rd_onSq1, rd_onSq2, rd_rng1, rd_onR1, rd_rng2, rd_onR2, xEnumT, rd_onEt, rd_zip, rd_onZ1, rd_onZ2, rd_par, rd_onP, xPar3, rd_onP3, rd_gtup, rd_gnil, rd_gcons, rd_isi, noO_int, noO_bl, noO_str, noO_lst, noO_tup, noO_non, ini, iniB, wipeD, unw, kf, List.map_cons, List.map_nil, List.replicate_succ, List.replicate_zero, List.cons_append, List.nil_append, List.length_cons, List.length_nil, List.getElem?_cons_zero, List.getElem?_cons_succ, List.set_cons_zero, List.set_cons_succ, decide_eq_true_eq, Nat.zero_add, Nat.reduceAdd, Nat.reduceSub, Nat.reduceLeDiff, true_and, Bool.false_eq_true, if_false, if_true, isi_int_non, isi_int_bl, isi_int_int, isi_int_str, isi_int_lst, isi_int_tup, isi_bool_non, isi_bool_bl, isi_bool_int, isi_bool_str, isi_bool_lst, isi_bool_tup, isi_list_non, isi_list_bl, isi_list_int, isi_list_str, isi_list_lst, isi_list_tup, isi_tuple_non, isi_tuple_bl, isi_tuple_int, isi_tuple_str, isi_tuple_lst, isi_tuple_tup, isi_str_non, isi_str_bl, isi_str_int, isi_str_str, isi_str_lst, isi_str_tup, Bool.not_true, Bool.not_false, Bool.or_false, Bool.or_true, Bool.false_or, Bool.true_or, ite_true, ite_false, Option.some.injEq, true_or, false_or, or_false, and_true]
      exact hq
    · simp only [xSeq, xSet, xRet, xIf, xExpr, xNext, xNever, xC, xNil, xCons, xTup, xLst, xOp, xEq, xNe, xUn, xNot, xAnd, xOr, xIfE, xCB, xCall, xCallB, xName, xAsg, xIsi3, toD_fz, toD_ow, toD_od, toD_bg, rd_var, rd_getv1, rd_getv2, rd_getv3, rd_test, rd_onB, rd_onI, rd_onSB, rd_andV, rd_orV, rd_notV, rd_chain, rd_II, rd_II0, rd_add1, rd_add2, rd_add3, rd_mul1, rd_mul2, rd_mul3, rd_isN, rd_notN, rd_isN1, rd_isN2, rd_isN3, rd_neg, rd_ix1, rd_ix2, rd_part, rd_sl, rd_onSl1, rd_onSl2, rd_rev, rd_onRv, rd_len1, rd_len2, rd_max2, rd_min2, rd_int1, rd_int2, rd_lst1, rd_lst2, rd_tup1, rd_tup2, rd_dm, rd_seqI, rd_onSq1, rd_onSq2, rd_rng1, rd_onR1, rd_rng2, rd_onR2, xEnumT, rd_onEt, rd_zip, rd_onZ1, rd_onZ2, rd_par, rd_onP, xPar3, rd_onP3, rd_gtup, rd_gnil, rd_gcons, rd_isi, noO_int, noO_bl, noO_str, noO_lst, noO_tup, noO_non, ini, iniB, wipeD, unw, kf, List.map_cons, List.map_nil, List.replicate_succ, List.replicate_zero, List.cons_append, List.nil_append, List.length_cons, List.length_nil, List.getElem?_cons_zero, List.getElem?_cons_succ, List.set_cons_zero, List.set_cons_succ, decide_eq_true_eq, Nat.zero_add, Nat.reduceAdd, Nat.reduceSub, Nat.reduceLeDiff, true_and, Bool.false_eq_true, if_false, if_true, isi_int_non, isi_int_bl, isi_int_int, isi_int_str, isi_int_lst, isi_int_tup, isi_bool_non, isi_bool_bl, isi_bool_int, isi_bool_str, isi_bool_lst, isi_bool_tup, isi_list_non, isi_list_bl, isi_list_int, isi_list_str, isi_list_lst, isi_list_tup, isi_tuple_non, isi_tuple_bl, isi_tuple_int, isi_tuple_str, isi_tuple_lst, isi_tuple_tup, isi_str_non, isi_str_bl, isi_str_int, isi_str_str, isi_str_lst, isi_str_tup, Bool.not_true, Bool.not_false, Bool.or_false, Bool.or_true, Bool.false_or, Bool.true_or, ite_true, ite_false, Option.some.injEq, true_or, false_or, or_false, and_true]
      exact ite2 (fun h => h1 (decide_eq_true h)) (fun h => h2 (decide_eq_false h))
    · simp only [xSeq, xSet, xRet, xIf, xExpr, xNext, xNever, xC, xNil, xCons, xTup, xLst, xOp, xEq, xNe, xUn, xNot, xAnd, xOr, xIfE, xCB, xCall, xCallB, xName, xAsg, xIsi3, toD_fz, toD_ow, toD_od, toD_bg, rd_var, rd_getv1, rd_getv2, rd_getv3, rd_test, rd_onB, rd_onI, rd_onSB, rd_andV, rd_orV, rd_notV, rd_chain, rd_II, rd_II0, rd_add1, rd_add2, rd_add3, rd_mul1, rd_mul2, rd_mul3, rd_isN, rd_notN, rd_isN1, rd_isN2, rd_isN3, rd_neg, rd_ix1, rd_ix2, rd_part, rd_sl, rd_onSl1, rd_onSl2, rd_rev, rd_onRv, rd_len1, rd_len2, rd_max2, rd_min2, rd_int1, rd_int2, rd_lst1, rd_lst2, rd_tup1, rd_tup2, rd_dm, rd_seqI, rd_onSq1, rd_onSq2, rd_rng1, rd_onR1, rd_rng2, rd_onR2, xEnumT, rd_onEt, rd_zip, rd_onZ1, rd_onZ2, rd_par, rd_onP, xPar3, rd_onP3, rd_gtup, rd_gnil, rd_gcons, rd_isi, noO_int, noO_bl, noO_str, noO_lst, noO_tup, noO_non, ini, iniB, wipeD, unw, kf, List.map_cons, List.map_nil, List.replicate_succ, List.replicate_zero, List.cons_append, List.nil_append, List.length_cons, List.length_nil, List.getElem?_cons_zero, List.getElem?_cons_succ, List.set_cons_zero, List.set_cons_succ, decide_eq_true_eq, Nat.zero_add, Nat.reduceAdd, Nat.reduceSub, Nat.reduceLeDiff, true_and, Bool.false_eq_true, if_false, if_true, isi_int_non, isi_int_bl, isi_int_int, isi_int_str, isi_int_lst, isi_int_tup, isi_bool_non, isi_bool_bl, isi_bool_int, isi_bool_str, isi_bool_lst, isi_bool_tup, isi_list_non, isi_list_bl, isi_list_int, isi_list_str, isi_list_lst, isi_list_tup, isi_tuple_non, isi_tuple_bl, isi_tuple_int, isi_tuple_str, isi_tuple_lst, isi_tuple_tup, isi_str_non, isi_str_bl, isi_str_int, isi_str_str, isi_str_lst, isi_str_tup, Bool.not_true, Bool.not_false, Bool.or_false, Bool.or_true, Bool.false_or, Bool.true_or, ite_true, ite_false, Option.some.injEq, true_or, false_or, or_false, and_true]
      refine ⟨?_, ?_⟩
      · have := List.length_filter_le (fun x => decide (hh < x)) (floods ms (hs.take i))
        simp only [List.length_map]
        omega
      · refine ⟨some (.fz (.int hh)), ?_⟩
        rw [floods_take he]
        simp [flood]
  · obtain ⟨x, rfl⟩ := hI
    simp only [xSeq, xSet, xRet, xIf, xExpr, xNext, xNever, xC, xNil, xCons, xTup, xLst, xOp, xEq, xNe, xUn, xNot, xAnd, xOr, xIfE, xCB, xCall, xCallB, xName, xAsg, xIsi3, toD_fz, toD_ow, toD_od, toD_bg, rd_var, rd_getv1, rd_getv2, rd_getv3, rd_test, rd_onB, rd_onI, rd_onSB, rd_andV, rd_orV, rd_notV, rd_chain, rd_II, rd_II0, rd_add1, rd_add2, rd_add3, rd_mul1, rd_mul2, rd_mul3, rd_isN, rd_notN, rd_isN1, rd_isN2, rd_isN3, rd_neg, rd_ix1, rd_ix2, rd_part, rd_sl, rd_onSl1, rd_onSl2, rd_rev, rd_onRv, rd_len1, rd_len2, rd_max2, rd_min2, rd_int1, rd_int2, rd_lst1, rd_lst2, rd_tup1, rd_tup2, rd_dm, rd_seqI, rd_onSq1, rd_onSq2, rd_rng1, rd_onR1, rd_rng2, rd_onR2, xEnumT, rd_onEt, rd_zip, rd_onZ1, rd_onZ2, rd_par, rd_onP, xPar3, rd_onP3, rd_gtup, rd_gnil, rd_gcons, rd_isi, noO_int, noO_bl, noO_str, noO_lst, noO_tup, noO_non, ini, iniB, wipeD, unw, kf, List.map_cons, List.map_nil, List.replicate_succ, List.replicate_zero, List.cons_append, List.nil_append, List.length_cons, List.length_nil, List.getElem?_cons_zero, List.getElem?_cons_succ, List.set_cons_zero, List.set_cons_succ, decide_eq_true_eq, Nat.zero_add, Nat.reduceAdd, Nat.reduceSub, Nat.reduceLeDiff, true_and, Bool.false_eq_true, if_false, if_true, isi_int_non, isi_int_bl, isi_int_int, isi_int_str, isi_int_lst, isi_int_tup, isi_bool_non, isi_bool_bl, isi_bool_int, isi_bool_str, isi_bool_lst, isi_bool_tup, isi_list_non, isi_list_bl, isi_list_int, isi_list_str, isi_list_lst, isi_list_tup, isi_tuple_non, isi_tuple_bl, isi_tuple_int, isi_tuple_str, isi_tuple_lst, isi_tuple_tup, isi_str_non, isi_str_bl, isi_str_int, isi_str_str, isi_str_lst, isi_str_tup, Bool.not_true, Bool.not_false, Bool.or_false, Bool.or_true, Bool.false_or, Bool.true_or, ite_true, ite_false, Option.some.injEq, true_or, false_or, or_false, and_true]
    rw [List.length_map, List.take_length]
    exact q

def goodL : Int → List D → Bool
  | _, [] => true
  | last, e :: r => inR e 1 (last - 1) && goodL (ival e) r
theorem falling_cons (x : Int) : ∀ r : List Int, falling (x :: r) = true → ∀ y ∈ r, y < x
  | [], _, y, h => by cases h
  | z :: r, h, y, hy => by
    simp only [falling, Bool.and_eq_true, decide_eq_true_eq] at h
    rcases List.mem_cons.mp hy with rfl | hy
    · exact h.1
    · have := falling_cons z r h.2 y hy
      omega
theorem falling_tail (x : Int) : ∀ r : List Int, falling (x :: r) = true → falling r = true
  | [], _ => rfl
  | z :: r, h => by
    simp only [falling, Bool.and_eq_true] at h
    exact h.2
theorem falling_mk (x : Int) : ∀ r : List Int, falling r = true → (∀ y ∈ r, y < x) → falling (x :: r) = true
  | [], _, _ => rfl
  | z :: r, h, hy => by
    simp only [falling, Bool.and_eq_true, decide_eq_true_eq]
    exact ⟨hy z (by simp), h⟩
theorem goodL_eq : ∀ (es : List D) (last : Int), goodL (last + 1) es = ((es.all fun x => inR x 1 last) && falling (es.map ival))
  | [], _ => rfl
  | e :: r, last => by
    have ih := goodL_eq r (ival e - 1)
    rw [show ival e - 1 + 1 = ival e from by omega] at ih
    have e1 : goodL (last + 1) (e :: r) = (inR e 1 last && goodL (ival e) r) := by
      show (inR e 1 (last + 1 - 1) && _) = _
      rw [show last + 1 - 1 = last from by omega]
    rw [e1, ih, List.all_cons, List.map_cons]
    cases h : inR e 1 last with
    | false => rfl
    | true =>
      obtain ⟨i, rfl, h1, h2⟩ := inR_int h
      rw [Bool.true_and, Bool.true_and]
      refine Bool.eq_iff_iff.mpr ?_
      simp only [Bool.and_eq_true, List.all_eq_true]
      constructor
      · rintro ⟨g1, g2⟩
        refine ⟨fun x hx => ?_, falling_mk _ _ g2 fun y hy => ?_⟩
        · obtain ⟨j, rfl, k1, k2⟩ := inR_int (g1 x hx)
          have k2 : j ≤ i - 1 := k2
          simp [inR, k1, show j ≤ last by omega]
        · obtain ⟨x, hx, rfl⟩ := List.mem_map.mp hy
          obtain ⟨j, rfl, k1, k2⟩ := inR_int (g1 x hx)
          have k2 : j ≤ i - 1 := k2
          show j < i
          omega
      · rintro ⟨g1, g2⟩
        refine ⟨fun x hx => ?_, falling_tail _ _ g2⟩
        obtain ⟨j, rfl, k1, k2⟩ := inR_int (g1 x hx)
        have k3 := falling_cons _ _ g2 j (List.mem_map.mpr ⟨_, hx, rfl⟩)
        have k3 : j < i := k3
        show (decide (1 ≤ j) && decide (j ≤ i - 1)) = true
        simp [k1, show j ≤ i - 1 by omega]
def dp__law_good : DP := fun ds Q _ => ∃ (top : Int) (d : D), ds = [.int top, d] ∧ smA d ∧ Q (.fz (.bl (marksD top d)))

abbrev s__law_good : Stmt := topS 63
theorem sc__law_good : FnScope ["top", "x", "last", "one"] ["top", "x"] (defScope s__law_good) := ⟨rfl, rfl, rfl, by decide +kernel, rfl, by decide +kernel, by decide +kernel⟩
theorem ok__law_good {P : Program} {w : World} {K : PySem.W.Frag} {mg : Str → Option Value} {base : Heap} (B : Bt mg) (d : Df K mg "_law_good" s__law_good ["top", "x"]) (h__law_in : Fn P w K mg base "_law_in" 1 3 dp__law_in) : Fn P w K mg base "_law_good" (1 + 1) 2 dp__law_good := by
  refine fn_mk d sc__law_good rfl (by decide) fun f cdv A outer s H E C hr => ⟨_, _, (ds_cons (ds_if (PWV.pt (dw_or (dt_not (dt_val (d_isi_tuple (by rfl) B.isinstance B.tuple (dv 1)))) (dw_or1 (dt_cmp o_gt (d_callB (c_lenK K) (by rfl) B.len PySem.boot_len (da_cons (dv 1) da_nil)) d_int)))) (ds_one (ds_ret d_bl)) ds_nil)
      (ds_cons (ds_set 2 sc__law_good.nd (d_op (o_addK K) (dv 0) d_int))
      (ds_cons (ds_for PassesOwn.never rfl (di_seqK K (dv 1)) (dg_name 3 sc__law_good.nd) (ds_cons (ds_if (dt_not (dt_val (d_fnK h__law_in (hr.mono (by decide)) (da_cons (dv 3) (da_cons d_int (da_cons (d_op o_sub (dv 2) d_int) da_nil)))))) (ds_one (ds_ret d_bl)) ds_nil)
      (ds_one (ds_set 2 sc__law_good.nd (dv 3)))))
      (ds_one (ds_ret d_bl))))), fun ds QD ED hl0 h => ?_⟩
  obtain ⟨a0, a1, rfl⟩ : ∃ a0 a1, ds = [a0, a1] := by
    match ds, hl0 with
    | [a0, a1], _ => exact ⟨a0, a1, rfl⟩
  clear hl0
  obtain ⟨top, d, e, sd, q⟩ := h
  cases e
  have no := smA_no sd
  cases a1 with
  | tup es =>
    obtain ⟨hl, he⟩ := smA_tup sd
    simp only [xSeq, xSet, xRet, xIf, xExpr, xNext, xNever, xC, xNil, xCons, xTup, xLst, xOp, xEq, xNe, xUn, xNot, xAnd, xOr, xIfE, xCB, xCall, xCallB, xName, xAsg, xIsi3, toD_fz, toD_ow, toD_od, toD_bg, rd_var, rd_getv1, rd_getv2, rd_getv3, rd_test, rd_onB, rd_onI, rd_onSB, rd_andV, rd_orV, rd_notV, rd_chain, rd_II, rd_II0, rd_add1, rd_add2, rd_add3, rd_mul1, rd_mul2, rd_mul3, rd_isN, rd_notN, rd_isN1, rd_isN2, rd_isN3, rd_neg, rd_ix1, rd_ix2, rd_part, rd_sl, rd_onSl1, rd_onSl2, rd_rev, rd_onRv, rd_len1, rd_len2, rd_max2, rd_min2, rd_int1, rd_int2, rd_lst1, rd_lst2, rd_tup1, rd_tup2, rd_dm, rd_seqI, rd_onSq1, rd_onSq2, rd_rng1, rd_onR1, rd_rng2, rd_onR2, xEnumT, rd_onEt, rd_zip, rd_onZ1, rd_onZ2, rd_par, rd_onP, xPar3, rd_onP3, rd_gtup, rd_gnil, rd_gcons, rd_isi, noO_int, noO_bl, noO_str, noO_lst, noO_tup, noO_non, ini, iniB, wipeD, unw, kf, List.map_cons, List.map_nil, List.replicate_succ, List.replicate_zero, List.cons_append, List.nil_append, List.length_cons, List.length_nil, List.getElem?_cons_zero, List.getElem?_cons_succ, List.set_cons_zero, List.set_cons_succ, decide_eq_true_eq, Nat.zero_add, Nat.reduceAdd, Nat.reduceSub, Nat.reduceLeDiff, true_and, Bool.false_eq_true, if_false, if_true, isi_int_non, isi_int_bl, isi_int_int, isi_int_str, isi_int_lst, isi_int_tup, isi_bool_non, isi_bool_bl, isi_bool_int, isi_bool_str, isi_bool_lst, isi_bool_tup, isi_list_non, isi_list_bl, isi_list_int, isi_list_str, isi_list_lst, isi_list_tup, isi_tuple_non, isi_tuple_bl, isi_tuple_int, isi_tuple_str, isi_tuple_lst, isi_tuple_tup, isi_str_non, isi_str_bl, isi_str_int, isi_str_str, isi_str_lst, isi_str_tup, Bool.not_true, Bool.not_false, Bool.or_false, Bool.or_true, Bool.false_or, Bool.true_or, ite_true, ite_false, Option.some.injEq, true_or, false_or, or_false, and_true, xFor]
    refine ite2 (fun h8 => ?_) (fun h8 => ?_)
    · simp only [marksD, decide_eq_false (show ¬ es.length ≤ 8 by omega), Bool.false_and] at q
      exact q
    · simp only [marksD, decide_eq_true (show es.length ≤ 8 by omega), Bool.true_and] at q
      rw [← goodL_eq] at q
      refine ⟨fun i ρ => ∃ last x3, ρ = [some (.fz (.int top)), some (.fz (.tup es)), some (.fz (.int last)), x3] ∧ goodL (top + 1) es = goodL last (es.drop i), ⟨top + 1, none, rfl, by rw [List.drop_zero]⟩, fun i d ρ hd hI => ?_, fun ρ hI => ?_⟩
      · obtain ⟨last, x3, rfl, hg⟩ := hI
        have hlt := (List.getElem?_eq_some_iff.mp hd).1
        have hdr : es.drop i = d :: es.drop (i + 1) := by
          rw [List.drop_eq_getElem_cons hlt, (List.getElem?_eq_some_iff.mp hd).2]
        rw [hdr] at hg
        have hg : goodL (top + 1) es = (inR d 1 (last - 1) && goodL (ival d) (es.drop (i + 1))) := hg
        simp only [xSeq, xSet, xRet, xIf, xExpr, xNext, xNever, xC, xNil, xCons, xTup, xLst, xOp, xEq, xNe, xUn, xNot, xAnd, xOr, xIfE, xCB, xCall, xCallB, xName, xAsg, xIsi3, toD_fz, toD_ow, toD_od, toD_bg, rd_var, rd_getv1, rd_getv2, rd_getv3, rd_test, rd_onB, rd_onI, rd_onSB, rd_andV, rd_orV, rd_notV, rd_chain, rd_II, rd_II0, rd_add1, rd_add2, rd_add3, rd_mul1, rd_mul2, rd_mul3, rd_isN, rd_notN, rd_isN1, rd_isN2, rd_isN3, rd_neg, rd_ix1, rd_ix2, rd_part, rd_sl, rd_onSl1, rd_onSl2, rd_rev, rd_onRv, rd_len1, rd_len2, rd_max2, rd_min2, rd_int1, rd_int2, rd_lst1, rd_lst2, rd_tup1, rd_tup2, rd_dm, rd_seqI, rd_onSq1, rd_onSq2, rd_rng1, rd_onR1, rd_rng2, rd_onR2, xEnumT, rd_onEt, rd_zip, rd_onZ1, rd_onZ2, rd_par, rd_onP, xPar3, rd_onP3, rd_gtup, rd_gnil, rd_gcons, rd_isi, noO_int, noO_bl, noO_str, noO_lst, noO_tup, noO_non, ini, iniB, wipeD, unw, kf, List.map_cons, List.map_nil, List.replicate_succ, List.replicate_zero, List.cons_append, List.nil_append, List.length_cons, List.length_nil, List.getElem?_cons_zero, List.getElem?_cons_succ, List.set_cons_zero, List.set_cons_succ, decide_eq_true_eq, Nat.zero_add, Nat.reduceAdd, Nat.reduceSub, Nat.reduceLeDiff, true_and, Bool.false_eq_true, if_false, if_true, isi_int_non, isi_int_bl, isi_int_int, isi_int_str, isi_int_lst, isi_int_tup, isi_bool_non, isi_bool_bl, isi_bool_int, isi_bool_str, isi_bool_lst, isi_bool_tup, isi_list_non, isi_list_bl, isi_list_int, isi_list_str, isi_list_lst, isi_list_tup, isi_tuple_non, isi_tuple_bl, isi_tuple_int, isi_tuple_str, isi_tuple_lst, isi_tuple_tup, isi_str_non, isi_str_bl, isi_str_int, isi_str_str, isi_str_lst, isi_str_tup, Bool.not_true, Bool.not_false, Bool.or_false, Bool.or_true, Bool.false_or, Bool.true_or, ite_true, ite_false, Option.some.injEq, true_or, false_or, or_false, and_true]
        refine ⟨d, 1, last - 1, rfl, smA_no (he d (List.mem_of_getElem? hd)), ?_⟩
        rcases Bool.eq_false_or_eq_true (inR d 1 (last - 1)) with h1 | h1
        · obtain ⟨j, rfl, _, _⟩ := inR_int h1
          rw [h1, Bool.true_and] at hg
          simp only [xSeq, xSet, xRet, xIf, xExpr, xNext, xNever, xC, xNil, xCons, xTup, xLst, xOp, xEq, xNe, xUn, xNot, xAnd, xOr, xIfE, xCB, xCall, xCallB, xName, xAsg, xIsi3, toD_fz, toD_ow, toD_od, toD_bg, rd_var, rd_getv1, rd_getv2, rd_getv3, rd_test, rd_onB, rd_onI, rd_onSB, rd_andV, rd_orV, rd_notV, rd_chain, rd_II, rd_II0, rd_add1, rd_add2, rd_add3, rd_mul1, rd_mul2, rd_mul3, rd_isN, rd_notN, rd_isN1, rd_isN2, rd_isN3, rd_neg, rd_ix1, rd_ix2, rd_part, rd_sl, rd_onSl1, rd_onSl2, rd_rev, rd_onRv, rd_len1, rd_len2, rd_max2, rd_min2, rd_int1, rd_int2, rd_lst1, rd_lst2, rd_tup1, rd_tup2, rd_dm, rd_seqI, rd_onSq1, rd_onSq2, rd_rng1, rd_onR1, rd_rng2, rd_onR2, xEnumT, rd_onEt, rd_zip, rd_onZ1, rd_onZ2, rd_par, rd_onP, xPar3, rd_onP3, rd_gtup, rd_gnil, rd_gcons, rd_isi, noO_int, noO_bl, noO_str, noO_lst, noO_tup, noO_non, ini, iniB, wipeD, unw, kf, List.map_cons, List.map_nil, List.replicate_succ, List.replicate_zero, List.cons_append, List.nil_append, List.length_cons, List.length_nil, List.getElem?_cons_zero, List.getElem?_cons_succ, List.set_cons_zero, List.set_cons_succ, decide_eq_true_eq, Nat.zero_add, Nat.reduceAdd, Nat.reduceSub, Nat.reduceLeDiff, true_and, Bool.false_eq_true, if_false, if_true, isi_int_non, isi_int_bl, isi_int_int, isi_int_str, isi_int_lst, isi_int_tup, isi_bool_non, isi_bool_bl, isi_bool_int, isi_bool_str, isi_bool_lst, isi_bool_tup, isi_list_non, isi_list_bl, isi_list_int, isi_list_str, isi_list_lst, isi_list_tup, isi_tuple_non, isi_tuple_bl, isi_tuple_int, isi_tuple_str, isi_tuple_lst, isi_tuple_tup, isi_str_non, isi_str_bl, isi_str_int, isi_str_str, isi_str_lst, isi_str_tup, Bool.not_true, Bool.not_false, Bool.or_false, Bool.or_true, Bool.false_or, Bool.true_or, ite_true, ite_false, Option.some.injEq, true_or, false_or, or_false, and_true, h1]
          exact ⟨_, _, rfl, hg⟩
        · rw [h1, Bool.false_and] at hg
          rw [hg] at q
          simp only [xSeq, xSet, xRet, xIf, xExpr, xNext, xNever, xC, xNil, xCons, xTup, xLst, xOp, xEq, xNe, xUn, xNot, xAnd, xOr, xIfE, xCB, xCall, xCallB, xName, xAsg, xIsi3, toD_fz, toD_ow, toD_od, toD_bg, rd_var, rd_getv1, rd_getv2, rd_getv3, rd_test, rd_onB, rd_onI, rd_onSB, rd_andV, rd_orV, rd_notV, rd_chain, rd_II, rd_II0, rd_add1, rd_add2, rd_add3, rd_mul1, rd_mul2, rd_mul3, rd_isN, rd_notN, rd_isN1, rd_isN2, rd_isN3, rd_neg, rd_ix1, rd_ix2, rd_part, rd_sl, rd_onSl1, rd_onSl2, rd_rev, rd_onRv, rd_len1, rd_len2, rd_max2, rd_min2, rd_int1, rd_int2, rd_lst1, rd_lst2, rd_tup1, rd_tup2, rd_dm, rd_seqI, rd_onSq1, rd_onSq2, rd_rng1, rd_onR1, rd_rng2, rd_onR2, xEnumT, rd_onEt, rd_zip, rd_onZ1, rd_onZ2, rd_par, rd_onP, xPar3, rd_onP3, rd_gtup, rd_gnil, rd_gcons, rd_isi, noO_int, noO_bl, noO_str, noO_lst, noO_tup, noO_non, ini, iniB, wipeD, unw, kf, List.map_cons, List.map_nil, List.replicate_succ, List.replicate_zero, List.cons_append, List.nil_append, List.length_cons, List.length_nil, List.getElem?_cons_zero, List.getElem?_cons_succ, List.set_cons_zero, List.set_cons_succ, decide_eq_true_eq, Nat.zero_add, Nat.reduceAdd, Nat.reduceSub, Nat.reduceLeDiff, true_and, Bool.false_eq_true, if_false, if_true, isi_int_non, isi_int_bl, isi_int_int, isi_int_str, isi_int_lst, isi_int_tup, isi_bool_non, isi_bool_bl, isi_bool_int, isi_bool_str, isi_bool_lst, isi_bool_tup, isi_list_non, isi_list_bl, isi_list_int, isi_list_str, isi_list_lst, isi_list_tup, isi_tuple_non, isi_tuple_bl, isi_tuple_int, isi_tuple_str, isi_tuple_lst, isi_tuple_tup, isi_str_non, isi_str_bl, isi_str_int, isi_str_str, isi_str_lst, isi_str_tup, Bool.not_true, Bool.not_false, Bool.or_false, Bool.or_true, Bool.false_or, Bool.true_or, ite_true, ite_false, Option.some.injEq, true_or, false_or, or_false, and_true, h1]
          exact q
      · obtain ⟨last, x3, rfl, hg⟩ := hI
        rw [List.drop_length] at hg
        rw [hg] at q
        exact q
  | obj φ => cases no
  | dct ks es =>
    obtain ⟨n, sd⟩ := sd
    cases n <;> cases sd
  | _ =>
    simp only [xSeq, xSet, xRet, xIf, xExpr, xNext, xNever, xC, xNil, xCons, xTup, xLst, xOp, xEq, xNe, xUn, xNot, xAnd, xOr, xIfE, xCB, xCall, xCallB, xName, xAsg, xIsi3, toD_fz, toD_ow, toD_od, toD_bg, rd_var, rd_getv1, rd_getv2, rd_getv3, rd_test, rd_onB, rd_onI, rd_onSB, rd_andV, rd_orV, rd_notV, rd_chain, rd_II, rd_II0, rd_add1, rd_add2, rd_add3, rd_mul1, rd_mul2, rd_mul3, rd_isN, rd_notN, rd_isN1, rd_isN2, rd_isN3, rd_neg, rd_ix1, rd_ix2, rd_part, rd_sl, rd_onSl1, rd_onSl2, rd_rev, rd_onRv, rd_len1, rd_len2, rd_max2, rd_min2, rd_int1, rd_int2, rd_lst1, rd_lst2, rd_tup1, rd_tup2, rd_dm, rd_seqI, rd_onSq1, rd_onSq2, rd_rng1, rd_onR1, rd_rng2, rd_onR2, xEnumT, rd_onEt, rd_zip, rd_onZ1, rd_onZ2, rd_par, rd_onP, xPar3, rd_onP3, rd_gtup, rd_gnil, rd_gcons, rd_isi, noO_int, noO_bl, noO_str, noO_lst, noO_tup, noO_non, ini, iniB, wipeD, unw, kf, List.map_cons, List.map_nil, List.replicate_succ, List.replicate_zero, List.cons_append, List.nil_append, List.length_cons, List.length_nil, List.getElem?_cons_zero, List.getElem?_cons_succ, List.set_cons_zero, List.set_cons_succ, decide_eq_true_eq, Nat.zero_add, Nat.reduceAdd, Nat.reduceSub, Nat.reduceLeDiff, true_and, Bool.false_eq_true, if_false, if_true, isi_int_non, isi_int_bl, isi_int_int, isi_int_str, isi_int_lst, isi_int_tup, isi_bool_non, isi_bool_bl, isi_bool_int, isi_bool_str, isi_bool_lst, isi_bool_tup, isi_list_non, isi_list_bl, isi_list_int, isi_list_str, isi_list_lst, isi_list_tup, isi_tuple_non, isi_tuple_bl, isi_tuple_int, isi_tuple_str, isi_tuple_lst, isi_tuple_tup, isi_str_non, isi_str_bl, isi_str_int, isi_str_str, isi_str_lst, isi_str_tup, Bool.not_true, Bool.not_false, Bool.or_false, Bool.or_true, Bool.false_or, Bool.true_or, ite_true, ite_false, Option.some.injEq, true_or, false_or, or_false, and_true]
    exact q

def qn (x : Str) (st : Stmt) : Str := (envOfC x (defScope st) 0 0 .none).qual ++ "<lambda>"
def dp__law_doors (P : Program) (w : World) (K : PySem.W.Frag) (mg : Str → Option Value) (base : Heap) : DP := fun ds Q _ => ∃ t x i, i < 7 ∧ ds = [t, x] ∧ smA t ∧ smA x ∧ rfMarks t x = some (nmC i) ∧ Q (.ow (List.replicate 12 (.obj (Deed P w K mg base 7 (nmC i)))))

abbrev s__law_doors : Stmt := topS 64
theorem sc__law_doors : FnScope ["top", "x", "found"] ["top", "x"] (defScope s__law_doors) := ⟨rfl, rfl, rfl, by decide +kernel, rfl, by decide +kernel, by decide +kernel⟩

theorem ok__law_doors {P : Program} {w : World} {K : PySem.W.Frag} {mg : Str → Option Value} {base : Heap} {T : List (Addr × Str)} {c Pt : Addr} (B : Bt mg) (TB : LamX.TabB base mg c Pt) (hm : (Pt, qn "_law_doors" s__law_doors) ∈ T) (hu : ∀ p ∈ T, p.1 = Pt → p.2 = qn "_law_doors" s__law_doors)
    (d : DfT K mg "_law_doors" s__law_doors ["top", "x"] c) (h_behind : FnX P w K mg base "behind" 5 3 dp_behind) (h_far : FnX P w K mg base "far" 5 4 dp_far) (h_how_many : FnX P w K mg base "how_many" 6 4 dp_how_many) (h_rest : FnX P w K mg base "rest" 6 5 dp_rest) (h_first_row : FnX P w K mg base "first_row" 6 4 dp_first_row) (h_shortest : FnX P w K mg base "shortest" 6 3 dp_shortest) (h_log_ways : FnX P w K mg base "log_ways" 5 3 dp_log_ways) (h_days : FnX P w K mg base "days" 6 5 dp_days) (h_heights : FnX P w K mg base "heights" 6 5 dp_heights) (h_unread : FnX P w K mg base "unread" 5 4 dp_unread) (h_alike_by : FnX P w K mg base "alike_by" 6 3 dp_alike_by) (h_how_many_marks : FnX P w K mg base "how_many_marks" 5 3 dp_how_many_marks) : FnT P w K mg base T "_law_doors" 1 2 (dp__law_doors P w K mg base) := by
  refine fn_mkL d sc__law_doors rfl (by decide) fun f A outer s H C hC hT hr => ⟨_, _, (dr_cons (ds_set 2 sc__law_doors.nd (d_lst (da_cons (d_lm hC TB hm hu (hT := hT) (L := by rfl)) (da_cons (d_lm hC TB hm hu (hT := hT) (L := by rfl)) (da_cons (d_lm hC TB hm hu (hT := hT) (L := by rfl)) da_nil)))))
      (dr_cons (ds_set 2 sc__law_doors.nd (d_op (o_addK K) (dv 2) (d_lst (da_cons (d_lm hC TB hm hu (hT := hT) (L := by rfl)) (da_cons (d_lm hC TB hm hu (hT := hT) (L := by rfl)) da_nil)))))
      (dr_cons (ds_set 2 sc__law_doors.nd (d_op (o_addK K) (dv 2) (d_lst (da_cons (d_lm hC TB hm hu (hT := hT) (L := by rfl)) (da_cons (d_lm hC TB hm hu (hT := hT) (L := by rfl)) (da_cons (d_lm hC TB hm hu (hT := hT) (L := by rfl)) da_nil))))))
      (dr_cons (ds_set 2 sc__law_doors.nd (d_op (o_addK K) (dv 2) (d_lst (da_cons (d_lm hC TB hm hu (hT := hT) (L := by rfl)) (da_cons (d_lm hC TB hm hu (hT := hT) (L := by rfl)) da_nil)))))
      (dr_ret (d_op (o_addK K) (dv 2) (d_lst (da_cons (d_lm hC TB hm hu (hT := hT) (L := by rfl)) (da_cons (d_lm hC TB hm hu (hT := hT) (L := by rfl)) da_nil))))))))), fun ds QD hl0 h => ?_⟩
  obtain ⟨a0, a1, i, hi, rfl, st, sx, hc, q⟩ := h
  simp only [xSeq, xSet, xRet, xIf, xExpr, xNext, xNever, xC, xNil, xCons, xTup, xLst, xOp, xEq, xNe, xUn, xNot, xAnd, xOr, xIfE, xCB, xCall, xCallB, xName, xAsg, xIsi3, toD_fz, toD_ow, toD_od, toD_bg, rd_var, rd_getv1, rd_getv2, rd_getv3, rd_test, rd_onB, rd_onI, rd_onSB, rd_andV, rd_orV, rd_notV, rd_chain, rd_II, rd_II0, rd_add1, rd_add2, rd_add3, rd_mul1, rd_mul2, rd_mul3, rd_isN, rd_notN, rd_isN1, rd_isN2, rd_isN3, rd_neg, rd_ix1, rd_ix2, rd_part, rd_sl, rd_onSl1, rd_onSl2, rd_rev, rd_onRv, rd_len1, rd_len2, rd_max2, rd_min2, rd_int1, rd_int2, rd_lst1, rd_lst2, rd_tup1, rd_tup2, rd_dm, rd_seqI, rd_onSq1, rd_onSq2, rd_rng1, rd_onR1, rd_rng2, rd_onR2, xEnumT, rd_onEt, rd_zip, rd_onZ1, rd_onZ2, rd_par, rd_onP, xPar3, rd_onP3, rd_gtup, rd_gnil, rd_gcons, rd_isi, noO_int, noO_bl, noO_str, noO_lst, noO_tup, noO_non, ini, iniB, wipeD, unw, kf, List.map_cons, List.map_nil, List.replicate_succ, List.replicate_zero, List.cons_append, List.nil_append, List.length_cons, List.length_nil, List.getElem?_cons_zero, List.getElem?_cons_succ, List.set_cons_zero, List.set_cons_succ, decide_eq_true_eq, Nat.zero_add, Nat.reduceAdd, Nat.reduceSub, Nat.reduceLeDiff, true_and, Bool.false_eq_true, if_false, if_true, isi_int_non, isi_int_bl, isi_int_int, isi_int_str, isi_int_lst, isi_int_tup, isi_bool_non, isi_bool_bl, isi_bool_int, isi_bool_str, isi_bool_lst, isi_bool_tup, isi_list_non, isi_list_bl, isi_list_int, isi_list_str, isi_list_lst, isi_list_tup, isi_tuple_non, isi_tuple_bl, isi_tuple_int, isi_tuple_str, isi_tuple_lst, isi_tuple_tup, isi_str_non, isi_str_bl, isi_str_int, isi_str_str, isi_str_lst, isi_str_tup, Bool.not_true, Bool.not_false, Bool.or_false, Bool.or_true, Bool.false_or, Bool.true_or, ite_true, ite_false, Option.some.injEq, true_or, false_or, or_false, and_true, rd_isOwn, rd_own1, rd_own2, rd_own3, rd_ixO, rd_onIx1, rd_onIx2, rd_store, rd_onStore1, rd_onStore2, ex_eq, xApp, xDput, S.ow.injEq, S.bg.injEq, S.od.injEq, reduceCtorEq, exists_eq_left', exists_eq_left, exists_eq', D.int.injEq, atI_c0, atI_c1, atI_c2, ixN3_0, ixN3_1, ixN3_2, false_and, and_self, xLm]
  refine ⟨_, _, rfl, (turns_cons (turn_lam (k := 6) (c := nmC i) [true, true, false] (by rfl) (by rfl) (fun _ _ _ _ _ => rfl) (fun W hs hb f2 c2 A2 o2 s2 H2 E2 C2 ED2 hr2 hE2 => by obtain ⟨q, params, body, scope, cl⟩ := W; dsimp only at hs hb; subst hs hb; exact d_fnL hE2 h_behind (hr2.mono (by decide)) (da_cons (dv 0) (da_cons (dv 1) (da_cons d_non da_nil)))) (by trivial) ?_) (turns_cons (turn_lam (k := 6) (c := nmC i) [true, true, false] (by rfl) (by rfl) (fun _ _ _ _ _ => rfl) (fun W hs hb f2 c2 A2 o2 s2 H2 E2 C2 ED2 hr2 hE2 => by obtain ⟨q, params, body, scope, cl⟩ := W; dsimp only at hs hb; subst hs hb; exact d_fnL hE2 h_far (hr2.mono (by decide)) (da_cons (dv 0) (da_cons (dv 1) (da_cons d_non (da_cons d_non da_nil))))) (by trivial) ?_) (turns_cons (turn_lam (k := 6) (c := nmC i) [true, true, false] (by rfl) (by rfl) (fun _ _ _ _ _ => rfl) (fun W hs hb f2 c2 A2 o2 s2 H2 E2 C2 ED2 hr2 hE2 => by obtain ⟨q, params, body, scope, cl⟩ := W; dsimp only at hs hb; subst hs hb; exact d_fnL hE2 h_how_many (hr2.mono (by decide)) (da_cons (dv 0) (da_cons (dv 1) (da_cons d_non (da_cons d_non da_nil))))) (by trivial) ?_) (turns_cons (turn_lam (k := 6) (c := nmC i) [true, true, false] (by rfl) (by rfl) (fun _ _ _ _ _ => rfl) (fun W hs hb f2 c2 A2 o2 s2 H2 E2 C2 ED2 hr2 hE2 => by obtain ⟨q, params, body, scope, cl⟩ := W; dsimp only at hs hb; subst hs hb; exact d_fnL hE2 h_rest (hr2.mono (by decide)) (da_cons (dv 0) (da_cons (dv 1) (da_cons d_non (da_cons d_non (da_cons d_non da_nil)))))) (by trivial) ?_) (turns_cons (turn_lam (k := 6) (c := nmC i) [true, true, false] (by rfl) (by rfl) (fun _ _ _ _ _ => rfl) (fun W hs hb f2 c2 A2 o2 s2 H2 E2 C2 ED2 hr2 hE2 => by obtain ⟨q, params, body, scope, cl⟩ := W; dsimp only at hs hb; subst hs hb; exact d_fnL hE2 h_first_row (hr2.mono (by decide)) (da_cons (dv 0) (da_cons (dv 1) (da_cons d_non (da_cons d_non da_nil))))) (by trivial) ?_) (turns_cons (turn_lam (k := 6) (c := nmC i) [true, true, false] (by rfl) (by rfl) (fun _ _ _ _ _ => rfl) (fun W hs hb f2 c2 A2 o2 s2 H2 E2 C2 ED2 hr2 hE2 => by obtain ⟨q, params, body, scope, cl⟩ := W; dsimp only at hs hb; subst hs hb; exact d_fnL hE2 h_shortest (hr2.mono (by decide)) (da_cons (dv 0) (da_cons (dv 1) (da_cons d_non da_nil)))) (by trivial) ?_) (turns_cons (turn_lam (k := 6) (c := nmC i) [true, true, false] (by rfl) (by rfl) (fun _ _ _ _ _ => rfl) (fun W hs hb f2 c2 A2 o2 s2 H2 E2 C2 ED2 hr2 hE2 => by obtain ⟨q, params, body, scope, cl⟩ := W; dsimp only at hs hb; subst hs hb; exact d_fnL hE2 h_log_ways (hr2.mono (by decide)) (da_cons (dv 0) (da_cons (dv 1) (da_cons d_non da_nil)))) (by trivial) ?_) (turns_cons (turn_lam (k := 6) (c := nmC i) [true, true, false] (by rfl) (by rfl) (fun _ _ _ _ _ => rfl) (fun W hs hb f2 c2 A2 o2 s2 H2 E2 C2 ED2 hr2 hE2 => by obtain ⟨q, params, body, scope, cl⟩ := W; dsimp only at hs hb; subst hs hb; exact d_fnL hE2 h_days (hr2.mono (by decide)) (da_cons (dv 0) (da_cons (dv 1) (da_cons d_non (da_cons d_non (da_cons d_non da_nil)))))) (by trivial) ?_) (turns_cons (turn_lam (k := 6) (c := nmC i) [true, true, false] (by rfl) (by rfl) (fun _ _ _ _ _ => rfl) (fun W hs hb f2 c2 A2 o2 s2 H2 E2 C2 ED2 hr2 hE2 => by obtain ⟨q, params, body, scope, cl⟩ := W; dsimp only at hs hb; subst hs hb; exact d_fnL hE2 h_heights (hr2.mono (by decide)) (da_cons (dv 0) (da_cons (dv 1) (da_cons d_non (da_cons d_non (da_cons d_non da_nil)))))) (by trivial) ?_) (turns_cons (turn_lam (k := 6) (c := nmC i) [true, true, false] (by rfl) (by rfl) (fun _ _ _ _ _ => rfl) (fun W hs hb f2 c2 A2 o2 s2 H2 E2 C2 ED2 hr2 hE2 => by obtain ⟨q, params, body, scope, cl⟩ := W; dsimp only at hs hb; subst hs hb; exact d_fnL hE2 h_unread (hr2.mono (by decide)) (da_cons (dv 0) (da_cons (dv 1) (da_cons d_non (da_cons d_non da_nil))))) (by trivial) ?_) (turns_cons (turn_lam (k := 6) (c := nmC i) [true, true, false] (by rfl) (by rfl) (fun _ _ _ _ _ => rfl) (fun W hs hb f2 c2 A2 o2 s2 H2 E2 C2 ED2 hr2 hE2 => by obtain ⟨q, params, body, scope, cl⟩ := W; dsimp only at hs hb; subst hs hb; exact d_fnL hE2 h_alike_by (hr2.mono (by decide)) (da_cons (dv 0) (da_cons (dv 1) (da_cons d_non da_nil)))) (by trivial) ?_) (turns_cons (turn_lam (k := 6) (c := nmC i) [true, true, false] (by rfl) (by rfl) (fun _ _ _ _ _ => rfl) (fun W hs hb f2 c2 A2 o2 s2 H2 E2 C2 ED2 hr2 hE2 => by obtain ⟨q, params, body, scope, cl⟩ := W; dsimp only at hs hb; subst hs hb; exact d_fnL hE2 h_how_many_marks (hr2.mono (by decide)) (da_cons (dv 0) (da_cons (dv 1) (da_cons d_non da_nil)))) (by trivial) ?_) turns_nil)))))))))))), ?_⟩
  · simp only [xSeq, xSet, xRet, xIf, xExpr, xNext, xNever, xC, xNil, xCons, xTup, xLst, xOp, xEq, xNe, xUn, xNot, xAnd, xOr, xIfE, xCB, xCall, xCallB, xName, xAsg, xIsi3, toD_fz, toD_ow, toD_od, toD_bg, rd_var, rd_getv1, rd_getv2, rd_getv3, rd_test, rd_onB, rd_onI, rd_onSB, rd_andV, rd_orV, rd_notV, rd_chain, rd_II, rd_II0, rd_add1, rd_add2, rd_add3, rd_mul1, rd_mul2, rd_mul3, rd_isN, rd_notN, rd_isN1, rd_isN2, rd_isN3, rd_neg, rd_ix1, rd_ix2, rd_part, rd_sl, rd_onSl1, rd_onSl2, rd_rev, rd_onRv, rd_len1, rd_len2, rd_max2, rd_min2, rd_int1, rd_int2, rd_lst1, rd_lst2, rd_tup1, rd_tup2, rd_dm, rd_seqI, rd_onSq1, rd_onSq2, rd_rng1, rd_onR1, rd_rng2, rd_onR2, xEnumT, rd_onEt, rd_zip, rd_onZ1, rd_onZ2, rd_par, rd_onP, xPar3, rd_onP3, rd_gtup, rd_gnil, rd_gcons, rd_isi, noO_int, noO_bl, noO_str, noO_lst, noO_tup, noO_non, ini, iniB, wipeD, unw, kf, List.map_cons, List.map_nil, List.replicate_succ, List.replicate_zero, List.cons_append, List.nil_append, List.length_cons, List.length_nil, List.getElem?_cons_zero, List.getElem?_cons_succ, List.set_cons_zero, List.set_cons_succ, decide_eq_true_eq, Nat.zero_add, Nat.reduceAdd, Nat.reduceSub, Nat.reduceLeDiff, true_and, Bool.false_eq_true, if_false, if_true, isi_int_non, isi_int_bl, isi_int_int, isi_int_str, isi_int_lst, isi_int_tup, isi_bool_non, isi_bool_bl, isi_bool_int, isi_bool_str, isi_bool_lst, isi_bool_tup, isi_list_non, isi_list_bl, isi_list_int, isi_list_str, isi_list_lst, isi_list_tup, isi_tuple_non, isi_tuple_bl, isi_tuple_int, isi_tuple_str, isi_tuple_lst, isi_tuple_tup, isi_str_non, isi_str_bl, isi_str_int, isi_str_str, isi_str_lst, isi_str_tup, Bool.not_true, Bool.not_false, Bool.or_false, Bool.or_true, Bool.false_or, Bool.true_or, ite_true, ite_false, Option.some.injEq, true_or, false_or, or_false, and_true, capD]
    exact ⟨a0, a1, .non, rfl, st, sx, smA_non, nmC i, by simp only [rfBoth, hc, then_some], rfl⟩
  · simp only [xSeq, xSet, xRet, xIf, xExpr, xNext, xNever, xC, xNil, xCons, xTup, xLst, xOp, xEq, xNe, xUn, xNot, xAnd, xOr, xIfE, xCB, xCall, xCallB, xName, xAsg, xIsi3, toD_fz, toD_ow, toD_od, toD_bg, rd_var, rd_getv1, rd_getv2, rd_getv3, rd_test, rd_onB, rd_onI, rd_onSB, rd_andV, rd_orV, rd_notV, rd_chain, rd_II, rd_II0, rd_add1, rd_add2, rd_add3, rd_mul1, rd_mul2, rd_mul3, rd_isN, rd_notN, rd_isN1, rd_isN2, rd_isN3, rd_neg, rd_ix1, rd_ix2, rd_part, rd_sl, rd_onSl1, rd_onSl2, rd_rev, rd_onRv, rd_len1, rd_len2, rd_max2, rd_min2, rd_int1, rd_int2, rd_lst1, rd_lst2, rd_tup1, rd_tup2, rd_dm, rd_seqI, rd_onSq1, rd_onSq2, rd_rng1, rd_onR1, rd_rng2, rd_onR2, xEnumT, rd_onEt, rd_zip, rd_onZ1, rd_onZ2, rd_par, rd_onP, xPar3, rd_onP3, rd_gtup, rd_gnil, rd_gcons, rd_isi, noO_int, noO_bl, noO_str, noO_lst, noO_tup, noO_non, ini, iniB, wipeD, unw, kf, List.map_cons, List.map_nil, List.replicate_succ, List.replicate_zero, List.cons_append, List.nil_append, List.length_cons, List.length_nil, List.getElem?_cons_zero, List.getElem?_cons_succ, List.set_cons_zero, List.set_cons_succ, decide_eq_true_eq, Nat.zero_add, Nat.reduceAdd, Nat.reduceSub, Nat.reduceLeDiff, true_and, Bool.false_eq_true, if_false, if_true, isi_int_non, isi_int_bl, isi_int_int, isi_int_str, isi_int_lst, isi_int_tup, isi_bool_non, isi_bool_bl, isi_bool_int, isi_bool_str, isi_bool_lst, isi_bool_tup, isi_list_non, isi_list_bl, isi_list_int, isi_list_str, isi_list_lst, isi_list_tup, isi_tuple_non, isi_tuple_bl, isi_tuple_int, isi_tuple_str, isi_tuple_lst, isi_tuple_tup, isi_str_non, isi_str_bl, isi_str_int, isi_str_str, isi_str_lst, isi_str_tup, Bool.not_true, Bool.not_false, Bool.or_false, Bool.or_true, Bool.false_or, Bool.true_or, ite_true, ite_false, Option.some.injEq, true_or, false_or, or_false, and_true, capD]
    exact ⟨a0, a1, .non, .non, rfl, st, sx, smA_non, smA_non, nmC i, by simp only [rfBoth, hc, then_some], rfl⟩
  · simp only [xSeq, xSet, xRet, xIf, xExpr, xNext, xNever, xC, xNil, xCons, xTup, xLst, xOp, xEq, xNe, xUn, xNot, xAnd, xOr, xIfE, xCB, xCall, xCallB, xName, xAsg, xIsi3, toD_fz, toD_ow, toD_od, toD_bg, rd_var, rd_getv1, rd_getv2, rd_getv3, rd_test, rd_onB, rd_onI, rd_onSB, rd_andV, rd_orV, rd_notV, rd_chain, rd_II, rd_II0, rd_add1, rd_add2, rd_add3, rd_mul1, rd_mul2, rd_mul3, rd_isN, rd_notN, rd_isN1, rd_isN2, rd_isN3, rd_neg, rd_ix1, rd_ix2, rd_part, rd_sl, rd_onSl1, rd_onSl2, rd_rev, rd_onRv, rd_len1, rd_len2, rd_max2, rd_min2, rd_int1, rd_int2, rd_lst1, rd_lst2, rd_tup1, rd_tup2, rd_dm, rd_seqI, rd_onSq1, rd_onSq2, rd_rng1, rd_onR1, rd_rng2, rd_onR2, xEnumT, rd_onEt, rd_zip, rd_onZ1, rd_onZ2, rd_par, rd_onP, xPar3, rd_onP3, rd_gtup, rd_gnil, rd_gcons, rd_isi, noO_int, noO_bl, noO_str, noO_lst, noO_tup, noO_non, ini, iniB, wipeD, unw, kf, List.map_cons, List.map_nil, List.replicate_succ, List.replicate_zero, List.cons_append, List.nil_append, List.length_cons, List.length_nil, List.getElem?_cons_zero, List.getElem?_cons_succ, List.set_cons_zero, List.set_cons_succ, decide_eq_true_eq, Nat.zero_add, Nat.reduceAdd, Nat.reduceSub, Nat.reduceLeDiff, true_and, Bool.false_eq_true, if_false, if_true, isi_int_non, isi_int_bl, isi_int_int, isi_int_str, isi_int_lst, isi_int_tup, isi_bool_non, isi_bool_bl, isi_bool_int, isi_bool_str, isi_bool_lst, isi_bool_tup, isi_list_non, isi_list_bl, isi_list_int, isi_list_str, isi_list_lst, isi_list_tup, isi_tuple_non, isi_tuple_bl, isi_tuple_int, isi_tuple_str, isi_tuple_lst, isi_tuple_tup, isi_str_non, isi_str_bl, isi_str_int, isi_str_str, isi_str_lst, isi_str_tup, Bool.not_true, Bool.not_false, Bool.or_false, Bool.or_true, Bool.false_or, Bool.true_or, ite_true, ite_false, Option.some.injEq, true_or, false_or, or_false, and_true, capD]
    exact ⟨a0, a1, .non, .non, rfl, st, sx, smA_non, smA_non, nmC i, by simp only [rfBoth, hc, then_some], rfl⟩
  · simp only [xSeq, xSet, xRet, xIf, xExpr, xNext, xNever, xC, xNil, xCons, xTup, xLst, xOp, xEq, xNe, xUn, xNot, xAnd, xOr, xIfE, xCB, xCall, xCallB, xName, xAsg, xIsi3, toD_fz, toD_ow, toD_od, toD_bg, rd_var, rd_getv1, rd_getv2, rd_getv3, rd_test, rd_onB, rd_onI, rd_onSB, rd_andV, rd_orV, rd_notV, rd_chain, rd_II, rd_II0, rd_add1, rd_add2, rd_add3, rd_mul1, rd_mul2, rd_mul3, rd_isN, rd_notN, rd_isN1, rd_isN2, rd_isN3, rd_neg, rd_ix1, rd_ix2, rd_part, rd_sl, rd_onSl1, rd_onSl2, rd_rev, rd_onRv, rd_len1, rd_len2, rd_max2, rd_min2, rd_int1, rd_int2, rd_lst1, rd_lst2, rd_tup1, rd_tup2, rd_dm, rd_seqI, rd_onSq1, rd_onSq2, rd_rng1, rd_onR1, rd_rng2, rd_onR2, xEnumT, rd_onEt, rd_zip, rd_onZ1, rd_onZ2, rd_par, rd_onP, xPar3, rd_onP3, rd_gtup, rd_gnil, rd_gcons, rd_isi, noO_int, noO_bl, noO_str, noO_lst, noO_tup, noO_non, ini, iniB, wipeD, unw, kf, List.map_cons, List.map_nil, List.replicate_succ, List.replicate_zero, List.cons_append, List.nil_append, List.length_cons, List.length_nil, List.getElem?_cons_zero, List.getElem?_cons_succ, List.set_cons_zero, List.set_cons_succ, decide_eq_true_eq, Nat.zero_add, Nat.reduceAdd, Nat.reduceSub, Nat.reduceLeDiff, true_and, Bool.false_eq_true, if_false, if_true, isi_int_non, isi_int_bl, isi_int_int, isi_int_str, isi_int_lst, isi_int_tup, isi_bool_non, isi_bool_bl, isi_bool_int, isi_bool_str, isi_bool_lst, isi_bool_tup, isi_list_non, isi_list_bl, isi_list_int, isi_list_str, isi_list_lst, isi_list_tup, isi_tuple_non, isi_tuple_bl, isi_tuple_int, isi_tuple_str, isi_tuple_lst, isi_tuple_tup, isi_str_non, isi_str_bl, isi_str_int, isi_str_str, isi_str_lst, isi_str_tup, Bool.not_true, Bool.not_false, Bool.or_false, Bool.or_true, Bool.false_or, Bool.true_or, ite_true, ite_false, Option.some.injEq, true_or, false_or, or_false, and_true, capD]
    exact ⟨a0, a1, .non, .non, .non, rfl, st, sx, smA_non, smA_non, smA_non, nmC i, by simp only [rfBoth, hc, then_some], rfl⟩
  · simp only [xSeq, xSet, xRet, xIf, xExpr, xNext, xNever, xC, xNil, xCons, xTup, xLst, xOp, xEq, xNe, xUn, xNot, xAnd, xOr, xIfE, xCB, xCall, xCallB, xName, xAsg, xIsi3, toD_fz, toD_ow, toD_od, toD_bg, rd_var, rd_getv1, rd_getv2, rd_getv3, rd_test, rd_onB, rd_onI, rd_onSB, rd_andV, rd_orV, rd_notV, rd_chain, rd_II, rd_II0, rd_add1, rd_add2, rd_add3, rd_mul1, rd_mul2, rd_mul3, rd_isN, rd_notN, rd_isN1, rd_isN2, rd_isN3, rd_neg, rd_ix1, rd_ix2, rd_part, rd_sl, rd_onSl1, rd_onSl2, rd_rev, rd_onRv, rd_len1, rd_len2, rd_max2, rd_min2, rd_int1, rd_int2, rd_lst1, rd_lst2, rd_tup1, rd_tup2, rd_dm, rd_seqI, rd_onSq1, rd_onSq2, rd_rng1, rd_onR1, rd_rng2, rd_onR2, xEnumT, rd_onEt, rd_zip, rd_onZ1, rd_onZ2, rd_par, rd_onP, xPar3, rd_onP3, rd_gtup, rd_gnil, rd_gcons, rd_isi, noO_int, noO_bl, noO_str, noO_lst, noO_tup, noO_non, ini, iniB, wipeD, unw, kf, List.map_cons, List.map_nil, List.replicate_succ, List.replicate_zero, List.cons_append, List.nil_append, List.length_cons, List.length_nil, List.getElem?_cons_zero, List.getElem?_cons_succ, List.set_cons_zero, List.set_cons_succ, decide_eq_true_eq, Nat.zero_add, Nat.reduceAdd, Nat.reduceSub, Nat.reduceLeDiff, true_and, Bool.false_eq_true, if_false, if_true, isi_int_non, isi_int_bl, isi_int_int, isi_int_str, isi_int_lst, isi_int_tup, isi_bool_non, isi_bool_bl, isi_bool_int, isi_bool_str, isi_bool_lst, isi_bool_tup, isi_list_non, isi_list_bl, isi_list_int, isi_list_str, isi_list_lst, isi_list_tup, isi_tuple_non, isi_tuple_bl, isi_tuple_int, isi_tuple_str, isi_tuple_lst, isi_tuple_tup, isi_str_non, isi_str_bl, isi_str_int, isi_str_str, isi_str_lst, isi_str_tup, Bool.not_true, Bool.not_false, Bool.or_false, Bool.or_true, Bool.false_or, Bool.true_or, ite_true, ite_false, Option.some.injEq, true_or, false_or, or_false, and_true, capD]
    exact ⟨a0, a1, .non, .non, rfl, st, sx, smA_non, smA_non, nmC i, by simp only [rfBoth, hc, then_some], rfl⟩
  · simp only [xSeq, xSet, xRet, xIf, xExpr, xNext, xNever, xC, xNil, xCons, xTup, xLst, xOp, xEq, xNe, xUn, xNot, xAnd, xOr, xIfE, xCB, xCall, xCallB, xName, xAsg, xIsi3, toD_fz, toD_ow, toD_od, toD_bg, rd_var, rd_getv1, rd_getv2, rd_getv3, rd_test, rd_onB, rd_onI, rd_onSB, rd_andV, rd_orV, rd_notV, rd_chain, rd_II, rd_II0, rd_add1, rd_add2, rd_add3, rd_mul1, rd_mul2, rd_mul3, rd_isN, rd_notN, rd_isN1, rd_isN2, rd_isN3, rd_neg, rd_ix1, rd_ix2, rd_part, rd_sl, rd_onSl1, rd_onSl2, rd_rev, rd_onRv, rd_len1, rd_len2, rd_max2, rd_min2, rd_int1, rd_int2, rd_lst1, rd_lst2, rd_tup1, rd_tup2, rd_dm, rd_seqI, rd_onSq1, rd_onSq2, rd_rng1, rd_onR1, rd_rng2, rd_onR2, xEnumT, rd_onEt, rd_zip, rd_onZ1, rd_onZ2, rd_par, rd_onP, xPar3, rd_onP3, rd_gtup, rd_gnil, rd_gcons, rd_isi, noO_int, noO_bl, noO_str, noO_lst, noO_tup, noO_non, ini, iniB, wipeD, unw, kf, List.map_cons, List.map_nil, List.replicate_succ, List.replicate_zero, List.cons_append, List.nil_append, List.length_cons, List.length_nil, List.getElem?_cons_zero, List.getElem?_cons_succ, List.set_cons_zero, List.set_cons_succ, decide_eq_true_eq, Nat.zero_add, Nat.reduceAdd, Nat.reduceSub, Nat.reduceLeDiff, true_and, Bool.false_eq_true, if_false, if_true, isi_int_non, isi_int_bl, isi_int_int, isi_int_str, isi_int_lst, isi_int_tup, isi_bool_non, isi_bool_bl, isi_bool_int, isi_bool_str, isi_bool_lst, isi_bool_tup, isi_list_non, isi_list_bl, isi_list_int, isi_list_str, isi_list_lst, isi_list_tup, isi_tuple_non, isi_tuple_bl, isi_tuple_int, isi_tuple_str, isi_tuple_lst, isi_tuple_tup, isi_str_non, isi_str_bl, isi_str_int, isi_str_str, isi_str_lst, isi_str_tup, Bool.not_true, Bool.not_false, Bool.or_false, Bool.or_true, Bool.false_or, Bool.true_or, ite_true, ite_false, Option.some.injEq, true_or, false_or, or_false, and_true, capD]
    exact ⟨a0, a1, .non, rfl, st, sx, smA_non, nmC i, by simp only [rfBoth, hc, then_some], rfl⟩
  · simp only [xSeq, xSet, xRet, xIf, xExpr, xNext, xNever, xC, xNil, xCons, xTup, xLst, xOp, xEq, xNe, xUn, xNot, xAnd, xOr, xIfE, xCB, xCall, xCallB, xName, xAsg, xIsi3, toD_fz, toD_ow, toD_od, toD_bg, rd_var, rd_getv1, rd_getv2, rd_getv3, rd_test, rd_onB, rd_onI, rd_onSB, rd_andV, rd_orV, rd_notV, rd_chain, rd_II, rd_II0, rd_add1, rd_add2, rd_add3, rd_mul1, rd_mul2, rd_mul3, rd_isN, rd_notN, rd_isN1, rd_isN2, rd_isN3, rd_neg, rd_ix1, rd_ix2, rd_part, rd_sl, rd_onSl1, rd_onSl2, rd_rev, rd_onRv, rd_len1, rd_len2, rd_max2, rd_min2, rd_int1, rd_int2, rd_lst1, rd_lst2, rd_tup1, rd_tup2, rd_dm, rd_seqI, rd_onSq1, rd_onSq2, rd_rng1, rd_onR1, rd_rng2, rd_onR2, xEnumT, rd_onEt, rd_zip, rd_onZ1, rd_onZ2, rd_par, rd_onP, xPar3, rd_onP3, rd_gtup, rd_gnil, rd_gcons, rd_isi, noO_int, noO_bl, noO_str, noO_lst, noO_tup, noO_non, ini, iniB, wipeD, unw, kf, List.map_cons, List.map_nil, List.replicate_succ, List.replicate_zero, List.cons_append, List.nil_append, List.length_cons, List.length_nil, List.getElem?_cons_zero, List.getElem?_cons_succ, List.set_cons_zero, List.set_cons_succ, decide_eq_true_eq, Nat.zero_add, Nat.reduceAdd, Nat.reduceSub, Nat.reduceLeDiff, true_and, Bool.false_eq_true, if_false, if_true, isi_int_non, isi_int_bl, isi_int_int, isi_int_str, isi_int_lst, isi_int_tup, isi_bool_non, isi_bool_bl, isi_bool_int, isi_bool_str, isi_bool_lst, isi_bool_tup, isi_list_non, isi_list_bl, isi_list_int, isi_list_str, isi_list_lst, isi_list_tup, isi_tuple_non, isi_tuple_bl, isi_tuple_int, isi_tuple_str, isi_tuple_lst, isi_tuple_tup, isi_str_non, isi_str_bl, isi_str_int, isi_str_str, isi_str_lst, isi_str_tup, Bool.not_true, Bool.not_false, Bool.or_false, Bool.or_true, Bool.false_or, Bool.true_or, ite_true, ite_false, Option.some.injEq, true_or, false_or, or_false, and_true, capD]
    exact ⟨a0, a1, .non, rfl, st, sx, smA_non, nmC i, by simp only [rfBoth, hc, then_some], rfl⟩
  · simp only [xSeq, xSet, xRet, xIf, xExpr, xNext, xNever, xC, xNil, xCons, xTup, xLst, xOp, xEq, xNe, xUn, xNot, xAnd, xOr, xIfE, xCB, xCall, xCallB, xName, xAsg, xIsi3, toD_fz, toD_ow, toD_od, toD_bg, rd_var, rd_getv1, rd_getv2, rd_getv3, rd_test, rd_onB, rd_onI, rd_onSB, rd_andV, rd_orV, rd_notV, rd_chain, rd_II, rd_II0, rd_add1, rd_add2, rd_add3, rd_mul1, rd_mul2, rd_mul3, rd_isN, rd_notN, rd_isN1, rd_isN2, rd_isN3, rd_neg, rd_ix1, rd_ix2, rd_part, rd_sl, rd_onSl1, rd_onSl2, rd_rev, rd_onRv, rd_len1, rd_len2, rd_max2, rd_min2, rd_int1, rd_int2, rd_lst1, rd_lst2, rd_tup1, rd_tup2, rd_dm, rd_seqI, rd_onSq1, rd_onSq2, rd_rng1, rd_onR1, rd_rng2, rd_onR2, xEnumT, rd_onEt, rd_zip, rd_onZ1, rd_onZ2, rd_par, rd_onP, xPar3, rd_onP3, rd_gtup, rd_gnil, rd_gcons, rd_isi, noO_int, noO_bl, noO_str, noO_lst, noO_tup, noO_non, ini, iniB, wipeD, unw, kf, List.map_cons, List.map_nil, List.replicate_succ, List.replicate_zero, List.cons_append, List.nil_append, List.length_cons, List.length_nil, List.getElem?_cons_zero, List.getElem?_cons_succ, List.set_cons_zero, List.set_cons_succ, decide_eq_true_eq, Nat.zero_add, Nat.reduceAdd, Nat.reduceSub, Nat.reduceLeDiff, true_and, Bool.false_eq_true, if_false, if_true, isi_int_non, isi_int_bl, isi_int_int, isi_int_str, isi_int_lst, isi_int_tup, isi_bool_non, isi_bool_bl, isi_bool_int, isi_bool_str, isi_bool_lst, isi_bool_tup, isi_list_non, isi_list_bl, isi_list_int, isi_list_str, isi_list_lst, isi_list_tup, isi_tuple_non, isi_tuple_bl, isi_tuple_int, isi_tuple_str, isi_tuple_lst, isi_tuple_tup, isi_str_non, isi_str_bl, isi_str_int, isi_str_str, isi_str_lst, isi_str_tup, Bool.not_true, Bool.not_false, Bool.or_false, Bool.or_true, Bool.false_or, Bool.true_or, ite_true, ite_false, Option.some.injEq, true_or, false_or, or_false, and_true, capD]
    exact ⟨a0, a1, .non, .non, .non, rfl, st, sx, smA_non, smA_non, smA_non, nmC i, by simp only [rfBoth, hc, then_some], rfl⟩
  · simp only [xSeq, xSet, xRet, xIf, xExpr, xNext, xNever, xC, xNil, xCons, xTup, xLst, xOp, xEq, xNe, xUn, xNot, xAnd, xOr, xIfE, xCB, xCall, xCallB, xName, xAsg, xIsi3, toD_fz, toD_ow, toD_od, toD_bg, rd_var, rd_getv1, rd_getv2, rd_getv3, rd_test, rd_onB, rd_onI, rd_onSB, rd_andV, rd_orV, rd_notV, rd_chain, rd_II, rd_II0, rd_add1, rd_add2, rd_add3, rd_mul1, rd_mul2, rd_mul3, rd_isN, rd_notN, rd_isN1, rd_isN2, rd_isN3, rd_neg, rd_ix1, rd_ix2, rd_part, rd_sl, rd_onSl1, rd_onSl2, rd_rev, rd_onRv, rd_len1, rd_len2, rd_max2, rd_min2, rd_int1, rd_int2, rd_lst1, rd_lst2, rd_tup1, rd_tup2, rd_dm, rd_seqI, rd_onSq1, rd_onSq2, rd_rng1, rd_onR1, rd_rng2, rd_onR2, xEnumT, rd_onEt, rd_zip, rd_onZ1, rd_onZ2, rd_par, rd_onP, xPar3, rd_onP3, rd_gtup, rd_gnil, rd_gcons, rd_isi, noO_int, noO_bl, noO_str, noO_lst, noO_tup, noO_non, ini, iniB, wipeD, unw, kf, List.map_cons, List.map_nil, List.replicate_succ, List.replicate_zero, List.cons_append, List.nil_append, List.length_cons, List.length_nil, List.getElem?_cons_zero, List.getElem?_cons_succ, List.set_cons_zero, List.set_cons_succ, decide_eq_true_eq, Nat.zero_add, Nat.reduceAdd, Nat.reduceSub, Nat.reduceLeDiff, true_and, Bool.false_eq_true, if_false, if_true, isi_int_non, isi_int_bl, isi_int_int, isi_int_str, isi_int_lst, isi_int_tup, isi_bool_non, isi_bool_bl, isi_bool_int, isi_bool_str, isi_bool_lst, isi_bool_tup, isi_list_non, isi_list_bl, isi_list_int, isi_list_str, isi_list_lst, isi_list_tup, isi_tuple_non, isi_tuple_bl, isi_tuple_int, isi_tuple_str, isi_tuple_lst, isi_tuple_tup, isi_str_non, isi_str_bl, isi_str_int, isi_str_str, isi_str_lst, isi_str_tup, Bool.not_true, Bool.not_false, Bool.or_false, Bool.or_true, Bool.false_or, Bool.true_or, ite_true, ite_false, Option.some.injEq, true_or, false_or, or_false, and_true, capD]
    exact ⟨a0, a1, .non, .non, .non, rfl, st, sx, smA_non, smA_non, smA_non, nmC i, by simp only [rfBoth, hc, then_some], rfl⟩
  · simp only [xSeq, xSet, xRet, xIf, xExpr, xNext, xNever, xC, xNil, xCons, xTup, xLst, xOp, xEq, xNe, xUn, xNot, xAnd, xOr, xIfE, xCB, xCall, xCallB, xName, xAsg, xIsi3, toD_fz, toD_ow, toD_od, toD_bg, rd_var, rd_getv1, rd_getv2, rd_getv3, rd_test, rd_onB, rd_onI, rd_onSB, rd_andV, rd_orV, rd_notV, rd_chain, rd_II, rd_II0, rd_add1, rd_add2, rd_add3, rd_mul1, rd_mul2, rd_mul3, rd_isN, rd_notN, rd_isN1, rd_isN2, rd_isN3, rd_neg, rd_ix1, rd_ix2, rd_part, rd_sl, rd_onSl1, rd_onSl2, rd_rev, rd_onRv, rd_len1, rd_len2, rd_max2, rd_min2, rd_int1, rd_int2, rd_lst1, rd_lst2, rd_tup1, rd_tup2, rd_dm, rd_seqI, rd_onSq1, rd_onSq2, rd_rng1, rd_onR1, rd_rng2, rd_onR2, xEnumT, rd_onEt, rd_zip, rd_onZ1, rd_onZ2, rd_par, rd_onP, xPar3, rd_onP3, rd_gtup, rd_gnil, rd_gcons, rd_isi, noO_int, noO_bl, noO_str, noO_lst, noO_tup, noO_non, ini, iniB, wipeD, unw, kf, List.map_cons, List.map_nil, List.replicate_succ, List.replicate_zero, List.cons_append, List.nil_append, List.length_cons, List.length_nil, List.getElem?_cons_zero, List.getElem?_cons_succ, List.set_cons_zero, List.set_cons_succ, decide_eq_true_eq, Nat.zero_add, Nat.reduceAdd, Nat.reduceSub, Nat.reduceLeDiff, true_and, Bool.false_eq_true, if_false, if_true, isi_int_non, isi_int_bl, isi_int_int, isi_int_str, isi_int_lst, isi_int_tup, isi_bool_non, isi_bool_bl, isi_bool_int, isi_bool_str, isi_bool_lst, isi_bool_tup, isi_list_non, isi_list_bl, isi_list_int, isi_list_str, isi_list_lst, isi_list_tup, isi_tuple_non, isi_tuple_bl, isi_tuple_int, isi_tuple_str, isi_tuple_lst, isi_tuple_tup, isi_str_non, isi_str_bl, isi_str_int, isi_str_str, isi_str_lst, isi_str_tup, Bool.not_true, Bool.not_false, Bool.or_false, Bool.or_true, Bool.false_or, Bool.true_or, ite_true, ite_false, Option.some.injEq, true_or, false_or, or_false, and_true, capD]
    exact ⟨a0, a1, .non, .non, rfl, st, sx, smA_non, smA_non, nmC i, by simp only [rfBoth, hc, then_some], rfl⟩
  · simp only [xSeq, xSet, xRet, xIf, xExpr, xNext, xNever, xC, xNil, xCons, xTup, xLst, xOp, xEq, xNe, xUn, xNot, xAnd, xOr, xIfE, xCB, xCall, xCallB, xName, xAsg, xIsi3, toD_fz, toD_ow, toD_od, toD_bg, rd_var, rd_getv1, rd_getv2, rd_getv3, rd_test, rd_onB, rd_onI, rd_onSB, rd_andV, rd_orV, rd_notV, rd_chain, rd_II, rd_II0, rd_add1, rd_add2, rd_add3, rd_mul1, rd_mul2, rd_mul3, rd_isN, rd_notN, rd_isN1, rd_isN2, rd_isN3, rd_neg, rd_ix1, rd_ix2, rd_part, rd_sl, rd_onSl1, rd_onSl2, rd_rev, rd_onRv, rd_len1, rd_len2, rd_max2, rd_min2, rd_int1, rd_int2, rd_lst1, rd_lst2, rd_tup1, rd_tup2, rd_dm, rd_seqI, rd_onSq1, rd_onSq2, rd_rng1, rd_onR1, rd_rng2, rd_onR2, xEnumT, rd_onEt, rd_zip, rd_onZ1, rd_onZ2, rd_par, rd_onP, xPar3, rd_onP3, rd_gtup, rd_gnil, rd_gcons, rd_isi, noO_int, noO_bl, noO_str, noO_lst, noO_tup, noO_non, ini, iniB, wipeD, unw, kf, List.map_cons, List.map_nil, List.replicate_succ, List.replicate_zero, List.cons_append, List.nil_append, List.length_cons, List.length_nil, List.getElem?_cons_zero, List.getElem?_cons_succ, List.set_cons_zero, List.set_cons_succ, decide_eq_true_eq, Nat.zero_add, Nat.reduceAdd, Nat.reduceSub, Nat.reduceLeDiff, true_and, Bool.false_eq_true, if_false, if_true, isi_int_non, isi_int_bl, isi_int_int, isi_int_str, isi_int_lst, isi_int_tup, isi_bool_non, isi_bool_bl, isi_bool_int, isi_bool_str, isi_bool_lst, isi_bool_tup, isi_list_non, isi_list_bl, isi_list_int, isi_list_str, isi_list_lst, isi_list_tup, isi_tuple_non, isi_tuple_bl, isi_tuple_int, isi_tuple_str, isi_tuple_lst, isi_tuple_tup, isi_str_non, isi_str_bl, isi_str_int, isi_str_str, isi_str_lst, isi_str_tup, Bool.not_true, Bool.not_false, Bool.or_false, Bool.or_true, Bool.false_or, Bool.true_or, ite_true, ite_false, Option.some.injEq, true_or, false_or, or_false, and_true, capD]
    exact ⟨a0, a1, .non, rfl, st, sx, smA_non, nmC i, by simp only [rfBoth, hc, then_some], rfl⟩
  · simp only [xSeq, xSet, xRet, xIf, xExpr, xNext, xNever, xC, xNil, xCons, xTup, xLst, xOp, xEq, xNe, xUn, xNot, xAnd, xOr, xIfE, xCB, xCall, xCallB, xName, xAsg, xIsi3, toD_fz, toD_ow, toD_od, toD_bg, rd_var, rd_getv1, rd_getv2, rd_getv3, rd_test, rd_onB, rd_onI, rd_onSB, rd_andV, rd_orV, rd_notV, rd_chain, rd_II, rd_II0, rd_add1, rd_add2, rd_add3, rd_mul1, rd_mul2, rd_mul3, rd_isN, rd_notN, rd_isN1, rd_isN2, rd_isN3, rd_neg, rd_ix1, rd_ix2, rd_part, rd_sl, rd_onSl1, rd_onSl2, rd_rev, rd_onRv, rd_len1, rd_len2, rd_max2, rd_min2, rd_int1, rd_int2, rd_lst1, rd_lst2, rd_tup1, rd_tup2, rd_dm, rd_seqI, rd_onSq1, rd_onSq2, rd_rng1, rd_onR1, rd_rng2, rd_onR2, xEnumT, rd_onEt, rd_zip, rd_onZ1, rd_onZ2, rd_par, rd_onP, xPar3, rd_onP3, rd_gtup, rd_gnil, rd_gcons, rd_isi, noO_int, noO_bl, noO_str, noO_lst, noO_tup, noO_non, ini, iniB, wipeD, unw, kf, List.map_cons, List.map_nil, List.replicate_succ, List.replicate_zero, List.cons_append, List.nil_append, List.length_cons, List.length_nil, List.getElem?_cons_zero, List.getElem?_cons_succ, List.set_cons_zero, List.set_cons_succ, decide_eq_true_eq, Nat.zero_add, Nat.reduceAdd, Nat.reduceSub, Nat.reduceLeDiff, true_and, Bool.false_eq_true, if_false, if_true, isi_int_non, isi_int_bl, isi_int_int, isi_int_str, isi_int_lst, isi_int_tup, isi_bool_non, isi_bool_bl, isi_bool_int, isi_bool_str, isi_bool_lst, isi_bool_tup, isi_list_non, isi_list_bl, isi_list_int, isi_list_str, isi_list_lst, isi_list_tup, isi_tuple_non, isi_tuple_bl, isi_tuple_int, isi_tuple_str, isi_tuple_lst, isi_tuple_tup, isi_str_non, isi_str_bl, isi_str_int, isi_str_str, isi_str_lst, isi_str_tup, Bool.not_true, Bool.not_false, Bool.or_false, Bool.or_true, Bool.false_or, Bool.true_or, ite_true, ite_false, Option.some.injEq, true_or, false_or, or_false, and_true, capD]
    exact ⟨a0, a1, .non, rfl, st, sx, smA_non, nmC i, by simp only [rfBoth, hc, then_some], rfl⟩
  exact q

theorem okD_word : ∀ i, i < 7 → okD 8 (.tup [.str (nmC i)]) = true
  | 0, _ => by decide +kernel
  | 1, _ => by decide +kernel
  | 2, _ => by decide +kernel
  | 3, _ => by decide +kernel
  | 4, _ => by decide +kernel
  | 5, _ => by decide +kernel
  | 6, _ => by decide +kernel
  | n + 7, h => by omega
theorem eqD_word (x : Str) : eqD (.tup [.str x]) (.tup [.str x]) = true := by simp [eqD, toP, toPs, PyData.eqv, PyData.eqvAll]
def dp__law_refused (P : Program) (w : World) (K : PySem.W.Frag) (mg : Str → Option Value) (base : Heap) : DP := fun ds Q _ => ∃ i n, i < 7 ∧ n ≤ 1000 ∧ ds = [.lst (List.replicate n (.obj (Deed P w K mg base 7 (nmC i)))), .str (nmC i)] ∧ Q (.fz (.bl true))

abbrev s__law_refused : Stmt := topS 65
theorem sc__law_refused : FnScope ["doors", "word", "door"] ["doors", "word"] (defScope s__law_refused) := ⟨rfl, rfl, rfl, by decide +kernel, rfl, by decide +kernel, by decide +kernel⟩

theorem ok__law_refused {P : Program} {w : World} {K : PySem.W.Frag} {mg : Str → Option Value} {base : Heap} (B : Bt mg) (d : Df K mg "_law_refused" s__law_refused ["doors", "word"]) (h__law_tried : Fn P w K mg base "_law_tried" 8 1 (dp__law_tried P w K mg base)) : Fn P w K mg base "_law_refused" 9 2 (dp__law_refused P w K mg base) := by
  refine fn_mk d sc__law_refused rfl (by decide) fun f cdv A outer s H E C hr => ⟨_, _, (ds_one (ds_ret (d_cmp (o_eqK K hr.units) (d_lc [("door", 2)] rfl sc__law_refused.nd (di_seqK K (dv 0)) (blkOk_by (by show blkC ["doors", "word", "door"] (defScope s__law_refused) _ [("door", 2)] = true; decide +kernel)) (fun _ _ _ _ _ _ => (dg_name 2 sc__law_refused.nd)) (fun _ _ _ _ _ _ => (dts_one (dt_cmp (o_neK K hr.units) (d_fnK h__law_tried hr (da_cons (dv 2) da_nil)) (d_tup (da_cons (dv 1) da_nil))))) (fun _ _ _ _ _ _ => d_int)) (d_lst da_nil)))), fun ds QD ED hl0 h => ?_⟩
  obtain ⟨i, n, hi, hn, rfl, q⟩ := h
  simp only [xSeq, xSet, xRet, xIf, xExpr, xNext, xNever, xC, xNil, xCons, xTup, xLst, xOp, xEq, xNe, xUn, xNot, xAnd, xOr, xIfE, xCB, xCall, xCallB, xName, xAsg, xIsi3, toD_fz, toD_ow, toD_od, toD_bg, rd_var, rd_getv1, rd_getv2, rd_getv3, rd_test, rd_onB, rd_onI, rd_onSB, rd_andV, rd_orV, rd_notV, rd_chain, rd_II, rd_II0, rd_add1, rd_add2, rd_add3, rd_mul1, rd_mul2, rd_mul3, rd_isN, rd_notN, rd_isN1, rd_isN2, rd_isN3, rd_neg, rd_ix1, rd_ix2, rd_part, rd_sl, rd_onSl1, rd_onSl2, rd_rev, rd_onRv, rd_len1, rd_len2, rd_max2, rd_min2, rd_int1, rd_int2, rd_lst1, rd_lst2, rd_tup1, rd_tup2, rd_dm, rd_seqI, rd_onSq1, rd_onSq2, rd_rng1, rd_onR1, rd_rng2, rd_onR2, xEnumT, rd_onEt, rd_zip, rd_onZ1, rd_onZ2, rd_par, rd_onP, xPar3, rd_onP3, rd_gtup, rd_gnil, rd_gcons, rd_isi, noO_int, noO_bl, noO_str, noO_lst, noO_tup, noO_non, ini, iniB, wipeD, unw, kf, List.map_cons, List.map_nil, List.replicate_succ, List.replicate_zero, List.cons_append, List.nil_append, List.length_cons, List.length_nil, List.getElem?_cons_zero, List.getElem?_cons_succ, List.set_cons_zero, List.set_cons_succ, decide_eq_true_eq, Nat.zero_add, Nat.reduceAdd, Nat.reduceSub, Nat.reduceLeDiff, true_and, Bool.false_eq_true, if_false, if_true, isi_int_non, isi_int_bl, isi_int_int, isi_int_str, isi_int_lst, isi_int_tup, isi_bool_non, isi_bool_bl, isi_bool_int, isi_bool_str, isi_bool_lst, isi_bool_tup, isi_list_non, isi_list_bl, isi_list_int, isi_list_str, isi_list_lst, isi_list_tup, isi_tuple_non, isi_tuple_bl, isi_tuple_int, isi_tuple_str, isi_tuple_lst, isi_tuple_tup, isi_str_non, isi_str_bl, isi_str_int, isi_str_str, isi_str_lst, isi_str_tup, Bool.not_true, Bool.not_false, Bool.or_false, Bool.or_true, Bool.false_or, Bool.true_or, ite_true, ite_false, Option.some.injEq, true_or, false_or, or_false, and_true]
  refine lc_pure0 (List.replicate n (D.obj (Deed P w K mg base 7 (nmC i)))) id (fun _ => false) (fun _ => .int 1) (fun QL hq => ?_) (by rw [List.length_replicate]; omega) (fun a ha QD QN h1 h2 => ?_) ?_
  · rw [List.map_id] at hq
    simp only [xSeq, xSet, xRet, xIf, xExpr, xNext, xNever, xC, xNil, xCons, xTup, xLst, xOp, xEq, xNe, xUn, xNot, xAnd, xOr, xIfE, xCB, xCall, xCallB, xName, xAsg, xIsi3, toD_fz, toD_ow, toD_od, toD_bg, rd_var, rd_getv1, rd_getv2, rd_getv3, rd_test, rd_onB, rd_onI, rd_onSB, rd_andV, rd_orV, rd_notV, rd_chain, rd_II, rd_II0, rd_add1, rd_add2, rd_add3, rd_mul1, rd_mul2, rd_mul3, rd_isN, rd_notN, rd_isN1, rd_isN2, rd_isN3, rd_neg, rd_ix1, rd_ix2, rd_part, rd_sl, rd_onSl1, rd_onSl2, rd_rev, rd_onRv, rd_len1, rd_len2, rd_max2, rd_min2, rd_int1, rd_int2, rd_lst1, rd_lst2, rd_tup1, rd_tup2, rd_dm, rd_seqI, rd_onSq1, rd_onSq2, rd_rng1, rd_onR1, rd_rng2, rd_onR2, xEnumT, rd_onEt, rd_zip, rd_onZ1, rd_onZ2, rd_par, rd_onP, xPar3, rd_onP3, rd_gtup, rd_gnil, rd_gcons, rd_isi, noO_int, noO_bl, noO_str, noO_lst, noO_tup, noO_non, ini, iniB, wipeD, unw, kf, List.map_cons, List.map_nil, List.replicate_succ, List.replicate_zero, List.cons_append, List.nil_append, List.length_cons, List.length_nil, List.getElem?_cons_zero, List.getElem?_cons_succ, List.set_cons_zero, List.set_cons_succ, decide_eq_true_eq, Nat.zero_add, Nat.reduceAdd, Nat.reduceSub, Nat.reduceLeDiff, true_and, Bool.false_eq_true, if_false, if_true, isi_int_non, isi_int_bl, isi_int_int, isi_int_str, isi_int_lst, isi_int_tup, isi_bool_non, isi_bool_bl, isi_bool_int, isi_bool_str, isi_bool_lst, isi_bool_tup, isi_list_non, isi_list_bl, isi_list_int, isi_list_str, isi_list_lst, isi_list_tup, isi_tuple_non, isi_tuple_bl, isi_tuple_int, isi_tuple_str, isi_tuple_lst, isi_tuple_tup, isi_str_non, isi_str_bl, isi_str_int, isi_str_str, isi_str_lst, isi_str_tup, Bool.not_true, Bool.not_false, Bool.or_false, Bool.or_true, Bool.false_or, Bool.true_or, ite_true, ite_false, Option.some.injEq, true_or, false_or, or_false, and_true]
    exact hq
  · obtain rfl := List.eq_of_mem_replicate ha
    simp only [xSeq, xSet, xRet, xIf, xExpr, xNext, xNever, xC, xNil, xCons, xTup, xLst, xOp, xEq, xNe, xUn, xNot, xAnd, xOr, xIfE, xCB, xCall, xCallB, xName, xAsg, xIsi3, toD_fz, toD_ow, toD_od, toD_bg, rd_var, rd_getv1, rd_getv2, rd_getv3, rd_test, rd_onB, rd_onI, rd_onSB, rd_andV, rd_orV, rd_notV, rd_chain, rd_II, rd_II0, rd_add1, rd_add2, rd_add3, rd_mul1, rd_mul2, rd_mul3, rd_isN, rd_notN, rd_isN1, rd_isN2, rd_isN3, rd_neg, rd_ix1, rd_ix2, rd_part, rd_sl, rd_onSl1, rd_onSl2, rd_rev, rd_onRv, rd_len1, rd_len2, rd_max2, rd_min2, rd_int1, rd_int2, rd_lst1, rd_lst2, rd_tup1, rd_tup2, rd_dm, rd_seqI, rd_onSq1, rd_onSq2, rd_rng1, rd_onR1, rd_rng2, rd_onR2, xEnumT, rd_onEt, rd_zip, rd_onZ1, rd_onZ2, rd_par, rd_onP, xPar3, rd_onP3, rd_gtup, rd_gnil, rd_gcons, rd_isi, noO_int, noO_bl, noO_str, noO_lst, noO_tup, noO_non, ini, iniB, wipeD, unw, kf, List.map_cons, List.map_nil, List.replicate_succ, List.replicate_zero, List.cons_append, List.nil_append, List.length_cons, List.length_nil, List.getElem?_cons_zero, List.getElem?_cons_succ, List.set_cons_zero, List.set_cons_succ, decide_eq_true_eq, Nat.zero_add, Nat.reduceAdd, Nat.reduceSub, Nat.reduceLeDiff, true_and, Bool.false_eq_true, if_false, if_true, isi_int_non, isi_int_bl, isi_int_int, isi_int_str, isi_int_lst, isi_int_tup, isi_bool_non, isi_bool_bl, isi_bool_int, isi_bool_str, isi_bool_lst, isi_bool_tup, isi_list_non, isi_list_bl, isi_list_int, isi_list_str, isi_list_lst, isi_list_tup, isi_tuple_non, isi_tuple_bl, isi_tuple_int, isi_tuple_str, isi_tuple_lst, isi_tuple_tup, isi_str_non, isi_str_bl, isi_str_int, isi_str_str, isi_str_lst, isi_str_tup, Bool.not_true, Bool.not_false, Bool.or_false, Bool.or_true, Bool.false_or, Bool.true_or, ite_true, ite_false, Option.some.injEq, true_or, false_or, or_false, and_true]
    refine ⟨i, hi, rfl, ?_⟩
    simp only [xSeq, xSet, xRet, xIf, xExpr, xNext, xNever, xC, xNil, xCons, xTup, xLst, xOp, xEq, xNe, xUn, xNot, xAnd, xOr, xIfE, xCB, xCall, xCallB, xName, xAsg, xIsi3, toD_fz, toD_ow, toD_od, toD_bg, rd_var, rd_getv1, rd_getv2, rd_getv3, rd_test, rd_onB, rd_onI, rd_onSB, rd_andV, rd_orV, rd_notV, rd_chain, rd_II, rd_II0, rd_add1, rd_add2, rd_add3, rd_mul1, rd_mul2, rd_mul3, rd_isN, rd_notN, rd_isN1, rd_isN2, rd_isN3, rd_neg, rd_ix1, rd_ix2, rd_part, rd_sl, rd_onSl1, rd_onSl2, rd_rev, rd_onRv, rd_len1, rd_len2, rd_max2, rd_min2, rd_int1, rd_int2, rd_lst1, rd_lst2, rd_tup1, rd_tup2, rd_dm, rd_seqI, rd_onSq1, rd_onSq2, rd_rng1, rd_onR1, rd_rng2, rd_onR2, xEnumT, rd_onEt, rd_zip, rd_onZ1, rd_onZ2, rd_par, rd_onP, xPar3, rd_onP3, rd_gtup, rd_gnil, rd_gcons, rd_isi, noO_int, noO_bl, noO_str, noO_lst, noO_tup, noO_non, ini, iniB, wipeD, unw, kf, List.map_cons, List.map_nil, List.replicate_succ, List.replicate_zero, List.cons_append, List.nil_append, List.length_cons, List.length_nil, List.getElem?_cons_zero, List.getElem?_cons_succ, List.set_cons_zero, List.set_cons_succ, decide_eq_true_eq, Nat.zero_add, Nat.reduceAdd, Nat.reduceSub, Nat.reduceLeDiff, true_and, Bool.false_eq_true, if_false, if_true, isi_int_non, isi_int_bl, isi_int_int, isi_int_str, isi_int_lst, isi_int_tup, isi_bool_non, isi_bool_bl, isi_bool_int, isi_bool_str, isi_bool_lst, isi_bool_tup, isi_list_non, isi_list_bl, isi_list_int, isi_list_str, isi_list_lst, isi_list_tup, isi_tuple_non, isi_tuple_bl, isi_tuple_int, isi_tuple_str, isi_tuple_lst, isi_tuple_tup, isi_str_non, isi_str_bl, isi_str_int, isi_str_str, isi_str_lst, isi_str_tup, Bool.not_true, Bool.not_false, Bool.or_false, Bool.or_true, Bool.false_or, Bool.true_or, ite_true, ite_false, Option.some.injEq, true_or, false_or, or_false, and_true, eqD_word]
    exact ⟨okD_word i hi, okD_word i hi, h2 rfl⟩
  · simp only [xSeq, xSet, xRet, xIf, xExpr, xNext, xNever, xC, xNil, xCons, xTup, xLst, xOp, xEq, xNe, xUn, xNot, xAnd, xOr, xIfE, xCB, xCall, xCallB, xName, xAsg, xIsi3, toD_fz, toD_ow, toD_od, toD_bg, rd_var, rd_getv1, rd_getv2, rd_getv3, rd_test, rd_onB, rd_onI, rd_onSB, rd_andV, rd_orV, rd_notV, rd_chain, rd_II, rd_II0, rd_add1, rd_add2, rd_add3, rd_mul1, rd_mul2, rd_mul3, rd_isN, rd_notN, rd_isN1, rd_isN2, rd_isN3, rd_neg, rd_ix1, rd_ix2, rd_part, rd_sl, rd_onSl1, rd_onSl2, rd_rev, rd_onRv, rd_len1, rd_len2, rd_max2, rd_min2, rd_int1, rd_int2, rd_lst1, rd_lst2, rd_tup1, rd_tup2, rd_dm, rd_seqI, rd_onSq1, rd_onSq2, rd_rng1, rd_onR1, rd_rng2, rd_onR2, xEnumT, rd_onEt, rd_zip, rd_onZ1, rd_onZ2, rd_par, rd_onP, xPar3, rd_onP3, rd_gtup, rd_gnil, rd_gcons, rd_isi, noO_int, noO_bl, noO_str, noO_lst, noO_tup, noO_non, ini, iniB, wipeD, unw, kf, List.map_cons, List.map_nil, List.replicate_succ, List.replicate_zero, List.cons_append, List.nil_append, List.length_cons, List.length_nil, List.getElem?_cons_zero, List.getElem?_cons_succ, List.set_cons_zero, List.set_cons_succ, decide_eq_true_eq, Nat.zero_add, Nat.reduceAdd, Nat.reduceSub, Nat.reduceLeDiff, true_and, Bool.false_eq_true, if_false, if_true, isi_int_non, isi_int_bl, isi_int_int, isi_int_str, isi_int_lst, isi_int_tup, isi_bool_non, isi_bool_bl, isi_bool_int, isi_bool_str, isi_bool_lst, isi_bool_tup, isi_list_non, isi_list_bl, isi_list_int, isi_list_str, isi_list_lst, isi_list_tup, isi_tuple_non, isi_tuple_bl, isi_tuple_int, isi_tuple_str, isi_tuple_lst, isi_tuple_tup, isi_str_non, isi_str_bl, isi_str_int, isi_str_str, isi_str_lst, isi_str_tup, Bool.not_true, Bool.not_false, Bool.or_false, Bool.or_true, Bool.false_or, Bool.true_or, ite_true, ite_false, Option.some.injEq, true_or, false_or, or_false, and_true]
    rw [show List.filter (fun _ => false) (List.replicate n (D.obj (Deed P w K mg base 7 (nmC i)))) = [] by simp]
    rw [show eqD (.lst (List.map (fun _ => D.int 1) ([] : List D))) (.lst []) = true by simp [eqD, toP, toPs, PyData.eqv, PyData.eqvAll]]
    exact ⟨rfl, rfl, q⟩

def dp__law_floods_refused : DP := fun ds Q _ => ∃ (top : Int) (ms : D), ds = [.int top, ms] ∧ 1 ≤ top ∧ top ≤ 40 ∧ smA ms ∧ marksD top ms = true ∧ Q (.fz (.bl true))
def oddsL (top : Int) : List D := [D.non, D.tup [D.int 1], D.lst [D.int 0], D.lst [D.int (top + 1)], D.lst [D.bl true], D.lst (List.replicate (Int.toNat 41) [D.int 1]).flatten]
def logsL : List D := [D.non, D.tup [], D.tup (List.replicate (Int.toNat 7) [D.tup [D.int 1, D.tup []]]).flatten, D.tup [D.tup [D.int 41, D.tup []]], D.tup [D.tup [D.int 1, D.tup [D.int 0]]], D.tup [D.tup [D.bl true, D.tup []]], D.lst [D.tup [D.int 1, D.tup []]], D.tup [D.tup [D.int 1]]]
theorem oddsP {top : Int} : ∀ d ∈ oddsL top, smA d ∧ floodsD top d 0 = false ∧ floodsD top d 1 = false := by
  intro d hd
  simp only [oddsL, List.mem_cons, List.not_mem_nil, or_false] at hd
  rcases hd with rfl | rfl | rfl | rfl | rfl | rfl
  · exact ⟨⟨2, rfl⟩, rfl, rfl⟩
  · exact ⟨⟨2, rfl⟩, rfl, rfl⟩
  · exact ⟨⟨2, rfl⟩, by simp [floodsD, inR], by simp [floodsD, inR]⟩
  · exact ⟨⟨2, rfl⟩, by simp [floodsD, inR, show ¬ (top + 1 ≤ top) by omega], by simp [floodsD, inR, show ¬ (top + 1 ≤ top) by omega]⟩
  · exact ⟨⟨2, rfl⟩, by simp [floodsD, inR], by simp [floodsD, inR]⟩
  · exact ⟨⟨2, rfl⟩, rfl, rfl⟩
theorem logsP (top : Int) : ∀ d ∈ logsL, smA d ∧ logD top d = false := by
  intro d hd
  simp only [logsL, List.mem_cons, List.not_mem_nil, or_false] at hd
  rcases hd with rfl | rfl | rfl | rfl | rfl | rfl | rfl | rfl
  · exact ⟨⟨4, rfl⟩, rfl⟩
  · exact ⟨⟨4, rfl⟩, rfl⟩
  · exact ⟨⟨4, rfl⟩, rfl⟩
  · exact ⟨⟨4, rfl⟩, by simp [logD, rowOk, inR]⟩
  · exact ⟨⟨4, rfl⟩, by simp [logD, rowOk, inR, isNonD, marksD]⟩
  · exact ⟨⟨4, rfl⟩, by simp [logD, rowOk, inR]⟩
  · exact ⟨⟨4, rfl⟩, rfl⟩
  · exact ⟨⟨4, rfl⟩, by simp [logD, rowOk]⟩
theorem rfMarks_ok {top : Int} {m : D} (h1 : 1 ≤ top) (h2 : top ≤ 40) (h : marksD top m = true) : rfMarks (.int top) m = none := by
  unfold rfMarks
  rw [rfTop_int h1 h2]
  show rfM top m = none
  unfold rfM
  rw [if_pos h]

abbrev s__law_floods_refused : Stmt := topS 66
theorem sc__law_floods_refused : FnScope ["top", "marks1", "odds", "odd", "logs", "log"] ["top", "marks1"] (defScope s__law_floods_refused) := ⟨rfl, rfl, rfl, by decide +kernel, rfl, by decide +kernel, by decide +kernel⟩

theorem ok__law_floods_refused {P : Program} {w : World} {K : PySem.W.Frag} {mg : Str → Option Value} {base : Heap} {T : List (Addr × Str)} {c Pt : Addr} (B : Bt mg) (TB : LamX.TabB base mg c Pt) (hm : (Pt, qn "_law_floods_refused" s__law_floods_refused) ∈ T) (hu : ∀ p ∈ T, p.1 = Pt → p.2 = qn "_law_floods_refused" s__law_floods_refused)
    (d : DfT K mg "_law_floods_refused" s__law_floods_refused ["top", "marks1"] c) (h__law_tried : Fn P w K mg base "_law_tried" 8 1 (dp__law_tried P w K mg base)) (h__law_refused : Fn P w K mg base "_law_refused" 9 2 (dp__law_refused P w K mg base)) (h_behind : FnX P w K mg base "behind" 5 3 dp_behind) (h_far : FnX P w K mg base "far" 5 4 dp_far) (h_log_ways : FnX P w K mg base "log_ways" 5 3 dp_log_ways) : FnT P w K mg base T "_law_floods_refused" 10 2 dp__law_floods_refused := by
  refine fn_mkT d sc__law_floods_refused rfl (by decide) fun f A outer s H E C hC hT hr => ⟨_, _, (ds_cons (ds_set 2 sc__law_floods_refused.nd (d_lst (da_cons d_non (da_cons (d_tup (da_cons d_int da_nil)) (da_cons (d_lst (da_cons d_int da_nil)) (da_cons (d_lst (da_cons (d_op (o_addK K) (dv 0) d_int) da_nil)) (da_cons (d_lst (da_cons d_bl da_nil)) (da_cons (d_op (o_mulK K) (d_lst (da_cons d_int da_nil)) d_int) da_nil))))))))
      (ds_cons (ds_for PassesOwn.never rfl (di_seqK K (dv 2)) (dg_name 3 sc__law_floods_refused.nd) (ds_one (ds_if (dt_not (dt_val (d_loan h__law_refused (hr.mono (by decide)) (da_cons (d_lst (da_cons (d_lm hC TB hm hu (hT := hT) (L := by rfl)) (da_cons (d_lm hC TB hm hu (hT := hT) (L := by rfl)) da_nil))) (da_cons d_str da_nil))))) (ds_one (ds_ret d_bl)) ds_nil)))
      (ds_cons (ds_if (dt_cmp (o_neK K hr.units) (d_loan h__law_tried (hr.mono (by decide)) (da_cons (d_lm hC TB hm hu (hT := hT) (L := by rfl)) da_nil)) (d_tup (da_cons d_str da_nil))) (ds_one (ds_ret d_bl)) ds_nil)
      (ds_cons (ds_set 4 sc__law_floods_refused.nd (d_lst (da_cons d_non (da_cons (d_tup da_nil) (da_cons (d_op (o_mulK K) (d_tup (da_cons (d_tup (da_cons d_int (da_cons (d_tup da_nil) da_nil))) da_nil)) d_int) (da_cons (d_tup (da_cons (d_tup (da_cons d_int (da_cons (d_tup da_nil) da_nil))) da_nil)) (da_cons (d_tup (da_cons (d_tup (da_cons d_int (da_cons (d_tup (da_cons d_int da_nil)) da_nil))) da_nil)) (da_cons (d_tup (da_cons (d_tup (da_cons d_bl (da_cons (d_tup da_nil) da_nil))) da_nil)) (da_cons (d_lst (da_cons (d_tup (da_cons d_int (da_cons (d_tup da_nil) da_nil))) da_nil)) (da_cons (d_tup (da_cons (d_tup (da_cons d_int da_nil)) da_nil)) da_nil))))))))))
      (ds_cons (ds_for PassesOwn.never rfl (di_seqK K (dv 4)) (dg_name 5 sc__law_floods_refused.nd) (ds_one (ds_if (dt_cmp (o_neK K hr.units) (d_loan h__law_tried (hr.mono (by decide)) (da_cons (d_lm hC TB hm hu (hT := hT) (L := by rfl)) da_nil)) (d_tup (da_cons d_str da_nil))) (ds_one (ds_ret d_bl)) ds_nil)))
      (ds_one (ds_ret d_bl))))))), fun ds QD hl0 h => ?_⟩
  obtain ⟨top, a1, rfl, t1, t2, st, hk, q⟩ := h
  have hc := rfMarks_ok t1 t2 hk
  simp only [xSeq, xSet, xRet, xIf, xExpr, xNext, xNever, xC, xNil, xCons, xTup, xLst, xOp, xEq, xNe, xUn, xNot, xAnd, xOr, xIfE, xCB, xCall, xCallB, xName, xAsg, xIsi3, toD_fz, toD_ow, toD_od, toD_bg, rd_var, rd_getv1, rd_getv2, rd_getv3, rd_test, rd_onB, rd_onI, rd_onSB, rd_andV, rd_orV, rd_notV, rd_chain, rd_II, rd_II0, rd_add1, rd_add2, rd_add3, rd_mul1, rd_mul2, rd_mul3, rd_isN, rd_notN, rd_isN1, rd_isN2, rd_isN3, rd_neg, rd_ix1, rd_ix2, rd_part, rd_sl, rd_onSl1, rd_onSl2, rd_rev, rd_onRv, rd_len1, rd_len2, rd_max2, rd_min2, rd_int1, rd_int2, rd_lst1, rd_lst2, rd_tup1, rd_tup2, rd_dm, rd_seqI, rd_onSq1, rd_onSq2, rd_rng1, rd_onR1, rd_rng2, rd_onR2, xEnumT, rd_onEt, rd_zip, rd_onZ1, rd_onZ2, rd_par, rd_onP, xPar3, rd_onP3, rd_gtup, rd_gnil, rd_gcons, rd_isi, noO_int, noO_bl, noO_str, noO_lst, noO_tup, noO_non, ini, iniB, wipeD, unw, kf, List.map_cons, List.map_nil, List.replicate_succ, List.replicate_zero, List.cons_append, List.nil_append, List.length_cons, List.length_nil, List.getElem?_cons_zero, List.getElem?_cons_succ, List.set_cons_zero, List.set_cons_succ, decide_eq_true_eq, Nat.zero_add, Nat.reduceAdd, Nat.reduceSub, Nat.reduceLeDiff, true_and, Bool.false_eq_true, if_false, if_true, isi_int_non, isi_int_bl, isi_int_int, isi_int_str, isi_int_lst, isi_int_tup, isi_bool_non, isi_bool_bl, isi_bool_int, isi_bool_str, isi_bool_lst, isi_bool_tup, isi_list_non, isi_list_bl, isi_list_int, isi_list_str, isi_list_lst, isi_list_tup, isi_tuple_non, isi_tuple_bl, isi_tuple_int, isi_tuple_str, isi_tuple_lst, isi_tuple_tup, isi_str_non, isi_str_bl, isi_str_int, isi_str_str, isi_str_lst, isi_str_tup, Bool.not_true, Bool.not_false, Bool.or_false, Bool.or_true, Bool.false_or, Bool.true_or, ite_true, ite_false, Option.some.injEq, true_or, false_or, or_false, and_true, xLm, xLoan, xFor]
  refine ⟨by decide, by decide, by decide, fun i ρ => ∃ x3, ρ = [some (.fz (.int top)), some (.fz a1), some (.fz (.lst (oddsL top))), x3, none, none], ⟨none, rfl⟩, fun i d ρ hd hI => ?_, fun ρ hI => ?_⟩
  · obtain ⟨x3, rfl⟩ := hI
    have hP := oddsP d (List.mem_of_getElem? (show (oddsL top)[i]? = some d from hd))
    simp only [xSeq, xSet, xRet, xIf, xExpr, xNext, xNever, xC, xNil, xCons, xTup, xLst, xOp, xEq, xNe, xUn, xNot, xAnd, xOr, xIfE, xCB, xCall, xCallB, xName, xAsg, xIsi3, toD_fz, toD_ow, toD_od, toD_bg, rd_var, rd_getv1, rd_getv2, rd_getv3, rd_test, rd_onB, rd_onI, rd_onSB, rd_andV, rd_orV, rd_notV, rd_chain, rd_II, rd_II0, rd_add1, rd_add2, rd_add3, rd_mul1, rd_mul2, rd_mul3, rd_isN, rd_notN, rd_isN1, rd_isN2, rd_isN3, rd_neg, rd_ix1, rd_ix2, rd_part, rd_sl, rd_onSl1, rd_onSl2, rd_rev, rd_onRv, rd_len1, rd_len2, rd_max2, rd_min2, rd_int1, rd_int2, rd_lst1, rd_lst2, rd_tup1, rd_tup2, rd_dm, rd_seqI, rd_onSq1, rd_onSq2, rd_rng1, rd_onR1, rd_rng2, rd_onR2, xEnumT, rd_onEt, rd_zip, rd_onZ1, rd_onZ2, rd_par, rd_onP, xPar3, rd_onP3, rd_gtup, rd_gnil, rd_gcons, rd_isi, noO_int, noO_bl, noO_str, noO_lst, noO_tup, noO_non, ini, iniB, wipeD, unw, kf, List.map_cons, List.map_nil, List.replicate_succ, List.replicate_zero, List.cons_append, List.nil_append, List.length_cons, List.length_nil, List.getElem?_cons_zero, List.getElem?_cons_succ, List.set_cons_zero, List.set_cons_succ, decide_eq_true_eq, Nat.zero_add, Nat.reduceAdd, Nat.reduceSub, Nat.reduceLeDiff, true_and, Bool.false_eq_true, if_false, if_true, isi_int_non, isi_int_bl, isi_int_int, isi_int_str, isi_int_lst, isi_int_tup, isi_bool_non, isi_bool_bl, isi_bool_int, isi_bool_str, isi_bool_lst, isi_bool_tup, isi_list_non, isi_list_bl, isi_list_int, isi_list_str, isi_list_lst, isi_list_tup, isi_tuple_non, isi_tuple_bl, isi_tuple_int, isi_tuple_str, isi_tuple_lst, isi_tuple_tup, isi_str_non, isi_str_bl, isi_str_int, isi_str_str, isi_str_lst, isi_str_tup, Bool.not_true, Bool.not_false, Bool.or_false, Bool.or_true, Bool.false_or, Bool.true_or, ite_true, ite_false, Option.some.injEq, true_or, false_or, or_false, and_true]
    refine ⟨_, turns_cons (turn_lst (turns_cons (turn_lam (k := 6) (c := nmC 2) [true, true, false, true, false, false] (by rfl) (by rfl) (fun _ _ _ _ _ => rfl) (fun W hs hb f2 c2 A2 o2 s2 H2 E2 C2 ED2 hr2 hE2 => by obtain ⟨q, params, body, scope, cl⟩ := W; dsimp only at hs hb; subst hs hb; exact d_fnL hE2 h_behind (hr2.mono (by decide)) (da_cons (dv 0) (da_cons (dv 1) (da_cons (dv 3) da_nil)))) (by trivial) ?_) (turns_cons (turn_lam (k := 6) (c := nmC 2) [true, true, false, true, false, false] (by rfl) (by rfl) (fun _ _ _ _ _ => rfl) (fun W hs hb f2 c2 A2 o2 s2 H2 E2 C2 ED2 hr2 hE2 => by obtain ⟨q, params, body, scope, cl⟩ := W; dsimp only at hs hb; subst hs hb; exact d_fnL hE2 h_far (hr2.mono (by decide)) (da_cons (dv 0) (da_cons (dv 1) (da_cons (dv 3) (da_cons d_int da_nil))))) (by trivial) ?_) turns_nil))) (turns_cons turn_same turns_nil), rfl, 2, 2, by decide, by decide, rfl, ⟨_, rfl, rfl⟩, ?_⟩
    · simp only [xSeq, xSet, xRet, xIf, xExpr, xNext, xNever, xC, xNil, xCons, xTup, xLst, xOp, xEq, xNe, xUn, xNot, xAnd, xOr, xIfE, xCB, xCall, xCallB, xName, xAsg, xIsi3, toD_fz, toD_ow, toD_od, toD_bg, rd_var, rd_getv1, rd_getv2, rd_getv3, rd_test, rd_onB, rd_onI, rd_onSB, rd_andV, rd_orV, rd_notV, rd_chain, rd_II, rd_II0, rd_add1, rd_add2, rd_add3, rd_mul1, rd_mul2, rd_mul3, rd_isN, rd_notN, rd_isN1, rd_isN2, rd_isN3, rd_neg, rd_ix1, rd_ix2, rd_part, rd_sl, rd_onSl1, rd_onSl2, rd_rev, rd_onRv, rd_len1, rd_len2, rd_max2, rd_min2, rd_int1, rd_int2, rd_lst1, rd_lst2, rd_tup1, rd_tup2, rd_dm, rd_seqI, rd_onSq1, rd_onSq2, rd_rng1, rd_onR1, rd_rng2, rd_onR2, xEnumT, rd_onEt, rd_zip, rd_onZ1, rd_onZ2, rd_par, rd_onP, xPar3, rd_onP3, rd_gtup, rd_gnil, rd_gcons, rd_isi, noO_int, noO_bl, noO_str, noO_lst, noO_tup, noO_non, ini, iniB, wipeD, unw, kf, List.map_cons, List.map_nil, List.replicate_succ, List.replicate_zero, List.cons_append, List.nil_append, List.length_cons, List.length_nil, List.getElem?_cons_zero, List.getElem?_cons_succ, List.set_cons_zero, List.set_cons_succ, decide_eq_true_eq, Nat.zero_add, Nat.reduceAdd, Nat.reduceSub, Nat.reduceLeDiff, true_and, Bool.false_eq_true, if_false, if_true, isi_int_non, isi_int_bl, isi_int_int, isi_int_str, isi_int_lst, isi_int_tup, isi_bool_non, isi_bool_bl, isi_bool_int, isi_bool_str, isi_bool_lst, isi_bool_tup, isi_list_non, isi_list_bl, isi_list_int, isi_list_str, isi_list_lst, isi_list_tup, isi_tuple_non, isi_tuple_bl, isi_tuple_int, isi_tuple_str, isi_tuple_lst, isi_tuple_tup, isi_str_non, isi_str_bl, isi_str_int, isi_str_str, isi_str_lst, isi_str_tup, Bool.not_true, Bool.not_false, Bool.or_false, Bool.or_true, Bool.false_or, Bool.true_or, ite_true, ite_false, Option.some.injEq, true_or, false_or, or_false, and_true, capD]
      exact ⟨.int top, a1, d, rfl, smA_int _, st, hP.1, nmC 2, by simp only [hc, then_none, rfFloods, ival, hP.2.1]; rfl, rfl⟩
    · simp only [xSeq, xSet, xRet, xIf, xExpr, xNext, xNever, xC, xNil, xCons, xTup, xLst, xOp, xEq, xNe, xUn, xNot, xAnd, xOr, xIfE, xCB, xCall, xCallB, xName, xAsg, xIsi3, toD_fz, toD_ow, toD_od, toD_bg, rd_var, rd_getv1, rd_getv2, rd_getv3, rd_test, rd_onB, rd_onI, rd_onSB, rd_andV, rd_orV, rd_notV, rd_chain, rd_II, rd_II0, rd_add1, rd_add2, rd_add3, rd_mul1, rd_mul2, rd_mul3, rd_isN, rd_notN, rd_isN1, rd_isN2, rd_isN3, rd_neg, rd_ix1, rd_ix2, rd_part, rd_sl, rd_onSl1, rd_onSl2, rd_rev, rd_onRv, rd_len1, rd_len2, rd_max2, rd_min2, rd_int1, rd_int2, rd_lst1, rd_lst2, rd_tup1, rd_tup2, rd_dm, rd_seqI, rd_onSq1, rd_onSq2, rd_rng1, rd_onR1, rd_rng2, rd_onR2, xEnumT, rd_onEt, rd_zip, rd_onZ1, rd_onZ2, rd_par, rd_onP, xPar3, rd_onP3, rd_gtup, rd_gnil, rd_gcons, rd_isi, noO_int, noO_bl, noO_str, noO_lst, noO_tup, noO_non, ini, iniB, wipeD, unw, kf, List.map_cons, List.map_nil, List.replicate_succ, List.replicate_zero, List.cons_append, List.nil_append, List.length_cons, List.length_nil, List.getElem?_cons_zero, List.getElem?_cons_succ, List.set_cons_zero, List.set_cons_succ, decide_eq_true_eq, Nat.zero_add, Nat.reduceAdd, Nat.reduceSub, Nat.reduceLeDiff, true_and, Bool.false_eq_true, if_false, if_true, isi_int_non, isi_int_bl, isi_int_int, isi_int_str, isi_int_lst, isi_int_tup, isi_bool_non, isi_bool_bl, isi_bool_int, isi_bool_str, isi_bool_lst, isi_bool_tup, isi_list_non, isi_list_bl, isi_list_int, isi_list_str, isi_list_lst, isi_list_tup, isi_tuple_non, isi_tuple_bl, isi_tuple_int, isi_tuple_str, isi_tuple_lst, isi_tuple_tup, isi_str_non, isi_str_bl, isi_str_int, isi_str_str, isi_str_lst, isi_str_tup, Bool.not_true, Bool.not_false, Bool.or_false, Bool.or_true, Bool.false_or, Bool.true_or, ite_true, ite_false, Option.some.injEq, true_or, false_or, or_false, and_true, capD]
      exact ⟨.int top, a1, d, .int 1, rfl, smA_int _, st, hP.1, smA_int _, nmC 2, by simp only [hc, then_none, rfFloods, ival, hP.2.2]; rfl, rfl⟩
    · simp only [xSeq, xSet, xRet, xIf, xExpr, xNext, xNever, xC, xNil, xCons, xTup, xLst, xOp, xEq, xNe, xUn, xNot, xAnd, xOr, xIfE, xCB, xCall, xCallB, xName, xAsg, xIsi3, toD_fz, toD_ow, toD_od, toD_bg, rd_var, rd_getv1, rd_getv2, rd_getv3, rd_test, rd_onB, rd_onI, rd_onSB, rd_andV, rd_orV, rd_notV, rd_chain, rd_II, rd_II0, rd_add1, rd_add2, rd_add3, rd_mul1, rd_mul2, rd_mul3, rd_isN, rd_notN, rd_isN1, rd_isN2, rd_isN3, rd_neg, rd_ix1, rd_ix2, rd_part, rd_sl, rd_onSl1, rd_onSl2, rd_rev, rd_onRv, rd_len1, rd_len2, rd_max2, rd_min2, rd_int1, rd_int2, rd_lst1, rd_lst2, rd_tup1, rd_tup2, rd_dm, rd_seqI, rd_onSq1, rd_onSq2, rd_rng1, rd_onR1, rd_rng2, rd_onR2, xEnumT, rd_onEt, rd_zip, rd_onZ1, rd_onZ2, rd_par, rd_onP, xPar3, rd_onP3, rd_gtup, rd_gnil, rd_gcons, rd_isi, noO_int, noO_bl, noO_str, noO_lst, noO_tup, noO_non, ini, iniB, wipeD, unw, kf, List.map_cons, List.map_nil, List.replicate_succ, List.replicate_zero, List.cons_append, List.nil_append, List.length_cons, List.length_nil, List.getElem?_cons_zero, List.getElem?_cons_succ, List.set_cons_zero, List.set_cons_succ, decide_eq_true_eq, Nat.zero_add, Nat.reduceAdd, Nat.reduceSub, Nat.reduceLeDiff, true_and, Bool.false_eq_true, if_false, if_true, isi_int_non, isi_int_bl, isi_int_int, isi_int_str, isi_int_lst, isi_int_tup, isi_bool_non, isi_bool_bl, isi_bool_int, isi_bool_str, isi_bool_lst, isi_bool_tup, isi_list_non, isi_list_bl, isi_list_int, isi_list_str, isi_list_lst, isi_list_tup, isi_tuple_non, isi_tuple_bl, isi_tuple_int, isi_tuple_str, isi_tuple_lst, isi_tuple_tup, isi_str_non, isi_str_bl, isi_str_int, isi_str_str, isi_str_lst, isi_str_tup, Bool.not_true, Bool.not_false, Bool.or_false, Bool.or_true, Bool.false_or, Bool.true_or, ite_true, ite_false, Option.some.injEq, true_or, false_or, or_false, and_true]
      exact ⟨_, rfl⟩
  · obtain ⟨x3, rfl⟩ := hI
    simp only [xSeq, xSet, xRet, xIf, xExpr, xNext, xNever, xC, xNil, xCons, xTup, xLst, xOp, xEq, xNe, xUn, xNot, xAnd, xOr, xIfE, xCB, xCall, xCallB, xName, xAsg, xIsi3, toD_fz, toD_ow, toD_od, toD_bg, rd_var, rd_getv1, rd_getv2, rd_getv3, rd_test, rd_onB, rd_onI, rd_onSB, rd_andV, rd_orV, rd_notV, rd_chain, rd_II, rd_II0, rd_add1, rd_add2, rd_add3, rd_mul1, rd_mul2, rd_mul3, rd_isN, rd_notN, rd_isN1, rd_isN2, rd_isN3, rd_neg, rd_ix1, rd_ix2, rd_part, rd_sl, rd_onSl1, rd_onSl2, rd_rev, rd_onRv, rd_len1, rd_len2, rd_max2, rd_min2, rd_int1, rd_int2, rd_lst1, rd_lst2, rd_tup1, rd_tup2, rd_dm, rd_seqI, rd_onSq1, rd_onSq2, rd_rng1, rd_onR1, rd_rng2, rd_onR2, xEnumT, rd_onEt, rd_zip, rd_onZ1, rd_onZ2, rd_par, rd_onP, xPar3, rd_onP3, rd_gtup, rd_gnil, rd_gcons, rd_isi, noO_int, noO_bl, noO_str, noO_lst, noO_tup, noO_non, ini, iniB, wipeD, unw, kf, List.map_cons, List.map_nil, List.replicate_succ, List.replicate_zero, List.cons_append, List.nil_append, List.length_cons, List.length_nil, List.getElem?_cons_zero, List.getElem?_cons_succ, List.set_cons_zero, List.set_cons_succ, decide_eq_true_eq, Nat.zero_add, Nat.reduceAdd, Nat.reduceSub, Nat.reduceLeDiff, true_and, Bool.false_eq_true, if_false, if_true, isi_int_non, isi_int_bl, isi_int_int, isi_int_str, isi_int_lst, isi_int_tup, isi_bool_non, isi_bool_bl, isi_bool_int, isi_bool_str, isi_bool_lst, isi_bool_tup, isi_list_non, isi_list_bl, isi_list_int, isi_list_str, isi_list_lst, isi_list_tup, isi_tuple_non, isi_tuple_bl, isi_tuple_int, isi_tuple_str, isi_tuple_lst, isi_tuple_tup, isi_str_non, isi_str_bl, isi_str_int, isi_str_str, isi_str_lst, isi_str_tup, Bool.not_true, Bool.not_false, Bool.or_false, Bool.or_true, Bool.false_or, Bool.true_or, ite_true, ite_false, Option.some.injEq, true_or, false_or, or_false, and_true]
    refine ⟨_, turns_cons (turn_lam (k := 6) (c := nmC 2) [true, true, false, false, false, false] (by rfl) (by rfl) (fun _ _ _ _ _ => rfl) (fun W hs hb f2 c2 A2 o2 s2 H2 E2 C2 ED2 hr2 hE2 => by obtain ⟨q, params, body, scope, cl⟩ := W; dsimp only at hs hb; subst hs hb; exact d_fnL hE2 h_far (hr2.mono (by decide)) (da_cons (dv 0) (da_cons (dv 1) (da_cons (d_lst da_nil) (da_cons d_int da_nil))))) (by trivial) ?_) turns_nil, rfl, 2, by decide, rfl, ⟨_, rfl, okD_word 2 (by decide)⟩, okD_word 2 (by decide), okD_word 2 (by decide), ?_⟩
    · simp only [xSeq, xSet, xRet, xIf, xExpr, xNext, xNever, xC, xNil, xCons, xTup, xLst, xOp, xEq, xNe, xUn, xNot, xAnd, xOr, xIfE, xCB, xCall, xCallB, xName, xAsg, xIsi3, toD_fz, toD_ow, toD_od, toD_bg, rd_var, rd_getv1, rd_getv2, rd_getv3, rd_test, rd_onB, rd_onI, rd_onSB, rd_andV, rd_orV, rd_notV, rd_chain, rd_II, rd_II0, rd_add1, rd_add2, rd_add3, rd_mul1, rd_mul2, rd_mul3, rd_isN, rd_notN, rd_isN1, rd_isN2, rd_isN3, rd_neg, rd_ix1, rd_ix2, rd_part, rd_sl, rd_onSl1, rd_onSl2, rd_rev, rd_onRv, rd_len1, rd_len2, rd_max2, rd_min2, rd_int1, rd_int2, rd_lst1, rd_lst2, rd_tup1, rd_tup2, rd_dm, rd_seqI, rd_onSq1, rd_onSq2, rd_rng1, rd_onR1, rd_rng2, rd_onR2, xEnumT, rd_onEt, rd_zip, rd_onZ1, rd_onZ2, rd_par, rd_onP, xPar3, rd_onP3, rd_gtup, rd_gnil, rd_gcons, rd_isi, noO_int, noO_bl, noO_str, noO_lst, noO_tup, noO_non, ini, iniB, wipeD, unw, kf, List.map_cons, List.map_nil, List.replicate_succ, List.replicate_zero, List.cons_append, List.nil_append, List.length_cons, List.length_nil, List.getElem?_cons_zero, List.getElem?_cons_succ, List.set_cons_zero, List.set_cons_succ, decide_eq_true_eq, Nat.zero_add, Nat.reduceAdd, Nat.reduceSub, Nat.reduceLeDiff, true_and, Bool.false_eq_true, if_false, if_true, isi_int_non, isi_int_bl, isi_int_int, isi_int_str, isi_int_lst, isi_int_tup, isi_bool_non, isi_bool_bl, isi_bool_int, isi_bool_str, isi_bool_lst, isi_bool_tup, isi_list_non, isi_list_bl, isi_list_int, isi_list_str, isi_list_lst, isi_list_tup, isi_tuple_non, isi_tuple_bl, isi_tuple_int, isi_tuple_str, isi_tuple_lst, isi_tuple_tup, isi_str_non, isi_str_bl, isi_str_int, isi_str_str, isi_str_lst, isi_str_tup, Bool.not_true, Bool.not_false, Bool.or_false, Bool.or_true, Bool.false_or, Bool.true_or, ite_true, ite_false, Option.some.injEq, true_or, false_or, or_false, and_true, capD]
      exact ⟨.int top, a1, .lst [], .int 1, rfl, smA_int _, st, ⟨1, rfl⟩, smA_int _, nmC 2, by simp only [hc, then_none]; rfl, rfl⟩
    · rw [show eqD (S.fz (D.tup [.str (nmC 2)])).toD (.tup [.str (Str.ofString "NoFloods")]) = true from eqD_word _]
      simp only [xSeq, xSet, xRet, xIf, xExpr, xNext, xNever, xC, xNil, xCons, xTup, xLst, xOp, xEq, xNe, xUn, xNot, xAnd, xOr, xIfE, xCB, xCall, xCallB, xName, xAsg, xIsi3, toD_fz, toD_ow, toD_od, toD_bg, rd_var, rd_getv1, rd_getv2, rd_getv3, rd_test, rd_onB, rd_onI, rd_onSB, rd_andV, rd_orV, rd_notV, rd_chain, rd_II, rd_II0, rd_add1, rd_add2, rd_add3, rd_mul1, rd_mul2, rd_mul3, rd_isN, rd_notN, rd_isN1, rd_isN2, rd_isN3, rd_neg, rd_ix1, rd_ix2, rd_part, rd_sl, rd_onSl1, rd_onSl2, rd_rev, rd_onRv, rd_len1, rd_len2, rd_max2, rd_min2, rd_int1, rd_int2, rd_lst1, rd_lst2, rd_tup1, rd_tup2, rd_dm, rd_seqI, rd_onSq1, rd_onSq2, rd_rng1, rd_onR1, rd_rng2, rd_onR2, xEnumT, rd_onEt, rd_zip, rd_onZ1, rd_onZ2, rd_par, rd_onP, xPar3, rd_onP3, rd_gtup, rd_gnil, rd_gcons, rd_isi, noO_int, noO_bl, noO_str, noO_lst, noO_tup, noO_non, ini, iniB, wipeD, unw, kf, List.map_cons, List.map_nil, List.replicate_succ, List.replicate_zero, List.cons_append, List.nil_append, List.length_cons, List.length_nil, List.getElem?_cons_zero, List.getElem?_cons_succ, List.set_cons_zero, List.set_cons_succ, decide_eq_true_eq, Nat.zero_add, Nat.reduceAdd, Nat.reduceSub, Nat.reduceLeDiff, true_and, Bool.false_eq_true, if_false, if_true, isi_int_non, isi_int_bl, isi_int_int, isi_int_str, isi_int_lst, isi_int_tup, isi_bool_non, isi_bool_bl, isi_bool_int, isi_bool_str, isi_bool_lst, isi_bool_tup, isi_list_non, isi_list_bl, isi_list_int, isi_list_str, isi_list_lst, isi_list_tup, isi_tuple_non, isi_tuple_bl, isi_tuple_int, isi_tuple_str, isi_tuple_lst, isi_tuple_tup, isi_str_non, isi_str_bl, isi_str_int, isi_str_str, isi_str_lst, isi_str_tup, Bool.not_true, Bool.not_false, Bool.or_false, Bool.or_true, Bool.false_or, Bool.true_or, ite_true, ite_false, Option.some.injEq, true_or, false_or, or_false, and_true]
      refine ⟨by simp, by decide, by decide, fun i ρ => ∃ x3 x5, ρ = [some (.fz (.int top)), some (.fz a1), some (.fz (.lst (oddsL top))), x3, some (.fz (.lst logsL)), x5], ⟨_, none, rfl⟩, fun i d ρ hd hI => ?_, fun ρ hI => ?_⟩
      · obtain ⟨x3, x5, rfl⟩ := hI
        have hP := logsP top d (List.mem_of_getElem? (show logsL[i]? = some d from hd))
        simp only [xSeq, xSet, xRet, xIf, xExpr, xNext, xNever, xC, xNil, xCons, xTup, xLst, xOp, xEq, xNe, xUn, xNot, xAnd, xOr, xIfE, xCB, xCall, xCallB, xName, xAsg, xIsi3, toD_fz, toD_ow, toD_od, toD_bg, rd_var, rd_getv1, rd_getv2, rd_getv3, rd_test, rd_onB, rd_onI, rd_onSB, rd_andV, rd_orV, rd_notV, rd_chain, rd_II, rd_II0, rd_add1, rd_add2, rd_add3, rd_mul1, rd_mul2, rd_mul3, rd_isN, rd_notN, rd_isN1, rd_isN2, rd_isN3, rd_neg, rd_ix1, rd_ix2, rd_part, rd_sl, rd_onSl1, rd_onSl2, rd_rev, rd_onRv, rd_len1, rd_len2, rd_max2, rd_min2, rd_int1, rd_int2, rd_lst1, rd_lst2, rd_tup1, rd_tup2, rd_dm, rd_seqI, rd_onSq1, rd_onSq2, rd_rng1, rd_onR1, rd_rng2, rd_onR2, xEnumT, rd_onEt, rd_zip, rd_onZ1, rd_onZ2, rd_par, rd_onP, xPar3, rd_onP3, rd_gtup, rd_gnil, rd_gcons, rd_isi, noO_int, noO_bl, noO_str, noO_lst, noO_tup, noO_non, ini, iniB, wipeD, unw, kf, List.map_cons, List.map_nil, List.replicate_succ, List.replicate_zero, List.cons_append, List.nil_append, List.length_cons, List.length_nil, List.getElem?_cons_zero, List.getElem?_cons_succ, List.set_cons_zero, List.set_cons_succ, decide_eq_true_eq, Nat.zero_add, Nat.reduceAdd, Nat.reduceSub, Nat.reduceLeDiff, true_and, Bool.false_eq_true, if_false, if_true, isi_int_non, isi_int_bl, isi_int_int, isi_int_str, isi_int_lst, isi_int_tup, isi_bool_non, isi_bool_bl, isi_bool_int, isi_bool_str, isi_bool_lst, isi_bool_tup, isi_list_non, isi_list_bl, isi_list_int, isi_list_str, isi_list_lst, isi_list_tup, isi_tuple_non, isi_tuple_bl, isi_tuple_int, isi_tuple_str, isi_tuple_lst, isi_tuple_tup, isi_str_non, isi_str_bl, isi_str_int, isi_str_str, isi_str_lst, isi_str_tup, Bool.not_true, Bool.not_false, Bool.or_false, Bool.or_true, Bool.false_or, Bool.true_or, ite_true, ite_false, Option.some.injEq, true_or, false_or, or_false, and_true]
        refine ⟨_, turns_cons (turn_lam (k := 6) (c := nmC 2) [true, true, false, false, false, true] (by rfl) (by rfl) (fun _ _ _ _ _ => rfl) (fun W hs hb f2 c2 A2 o2 s2 H2 E2 C2 ED2 hr2 hE2 => by obtain ⟨q, params, body, scope, cl⟩ := W; dsimp only at hs hb; subst hs hb; exact d_fnL hE2 h_log_ways (hr2.mono (by decide)) (da_cons (dv 0) (da_cons (dv 1) (da_cons (dv 5) da_nil)))) (by trivial) ?_) turns_nil, rfl, 2, by decide, rfl, ⟨_, rfl, okD_word 2 (by decide)⟩, okD_word 2 (by decide), okD_word 2 (by decide), ?_⟩
        · simp only [xSeq, xSet, xRet, xIf, xExpr, xNext, xNever, xC, xNil, xCons, xTup, xLst, xOp, xEq, xNe, xUn, xNot, xAnd, xOr, xIfE, xCB, xCall, xCallB, xName, xAsg, xIsi3, toD_fz, toD_ow, toD_od, toD_bg, rd_var, rd_getv1, rd_getv2, rd_getv3, rd_test, rd_onB, rd_onI, rd_onSB, rd_andV, rd_orV, rd_notV, rd_chain, rd_II, rd_II0, rd_add1, rd_add2, rd_add3, rd_mul1, rd_mul2, rd_mul3, rd_isN, rd_notN, rd_isN1, rd_isN2, rd_isN3, rd_neg, rd_ix1, rd_ix2, rd_part, rd_sl, rd_onSl1, rd_onSl2, rd_rev, rd_onRv, rd_len1, rd_len2, rd_max2, rd_min2, rd_int1, rd_int2, rd_lst1, rd_lst2, rd_tup1, rd_tup2, rd_dm, rd_seqI, rd_onSq1, rd_onSq2, rd_rng1, rd_onR1, rd_rng2, rd_onR2, xEnumT, rd_onEt, rd_zip, rd_onZ1, rd_onZ2, rd_par, rd_onP, xPar3, rd_onP3, rd_gtup, rd_gnil, rd_gcons, rd_isi, noO_int, noO_bl, noO_str, noO_lst, noO_tup, noO_non, ini, iniB, wipeD, unw, kf, List.map_cons, List.map_nil, List.replicate_succ, List.replicate_zero, List.cons_append, List.nil_append, List.length_cons, List.length_nil, List.getElem?_cons_zero, List.getElem?_cons_succ, List.set_cons_zero, List.set_cons_succ, decide_eq_true_eq, Nat.zero_add, Nat.reduceAdd, Nat.reduceSub, Nat.reduceLeDiff, true_and, Bool.false_eq_true, if_false, if_true, isi_int_non, isi_int_bl, isi_int_int, isi_int_str, isi_int_lst, isi_int_tup, isi_bool_non, isi_bool_bl, isi_bool_int, isi_bool_str, isi_bool_lst, isi_bool_tup, isi_list_non, isi_list_bl, isi_list_int, isi_list_str, isi_list_lst, isi_list_tup, isi_tuple_non, isi_tuple_bl, isi_tuple_int, isi_tuple_str, isi_tuple_lst, isi_tuple_tup, isi_str_non, isi_str_bl, isi_str_int, isi_str_str, isi_str_lst, isi_str_tup, Bool.not_true, Bool.not_false, Bool.or_false, Bool.or_true, Bool.false_or, Bool.true_or, ite_true, ite_false, Option.some.injEq, true_or, false_or, or_false, and_true, capD]
          exact ⟨.int top, a1, d, rfl, smA_int _, st, hP.1, nmC 2, by simp only [hc, then_none, ival, hP.2]; rfl, rfl⟩
        · rw [show eqD (S.fz (D.tup [.str (nmC 2)])).toD (.tup [.str (Str.ofString "NoFloods")]) = true from eqD_word _]
          simp only [xSeq, xSet, xRet, xIf, xExpr, xNext, xNever, xC, xNil, xCons, xTup, xLst, xOp, xEq, xNe, xUn, xNot, xAnd, xOr, xIfE, xCB, xCall, xCallB, xName, xAsg, xIsi3, toD_fz, toD_ow, toD_od, toD_bg, rd_var, rd_getv1, rd_getv2, rd_getv3, rd_test, rd_onB, rd_onI, rd_onSB, rd_andV, rd_orV, rd_notV, rd_chain, rd_II, rd_II0, rd_add1, rd_add2, rd_add3, rd_mul1, rd_mul2, rd_mul3, rd_isN, rd_notN, rd_isN1, rd_isN2, rd_isN3, rd_neg, rd_ix1, rd_ix2, rd_part, rd_sl, rd_onSl1, rd_onSl2, rd_rev, rd_onRv, rd_len1, rd_len2, rd_max2, rd_min2, rd_int1, rd_int2, rd_lst1, rd_lst2, rd_tup1, rd_tup2, rd_dm, rd_seqI, rd_onSq1, rd_onSq2, rd_rng1, rd_onR1, rd_rng2, rd_onR2, xEnumT, rd_onEt, rd_zip, rd_onZ1, rd_onZ2, rd_par, rd_onP, xPar3, rd_onP3, rd_gtup, rd_gnil, rd_gcons, rd_isi, noO_int, noO_bl, noO_str, noO_lst, noO_tup, noO_non, ini, iniB, wipeD, unw, kf, List.map_cons, List.map_nil, List.replicate_succ, List.replicate_zero, List.cons_append, List.nil_append, List.length_cons, List.length_nil, List.getElem?_cons_zero, List.getElem?_cons_succ, List.set_cons_zero, List.set_cons_succ, decide_eq_true_eq, Nat.zero_add, Nat.reduceAdd, Nat.reduceSub, Nat.reduceLeDiff, true_and, Bool.false_eq_true, if_false, if_true, isi_int_non, isi_int_bl, isi_int_int, isi_int_str, isi_int_lst, isi_int_tup, isi_bool_non, isi_bool_bl, isi_bool_int, isi_bool_str, isi_bool_lst, isi_bool_tup, isi_list_non, isi_list_bl, isi_list_int, isi_list_str, isi_list_lst, isi_list_tup, isi_tuple_non, isi_tuple_bl, isi_tuple_int, isi_tuple_str, isi_tuple_lst, isi_tuple_tup, isi_str_non, isi_str_bl, isi_str_int, isi_str_str, isi_str_lst, isi_str_tup, Bool.not_true, Bool.not_false, Bool.or_false, Bool.or_true, Bool.false_or, Bool.true_or, ite_true, ite_false, Option.some.injEq, true_or, false_or, or_false, and_true]
          exact ⟨_, _, rfl⟩
      · obtain ⟨x3, x5, rfl⟩ := hI
        exact q

def dp__law_others_refused : DP := fun ds Q _ => ∃ (top : Int) (ms : List Int), ds = [.int top, .tup (ms.map D.int)] ∧ 1 ≤ top ∧ top ≤ 40 ∧ MarksP top 8 ms ∧ Q (.fz (.bl true))
theorem rfMany_some {d : D} {most : Int} (h : inR d 0 most = false) : rfMany d most = some (nmC 3) := by
  unfold rfMany
  rw [h]
  rfl
def manyL : List D := [.non, .bl true, .int (-1), .int 41]
theorem manyP : ∀ d ∈ manyL, smA d ∧ rfMany d 40 = some (nmC 3) := by
  intro d hd
  simp only [manyL, List.mem_cons, List.not_mem_nil, or_false] at hd
  rcases hd with rfl | rfl | rfl | rfl <;> exact ⟨⟨0, rfl⟩, rfMany_some rfl⟩
def farL : List D := [.int (10 ^ Int.toNat 18 + 1), .int (-1), .non]
theorem farP : ∀ d ∈ farL, smA d ∧ rfMany d 1000000000000000000 = some (nmC 3) := by
  intro d hd
  simp only [farL, List.mem_cons, List.not_mem_nil, or_false] at hd
  rcases hd with rfl | rfl | rfl <;> exact ⟨⟨0, rfl⟩, rfMany_some rfl⟩
def byL : List D := [.int 1, .int (10 ^ Int.toNat 9 + 1), .bl true, .non]
theorem byP : ∀ d ∈ byL, smA d ∧ inR d 2 1000000000 = false := by
  intro d hd
  simp only [byL, List.mem_cons, List.not_mem_nil, or_false] at hd
  rcases hd with rfl | rfl | rfl | rfl <;> exact ⟨⟨0, rfl⟩, rfl⟩
def placeL : List D := [.non, .int (-1), .int 1, .bl true]
theorem placeP : ∀ d ∈ placeL, smA d ∧ inR d 0 0 = false := by
  intro d hd
  simp only [placeL, List.mem_cons, List.not_mem_nil, or_false] at hd
  rcases hd with rfl | rfl | rfl | rfl <;> exact ⟨⟨0, rfl⟩, rfl⟩
def numL : List D := [.int 0, .int 4, .non, .bl true]
theorem numP : ∀ d ∈ numL, smA d ∧ inR d 1 3 = false := by
  intro d hd
  simp only [numL, List.mem_cons, List.not_mem_nil, or_false] at hd
  rcases hd with rfl | rfl | rfl | rfl <;> exact ⟨⟨0, rfl⟩, rfl⟩
def unL (top : Int) : List D := [.tup [], .tup [.int 1], .tup [.non, .non], .lst [.non], .tup [.non, .int (top + 1)], .non]
theorem unP {top : Int} : ∀ d ∈ unL top, smA d ∧ rfUn top d = some (nmC 1) := by
  intro d hd
  simp only [unL, List.mem_cons, List.not_mem_nil, or_false] at hd
  rcases hd with rfl | rfl | rfl | rfl | rfl | rfl
  · exact ⟨⟨2, rfl⟩, rfl⟩
  · exact ⟨⟨2, rfl⟩, rfl⟩
  · exact ⟨⟨2, rfl⟩, rfl⟩
  · exact ⟨⟨2, rfl⟩, rfl⟩
  · refine ⟨⟨2, rfl⟩, ?_⟩
    show rfM top (.tup [.int (top + 1)]) = some (nmC 1)
    unfold rfM
    rw [if_neg (by simp [marksD, inR, show ¬ (top + 1 ≤ top) by omega])]
  · exact ⟨⟨2, rfl⟩, rfl⟩

abbrev s__law_others_refused : Stmt := topS 67
theorem sc__law_others_refused : FnScope ["top", "marks1", "later", "many", "doors", "by", "place", "number", "odd"] ["top", "marks1"] (defScope s__law_others_refused) := ⟨rfl, rfl, rfl, by decide +kernel, rfl, by decide +kernel, by decide +kernel⟩

theorem ok__law_others_refused {P : Program} {w : World} {K : PySem.W.Frag} {mg : Str → Option Value} {base : Heap} {T : List (Addr × Str)} {c Pt : Addr} (B : Bt mg) (TB : LamX.TabB base mg c Pt) (hm : (Pt, qn "_law_others_refused" s__law_others_refused) ∈ T) (hu : ∀ p ∈ T, p.1 = Pt → p.2 = qn "_law_others_refused" s__law_others_refused)
    (d : DfT K mg "_law_others_refused" s__law_others_refused ["top", "marks1"] c) (h__law_tried : Fn P w K mg base "_law_tried" 8 1 (dp__law_tried P w K mg base)) (h__law_refused : Fn P w K mg base "_law_refused" 9 2 (dp__law_refused P w K mg base)) (h__law_flooded : Fn P w K mg base "_law_flooded" 1 2 dp__law_flooded) (h_how_many : FnX P w K mg base "how_many" 6 4 dp_how_many) (h_first_row : FnX P w K mg base "first_row" 6 4 dp_first_row) (h_days : FnX P w K mg base "days" 6 5 dp_days) (h_how_many_marks : FnX P w K mg base "how_many_marks" 5 3 dp_how_many_marks) (h_heights : FnX P w K mg base "heights" 6 5 dp_heights) (h_unread : FnX P w K mg base "unread" 5 4 dp_unread) (h_far : FnX P w K mg base "far" 5 4 dp_far) (h_rest : FnX P w K mg base "rest" 6 5 dp_rest) : FnT P w K mg base T "_law_others_refused" 10 2 dp__law_others_refused := by
  refine fn_mkT d sc__law_others_refused rfl (by decide) fun f A outer s H E C hC hT hr => ⟨_, _, (ds_cons (ds_set 2 sc__law_others_refused.nd (d_fnK h__law_flooded (hr.mono (by decide)) (da_cons (dv 1) (da_cons (d_lst (da_cons (dv 0) da_nil)) da_nil))))
      (ds_cons (ds_for PassesOwn.never rfl (di_seqK K (d_lst (da_cons d_non (da_cons d_bl (da_cons (d_neg d_int) (da_cons d_int da_nil)))))) (dg_name 3 sc__law_others_refused.nd) (ds_cons (ds_set 4 sc__law_others_refused.nd (d_lst (da_cons (d_lm hC TB hm hu (hT := hT) (L := by rfl)) (da_cons (d_lm hC TB hm hu (hT := hT) (L := by rfl)) da_nil))))
      (ds_cons (ds_set 4 sc__law_others_refused.nd (d_op (o_addK K) (dv 4) (d_lst (da_cons (d_lm hC TB hm hu (hT := hT) (L := by rfl)) (da_cons (d_lm hC TB hm hu (hT := hT) (L := by rfl)) da_nil)))))
      (ds_cons (ds_set 4 sc__law_others_refused.nd (d_op (o_addK K) (dv 4) (d_lst (da_cons (d_lm hC TB hm hu (hT := hT) (L := by rfl)) (da_cons (d_lm hC TB hm hu (hT := hT) (L := by rfl)) da_nil)))))
      (ds_one (ds_if (dt_not (dt_val (d_loan h__law_refused (hr.mono (by decide)) (da_cons (dv 4) (da_cons d_str da_nil))))) (ds_one (ds_ret d_bl)) ds_nil))))))
      (ds_cons (ds_for PassesOwn.never rfl (di_seqK K (d_lst (da_cons (d_op (o_addK K) (d_op o_pow d_int d_int) d_int) (da_cons (d_neg d_int) (da_cons d_non da_nil))))) (dg_name 3 sc__law_others_refused.nd) (ds_one (ds_if (dt_not (dt_val (d_loan h__law_refused (hr.mono (by decide)) (da_cons (d_lst (da_cons (d_lm hC TB hm hu (hT := hT) (L := by rfl)) (da_cons (d_lm hC TB hm hu (hT := hT) (L := by rfl)) da_nil))) (da_cons d_str da_nil))))) (ds_one (ds_ret d_bl)) ds_nil)))
      (ds_cons (ds_for PassesOwn.never rfl (di_seqK K (d_lst (da_cons d_int (da_cons (d_op (o_addK K) (d_op o_pow d_int d_int) d_int) (da_cons d_bl (da_cons d_non da_nil)))))) (dg_name 5 sc__law_others_refused.nd) (ds_one (ds_if (dt_cmp (o_neK K hr.units) (d_loan h__law_tried (hr.mono (by decide)) (da_cons (d_lm hC TB hm hu (hT := hT) (L := by rfl)) da_nil)) (d_tup (da_cons d_str da_nil))) (ds_one (ds_ret d_bl)) ds_nil)))
      (ds_cons (ds_for PassesOwn.never rfl (di_seqK K (d_lst (da_cons d_non (da_cons (d_neg d_int) (da_cons d_int (da_cons d_bl da_nil)))))) (dg_name 6 sc__law_others_refused.nd) (ds_one (ds_if (dt_cmp (o_neK K hr.units) (d_loan h__law_tried (hr.mono (by decide)) (da_cons (d_lm hC TB hm hu (hT := hT) (L := by rfl)) da_nil)) (d_tup (da_cons d_str da_nil))) (ds_one (ds_ret d_bl)) ds_nil)))
      (ds_cons (ds_for PassesOwn.never rfl (di_seqK K (d_lst (da_cons d_int (da_cons d_int (da_cons d_non (da_cons d_bl da_nil)))))) (dg_name 7 sc__law_others_refused.nd) (ds_one (ds_if (dt_cmp (o_neK K hr.units) (d_loan h__law_tried (hr.mono (by decide)) (da_cons (d_lm hC TB hm hu (hT := hT) (L := by rfl)) da_nil)) (d_tup (da_cons d_str da_nil))) (ds_one (ds_ret d_bl)) ds_nil)))
      (ds_cons (ds_for PassesOwn.never rfl (di_seqK K (d_lst (da_cons (d_tup da_nil) (da_cons (d_tup (da_cons d_int da_nil)) (da_cons (d_tup (da_cons d_non (da_cons d_non da_nil))) (da_cons (d_lst (da_cons d_non da_nil)) (da_cons (d_tup (da_cons d_non (da_cons (d_op (o_addK K) (dv 0) d_int) da_nil))) (da_cons d_non da_nil)))))))) (dg_name 8 sc__law_others_refused.nd) (ds_one (ds_if (dt_cmp (o_neK K hr.units) (d_loan h__law_tried (hr.mono (by decide)) (da_cons (d_lm hC TB hm hu (hT := hT) (L := by rfl)) da_nil)) (d_tup (da_cons d_str da_nil))) (ds_one (ds_ret d_bl)) ds_nil)))
      (ds_one (ds_ret d_bl))))))))), fun ds QD hl0 h => ?_⟩
  obtain ⟨top, ms, rfl, t1, t2, hk, q⟩ := h
  have hM := MarksP.ok hk (show (8 : Int) ≤ 8 by decide)
  have hfl : (floods ms [top]).map D.int = [.int top] := by
    have e : ms.filter (fun x => decide (top < x)) = [] := List.filter_eq_nil_iff.mpr fun x hx => by
      have := (hk.2.2 x hx).2
      simp; omega
    simp [floods, flood, e]
  have hc := rfMarks_ok t1 t2 hM
  have hl : marksD top (.tup [.int top]) = true := by simp [marksD, inR, ival, falling, t1]
  have hb : rfBoth (.int top) (.tup (ms.map D.int)) (.tup [.int top]) = none := by
    unfold rfBoth
    rw [hc, rfMarks_ok t1 t2 hl]
    rfl
  have hml := hk.1
  have st : smA (.tup (ms.map D.int)) := ⟨1, sm_tup (by omega)⟩
  have sl : smA (.tup [.int top]) := ⟨1, rfl⟩
  simp only [xSeq, xSet, xRet, xIf, xExpr, xNext, xNever, xC, xNil, xCons, xTup, xLst, xOp, xEq, xNe, xUn, xNot, xAnd, xOr, xIfE, xCB, xCall, xCallB, xName, xAsg, xIsi3, toD_fz, toD_ow, toD_od, toD_bg, rd_var, rd_getv1, rd_getv2, rd_getv3, rd_test, rd_onB, rd_onI, rd_onSB, rd_andV, rd_orV, rd_notV, rd_chain, rd_II, rd_II0, rd_add1, rd_add2, rd_add3, rd_mul1, rd_mul2, rd_mul3, rd_isN, rd_notN, rd_isN1, rd_isN2, rd_isN3, rd_neg, rd_ix1, rd_ix2, rd_part, rd_sl, rd_onSl1, rd_onSl2, rd_rev, rd_onRv, rd_len1, rd_len2, rd_max2, rd_min2, rd_int1, rd_int2, rd_lst1, rd_lst2, rd_tup1, rd_tup2, rd_dm, rd_seqI, rd_onSq1, rd_onSq2, rd_rng1, rd_onR1, rd_rng2, rd_onR2, xEnumT, rd_onEt, rd_zip, rd_onZ1, rd_onZ2, rd_par, rd_onP, xPar3, rd_onP3, rd_gtup, rd_gnil, rd_gcons, rd_isi, noO_int, noO_bl, noO_str, noO_lst, noO_tup, noO_non, ini, iniB, wipeD, unw, kf, List.map_cons, List.map_nil, List.replicate_succ, List.replicate_zero, List.cons_append, List.nil_append, List.length_cons, List.length_nil, List.getElem?_cons_zero, List.getElem?_cons_succ, List.set_cons_zero, List.set_cons_succ, decide_eq_true_eq, Nat.zero_add, Nat.reduceAdd, Nat.reduceSub, Nat.reduceLeDiff, true_and, Bool.false_eq_true, if_false, if_true, isi_int_non, isi_int_bl, isi_int_int, isi_int_str, isi_int_lst, isi_int_tup, isi_bool_non, isi_bool_bl, isi_bool_int, isi_bool_str, isi_bool_lst, isi_bool_tup, isi_list_non, isi_list_bl, isi_list_int, isi_list_str, isi_list_lst, isi_list_tup, isi_tuple_non, isi_tuple_bl, isi_tuple_int, isi_tuple_str, isi_tuple_lst, isi_tuple_tup, isi_str_non, isi_str_bl, isi_str_int, isi_str_str, isi_str_lst, isi_str_tup, Bool.not_true, Bool.not_false, Bool.or_false, Bool.or_true, Bool.false_or, Bool.true_or, ite_true, ite_false, Option.some.injEq, true_or, false_or, or_false, and_true, rd_isOwn, rd_own1, rd_own2, rd_own3, rd_ixO, rd_onIx1, rd_onIx2, rd_store, rd_onStore1, rd_onStore2, ex_eq, xApp, xDput, S.ow.injEq, S.bg.injEq, S.od.injEq, reduceCtorEq, exists_eq_left', exists_eq_left, exists_eq', D.int.injEq, atI_c0, atI_c1, atI_c2, ixN3_0, ixN3_1, ixN3_2, false_and, and_self, xLm, xLoan, xFor]
  refine ⟨ms, [top], rfl, by simp only [List.length_cons, List.length_nil]; omega, ?_⟩
  rw [hfl]
  have hun : rfUn top (.tup [.non]) = none := rfl
  have hfd : rfFloods top (.lst [.int 1]) 1 = none := by
    unfold rfFloods
    rw [if_pos (by simp [floodsD, inR, t1])]
  have h1f : rfMany (.int 1) 1000000000000000000 = none := rfl
  have h3 : rfMany (.int 3) 40 = none := rfl
  refine ⟨fun i ρ => ∃ x3 x4 x5 x6 x7 x8, ρ = [some (.fz (.int top)), some (.fz (.tup (ms.map D.int))), some (.fz (.tup [.int top])), x3, x4, x5, x6, x7, x8], ⟨_, _, _, _, _, _, rfl⟩, fun i d ρ hd hI => ?_, fun ρ hI => ?_⟩
  · obtain ⟨x3, x4, x5, x6, x7, x8, rfl⟩ := hI
    have hP := manyP d (List.mem_of_getElem? (show manyL[i]? = some d from hd))
    simp only [xSeq, xSet, xRet, xIf, xExpr, xNext, xNever, xC, xNil, xCons, xTup, xLst, xOp, xEq, xNe, xUn, xNot, xAnd, xOr, xIfE, xCB, xCall, xCallB, xName, xAsg, xIsi3, toD_fz, toD_ow, toD_od, toD_bg, rd_var, rd_getv1, rd_getv2, rd_getv3, rd_test, rd_onB, rd_onI, rd_onSB, rd_andV, rd_orV, rd_notV, rd_chain, rd_II, rd_II0, rd_add1, rd_add2, rd_add3, rd_mul1, rd_mul2, rd_mul3, rd_isN, rd_notN, rd_isN1, rd_isN2, rd_isN3, rd_neg, rd_ix1, rd_ix2, rd_part, rd_sl, rd_onSl1, rd_onSl2, rd_rev, rd_onRv, rd_len1, rd_len2, rd_max2, rd_min2, rd_int1, rd_int2, rd_lst1, rd_lst2, rd_tup1, rd_tup2, rd_dm, rd_seqI, rd_onSq1, rd_onSq2, rd_rng1, rd_onR1, rd_rng2, rd_onR2, xEnumT, rd_onEt, rd_zip, rd_onZ1, rd_onZ2, rd_par, rd_onP, xPar3, rd_onP3, rd_gtup, rd_gnil, rd_gcons, rd_isi, noO_int, noO_bl, noO_str, noO_lst, noO_tup, noO_non, ini, iniB, wipeD, unw, kf, List.map_cons, List.map_nil, List.replicate_succ, List.replicate_zero, List.cons_append, List.nil_append, List.length_cons, List.length_nil, List.getElem?_cons_zero, List.getElem?_cons_succ, List.set_cons_zero, List.set_cons_succ, decide_eq_true_eq, Nat.zero_add, Nat.reduceAdd, Nat.reduceSub, Nat.reduceLeDiff, true_and, Bool.false_eq_true, if_false, if_true, isi_int_non, isi_int_bl, isi_int_int, isi_int_str, isi_int_lst, isi_int_tup, isi_bool_non, isi_bool_bl, isi_bool_int, isi_bool_str, isi_bool_lst, isi_bool_tup, isi_list_non, isi_list_bl, isi_list_int, isi_list_str, isi_list_lst, isi_list_tup, isi_tuple_non, isi_tuple_bl, isi_tuple_int, isi_tuple_str, isi_tuple_lst, isi_tuple_tup, isi_str_non, isi_str_bl, isi_str_int, isi_str_str, isi_str_lst, isi_str_tup, Bool.not_true, Bool.not_false, Bool.or_false, Bool.or_true, Bool.false_or, Bool.true_or, ite_true, ite_false, Option.some.injEq, true_or, false_or, or_false, and_true, rd_isOwn, rd_own1, rd_own2, rd_own3, rd_ixO, rd_onIx1, rd_onIx2, rd_store, rd_onStore1, rd_onStore2, ex_eq, xApp, xDput, S.ow.injEq, S.bg.injEq, S.od.injEq, reduceCtorEq, exists_eq_left', exists_eq_left, exists_eq', D.int.injEq, atI_c0, atI_c1, atI_c2, ixN3_0, ixN3_1, ixN3_2, false_and, and_self, xLm, xLoan]
    refine ⟨_, turns_cons (turn_lst (turns_cons (turn_lam (k := 6) (c := nmC 3) [true, true, true, true, false, false, false, false, false] (by rfl) (by rfl) (fun _ _ _ _ _ => rfl) (fun W hs hb f2 c2 A2 o2 s2 H2 E2 C2 ED2 hr2 hE2 => by obtain ⟨q, params, body, scope, cl⟩ := W; dsimp only at hs hb; subst hs hb; exact d_fnL hE2 h_how_many (hr2.mono (by decide)) (da_cons (dv 0) (da_cons (dv 1) (da_cons (dv 2) (da_cons (dv 3) da_nil))))) (by trivial) ?_) (turns_cons (turn_lam (k := 6) (c := nmC 3) [true, true, true, true, false, false, false, false, false] (by rfl) (by rfl) (fun _ _ _ _ _ => rfl) (fun W hs hb f2 c2 A2 o2 s2 H2 E2 C2 ED2 hr2 hE2 => by obtain ⟨q, params, body, scope, cl⟩ := W; dsimp only at hs hb; subst hs hb; exact d_fnL hE2 h_first_row (hr2.mono (by decide)) (da_cons (dv 0) (da_cons (dv 1) (da_cons (dv 2) (da_cons (dv 3) da_nil))))) (by trivial) ?_) (turns_cons (turn_lam (k := 6) (c := nmC 3) [true, true, true, true, false, false, false, false, false] (by rfl) (by rfl) (fun _ _ _ _ _ => rfl) (fun W hs hb f2 c2 A2 o2 s2 H2 E2 C2 ED2 hr2 hE2 => by obtain ⟨q, params, body, scope, cl⟩ := W; dsimp only at hs hb; subst hs hb; exact d_fnL hE2 h_days (hr2.mono (by decide)) (da_cons (dv 0) (da_cons (dv 1) (da_cons (dv 2) (da_cons (dv 3) (da_cons d_non da_nil)))))) (by trivial) ?_) (turns_cons (turn_lam (k := 6) (c := nmC 3) [true, true, false, true, false, false, false, false, false] (by rfl) (by rfl) (fun _ _ _ _ _ => rfl) (fun W hs hb f2 c2 A2 o2 s2 H2 E2 C2 ED2 hr2 hE2 => by obtain ⟨q, params, body, scope, cl⟩ := W; dsimp only at hs hb; subst hs hb; exact d_fnL hE2 h_how_many_marks (hr2.mono (by decide)) (da_cons (dv 0) (da_cons (dv 1) (da_cons (dv 3) da_nil)))) (by trivial) ?_) (turns_cons (turn_lam (k := 6) (c := nmC 3) [true, true, true, true, false, false, false, false, false] (by rfl) (by rfl) (fun _ _ _ _ _ => rfl) (fun W hs hb f2 c2 A2 o2 s2 H2 E2 C2 ED2 hr2 hE2 => by obtain ⟨q, params, body, scope, cl⟩ := W; dsimp only at hs hb; subst hs hb; exact d_fnL hE2 h_heights (hr2.mono (by decide)) (da_cons (dv 0) (da_cons (dv 1) (da_cons (dv 2) (da_cons (dv 3) (da_cons d_non da_nil)))))) (by trivial) ?_) (turns_cons (turn_lam (k := 6) (c := nmC 3) [true, true, false, true, false, false, false, false, false] (by rfl) (by rfl) (fun _ _ _ _ _ => rfl) (fun W hs hb f2 c2 A2 o2 s2 H2 E2 C2 ED2 hr2 hE2 => by obtain ⟨q, params, body, scope, cl⟩ := W; dsimp only at hs hb; subst hs hb; exact d_fnL hE2 h_unread (hr2.mono (by decide)) (da_cons (dv 0) (da_cons (dv 1) (da_cons (d_tup (da_cons d_non da_nil)) (da_cons (dv 3) da_nil))))) (by trivial) ?_) turns_nil))))))) (turns_cons turn_same turns_nil), rfl, 3, 6, by decide, by decide, rfl, ⟨_, rfl, rfl⟩, ?_⟩
    · simp only [xSeq, xSet, xRet, xIf, xExpr, xNext, xNever, xC, xNil, xCons, xTup, xLst, xOp, xEq, xNe, xUn, xNot, xAnd, xOr, xIfE, xCB, xCall, xCallB, xName, xAsg, xIsi3, toD_fz, toD_ow, toD_od, toD_bg, rd_var, rd_getv1, rd_getv2, rd_getv3, rd_test, rd_onB, rd_onI, rd_onSB, rd_andV, rd_orV, rd_notV, rd_chain, rd_II, rd_II0, rd_add1, rd_add2, rd_add3, rd_mul1, rd_mul2, rd_mul3, rd_isN, rd_notN, rd_isN1, rd_isN2, rd_isN3, rd_neg, rd_ix1, rd_ix2, rd_part, rd_sl, rd_onSl1, rd_onSl2, rd_rev, rd_onRv, rd_len1, rd_len2, rd_max2, rd_min2, rd_int1, rd_int2, rd_lst1, rd_lst2, rd_tup1, rd_tup2, rd_dm, rd_seqI, rd_onSq1, rd_onSq2, rd_rng1, rd_onR1, rd_rng2, rd_onR2, xEnumT, rd_onEt, rd_zip, rd_onZ1, rd_onZ2, rd_par, rd_onP, xPar3, rd_onP3, rd_gtup, rd_gnil, rd_gcons, rd_isi, noO_int, noO_bl, noO_str, noO_lst, noO_tup, noO_non, ini, iniB, wipeD, unw, kf, List.map_cons, List.map_nil, List.replicate_succ, List.replicate_zero, List.cons_append, List.nil_append, List.length_cons, List.length_nil, List.getElem?_cons_zero, List.getElem?_cons_succ, List.set_cons_zero, List.set_cons_succ, decide_eq_true_eq, Nat.zero_add, Nat.reduceAdd, Nat.reduceSub, Nat.reduceLeDiff, true_and, Bool.false_eq_true, if_false, if_true, isi_int_non, isi_int_bl, isi_int_int, isi_int_str, isi_int_lst, isi_int_tup, isi_bool_non, isi_bool_bl, isi_bool_int, isi_bool_str, isi_bool_lst, isi_bool_tup, isi_list_non, isi_list_bl, isi_list_int, isi_list_str, isi_list_lst, isi_list_tup, isi_tuple_non, isi_tuple_bl, isi_tuple_int, isi_tuple_str, isi_tuple_lst, isi_tuple_tup, isi_str_non, isi_str_bl, isi_str_int, isi_str_str, isi_str_lst, isi_str_tup, Bool.not_true, Bool.not_false, Bool.or_false, Bool.or_true, Bool.false_or, Bool.true_or, ite_true, ite_false, Option.some.injEq, true_or, false_or, or_false, and_true, capD]
      exact ⟨.int top, .tup (ms.map D.int), .tup [.int top], d, rfl, smA_int _, st, sl, hP.1, nmC 3, by simp only [hb, then_none, hP.2], rfl⟩
    · simp only [xSeq, xSet, xRet, xIf, xExpr, xNext, xNever, xC, xNil, xCons, xTup, xLst, xOp, xEq, xNe, xUn, xNot, xAnd, xOr, xIfE, xCB, xCall, xCallB, xName, xAsg, xIsi3, toD_fz, toD_ow, toD_od, toD_bg, rd_var, rd_getv1, rd_getv2, rd_getv3, rd_test, rd_onB, rd_onI, rd_onSB, rd_andV, rd_orV, rd_notV, rd_chain, rd_II, rd_II0, rd_add1, rd_add2, rd_add3, rd_mul1, rd_mul2, rd_mul3, rd_isN, rd_notN, rd_isN1, rd_isN2, rd_isN3, rd_neg, rd_ix1, rd_ix2, rd_part, rd_sl, rd_onSl1, rd_onSl2, rd_rev, rd_onRv, rd_len1, rd_len2, rd_max2, rd_min2, rd_int1, rd_int2, rd_lst1, rd_lst2, rd_tup1, rd_tup2, rd_dm, rd_seqI, rd_onSq1, rd_onSq2, rd_rng1, rd_onR1, rd_rng2, rd_onR2, xEnumT, rd_onEt, rd_zip, rd_onZ1, rd_onZ2, rd_par, rd_onP, xPar3, rd_onP3, rd_gtup, rd_gnil, rd_gcons, rd_isi, noO_int, noO_bl, noO_str, noO_lst, noO_tup, noO_non, ini, iniB, wipeD, unw, kf, List.map_cons, List.map_nil, List.replicate_succ, List.replicate_zero, List.cons_append, List.nil_append, List.length_cons, List.length_nil, List.getElem?_cons_zero, List.getElem?_cons_succ, List.set_cons_zero, List.set_cons_succ, decide_eq_true_eq, Nat.zero_add, Nat.reduceAdd, Nat.reduceSub, Nat.reduceLeDiff, true_and, Bool.false_eq_true, if_false, if_true, isi_int_non, isi_int_bl, isi_int_int, isi_int_str, isi_int_lst, isi_int_tup, isi_bool_non, isi_bool_bl, isi_bool_int, isi_bool_str, isi_bool_lst, isi_bool_tup, isi_list_non, isi_list_bl, isi_list_int, isi_list_str, isi_list_lst, isi_list_tup, isi_tuple_non, isi_tuple_bl, isi_tuple_int, isi_tuple_str, isi_tuple_lst, isi_tuple_tup, isi_str_non, isi_str_bl, isi_str_int, isi_str_str, isi_str_lst, isi_str_tup, Bool.not_true, Bool.not_false, Bool.or_false, Bool.or_true, Bool.false_or, Bool.true_or, ite_true, ite_false, Option.some.injEq, true_or, false_or, or_false, and_true, capD]
      exact ⟨.int top, .tup (ms.map D.int), .tup [.int top], d, rfl, smA_int _, st, sl, hP.1, nmC 3, by simp only [hb, then_none, hP.2], rfl⟩
    · simp only [xSeq, xSet, xRet, xIf, xExpr, xNext, xNever, xC, xNil, xCons, xTup, xLst, xOp, xEq, xNe, xUn, xNot, xAnd, xOr, xIfE, xCB, xCall, xCallB, xName, xAsg, xIsi3, toD_fz, toD_ow, toD_od, toD_bg, rd_var, rd_getv1, rd_getv2, rd_getv3, rd_test, rd_onB, rd_onI, rd_onSB, rd_andV, rd_orV, rd_notV, rd_chain, rd_II, rd_II0, rd_add1, rd_add2, rd_add3, rd_mul1, rd_mul2, rd_mul3, rd_isN, rd_notN, rd_isN1, rd_isN2, rd_isN3, rd_neg, rd_ix1, rd_ix2, rd_part, rd_sl, rd_onSl1, rd_onSl2, rd_rev, rd_onRv, rd_len1, rd_len2, rd_max2, rd_min2, rd_int1, rd_int2, rd_lst1, rd_lst2, rd_tup1, rd_tup2, rd_dm, rd_seqI, rd_onSq1, rd_onSq2, rd_rng1, rd_onR1, rd_rng2, rd_onR2, xEnumT, rd_onEt, rd_zip, rd_onZ1, rd_onZ2, rd_par, rd_onP, xPar3, rd_onP3, rd_gtup, rd_gnil, rd_gcons, rd_isi, noO_int, noO_bl, noO_str, noO_lst, noO_tup, noO_non, ini, iniB, wipeD, unw, kf, List.map_cons, List.map_nil, List.replicate_succ, List.replicate_zero, List.cons_append, List.nil_append, List.length_cons, List.length_nil, List.getElem?_cons_zero, List.getElem?_cons_succ, List.set_cons_zero, List.set_cons_succ, decide_eq_true_eq, Nat.zero_add, Nat.reduceAdd, Nat.reduceSub, Nat.reduceLeDiff, true_and, Bool.false_eq_true, if_false, if_true, isi_int_non, isi_int_bl, isi_int_int, isi_int_str, isi_int_lst, isi_int_tup, isi_bool_non, isi_bool_bl, isi_bool_int, isi_bool_str, isi_bool_lst, isi_bool_tup, isi_list_non, isi_list_bl, isi_list_int, isi_list_str, isi_list_lst, isi_list_tup, isi_tuple_non, isi_tuple_bl, isi_tuple_int, isi_tuple_str, isi_tuple_lst, isi_tuple_tup, isi_str_non, isi_str_bl, isi_str_int, isi_str_str, isi_str_lst, isi_str_tup, Bool.not_true, Bool.not_false, Bool.or_false, Bool.or_true, Bool.false_or, Bool.true_or, ite_true, ite_false, Option.some.injEq, true_or, false_or, or_false, and_true, capD]
      exact ⟨.int top, .tup (ms.map D.int), .tup [.int top], d, .non, rfl, smA_int _, st, sl, hP.1, smA_non, nmC 3, by simp only [hb, then_none, hP.2, then_some], rfl⟩
    · simp only [xSeq, xSet, xRet, xIf, xExpr, xNext, xNever, xC, xNil, xCons, xTup, xLst, xOp, xEq, xNe, xUn, xNot, xAnd, xOr, xIfE, xCB, xCall, xCallB, xName, xAsg, xIsi3, toD_fz, toD_ow, toD_od, toD_bg, rd_var, rd_getv1, rd_getv2, rd_getv3, rd_test, rd_onB, rd_onI, rd_onSB, rd_andV, rd_orV, rd_notV, rd_chain, rd_II, rd_II0, rd_add1, rd_add2, rd_add3, rd_mul1, rd_mul2, rd_mul3, rd_isN, rd_notN, rd_isN1, rd_isN2, rd_isN3, rd_neg, rd_ix1, rd_ix2, rd_part, rd_sl, rd_onSl1, rd_onSl2, rd_rev, rd_onRv, rd_len1, rd_len2, rd_max2, rd_min2, rd_int1, rd_int2, rd_lst1, rd_lst2, rd_tup1, rd_tup2, rd_dm, rd_seqI, rd_onSq1, rd_onSq2, rd_rng1, rd_onR1, rd_rng2, rd_onR2, xEnumT, rd_onEt, rd_zip, rd_onZ1, rd_onZ2, rd_par, rd_onP, xPar3, rd_onP3, rd_gtup, rd_gnil, rd_gcons, rd_isi, noO_int, noO_bl, noO_str, noO_lst, noO_tup, noO_non, ini, iniB, wipeD, unw, kf, List.map_cons, List.map_nil, List.replicate_succ, List.replicate_zero, List.cons_append, List.nil_append, List.length_cons, List.length_nil, List.getElem?_cons_zero, List.getElem?_cons_succ, List.set_cons_zero, List.set_cons_succ, decide_eq_true_eq, Nat.zero_add, Nat.reduceAdd, Nat.reduceSub, Nat.reduceLeDiff, true_and, Bool.false_eq_true, if_false, if_true, isi_int_non, isi_int_bl, isi_int_int, isi_int_str, isi_int_lst, isi_int_tup, isi_bool_non, isi_bool_bl, isi_bool_int, isi_bool_str, isi_bool_lst, isi_bool_tup, isi_list_non, isi_list_bl, isi_list_int, isi_list_str, isi_list_lst, isi_list_tup, isi_tuple_non, isi_tuple_bl, isi_tuple_int, isi_tuple_str, isi_tuple_lst, isi_tuple_tup, isi_str_non, isi_str_bl, isi_str_int, isi_str_str, isi_str_lst, isi_str_tup, Bool.not_true, Bool.not_false, Bool.or_false, Bool.or_true, Bool.false_or, Bool.true_or, ite_true, ite_false, Option.some.injEq, true_or, false_or, or_false, and_true, capD]
      exact ⟨.int top, .tup (ms.map D.int), d, rfl, smA_int _, st, hP.1, nmC 3, by simp only [hc, then_none, hP.2], rfl⟩
    · simp only [xSeq, xSet, xRet, xIf, xExpr, xNext, xNever, xC, xNil, xCons, xTup, xLst, xOp, xEq, xNe, xUn, xNot, xAnd, xOr, xIfE, xCB, xCall, xCallB, xName, xAsg, xIsi3, toD_fz, toD_ow, toD_od, toD_bg, rd_var, rd_getv1, rd_getv2, rd_getv3, rd_test, rd_onB, rd_onI, rd_onSB, rd_andV, rd_orV, rd_notV, rd_chain, rd_II, rd_II0, rd_add1, rd_add2, rd_add3, rd_mul1, rd_mul2, rd_mul3, rd_isN, rd_notN, rd_isN1, rd_isN2, rd_isN3, rd_neg, rd_ix1, rd_ix2, rd_part, rd_sl, rd_onSl1, rd_onSl2, rd_rev, rd_onRv, rd_len1, rd_len2, rd_max2, rd_min2, rd_int1, rd_int2, rd_lst1, rd_lst2, rd_tup1, rd_tup2, rd_dm, rd_seqI, rd_onSq1, rd_onSq2, rd_rng1, rd_onR1, rd_rng2, rd_onR2, xEnumT, rd_onEt, rd_zip, rd_onZ1, rd_onZ2, rd_par, rd_onP, xPar3, rd_onP3, rd_gtup, rd_gnil, rd_gcons, rd_isi, noO_int, noO_bl, noO_str, noO_lst, noO_tup, noO_non, ini, iniB, wipeD, unw, kf, List.map_cons, List.map_nil, List.replicate_succ, List.replicate_zero, List.cons_append, List.nil_append, List.length_cons, List.length_nil, List.getElem?_cons_zero, List.getElem?_cons_succ, List.set_cons_zero, List.set_cons_succ, decide_eq_true_eq, Nat.zero_add, Nat.reduceAdd, Nat.reduceSub, Nat.reduceLeDiff, true_and, Bool.false_eq_true, if_false, if_true, isi_int_non, isi_int_bl, isi_int_int, isi_int_str, isi_int_lst, isi_int_tup, isi_bool_non, isi_bool_bl, isi_bool_int, isi_bool_str, isi_bool_lst, isi_bool_tup, isi_list_non, isi_list_bl, isi_list_int, isi_list_str, isi_list_lst, isi_list_tup, isi_tuple_non, isi_tuple_bl, isi_tuple_int, isi_tuple_str, isi_tuple_lst, isi_tuple_tup, isi_str_non, isi_str_bl, isi_str_int, isi_str_str, isi_str_lst, isi_str_tup, Bool.not_true, Bool.not_false, Bool.or_false, Bool.or_true, Bool.false_or, Bool.true_or, ite_true, ite_false, Option.some.injEq, true_or, false_or, or_false, and_true, capD]
      exact ⟨.int top, .tup (ms.map D.int), .tup [.int top], d, .non, rfl, smA_int _, st, sl, hP.1, smA_non, nmC 3, by simp only [hb, then_none, hP.2, then_some], rfl⟩
    · simp only [xSeq, xSet, xRet, xIf, xExpr, xNext, xNever, xC, xNil, xCons, xTup, xLst, xOp, xEq, xNe, xUn, xNot, xAnd, xOr, xIfE, xCB, xCall, xCallB, xName, xAsg, xIsi3, toD_fz, toD_ow, toD_od, toD_bg, rd_var, rd_getv1, rd_getv2, rd_getv3, rd_test, rd_onB, rd_onI, rd_onSB, rd_andV, rd_orV, rd_notV, rd_chain, rd_II, rd_II0, rd_add1, rd_add2, rd_add3, rd_mul1, rd_mul2, rd_mul3, rd_isN, rd_notN, rd_isN1, rd_isN2, rd_isN3, rd_neg, rd_ix1, rd_ix2, rd_part, rd_sl, rd_onSl1, rd_onSl2, rd_rev, rd_onRv, rd_len1, rd_len2, rd_max2, rd_min2, rd_int1, rd_int2, rd_lst1, rd_lst2, rd_tup1, rd_tup2, rd_dm, rd_seqI, rd_onSq1, rd_onSq2, rd_rng1, rd_onR1, rd_rng2, rd_onR2, xEnumT, rd_onEt, rd_zip, rd_onZ1, rd_onZ2, rd_par, rd_onP, xPar3, rd_onP3, rd_gtup, rd_gnil, rd_gcons, rd_isi, noO_int, noO_bl, noO_str, noO_lst, noO_tup, noO_non, ini, iniB, wipeD, unw, kf, List.map_cons, List.map_nil, List.replicate_succ, List.replicate_zero, List.cons_append, List.nil_append, List.length_cons, List.length_nil, List.getElem?_cons_zero, List.getElem?_cons_succ, List.set_cons_zero, List.set_cons_succ, decide_eq_true_eq, Nat.zero_add, Nat.reduceAdd, Nat.reduceSub, Nat.reduceLeDiff, true_and, Bool.false_eq_true, if_false, if_true, isi_int_non, isi_int_bl, isi_int_int, isi_int_str, isi_int_lst, isi_int_tup, isi_bool_non, isi_bool_bl, isi_bool_int, isi_bool_str, isi_bool_lst, isi_bool_tup, isi_list_non, isi_list_bl, isi_list_int, isi_list_str, isi_list_lst, isi_list_tup, isi_tuple_non, isi_tuple_bl, isi_tuple_int, isi_tuple_str, isi_tuple_lst, isi_tuple_tup, isi_str_non, isi_str_bl, isi_str_int, isi_str_str, isi_str_lst, isi_str_tup, Bool.not_true, Bool.not_false, Bool.or_false, Bool.or_true, Bool.false_or, Bool.true_or, ite_true, ite_false, Option.some.injEq, true_or, false_or, or_false, and_true, capD]
      exact ⟨.int top, .tup (ms.map D.int), .tup [.non], d, rfl, smA_int _, st, ⟨1, rfl⟩, hP.1, nmC 3, by simp only [hc, then_none, ival, hun, hP.2], rfl⟩
    · simp only [xSeq, xSet, xRet, xIf, xExpr, xNext, xNever, xC, xNil, xCons, xTup, xLst, xOp, xEq, xNe, xUn, xNot, xAnd, xOr, xIfE, xCB, xCall, xCallB, xName, xAsg, xIsi3, toD_fz, toD_ow, toD_od, toD_bg, rd_var, rd_getv1, rd_getv2, rd_getv3, rd_test, rd_onB, rd_onI, rd_onSB, rd_andV, rd_orV, rd_notV, rd_chain, rd_II, rd_II0, rd_add1, rd_add2, rd_add3, rd_mul1, rd_mul2, rd_mul3, rd_isN, rd_notN, rd_isN1, rd_isN2, rd_isN3, rd_neg, rd_ix1, rd_ix2, rd_part, rd_sl, rd_onSl1, rd_onSl2, rd_rev, rd_onRv, rd_len1, rd_len2, rd_max2, rd_min2, rd_int1, rd_int2, rd_lst1, rd_lst2, rd_tup1, rd_tup2, rd_dm, rd_seqI, rd_onSq1, rd_onSq2, rd_rng1, rd_onR1, rd_rng2, rd_onR2, xEnumT, rd_onEt, rd_zip, rd_onZ1, rd_onZ2, rd_par, rd_onP, xPar3, rd_onP3, rd_gtup, rd_gnil, rd_gcons, rd_isi, noO_int, noO_bl, noO_str, noO_lst, noO_tup, noO_non, ini, iniB, wipeD, unw, kf, List.map_cons, List.map_nil, List.replicate_succ, List.replicate_zero, List.cons_append, List.nil_append, List.length_cons, List.length_nil, List.getElem?_cons_zero, List.getElem?_cons_succ, List.set_cons_zero, List.set_cons_succ, decide_eq_true_eq, Nat.zero_add, Nat.reduceAdd, Nat.reduceSub, Nat.reduceLeDiff, true_and, Bool.false_eq_true, if_false, if_true, isi_int_non, isi_int_bl, isi_int_int, isi_int_str, isi_int_lst, isi_int_tup, isi_bool_non, isi_bool_bl, isi_bool_int, isi_bool_str, isi_bool_lst, isi_bool_tup, isi_list_non, isi_list_bl, isi_list_int, isi_list_str, isi_list_lst, isi_list_tup, isi_tuple_non, isi_tuple_bl, isi_tuple_int, isi_tuple_str, isi_tuple_lst, isi_tuple_tup, isi_str_non, isi_str_bl, isi_str_int, isi_str_str, isi_str_lst, isi_str_tup, Bool.not_true, Bool.not_false, Bool.or_false, Bool.or_true, Bool.false_or, Bool.true_or, ite_true, ite_false, Option.some.injEq, true_or, false_or, or_false, and_true]
      exact ⟨_, _, _, _, _, _, rfl⟩
  · obtain ⟨x3, x4, x5, x6, x7, x8, rfl⟩ := hI
    refine ⟨cpw (by decide) (by decide) (by decide) (by decide), ?_⟩
    refine ⟨fun i ρ => ∃ x3 x4 x5 x6 x7 x8, ρ = [some (.fz (.int top)), some (.fz (.tup (ms.map D.int))), some (.fz (.tup [.int top])), x3, x4, x5, x6, x7, x8], ⟨_, _, _, _, _, _, rfl⟩, fun i d ρ hd hI => ?_, fun ρ hI => ?_⟩
    · obtain ⟨x3, x4, x5, x6, x7, x8, rfl⟩ := hI
      have hP := farP d (List.mem_of_getElem? (show farL[i]? = some d from hd))
      simp only [xSeq, xSet, xRet, xIf, xExpr, xNext, xNever, xC, xNil, xCons, xTup, xLst, xOp, xEq, xNe, xUn, xNot, xAnd, xOr, xIfE, xCB, xCall, xCallB, xName, xAsg, xIsi3, toD_fz, toD_ow, toD_od, toD_bg, rd_var, rd_getv1, rd_getv2, rd_getv3, rd_test, rd_onB, rd_onI, rd_onSB, rd_andV, rd_orV, rd_notV, rd_chain, rd_II, rd_II0, rd_add1, rd_add2, rd_add3, rd_mul1, rd_mul2, rd_mul3, rd_isN, rd_notN, rd_isN1, rd_isN2, rd_isN3, rd_neg, rd_ix1, rd_ix2, rd_part, rd_sl, rd_onSl1, rd_onSl2, rd_rev, rd_onRv, rd_len1, rd_len2, rd_max2, rd_min2, rd_int1, rd_int2, rd_lst1, rd_lst2, rd_tup1, rd_tup2, rd_dm, rd_seqI, rd_onSq1, rd_onSq2, rd_rng1, rd_onR1, rd_rng2, rd_onR2, xEnumT, rd_onEt, rd_zip, rd_onZ1, rd_onZ2, rd_par, rd_onP, xPar3, rd_onP3, rd_gtup, rd_gnil, rd_gcons, rd_isi, noO_int, noO_bl, noO_str, noO_lst, noO_tup, noO_non, ini, iniB, wipeD, unw, kf, List.map_cons, List.map_nil, List.replicate_succ, List.replicate_zero, List.cons_append, List.nil_append, List.length_cons, List.length_nil, List.getElem?_cons_zero, List.getElem?_cons_succ, List.set_cons_zero, List.set_cons_succ, decide_eq_true_eq, Nat.zero_add, Nat.reduceAdd, Nat.reduceSub, Nat.reduceLeDiff, true_and, Bool.false_eq_true, if_false, if_true, isi_int_non, isi_int_bl, isi_int_int, isi_int_str, isi_int_lst, isi_int_tup, isi_bool_non, isi_bool_bl, isi_bool_int, isi_bool_str, isi_bool_lst, isi_bool_tup, isi_list_non, isi_list_bl, isi_list_int, isi_list_str, isi_list_lst, isi_list_tup, isi_tuple_non, isi_tuple_bl, isi_tuple_int, isi_tuple_str, isi_tuple_lst, isi_tuple_tup, isi_str_non, isi_str_bl, isi_str_int, isi_str_str, isi_str_lst, isi_str_tup, Bool.not_true, Bool.not_false, Bool.or_false, Bool.or_true, Bool.false_or, Bool.true_or, ite_true, ite_false, Option.some.injEq, true_or, false_or, or_false, and_true, rd_isOwn, rd_own1, rd_own2, rd_own3, rd_ixO, rd_onIx1, rd_onIx2, rd_store, rd_onStore1, rd_onStore2, ex_eq, xApp, xDput, S.ow.injEq, S.bg.injEq, S.od.injEq, reduceCtorEq, exists_eq_left', exists_eq_left, exists_eq', D.int.injEq, atI_c0, atI_c1, atI_c2, ixN3_0, ixN3_1, ixN3_2, false_and, and_self, xLm, xLoan]
      refine ⟨_, turns_cons (turn_lst (turns_cons (turn_lam (k := 6) (c := nmC 3) [true, true, false, true, false, false, false, false, false] (by rfl) (by rfl) (fun _ _ _ _ _ => rfl) (fun W hs hb f2 c2 A2 o2 s2 H2 E2 C2 ED2 hr2 hE2 => by obtain ⟨q, params, body, scope, cl⟩ := W; dsimp only at hs hb; subst hs hb; exact d_fnL hE2 h_far (hr2.mono (by decide)) (da_cons (dv 0) (da_cons (dv 1) (da_cons (d_lst (da_cons d_int da_nil)) (da_cons (dv 3) da_nil))))) (by trivial) ?_) (turns_cons (turn_lam (k := 6) (c := nmC 3) [true, true, true, true, false, false, false, false, false] (by rfl) (by rfl) (fun _ _ _ _ _ => rfl) (fun W hs hb f2 c2 A2 o2 s2 H2 E2 C2 ED2 hr2 hE2 => by obtain ⟨q, params, body, scope, cl⟩ := W; dsimp only at hs hb; subst hs hb; exact d_fnL hE2 h_rest (hr2.mono (by decide)) (da_cons (dv 0) (da_cons (dv 1) (da_cons (dv 2) (da_cons (dv 3) (da_cons d_int da_nil)))))) (by trivial) ?_) turns_nil))) (turns_cons turn_same turns_nil), rfl, 3, 2, by decide, by decide, rfl, ⟨_, rfl, rfl⟩, ?_⟩
      · simp only [xSeq, xSet, xRet, xIf, xExpr, xNext, xNever, xC, xNil, xCons, xTup, xLst, xOp, xEq, xNe, xUn, xNot, xAnd, xOr, xIfE, xCB, xCall, xCallB, xName, xAsg, xIsi3, toD_fz, toD_ow, toD_od, toD_bg, rd_var, rd_getv1, rd_getv2, rd_getv3, rd_test, rd_onB, rd_onI, rd_onSB, rd_andV, rd_orV, rd_notV, rd_chain, rd_II, rd_II0, rd_add1, rd_add2, rd_add3, rd_mul1, rd_mul2, rd_mul3, rd_isN, rd_notN, rd_isN1, rd_isN2, rd_isN3, rd_neg, rd_ix1, rd_ix2, rd_part, rd_sl, rd_onSl1, rd_onSl2, rd_rev, rd_onRv, rd_len1, rd_len2, rd_max2, rd_min2, rd_int1, rd_int2, rd_lst1, rd_lst2, rd_tup1, rd_tup2, rd_dm, rd_seqI, rd_onSq1, rd_onSq2, rd_rng1, rd_onR1, rd_rng2, rd_onR2, xEnumT, rd_onEt, rd_zip, rd_onZ1, rd_onZ2, rd_par, rd_onP, xPar3, rd_onP3, rd_gtup, rd_gnil, rd_gcons, rd_isi, noO_int, noO_bl, noO_str, noO_lst, noO_tup, noO_non, ini, iniB, wipeD, unw, kf, List.map_cons, List.map_nil, List.replicate_succ, List.replicate_zero, List.cons_append, List.nil_append, List.length_cons, List.length_nil, List.getElem?_cons_zero, List.getElem?_cons_succ, List.set_cons_zero, List.set_cons_succ, decide_eq_true_eq, Nat.zero_add, Nat.reduceAdd, Nat.reduceSub, Nat.reduceLeDiff, true_and, Bool.false_eq_true, if_false, if_true, isi_int_non, isi_int_bl, isi_int_int, isi_int_str, isi_int_lst, isi_int_tup, isi_bool_non, isi_bool_bl, isi_bool_int, isi_bool_str, isi_bool_lst, isi_bool_tup, isi_list_non, isi_list_bl, isi_list_int, isi_list_str, isi_list_lst, isi_list_tup, isi_tuple_non, isi_tuple_bl, isi_tuple_int, isi_tuple_str, isi_tuple_lst, isi_tuple_tup, isi_str_non, isi_str_bl, isi_str_int, isi_str_str, isi_str_lst, isi_str_tup, Bool.not_true, Bool.not_false, Bool.or_false, Bool.or_true, Bool.false_or, Bool.true_or, ite_true, ite_false, Option.some.injEq, true_or, false_or, or_false, and_true, capD]
        exact ⟨.int top, .tup (ms.map D.int), .lst [.int 1], d, rfl, smA_int _, st, ⟨1, rfl⟩, hP.1, nmC 3, by simp only [hc, then_none, ival, hfd, hP.2], rfl⟩
      · simp only [xSeq, xSet, xRet, xIf, xExpr, xNext, xNever, xC, xNil, xCons, xTup, xLst, xOp, xEq, xNe, xUn, xNot, xAnd, xOr, xIfE, xCB, xCall, xCallB, xName, xAsg, xIsi3, toD_fz, toD_ow, toD_od, toD_bg, rd_var, rd_getv1, rd_getv2, rd_getv3, rd_test, rd_onB, rd_onI, rd_onSB, rd_andV, rd_orV, rd_notV, rd_chain, rd_II, rd_II0, rd_add1, rd_add2, rd_add3, rd_mul1, rd_mul2, rd_mul3, rd_isN, rd_notN, rd_isN1, rd_isN2, rd_isN3, rd_neg, rd_ix1, rd_ix2, rd_part, rd_sl, rd_onSl1, rd_onSl2, rd_rev, rd_onRv, rd_len1, rd_len2, rd_max2, rd_min2, rd_int1, rd_int2, rd_lst1, rd_lst2, rd_tup1, rd_tup2, rd_dm, rd_seqI, rd_onSq1, rd_onSq2, rd_rng1, rd_onR1, rd_rng2, rd_onR2, xEnumT, rd_onEt, rd_zip, rd_onZ1, rd_onZ2, rd_par, rd_onP, xPar3, rd_onP3, rd_gtup, rd_gnil, rd_gcons, rd_isi, noO_int, noO_bl, noO_str, noO_lst, noO_tup, noO_non, ini, iniB, wipeD, unw, kf, List.map_cons, List.map_nil, List.replicate_succ, List.replicate_zero, List.cons_append, List.nil_append, List.length_cons, List.length_nil, List.getElem?_cons_zero, List.getElem?_cons_succ, List.set_cons_zero, List.set_cons_succ, decide_eq_true_eq, Nat.zero_add, Nat.reduceAdd, Nat.reduceSub, Nat.reduceLeDiff, true_and, Bool.false_eq_true, if_false, if_true, isi_int_non, isi_int_bl, isi_int_int, isi_int_str, isi_int_lst, isi_int_tup, isi_bool_non, isi_bool_bl, isi_bool_int, isi_bool_str, isi_bool_lst, isi_bool_tup, isi_list_non, isi_list_bl, isi_list_int, isi_list_str, isi_list_lst, isi_list_tup, isi_tuple_non, isi_tuple_bl, isi_tuple_int, isi_tuple_str, isi_tuple_lst, isi_tuple_tup, isi_str_non, isi_str_bl, isi_str_int, isi_str_str, isi_str_lst, isi_str_tup, Bool.not_true, Bool.not_false, Bool.or_false, Bool.or_true, Bool.false_or, Bool.true_or, ite_true, ite_false, Option.some.injEq, true_or, false_or, or_false, and_true, capD]
        exact ⟨.int top, .tup (ms.map D.int), .tup [.int top], d, .int 2, rfl, smA_int _, st, sl, hP.1, smA_int _, nmC 3, by simp only [hb, then_none, hP.2, then_some], rfl⟩
      · simp only [xSeq, xSet, xRet, xIf, xExpr, xNext, xNever, xC, xNil, xCons, xTup, xLst, xOp, xEq, xNe, xUn, xNot, xAnd, xOr, xIfE, xCB, xCall, xCallB, xName, xAsg, xIsi3, toD_fz, toD_ow, toD_od, toD_bg, rd_var, rd_getv1, rd_getv2, rd_getv3, rd_test, rd_onB, rd_onI, rd_onSB, rd_andV, rd_orV, rd_notV, rd_chain, rd_II, rd_II0, rd_add1, rd_add2, rd_add3, rd_mul1, rd_mul2, rd_mul3, rd_isN, rd_notN, rd_isN1, rd_isN2, rd_isN3, rd_neg, rd_ix1, rd_ix2, rd_part, rd_sl, rd_onSl1, rd_onSl2, rd_rev, rd_onRv, rd_len1, rd_len2, rd_max2, rd_min2, rd_int1, rd_int2, rd_lst1, rd_lst2, rd_tup1, rd_tup2, rd_dm, rd_seqI, rd_onSq1, rd_onSq2, rd_rng1, rd_onR1, rd_rng2, rd_onR2, xEnumT, rd_onEt, rd_zip, rd_onZ1, rd_onZ2, rd_par, rd_onP, xPar3, rd_onP3, rd_gtup, rd_gnil, rd_gcons, rd_isi, noO_int, noO_bl, noO_str, noO_lst, noO_tup, noO_non, ini, iniB, wipeD, unw, kf, List.map_cons, List.map_nil, List.replicate_succ, List.replicate_zero, List.cons_append, List.nil_append, List.length_cons, List.length_nil, List.getElem?_cons_zero, List.getElem?_cons_succ, List.set_cons_zero, List.set_cons_succ, decide_eq_true_eq, Nat.zero_add, Nat.reduceAdd, Nat.reduceSub, Nat.reduceLeDiff, true_and, Bool.false_eq_true, if_false, if_true, isi_int_non, isi_int_bl, isi_int_int, isi_int_str, isi_int_lst, isi_int_tup, isi_bool_non, isi_bool_bl, isi_bool_int, isi_bool_str, isi_bool_lst, isi_bool_tup, isi_list_non, isi_list_bl, isi_list_int, isi_list_str, isi_list_lst, isi_list_tup, isi_tuple_non, isi_tuple_bl, isi_tuple_int, isi_tuple_str, isi_tuple_lst, isi_tuple_tup, isi_str_non, isi_str_bl, isi_str_int, isi_str_str, isi_str_lst, isi_str_tup, Bool.not_true, Bool.not_false, Bool.or_false, Bool.or_true, Bool.false_or, Bool.true_or, ite_true, ite_false, Option.some.injEq, true_or, false_or, or_false, and_true]
        exact ⟨_, _, _, _, _, _, rfl⟩
    · obtain ⟨x3, x4, x5, x6, x7, x8, rfl⟩ := hI
      refine ⟨cpw (by decide) (by decide) (by decide) (by decide), ?_⟩
      refine ⟨fun i ρ => ∃ x3 x4 x5 x6 x7 x8, ρ = [some (.fz (.int top)), some (.fz (.tup (ms.map D.int))), some (.fz (.tup [.int top])), x3, x4, x5, x6, x7, x8], ⟨_, _, _, _, _, _, rfl⟩, fun i d ρ hd hI => ?_, fun ρ hI => ?_⟩
      · obtain ⟨x3, x4, x5, x6, x7, x8, rfl⟩ := hI
        have hP := byP d (List.mem_of_getElem? (show byL[i]? = some d from hd))
        simp only [xSeq, xSet, xRet, xIf, xExpr, xNext, xNever, xC, xNil, xCons, xTup, xLst, xOp, xEq, xNe, xUn, xNot, xAnd, xOr, xIfE, xCB, xCall, xCallB, xName, xAsg, xIsi3, toD_fz, toD_ow, toD_od, toD_bg, rd_var, rd_getv1, rd_getv2, rd_getv3, rd_test, rd_onB, rd_onI, rd_onSB, rd_andV, rd_orV, rd_notV, rd_chain, rd_II, rd_II0, rd_add1, rd_add2, rd_add3, rd_mul1, rd_mul2, rd_mul3, rd_isN, rd_notN, rd_isN1, rd_isN2, rd_isN3, rd_neg, rd_ix1, rd_ix2, rd_part, rd_sl, rd_onSl1, rd_onSl2, rd_rev, rd_onRv, rd_len1, rd_len2, rd_max2, rd_min2, rd_int1, rd_int2, rd_lst1, rd_lst2, rd_tup1, rd_tup2, rd_dm, rd_seqI, rd_onSq1, rd_onSq2, rd_rng1, rd_onR1, rd_rng2, rd_onR2, xEnumT, rd_onEt, rd_zip, rd_onZ1, rd_onZ2, rd_par, rd_onP, xPar3, rd_onP3, rd_gtup, rd_gnil, rd_gcons, rd_isi, noO_int, noO_bl, noO_str, noO_lst, noO_tup, noO_non, ini, iniB, wipeD, unw, kf, List.map_cons, List.map_nil, List.replicate_succ, List.replicate_zero, List.cons_append, List.nil_append, List.length_cons, List.length_nil, List.getElem?_cons_zero, List.getElem?_cons_succ, List.set_cons_zero, List.set_cons_succ, decide_eq_true_eq, Nat.zero_add, Nat.reduceAdd, Nat.reduceSub, Nat.reduceLeDiff, true_and, Bool.false_eq_true, if_false, if_true, isi_int_non, isi_int_bl, isi_int_int, isi_int_str, isi_int_lst, isi_int_tup, isi_bool_non, isi_bool_bl, isi_bool_int, isi_bool_str, isi_bool_lst, isi_bool_tup, isi_list_non, isi_list_bl, isi_list_int, isi_list_str, isi_list_lst, isi_list_tup, isi_tuple_non, isi_tuple_bl, isi_tuple_int, isi_tuple_str, isi_tuple_lst, isi_tuple_tup, isi_str_non, isi_str_bl, isi_str_int, isi_str_str, isi_str_lst, isi_str_tup, Bool.not_true, Bool.not_false, Bool.or_false, Bool.or_true, Bool.false_or, Bool.true_or, ite_true, ite_false, Option.some.injEq, true_or, false_or, or_false, and_true, rd_isOwn, rd_own1, rd_own2, rd_own3, rd_ixO, rd_onIx1, rd_onIx2, rd_store, rd_onStore1, rd_onStore2, ex_eq, xApp, xDput, S.ow.injEq, S.bg.injEq, S.od.injEq, reduceCtorEq, exists_eq_left', exists_eq_left, exists_eq', D.int.injEq, atI_c0, atI_c1, atI_c2, ixN3_0, ixN3_1, ixN3_2, false_and, and_self, xLm, xLoan]
        refine ⟨_, (turns_cons (turn_lam (k := 6) (c := nmC 4) [true, true, true, false, false, true, false, false, false] (by rfl) (by rfl) (fun _ _ _ _ _ => rfl) (fun W hs hb f2 c2 A2 o2 s2 H2 E2 C2 ED2 hr2 hE2 => by obtain ⟨q, params, body, scope, cl⟩ := W; dsimp only at hs hb; subst hs hb; exact d_fnL hE2 h_rest (hr2.mono (by decide)) (da_cons (dv 0) (da_cons (dv 1) (da_cons (dv 2) (da_cons d_int (da_cons (dv 5) da_nil)))))) (by trivial) ?_) turns_nil), rfl, 4, by decide, rfl, ⟨_, rfl, okD_word 4 (by decide)⟩, okD_word 4 (by decide), okD_word 4 (by decide), ?_⟩
        · simp only [xSeq, xSet, xRet, xIf, xExpr, xNext, xNever, xC, xNil, xCons, xTup, xLst, xOp, xEq, xNe, xUn, xNot, xAnd, xOr, xIfE, xCB, xCall, xCallB, xName, xAsg, xIsi3, toD_fz, toD_ow, toD_od, toD_bg, rd_var, rd_getv1, rd_getv2, rd_getv3, rd_test, rd_onB, rd_onI, rd_onSB, rd_andV, rd_orV, rd_notV, rd_chain, rd_II, rd_II0, rd_add1, rd_add2, rd_add3, rd_mul1, rd_mul2, rd_mul3, rd_isN, rd_notN, rd_isN1, rd_isN2, rd_isN3, rd_neg, rd_ix1, rd_ix2, rd_part, rd_sl, rd_onSl1, rd_onSl2, rd_rev, rd_onRv, rd_len1, rd_len2, rd_max2, rd_min2, rd_int1, rd_int2, rd_lst1, rd_lst2, rd_tup1, rd_tup2, rd_dm, rd_seqI, rd_onSq1, rd_onSq2, rd_rng1, rd_onR1, rd_rng2, rd_onR2, xEnumT, rd_onEt, rd_zip, rd_onZ1, rd_onZ2, rd_par, rd_onP, xPar3, rd_onP3, rd_gtup, rd_gnil, rd_gcons, rd_isi, noO_int, noO_bl, noO_str, noO_lst, noO_tup, noO_non, ini, iniB, wipeD, unw, kf, List.map_cons, List.map_nil, List.replicate_succ, List.replicate_zero, List.cons_append, List.nil_append, List.length_cons, List.length_nil, List.getElem?_cons_zero, List.getElem?_cons_succ, List.set_cons_zero, List.set_cons_succ, decide_eq_true_eq, Nat.zero_add, Nat.reduceAdd, Nat.reduceSub, Nat.reduceLeDiff, true_and, Bool.false_eq_true, if_false, if_true, isi_int_non, isi_int_bl, isi_int_int, isi_int_str, isi_int_lst, isi_int_tup, isi_bool_non, isi_bool_bl, isi_bool_int, isi_bool_str, isi_bool_lst, isi_bool_tup, isi_list_non, isi_list_bl, isi_list_int, isi_list_str, isi_list_lst, isi_list_tup, isi_tuple_non, isi_tuple_bl, isi_tuple_int, isi_tuple_str, isi_tuple_lst, isi_tuple_tup, isi_str_non, isi_str_bl, isi_str_int, isi_str_str, isi_str_lst, isi_str_tup, Bool.not_true, Bool.not_false, Bool.or_false, Bool.or_true, Bool.false_or, Bool.true_or, ite_true, ite_false, Option.some.injEq, true_or, false_or, or_false, and_true, capD]
          exact ⟨.int top, .tup (ms.map D.int), .tup [.int top], .int 1, d, rfl, smA_int _, st, sl, smA_int _, hP.1, nmC 4, by simp only [hb, then_none, h1f, hP.2, Bool.false_eq_true, if_false], rfl⟩
        · rw [show eqD (S.fz (D.tup [.str (nmC 4)])).toD (.tup [.str (Str.ofString "NoBy")]) = true from eqD_word _]
          simp only [xSeq, xSet, xRet, xIf, xExpr, xNext, xNever, xC, xNil, xCons, xTup, xLst, xOp, xEq, xNe, xUn, xNot, xAnd, xOr, xIfE, xCB, xCall, xCallB, xName, xAsg, xIsi3, toD_fz, toD_ow, toD_od, toD_bg, rd_var, rd_getv1, rd_getv2, rd_getv3, rd_test, rd_onB, rd_onI, rd_onSB, rd_andV, rd_orV, rd_notV, rd_chain, rd_II, rd_II0, rd_add1, rd_add2, rd_add3, rd_mul1, rd_mul2, rd_mul3, rd_isN, rd_notN, rd_isN1, rd_isN2, rd_isN3, rd_neg, rd_ix1, rd_ix2, rd_part, rd_sl, rd_onSl1, rd_onSl2, rd_rev, rd_onRv, rd_len1, rd_len2, rd_max2, rd_min2, rd_int1, rd_int2, rd_lst1, rd_lst2, rd_tup1, rd_tup2, rd_dm, rd_seqI, rd_onSq1, rd_onSq2, rd_rng1, rd_onR1, rd_rng2, rd_onR2, xEnumT, rd_onEt, rd_zip, rd_onZ1, rd_onZ2, rd_par, rd_onP, xPar3, rd_onP3, rd_gtup, rd_gnil, rd_gcons, rd_isi, noO_int, noO_bl, noO_str, noO_lst, noO_tup, noO_non, ini, iniB, wipeD, unw, kf, List.map_cons, List.map_nil, List.replicate_succ, List.replicate_zero, List.cons_append, List.nil_append, List.length_cons, List.length_nil, List.getElem?_cons_zero, List.getElem?_cons_succ, List.set_cons_zero, List.set_cons_succ, decide_eq_true_eq, Nat.zero_add, Nat.reduceAdd, Nat.reduceSub, Nat.reduceLeDiff, true_and, Bool.false_eq_true, if_false, if_true, isi_int_non, isi_int_bl, isi_int_int, isi_int_str, isi_int_lst, isi_int_tup, isi_bool_non, isi_bool_bl, isi_bool_int, isi_bool_str, isi_bool_lst, isi_bool_tup, isi_list_non, isi_list_bl, isi_list_int, isi_list_str, isi_list_lst, isi_list_tup, isi_tuple_non, isi_tuple_bl, isi_tuple_int, isi_tuple_str, isi_tuple_lst, isi_tuple_tup, isi_str_non, isi_str_bl, isi_str_int, isi_str_str, isi_str_lst, isi_str_tup, Bool.not_true, Bool.not_false, Bool.or_false, Bool.or_true, Bool.false_or, Bool.true_or, ite_true, ite_false, Option.some.injEq, true_or, false_or, or_false, and_true]
          exact ⟨_, _, _, _, _, _, rfl⟩
      · obtain ⟨x3, x4, x5, x6, x7, x8, rfl⟩ := hI
        refine ⟨fun i ρ => ∃ x3 x4 x5 x6 x7 x8, ρ = [some (.fz (.int top)), some (.fz (.tup (ms.map D.int))), some (.fz (.tup [.int top])), x3, x4, x5, x6, x7, x8], ⟨_, _, _, _, _, _, rfl⟩, fun i d ρ hd hI => ?_, fun ρ hI => ?_⟩
        · obtain ⟨x3, x4, x5, x6, x7, x8, rfl⟩ := hI
          have hP := placeP d (List.mem_of_getElem? (show placeL[i]? = some d from hd))
          have hpl : inR d 0 (llen (D.tup [D.int top]) - 1) = false := hP.2
          simp only [xSeq, xSet, xRet, xIf, xExpr, xNext, xNever, xC, xNil, xCons, xTup, xLst, xOp, xEq, xNe, xUn, xNot, xAnd, xOr, xIfE, xCB, xCall, xCallB, xName, xAsg, xIsi3, toD_fz, toD_ow, toD_od, toD_bg, rd_var, rd_getv1, rd_getv2, rd_getv3, rd_test, rd_onB, rd_onI, rd_onSB, rd_andV, rd_orV, rd_notV, rd_chain, rd_II, rd_II0, rd_add1, rd_add2, rd_add3, rd_mul1, rd_mul2, rd_mul3, rd_isN, rd_notN, rd_isN1, rd_isN2, rd_isN3, rd_neg, rd_ix1, rd_ix2, rd_part, rd_sl, rd_onSl1, rd_onSl2, rd_rev, rd_onRv, rd_len1, rd_len2, rd_max2, rd_min2, rd_int1, rd_int2, rd_lst1, rd_lst2, rd_tup1, rd_tup2, rd_dm, rd_seqI, rd_onSq1, rd_onSq2, rd_rng1, rd_onR1, rd_rng2, rd_onR2, xEnumT, rd_onEt, rd_zip, rd_onZ1, rd_onZ2, rd_par, rd_onP, xPar3, rd_onP3, rd_gtup, rd_gnil, rd_gcons, rd_isi, noO_int, noO_bl, noO_str, noO_lst, noO_tup, noO_non, ini, iniB, wipeD, unw, kf, List.map_cons, List.map_nil, List.replicate_succ, List.replicate_zero, List.cons_append, List.nil_append, List.length_cons, List.length_nil, List.getElem?_cons_zero, List.getElem?_cons_succ, List.set_cons_zero, List.set_cons_succ, decide_eq_true_eq, Nat.zero_add, Nat.reduceAdd, Nat.reduceSub, Nat.reduceLeDiff, true_and, Bool.false_eq_true, if_false, if_true, isi_int_non, isi_int_bl, isi_int_int, isi_int_str, isi_int_lst, isi_int_tup, isi_bool_non, isi_bool_bl, isi_bool_int, isi_bool_str, isi_bool_lst, isi_bool_tup, isi_list_non, isi_list_bl, isi_list_int, isi_list_str, isi_list_lst, isi_list_tup, isi_tuple_non, isi_tuple_bl, isi_tuple_int, isi_tuple_str, isi_tuple_lst, isi_tuple_tup, isi_str_non, isi_str_bl, isi_str_int, isi_str_str, isi_str_lst, isi_str_tup, Bool.not_true, Bool.not_false, Bool.or_false, Bool.or_true, Bool.false_or, Bool.true_or, ite_true, ite_false, Option.some.injEq, true_or, false_or, or_false, and_true, rd_isOwn, rd_own1, rd_own2, rd_own3, rd_ixO, rd_onIx1, rd_onIx2, rd_store, rd_onStore1, rd_onStore2, ex_eq, xApp, xDput, S.ow.injEq, S.bg.injEq, S.od.injEq, reduceCtorEq, exists_eq_left', exists_eq_left, exists_eq', D.int.injEq, atI_c0, atI_c1, atI_c2, ixN3_0, ixN3_1, ixN3_2, false_and, and_self, xLm, xLoan]
          refine ⟨_, (turns_cons (turn_lam (k := 6) (c := nmC 5) [true, true, true, false, false, false, true, false, false] (by rfl) (by rfl) (fun _ _ _ _ _ => rfl) (fun W hs hb f2 c2 A2 o2 s2 H2 E2 C2 ED2 hr2 hE2 => by obtain ⟨q, params, body, scope, cl⟩ := W; dsimp only at hs hb; subst hs hb; exact d_fnL hE2 h_days (hr2.mono (by decide)) (da_cons (dv 0) (da_cons (dv 1) (da_cons (dv 2) (da_cons d_int (da_cons (dv 6) da_nil)))))) (by trivial) ?_) turns_nil), rfl, 5, by decide, rfl, ⟨_, rfl, okD_word 5 (by decide)⟩, okD_word 5 (by decide), okD_word 5 (by decide), ?_⟩
          · simp only [xSeq, xSet, xRet, xIf, xExpr, xNext, xNever, xC, xNil, xCons, xTup, xLst, xOp, xEq, xNe, xUn, xNot, xAnd, xOr, xIfE, xCB, xCall, xCallB, xName, xAsg, xIsi3, toD_fz, toD_ow, toD_od, toD_bg, rd_var, rd_getv1, rd_getv2, rd_getv3, rd_test, rd_onB, rd_onI, rd_onSB, rd_andV, rd_orV, rd_notV, rd_chain, rd_II, rd_II0, rd_add1, rd_add2, rd_add3, rd_mul1, rd_mul2, rd_mul3, rd_isN, rd_notN, rd_isN1, rd_isN2, rd_isN3, rd_neg, rd_ix1, rd_ix2, rd_part, rd_sl, rd_onSl1, rd_onSl2, rd_rev, rd_onRv, rd_len1, rd_len2, rd_max2, rd_min2, rd_int1, rd_int2, rd_lst1, rd_lst2, rd_tup1, rd_tup2, rd_dm, rd_seqI, rd_onSq1, rd_onSq2, rd_rng1, rd_onR1, rd_rng2, rd_onR2, xEnumT, rd_onEt, rd_zip, rd_onZ1, rd_onZ2, rd_par, rd_onP, xPar3, rd_onP3, rd_gtup, rd_gnil, rd_gcons, rd_isi, noO_int, noO_bl, noO_str, noO_lst, noO_tup, noO_non, ini, iniB, wipeD, unw, kf, List.map_cons, List.map_nil, List.replicate_succ, List.replicate_zero, List.cons_append, List.nil_append, List.length_cons, List.length_nil, List.getElem?_cons_zero, List.getElem?_cons_succ, List.set_cons_zero, List.set_cons_succ, decide_eq_true_eq, Nat.zero_add, Nat.reduceAdd, Nat.reduceSub, Nat.reduceLeDiff, true_and, Bool.false_eq_true, if_false, if_true, isi_int_non, isi_int_bl, isi_int_int, isi_int_str, isi_int_lst, isi_int_tup, isi_bool_non, isi_bool_bl, isi_bool_int, isi_bool_str, isi_bool_lst, isi_bool_tup, isi_list_non, isi_list_bl, isi_list_int, isi_list_str, isi_list_lst, isi_list_tup, isi_tuple_non, isi_tuple_bl, isi_tuple_int, isi_tuple_str, isi_tuple_lst, isi_tuple_tup, isi_str_non, isi_str_bl, isi_str_int, isi_str_str, isi_str_lst, isi_str_tup, Bool.not_true, Bool.not_false, Bool.or_false, Bool.or_true, Bool.false_or, Bool.true_or, ite_true, ite_false, Option.some.injEq, true_or, false_or, or_false, and_true, capD]
            exact ⟨.int top, .tup (ms.map D.int), .tup [.int top], .int 3, d, rfl, smA_int _, st, sl, smA_int _, hP.1, nmC 5, by simp only [hb, then_none, h3, hpl, Bool.false_eq_true, if_false], rfl⟩
          · rw [show eqD (S.fz (D.tup [.str (nmC 5)])).toD (.tup [.str (Str.ofString "NoPlace")]) = true from eqD_word _]
            simp only [xSeq, xSet, xRet, xIf, xExpr, xNext, xNever, xC, xNil, xCons, xTup, xLst, xOp, xEq, xNe, xUn, xNot, xAnd, xOr, xIfE, xCB, xCall, xCallB, xName, xAsg, xIsi3, toD_fz, toD_ow, toD_od, toD_bg, rd_var, rd_getv1, rd_getv2, rd_getv3, rd_test, rd_onB, rd_onI, rd_onSB, rd_andV, rd_orV, rd_notV, rd_chain, rd_II, rd_II0, rd_add1, rd_add2, rd_add3, rd_mul1, rd_mul2, rd_mul3, rd_isN, rd_notN, rd_isN1, rd_isN2, rd_isN3, rd_neg, rd_ix1, rd_ix2, rd_part, rd_sl, rd_onSl1, rd_onSl2, rd_rev, rd_onRv, rd_len1, rd_len2, rd_max2, rd_min2, rd_int1, rd_int2, rd_lst1, rd_lst2, rd_tup1, rd_tup2, rd_dm, rd_seqI, rd_onSq1, rd_onSq2, rd_rng1, rd_onR1, rd_rng2, rd_onR2, xEnumT, rd_onEt, rd_zip, rd_onZ1, rd_onZ2, rd_par, rd_onP, xPar3, rd_onP3, rd_gtup, rd_gnil, rd_gcons, rd_isi, noO_int, noO_bl, noO_str, noO_lst, noO_tup, noO_non, ini, iniB, wipeD, unw, kf, List.map_cons, List.map_nil, List.replicate_succ, List.replicate_zero, List.cons_append, List.nil_append, List.length_cons, List.length_nil, List.getElem?_cons_zero, List.getElem?_cons_succ, List.set_cons_zero, List.set_cons_succ, decide_eq_true_eq, Nat.zero_add, Nat.reduceAdd, Nat.reduceSub, Nat.reduceLeDiff, true_and, Bool.false_eq_true, if_false, if_true, isi_int_non, isi_int_bl, isi_int_int, isi_int_str, isi_int_lst, isi_int_tup, isi_bool_non, isi_bool_bl, isi_bool_int, isi_bool_str, isi_bool_lst, isi_bool_tup, isi_list_non, isi_list_bl, isi_list_int, isi_list_str, isi_list_lst, isi_list_tup, isi_tuple_non, isi_tuple_bl, isi_tuple_int, isi_tuple_str, isi_tuple_lst, isi_tuple_tup, isi_str_non, isi_str_bl, isi_str_int, isi_str_str, isi_str_lst, isi_str_tup, Bool.not_true, Bool.not_false, Bool.or_false, Bool.or_true, Bool.false_or, Bool.true_or, ite_true, ite_false, Option.some.injEq, true_or, false_or, or_false, and_true]
            exact ⟨_, _, _, _, _, _, rfl⟩
        · obtain ⟨x3, x4, x5, x6, x7, x8, rfl⟩ := hI
          refine ⟨fun i ρ => ∃ x3 x4 x5 x6 x7 x8, ρ = [some (.fz (.int top)), some (.fz (.tup (ms.map D.int))), some (.fz (.tup [.int top])), x3, x4, x5, x6, x7, x8], ⟨_, _, _, _, _, _, rfl⟩, fun i d ρ hd hI => ?_, fun ρ hI => ?_⟩
          · obtain ⟨x3, x4, x5, x6, x7, x8, rfl⟩ := hI
            have hP := numP d (List.mem_of_getElem? (show numL[i]? = some d from hd))
            have hpl : inR d 1 (ival (D.int 3)) = false := hP.2
            simp only [xSeq, xSet, xRet, xIf, xExpr, xNext, xNever, xC, xNil, xCons, xTup, xLst, xOp, xEq, xNe, xUn, xNot, xAnd, xOr, xIfE, xCB, xCall, xCallB, xName, xAsg, xIsi3, toD_fz, toD_ow, toD_od, toD_bg, rd_var, rd_getv1, rd_getv2, rd_getv3, rd_test, rd_onB, rd_onI, rd_onSB, rd_andV, rd_orV, rd_notV, rd_chain, rd_II, rd_II0, rd_add1, rd_add2, rd_add3, rd_mul1, rd_mul2, rd_mul3, rd_isN, rd_notN, rd_isN1, rd_isN2, rd_isN3, rd_neg, rd_ix1, rd_ix2, rd_part, rd_sl, rd_onSl1, rd_onSl2, rd_rev, rd_onRv, rd_len1, rd_len2, rd_max2, rd_min2, rd_int1, rd_int2, rd_lst1, rd_lst2, rd_tup1, rd_tup2, rd_dm, rd_seqI, rd_onSq1, rd_onSq2, rd_rng1, rd_onR1, rd_rng2, rd_onR2, xEnumT, rd_onEt, rd_zip, rd_onZ1, rd_onZ2, rd_par, rd_onP, xPar3, rd_onP3, rd_gtup, rd_gnil, rd_gcons, rd_isi, noO_int, noO_bl, noO_str, noO_lst, noO_tup, noO_non, ini, iniB, wipeD, unw, kf, List.map_cons, List.map_nil, List.replicate_succ, List.replicate_zero, List.cons_append, List.nil_append, List.length_cons, List.length_nil, List.getElem?_cons_zero, List.getElem?_cons_succ, List.set_cons_zero, List.set_cons_succ, decide_eq_true_eq, Nat.zero_add, Nat.reduceAdd, Nat.reduceSub, Nat.reduceLeDiff, true_and, Bool.false_eq_true, if_false, if_true, isi_int_non, isi_int_bl, isi_int_int, isi_int_str, isi_int_lst, isi_int_tup, isi_bool_non, isi_bool_bl, isi_bool_int, isi_bool_str, isi_bool_lst, isi_bool_tup, isi_list_non, isi_list_bl, isi_list_int, isi_list_str, isi_list_lst, isi_list_tup, isi_tuple_non, isi_tuple_bl, isi_tuple_int, isi_tuple_str, isi_tuple_lst, isi_tuple_tup, isi_str_non, isi_str_bl, isi_str_int, isi_str_str, isi_str_lst, isi_str_tup, Bool.not_true, Bool.not_false, Bool.or_false, Bool.or_true, Bool.false_or, Bool.true_or, ite_true, ite_false, Option.some.injEq, true_or, false_or, or_false, and_true, rd_isOwn, rd_own1, rd_own2, rd_own3, rd_ixO, rd_onIx1, rd_onIx2, rd_store, rd_onStore1, rd_onStore2, ex_eq, xApp, xDput, S.ow.injEq, S.bg.injEq, S.od.injEq, reduceCtorEq, exists_eq_left', exists_eq_left, exists_eq', D.int.injEq, atI_c0, atI_c1, atI_c2, ixN3_0, ixN3_1, ixN3_2, false_and, and_self, xLm, xLoan]
            refine ⟨_, (turns_cons (turn_lam (k := 6) (c := nmC 6) [true, true, true, false, false, false, false, true, false] (by rfl) (by rfl) (fun _ _ _ _ _ => rfl) (fun W hs hb f2 c2 A2 o2 s2 H2 E2 C2 ED2 hr2 hE2 => by obtain ⟨q, params, body, scope, cl⟩ := W; dsimp only at hs hb; subst hs hb; exact d_fnL hE2 h_heights (hr2.mono (by decide)) (da_cons (dv 0) (da_cons (dv 1) (da_cons (dv 2) (da_cons d_int (da_cons (dv 7) da_nil)))))) (by trivial) ?_) turns_nil), rfl, 6, by decide, rfl, ⟨_, rfl, okD_word 6 (by decide)⟩, okD_word 6 (by decide), okD_word 6 (by decide), ?_⟩
            · simp only [xSeq, xSet, xRet, xIf, xExpr, xNext, xNever, xC, xNil, xCons, xTup, xLst, xOp, xEq, xNe, xUn, xNot, xAnd, xOr, xIfE, xCB, xCall, xCallB, xName, xAsg, xIsi3, toD_fz, toD_ow, toD_od, toD_bg, rd_var, rd_getv1, rd_getv2, rd_getv3, rd_test, rd_onB, rd_onI, rd_onSB, rd_andV, rd_orV, rd_notV, rd_chain, rd_II, rd_II0, rd_add1, rd_add2, rd_add3, rd_mul1, rd_mul2, rd_mul3, rd_isN, rd_notN, rd_isN1, rd_isN2, rd_isN3, rd_neg, rd_ix1, rd_ix2, rd_part, rd_sl, rd_onSl1, rd_onSl2, rd_rev, rd_onRv, rd_len1, rd_len2, rd_max2, rd_min2, rd_int1, rd_int2, rd_lst1, rd_lst2, rd_tup1, rd_tup2, rd_dm, rd_seqI, rd_onSq1, rd_onSq2, rd_rng1, rd_onR1, rd_rng2, rd_onR2, xEnumT, rd_onEt, rd_zip, rd_onZ1, rd_onZ2, rd_par, rd_onP, xPar3, rd_onP3, rd_gtup, rd_gnil, rd_gcons, rd_isi, noO_int, noO_bl, noO_str, noO_lst, noO_tup, noO_non, ini, iniB, wipeD, unw, kf, List.map_cons, List.map_nil, List.replicate_succ, List.replicate_zero, List.cons_append, List.nil_append, List.length_cons, List.length_nil, List.getElem?_cons_zero, List.getElem?_cons_succ, List.set_cons_zero, List.set_cons_succ, decide_eq_true_eq, Nat.zero_add, Nat.reduceAdd, Nat.reduceSub, Nat.reduceLeDiff, true_and, Bool.false_eq_true, if_false, if_true, isi_int_non, isi_int_bl, isi_int_int, isi_int_str, isi_int_lst, isi_int_tup, isi_bool_non, isi_bool_bl, isi_bool_int, isi_bool_str, isi_bool_lst, isi_bool_tup, isi_list_non, isi_list_bl, isi_list_int, isi_list_str, isi_list_lst, isi_list_tup, isi_tuple_non, isi_tuple_bl, isi_tuple_int, isi_tuple_str, isi_tuple_lst, isi_tuple_tup, isi_str_non, isi_str_bl, isi_str_int, isi_str_str, isi_str_lst, isi_str_tup, Bool.not_true, Bool.not_false, Bool.or_false, Bool.or_true, Bool.false_or, Bool.true_or, ite_true, ite_false, Option.some.injEq, true_or, false_or, or_false, and_true, capD]
              exact ⟨.int top, .tup (ms.map D.int), .tup [.int top], .int 3, d, rfl, smA_int _, st, sl, smA_int _, hP.1, nmC 6, by simp only [hb, then_none, h3, hpl, Bool.false_eq_true, if_false], rfl⟩
            · rw [show eqD (S.fz (D.tup [.str (nmC 6)])).toD (.tup [.str (Str.ofString "NoNumber")]) = true from eqD_word _]
              simp only [xSeq, xSet, xRet, xIf, xExpr, xNext, xNever, xC, xNil, xCons, xTup, xLst, xOp, xEq, xNe, xUn, xNot, xAnd, xOr, xIfE, xCB, xCall, xCallB, xName, xAsg, xIsi3, toD_fz, toD_ow, toD_od, toD_bg, rd_var, rd_getv1, rd_getv2, rd_getv3, rd_test, rd_onB, rd_onI, rd_onSB, rd_andV, rd_orV, rd_notV, rd_chain, rd_II, rd_II0, rd_add1, rd_add2, rd_add3, rd_mul1, rd_mul2, rd_mul3, rd_isN, rd_notN, rd_isN1, rd_isN2, rd_isN3, rd_neg, rd_ix1, rd_ix2, rd_part, rd_sl, rd_onSl1, rd_onSl2, rd_rev, rd_onRv, rd_len1, rd_len2, rd_max2, rd_min2, rd_int1, rd_int2, rd_lst1, rd_lst2, rd_tup1, rd_tup2, rd_dm, rd_seqI, rd_onSq1, rd_onSq2, rd_rng1, rd_onR1, rd_rng2, rd_onR2, xEnumT, rd_onEt, rd_zip, rd_onZ1, rd_onZ2, rd_par, rd_onP, xPar3, rd_onP3, rd_gtup, rd_gnil, rd_gcons, rd_isi, noO_int, noO_bl, noO_str, noO_lst, noO_tup, noO_non, ini, iniB, wipeD, unw, kf, List.map_cons, List.map_nil, List.replicate_succ, List.replicate_zero, List.cons_append, List.nil_append, List.length_cons, List.length_nil, List.getElem?_cons_zero, List.getElem?_cons_succ, List.set_cons_zero, List.set_cons_succ, decide_eq_true_eq, Nat.zero_add, Nat.reduceAdd, Nat.reduceSub, Nat.reduceLeDiff, true_and, Bool.false_eq_true, if_false, if_true, isi_int_non, isi_int_bl, isi_int_int, isi_int_str, isi_int_lst, isi_int_tup, isi_bool_non, isi_bool_bl, isi_bool_int, isi_bool_str, isi_bool_lst, isi_bool_tup, isi_list_non, isi_list_bl, isi_list_int, isi_list_str, isi_list_lst, isi_list_tup, isi_tuple_non, isi_tuple_bl, isi_tuple_int, isi_tuple_str, isi_tuple_lst, isi_tuple_tup, isi_str_non, isi_str_bl, isi_str_int, isi_str_str, isi_str_lst, isi_str_tup, Bool.not_true, Bool.not_false, Bool.or_false, Bool.or_true, Bool.false_or, Bool.true_or, ite_true, ite_false, Option.some.injEq, true_or, false_or, or_false, and_true]
              exact ⟨_, _, _, _, _, _, rfl⟩
          · obtain ⟨x3, x4, x5, x6, x7, x8, rfl⟩ := hI
            refine ⟨fun i ρ => ∃ x3 x4 x5 x6 x7 x8, ρ = [some (.fz (.int top)), some (.fz (.tup (ms.map D.int))), some (.fz (.tup [.int top])), x3, x4, x5, x6, x7, x8], ⟨_, _, _, _, _, _, rfl⟩, fun i d ρ hd hI => ?_, fun ρ hI => ?_⟩
            · obtain ⟨x3, x4, x5, x6, x7, x8, rfl⟩ := hI
              have hP := unP d (List.mem_of_getElem? (show (unL top)[i]? = some d from hd))
              simp only [xSeq, xSet, xRet, xIf, xExpr, xNext, xNever, xC, xNil, xCons, xTup, xLst, xOp, xEq, xNe, xUn, xNot, xAnd, xOr, xIfE, xCB, xCall, xCallB, xName, xAsg, xIsi3, toD_fz, toD_ow, toD_od, toD_bg, rd_var, rd_getv1, rd_getv2, rd_getv3, rd_test, rd_onB, rd_onI, rd_onSB, rd_andV, rd_orV, rd_notV, rd_chain, rd_II, rd_II0, rd_add1, rd_add2, rd_add3, rd_mul1, rd_mul2, rd_mul3, rd_isN, rd_notN, rd_isN1, rd_isN2, rd_isN3, rd_neg, rd_ix1, rd_ix2, rd_part, rd_sl, rd_onSl1, rd_onSl2, rd_rev, rd_onRv, rd_len1, rd_len2, rd_max2, rd_min2, rd_int1, rd_int2, rd_lst1, rd_lst2, rd_tup1, rd_tup2, rd_dm, rd_seqI, rd_onSq1, rd_onSq2, rd_rng1, rd_onR1, rd_rng2, rd_onR2, xEnumT, rd_onEt, rd_zip, rd_onZ1, rd_onZ2, rd_par, rd_onP, xPar3, rd_onP3, rd_gtup, rd_gnil, rd_gcons, rd_isi, noO_int, noO_bl, noO_str, noO_lst, noO_tup, noO_non, ini, iniB, wipeD, unw, kf, List.map_cons, List.map_nil, List.replicate_succ, List.replicate_zero, List.cons_append, List.nil_append, List.length_cons, List.length_nil, List.getElem?_cons_zero, List.getElem?_cons_succ, List.set_cons_zero, List.set_cons_succ, decide_eq_true_eq, Nat.zero_add, Nat.reduceAdd, Nat.reduceSub, Nat.reduceLeDiff, true_and, Bool.false_eq_true, if_false, if_true, isi_int_non, isi_int_bl, isi_int_int, isi_int_str, isi_int_lst, isi_int_tup, isi_bool_non, isi_bool_bl, isi_bool_int, isi_bool_str, isi_bool_lst, isi_bool_tup, isi_list_non, isi_list_bl, isi_list_int, isi_list_str, isi_list_lst, isi_list_tup, isi_tuple_non, isi_tuple_bl, isi_tuple_int, isi_tuple_str, isi_tuple_lst, isi_tuple_tup, isi_str_non, isi_str_bl, isi_str_int, isi_str_str, isi_str_lst, isi_str_tup, Bool.not_true, Bool.not_false, Bool.or_false, Bool.or_true, Bool.false_or, Bool.true_or, ite_true, ite_false, Option.some.injEq, true_or, false_or, or_false, and_true, rd_isOwn, rd_own1, rd_own2, rd_own3, rd_ixO, rd_onIx1, rd_onIx2, rd_store, rd_onStore1, rd_onStore2, ex_eq, xApp, xDput, S.ow.injEq, S.bg.injEq, S.od.injEq, reduceCtorEq, exists_eq_left', exists_eq_left, exists_eq', D.int.injEq, atI_c0, atI_c1, atI_c2, ixN3_0, ixN3_1, ixN3_2, false_and, and_self, xLm, xLoan]
              refine ⟨_, (turns_cons (turn_lam (k := 6) (c := nmC 1) [true, true, false, false, false, false, false, false, true] (by rfl) (by rfl) (fun _ _ _ _ _ => rfl) (fun W hs hb f2 c2 A2 o2 s2 H2 E2 C2 ED2 hr2 hE2 => by obtain ⟨q, params, body, scope, cl⟩ := W; dsimp only at hs hb; subst hs hb; exact d_fnL hE2 h_unread (hr2.mono (by decide)) (da_cons (dv 0) (da_cons (dv 1) (da_cons (dv 8) (da_cons d_int da_nil))))) (by trivial) ?_) turns_nil), rfl, 1, by decide, rfl, ⟨_, rfl, okD_word 1 (by decide)⟩, okD_word 1 (by decide), okD_word 1 (by decide), ?_⟩
              · simp only [xSeq, xSet, xRet, xIf, xExpr, xNext, xNever, xC, xNil, xCons, xTup, xLst, xOp, xEq, xNe, xUn, xNot, xAnd, xOr, xIfE, xCB, xCall, xCallB, xName, xAsg, xIsi3, toD_fz, toD_ow, toD_od, toD_bg, rd_var, rd_getv1, rd_getv2, rd_getv3, rd_test, rd_onB, rd_onI, rd_onSB, rd_andV, rd_orV, rd_notV, rd_chain, rd_II, rd_II0, rd_add1, rd_add2, rd_add3, rd_mul1, rd_mul2, rd_mul3, rd_isN, rd_notN, rd_isN1, rd_isN2, rd_isN3, rd_neg, rd_ix1, rd_ix2, rd_part, rd_sl, rd_onSl1, rd_onSl2, rd_rev, rd_onRv, rd_len1, rd_len2, rd_max2, rd_min2, rd_int1, rd_int2, rd_lst1, rd_lst2, rd_tup1, rd_tup2, rd_dm, rd_seqI, rd_onSq1, rd_onSq2, rd_rng1, rd_onR1, rd_rng2, rd_onR2, xEnumT, rd_onEt, rd_zip, rd_onZ1, rd_onZ2, rd_par, rd_onP, xPar3, rd_onP3, rd_gtup, rd_gnil, rd_gcons, rd_isi, noO_int, noO_bl, noO_str, noO_lst, noO_tup, noO_non, ini, iniB, wipeD, unw, kf, List.map_cons, List.map_nil, List.replicate_succ, List.replicate_zero, List.cons_append, List.nil_append, List.length_cons, List.length_nil, List.getElem?_cons_zero, List.getElem?_cons_succ, List.set_cons_zero, List.set_cons_succ, decide_eq_true_eq, Nat.zero_add, Nat.reduceAdd, Nat.reduceSub, Nat.reduceLeDiff, true_and, Bool.false_eq_true, if_false, if_true, isi_int_non, isi_int_bl, isi_int_int, isi_int_str, isi_int_lst, isi_int_tup, isi_bool_non, isi_bool_bl, isi_bool_int, isi_bool_str, isi_bool_lst, isi_bool_tup, isi_list_non, isi_list_bl, isi_list_int, isi_list_str, isi_list_lst, isi_list_tup, isi_tuple_non, isi_tuple_bl, isi_tuple_int, isi_tuple_str, isi_tuple_lst, isi_tuple_tup, isi_str_non, isi_str_bl, isi_str_int, isi_str_str, isi_str_lst, isi_str_tup, Bool.not_true, Bool.not_false, Bool.or_false, Bool.or_true, Bool.false_or, Bool.true_or, ite_true, ite_false, Option.some.injEq, true_or, false_or, or_false, and_true, capD]
                exact ⟨.int top, .tup (ms.map D.int), d, .int 1, rfl, smA_int _, st, hP.1, smA_int _, nmC 1, by simp only [hc, then_none, ival, hP.2, then_some], rfl⟩
              · rw [show eqD (S.fz (D.tup [.str (nmC 1)])).toD (.tup [.str (Str.ofString "NoMarks")]) = true from eqD_word _]
                simp only [xSeq, xSet, xRet, xIf, xExpr, xNext, xNever, xC, xNil, xCons, xTup, xLst, xOp, xEq, xNe, xUn, xNot, xAnd, xOr, xIfE, xCB, xCall, xCallB, xName, xAsg, xIsi3, toD_fz, toD_ow, toD_od, toD_bg, rd_var, rd_getv1, rd_getv2, rd_getv3, rd_test, rd_onB, rd_onI, rd_onSB, rd_andV, rd_orV, rd_notV, rd_chain, rd_II, rd_II0, rd_add1, rd_add2, rd_add3, rd_mul1, rd_mul2, rd_mul3, rd_isN, rd_notN, rd_isN1, rd_isN2, rd_isN3, rd_neg, rd_ix1, rd_ix2, rd_part, rd_sl, rd_onSl1, rd_onSl2, rd_rev, rd_onRv, rd_len1, rd_len2, rd_max2, rd_min2, rd_int1, rd_int2, rd_lst1, rd_lst2, rd_tup1, rd_tup2, rd_dm, rd_seqI, rd_onSq1, rd_onSq2, rd_rng1, rd_onR1, rd_rng2, rd_onR2, xEnumT, rd_onEt, rd_zip, rd_onZ1, rd_onZ2, rd_par, rd_onP, xPar3, rd_onP3, rd_gtup, rd_gnil, rd_gcons, rd_isi, noO_int, noO_bl, noO_str, noO_lst, noO_tup, noO_non, ini, iniB, wipeD, unw, kf, List.map_cons, List.map_nil, List.replicate_succ, List.replicate_zero, List.cons_append, List.nil_append, List.length_cons, List.length_nil, List.getElem?_cons_zero, List.getElem?_cons_succ, List.set_cons_zero, List.set_cons_succ, decide_eq_true_eq, Nat.zero_add, Nat.reduceAdd, Nat.reduceSub, Nat.reduceLeDiff, true_and, Bool.false_eq_true, if_false, if_true, isi_int_non, isi_int_bl, isi_int_int, isi_int_str, isi_int_lst, isi_int_tup, isi_bool_non, isi_bool_bl, isi_bool_int, isi_bool_str, isi_bool_lst, isi_bool_tup, isi_list_non, isi_list_bl, isi_list_int, isi_list_str, isi_list_lst, isi_list_tup, isi_tuple_non, isi_tuple_bl, isi_tuple_int, isi_tuple_str, isi_tuple_lst, isi_tuple_tup, isi_str_non, isi_str_bl, isi_str_int, isi_str_str, isi_str_lst, isi_str_tup, Bool.not_true, Bool.not_false, Bool.or_false, Bool.or_true, Bool.false_or, Bool.true_or, ite_true, ite_false, Option.some.injEq, true_or, false_or, or_false, and_true]
                exact ⟨_, _, _, _, _, _, rfl⟩
            · obtain ⟨x3, x4, x5, x6, x7, x8, rfl⟩ := hI
              exact q

theorem sm0_ints {ns : List Int} : ∀ d ∈ ns.map D.int, sm 0 d = true := fun d hd => by
  obtain ⟨i, _, rfl⟩ := List.mem_map.mp hd
  rfl
theorem smA_flat {es : List D} (h : ∀ d ∈ es, sm 0 d = true) (hl : es.length ≤ 100000) : smA (.tup es) := by
  refine ⟨1, ?_⟩
  simp only [sm, Bool.and_eq_true, decide_eq_true_eq]
  exact ⟨hl, sms_of h⟩
theorem smA_flatL {es : List D} (h : ∀ d ∈ es, sm 0 d = true) (hl : es.length ≤ 100000) : smA (.lst es) := by
  refine ⟨1, ?_⟩
  simp only [sm, Bool.and_eq_true, decide_eq_true_eq]
  exact ⟨hl, sms_of h⟩
theorem rd_onR3 {i j c : Int} {k : List D → Prop} : onR3 [.int i, .int j, .int c] k = (c = -1 ∧ (-1000000000000 < i ∧ i < 1000000000000 ∧ -1000000000000 < j ∧ j < 1000000000000) ∧ k (rngN i (i - j).toNat)) := rfl
def thingsL (top : Int) (ms : List Int) (l : List D) : List D := [D.tup (List.map D.int ms), D.lst (List.map D.int ms), D.tup (List.map D.int ms).reverse, D.tup (List.replicate (Int.toNat 2) (List.map D.int ms)).flatten, D.tup (List.map D.int ms ++ [D.int 1]), D.tup [D.int top],
  D.tup [D.int (top + 1)], D.tup [D.int 0], D.tup [], D.non, D.tup l, D.tup [D.bl true], D.tup [D.str (Str.ofString "1")], D.tup [D.int 2, D.int 2], D.tup [D.int 1, D.int 2], D.tup (List.map D.int ms ++ [D.non])]
def lastT (ms : List Int) (r : Int) : D := D.tup (((List.map D.int ms).take (Int.toNat 2) ++ [D.int r]) ++ (List.map D.int ms).drop (Int.toNat 3))
theorem thingsP {top r : Int} {ms : List Int} {l : List D} (hms : ms.length ≤ 8) (hl : ∀ d ∈ l, sm 0 d = true) (ll : l.length ≤ 100) : ∀ d ∈ thingsL top ms l ++ [lastT ms r], smA d := by
  intro d hd
  have hmi : ∀ x ∈ ms.map D.int, sm 0 x = true := sm0_ints
  have hml : (ms.map D.int).length ≤ 8 := by rw [List.length_map]; exact hms
  generalize hM : ms.map D.int = M at hmi hml
  simp only [thingsL, lastT, hM, List.mem_append, List.mem_cons, List.not_mem_nil, or_false] at hd
  rcases hd with (rfl | rfl | rfl | rfl | rfl | rfl | rfl | rfl | rfl | rfl | rfl | rfl | rfl | rfl | rfl | rfl) | rfl
  · exact smA_flat hmi (by omega)
  · exact smA_flatL hmi (by omega)
  · exact smA_flat (fun x hx => hmi x (List.mem_reverse.mp hx)) (by rw [List.length_reverse]; omega)
  · refine smA_flat (fun x hx => ?_) ?_
    · obtain ⟨y, hy, hxy⟩ := List.mem_flatten.mp hx
      rw [List.eq_of_mem_replicate hy] at hxy
      exact hmi x hxy
    · rw [show List.replicate (Int.toNat 2) M = [M, M] from rfl]
      simp
      omega
  · refine smA_flat (fun x hx => ?_) (by simp; omega)
    rcases List.mem_append.mp hx with h | h
    · exact hmi x h
    · cases List.mem_singleton.mp h
      rfl
  · exact ⟨1, rfl⟩
  · exact ⟨1, rfl⟩
  · exact ⟨1, rfl⟩
  · exact ⟨1, rfl⟩
  · exact ⟨1, rfl⟩
  · exact smA_flat hl (by omega)
  · exact ⟨1, rfl⟩
  · exact ⟨1, by decide +kernel⟩
  · exact ⟨1, rfl⟩
  · exact ⟨1, rfl⟩
  · refine smA_flat (fun x hx => ?_) (by simp; omega)
    rcases List.mem_append.mp hx with h | h
    · exact hmi x h
    · cases List.mem_singleton.mp h
      rfl
  · refine smA_flat (fun x hx => ?_) (by simp; omega)
    rcases List.mem_append.mp hx with h | h
    · rcases List.mem_append.mp h with h | h
      · exact hmi x (List.mem_of_mem_take h)
      · cases List.mem_singleton.mp h
        rfl
    · exact hmi x (List.mem_of_mem_drop h)
def oddL : List D := [.int 0, .int 41, .non, .bl true, .str (Str.ofString "1"), .int (-1)]
theorem oddP : ∀ d ∈ oddL, smA d ∧ rfTop d = some (nmC 0) := by
  intro d hd
  simp only [oddL, List.mem_cons, List.not_mem_nil, or_false] at hd
  rcases hd with rfl | rfl | rfl | rfl | rfl | rfl
  · exact ⟨⟨0, rfl⟩, rfl⟩
  · exact ⟨⟨0, rfl⟩, rfl⟩
  · exact ⟨⟨0, rfl⟩, rfl⟩
  · exact ⟨⟨0, rfl⟩, rfl⟩
  · exact ⟨⟨0, by decide +kernel⟩, rfl⟩
  · exact ⟨⟨0, rfl⟩, rfl⟩

abbrev s_law : Stmt := topS 68
theorem sc_law : FnScope ["script", "bag", "top", "marks1", "things", "x", "good", "doors", "odd"] ["script"] (defScope s_law) := ⟨rfl, rfl, rfl, by decide +kernel, rfl, by decide +kernel, by decide +kernel⟩
def forBody (l : List Stmt) (i : Nat) : List Stmt := match l.getD i (.Pass ⟨0, 0, 0, 0⟩) with
  | .For _ _ b _ _ => b
  | _ => []
abbrev s_lawBody : List Stmt := forBody (defBody s_law) 0
def FnBags (P : Program) (w : World) (K : PySem.W.Frag) (mg : Str → Option Value) (base : Heap) : Prop := ∃ f fd, FnOk P w K mg base CX0 2 f fd ["script", "most"] (spBags K) ∧ mg "_law_bags" = some (.ref f) ∧ PySem.W.keepIn K (.ref f) = true ∧ Binds K fd ["script", "most"] []
theorem law_body {P : Program} {w : World} {K : PySem.W.Frag} {mg : Str → Option Value} {base : Heap} {T : List (Addr × Str)} {c Pt : Addr} (B : Bt mg) (TB : LamX.TabB base mg c Pt) (hm : (Pt, qn "law" s_law) ∈ T) (hu : ∀ p ∈ T, p.1 = Pt → p.2 = qn "law" s_law) (h__law_others_refused : FnT P w K mg base T "_law_others_refused" 10 2 dp__law_others_refused) (h__law_floods_refused : FnT P w K mg base T "_law_floods_refused" 10 2 dp__law_floods_refused) (h__law_refused : Fn P w K mg base "_law_refused" 9 2 (dp__law_refused P w K mg base)) (h__law_doors : FnT P w K mg base T "_law_doors" 1 2 (dp__law_doors P w K mg base)) (h__law_take : FnB P w K mg base "_law_take" 1 1 dp__law_take) (h__law_same : Fn P w K mg base "_law_same" 1 2 dp__law_same) (h_are_marks : FnX P w K mg base "are_marks" 4 2 dp_are_marks) (h__law_good : Fn P w K mg base "_law_good" 2 2 dp__law_good) (h__law_marks : FnB P w K mg base "_law_marks" 2 2 dp__law_marks) (h_how_many : FnX P w K mg base "how_many" 6 4 dp_how_many) (h_alike_by : FnX P w K mg base "alike_by" 6 3 dp_alike_by) (h_shortest : FnX P w K mg base "shortest" 6 3 dp_shortest) (f : Addr) (A : Around) (outer : List PySem.Env) (s : Shared) (H : Hp) (E : XK) (hr : Room 10 (A.deeper (envOfC "law" (defScope s_law) s.heap.objs.size f (.ref c)))) :
    ∃ ts, ∀ C : FC, PlainH C.H0 → C.T = T → ∃ t, PSsV (cxOf CX0 P w K mg base ["script", "bag", "top", "marks1", "things", "x", "good", "doors", "odd"] "law" (defScope s_law) f (.ref c) A outer s H E).nox C s_lawBody ts t ∧ ∀ bd, bagOK 0 bd → t { nx := fun ρ => ρ.length = 9, ct := fun ρ => ρ.length = 9, rt := fun _ _ => False } (envB 9 1 bd) := by
  refine ⟨_, fun C hC hT => ⟨_, (ds_cons (ds_set 2 sc_law.nd (d_op (o_addK K) d_int (d_fnBK 1 h__law_take (hr.mono (by decide)) (da_cons d_int da_nil))))
      (ds_cons (ds_set 3 sc_law.nd (d_fnBK 1 h__law_marks (hr.mono (by decide)) (da_cons (dv 2) (da_cons d_int da_nil))))
      (ds_cons (ds_set 4 sc_law.nd (d_lst (da_cons (dv 3) (da_cons (d_callTy (c_listK K) (by rfl) B.list (by decide +kernel) (da_cons (dv 3) da_nil)) (da_cons (d_revT K (dv 3)) (da_cons (d_op (o_mulT K) (dv 3) d_int) (da_cons (d_op (o_addK K) (dv 3) (d_tup (da_cons d_int da_nil))) (da_cons (d_tup (da_cons (dv 2) da_nil)) (da_cons (d_tup (da_cons (d_op (o_addK K) (dv 2) d_int) da_nil)) (da_cons (d_tup (da_cons d_int da_nil)) (da_cons (d_tup da_nil) (da_cons d_non da_nil))))))))))))
      (ds_cons (ds_set 4 sc_law.nd (d_op (o_addK K) (dv 4) (d_lst (da_cons (d_tupRg3 rfl (by rfl) B.tuple (by rfl) B.range (da_cons (d_callB (c_min2 rfl) (by rfl) B.min (by decide +kernel) (da_cons (dv 2) (da_cons d_int da_nil))) (da_cons d_int (da_cons (d_neg d_int) da_nil)))) (da_cons (d_tup (da_cons d_bl da_nil)) (da_cons (d_tup (da_cons d_str da_nil)) (da_cons (d_tup (da_cons d_int (da_cons d_int da_nil))) (da_cons (d_tup (da_cons d_int (da_cons d_int da_nil))) (da_cons (d_op (o_addK K) (dv 3) (d_tup (da_cons d_non da_nil))) da_nil)))))))))
      (ds_cons (ds_for PassesOwn.never rfl (di_seqK K (d_op (o_addK K) (dv 4) (d_lst (da_cons (d_op (o_addK K) (d_op (o_addK K) (d_slK K (dv 3) do_none (do_some d_int)) (d_tup (da_cons (d_fnBK 1 h__law_take (hr.mono (by decide)) (da_cons d_int da_nil)) da_nil))) (d_slK K (dv 3) (do_some d_int) do_none)) da_nil)))) (dg_name 5 sc_law.nd) (ds_cons (ds_set 6 sc_law.nd (d_fnK h__law_good (hr.mono (by decide)) (da_cons (dv 2) (da_cons (dv 5) da_nil))))
      (ds_cons (ds_if (dt_not (dt_val (d_fnK h__law_same (hr.mono (by decide)) (da_cons (d_fnX0 h_are_marks (hr.mono (by decide)) (da_cons (dv 2) (da_cons (dv 5) da_nil))) (da_cons (dv 6) da_nil))))) (ds_one (ds_ret d_bl)) ds_nil)
      (ds_cons (ds_set 7 sc_law.nd (d_lst (da_cons (d_lm hC TB hm hu (hT := hT) (L := by rfl)) (da_cons (d_lm hC TB hm hu (hT := hT) (L := by rfl)) (da_cons (d_lm hC TB hm hu (hT := hT) (L := by rfl)) da_nil)))))
      (ds_one (ds_if (PWV.pt (dw_and (dt_not (dt_val (dv 6))) (dw_and1 (dt_not (dt_val (d_loan h__law_refused (hr.mono (by decide)) (da_cons (d_op (o_addK K) (d_fnT hC h__law_doors (hr.mono (by decide)) (da_cons (dv 2) (da_cons (dv 5) da_nil)) hT) (dv 7)) (da_cons d_str da_nil)))))))) (ds_one (ds_ret d_bl)) ds_nil))))))
      (ds_cons (ds_for PassesOwn.never rfl (di_seqK K (d_lst (da_cons d_int (da_cons d_int (da_cons d_non (da_cons d_bl (da_cons d_str (da_cons (d_neg d_int) da_nil)))))))) (dg_name 8 sc_law.nd) (ds_one (ds_if (dt_not (dt_val (d_loan h__law_refused (hr.mono (by decide)) (da_cons (d_op (o_addK K) (d_fnT hC h__law_doors (hr.mono (by decide)) (da_cons (dv 8) (da_cons (d_tup da_nil) da_nil)) hT) (d_lst (da_cons (d_lm hC TB hm hu (hT := hT) (L := by rfl)) da_nil))) (da_cons d_str da_nil))))) (ds_one (ds_ret d_bl)) ds_nil)))
      (ds_one (ds_if (PWV.pt (dw_or (dt_not (dt_val (d_fnT hC h__law_floods_refused (hr.mono (by decide)) (da_cons (dv 2) (da_cons (dv 3) da_nil)) hT))) (dw_or1 (dt_not (dt_val (d_fnT hC h__law_others_refused (hr.mono (by decide)) (da_cons (dv 2) (da_cons (dv 3) da_nil)) hT)))))) (ds_one (ds_ret d_bl)) ds_nil)))))))), fun bd hb => ?_⟩⟩
  simp only [envB]
  simp only [xSeq, xSet, xRet, xIf, xExpr, xNext, xNever, xC, xNil, xCons, xTup, xLst, xOp, xEq, xNe, xUn, xNot, xAnd, xOr, xIfE, xCB, xCall, xCallB, xName, xAsg, xIsi3, toD_fz, toD_ow, toD_od, toD_bg, rd_var, rd_getv1, rd_getv2, rd_getv3, rd_test, rd_onB, rd_onI, rd_onSB, rd_andV, rd_orV, rd_notV, rd_chain, rd_II, rd_II0, rd_add1, rd_add2, rd_add3, rd_mul1, rd_mul2, rd_mul3, rd_isN, rd_notN, rd_isN1, rd_isN2, rd_isN3, rd_neg, rd_ix1, rd_ix2, rd_part, rd_sl, rd_onSl1, rd_onSl2, rd_rev, rd_onRv, rd_len1, rd_len2, rd_max2, rd_min2, rd_int1, rd_int2, rd_lst1, rd_lst2, rd_tup1, rd_tup2, rd_dm, rd_seqI, rd_onSq1, rd_onSq2, rd_rng1, rd_onR1, rd_rng2, rd_onR2, xEnumT, rd_onEt, rd_zip, rd_onZ1, rd_onZ2, rd_par, rd_onP, xPar3, rd_onP3, rd_gtup, rd_gnil, rd_gcons, rd_isi, noO_int, noO_bl, noO_str, noO_lst, noO_tup, noO_non, ini, iniB, wipeD, unw, kf, List.map_cons, List.map_nil, List.replicate_succ, List.replicate_zero, List.cons_append, List.nil_append, List.length_cons, List.length_nil, List.getElem?_cons_zero, List.getElem?_cons_succ, List.set_cons_zero, List.set_cons_succ, decide_eq_true_eq, Nat.zero_add, Nat.reduceAdd, Nat.reduceSub, Nat.reduceLeDiff, true_and, Bool.false_eq_true, if_false, if_true, isi_int_non, isi_int_bl, isi_int_int, isi_int_str, isi_int_lst, isi_int_tup, isi_bool_non, isi_bool_bl, isi_bool_int, isi_bool_str, isi_bool_lst, isi_bool_tup, isi_list_non, isi_list_bl, isi_list_int, isi_list_str, isi_list_lst, isi_list_tup, isi_tuple_non, isi_tuple_bl, isi_tuple_int, isi_tuple_str, isi_tuple_lst, isi_tuple_tup, isi_str_non, isi_str_bl, isi_str_int, isi_str_str, isi_str_lst, isi_str_tup, Bool.not_true, Bool.not_false, Bool.or_false, Bool.or_true, Bool.false_or, Bool.true_or, ite_true, ite_false, Option.some.injEq, true_or, false_or, or_false, and_true, rd_isOwn, rd_own1, rd_own2, rd_own3, rd_ixO, rd_onIx1, rd_onIx2, rd_store, rd_onStore1, rd_onStore2, ex_eq, xApp, xDput, S.ow.injEq, S.bg.injEq, S.od.injEq, reduceCtorEq, exists_eq_left', exists_eq_left, exists_eq', D.int.injEq, atI_c0, atI_c1, atI_c2, ixN3_0, ixN3_1, ixN3_2, false_and, and_self, xLm, xLoan, xRevT, rd_onRvT, rd_mulT, xTupRg3]
  refine ⟨0, 40, hb, by decide, rfl, by decide, by decide, fun r0 b0 r0a r0b hb0 => ?_⟩
  simp only [xSeq, xSet, xRet, xIf, xExpr, xNext, xNever, xC, xNil, xCons, xTup, xLst, xOp, xEq, xNe, xUn, xNot, xAnd, xOr, xIfE, xCB, xCall, xCallB, xName, xAsg, xIsi3, toD_fz, toD_ow, toD_od, toD_bg, rd_var, rd_getv1, rd_getv2, rd_getv3, rd_test, rd_onB, rd_onI, rd_onSB, rd_andV, rd_orV, rd_notV, rd_chain, rd_II, rd_II0, rd_add1, rd_add2, rd_add3, rd_mul1, rd_mul2, rd_mul3, rd_isN, rd_notN, rd_isN1, rd_isN2, rd_isN3, rd_neg, rd_ix1, rd_ix2, rd_part, rd_sl, rd_onSl1, rd_onSl2, rd_rev, rd_onRv, rd_len1, rd_len2, rd_max2, rd_min2, rd_int1, rd_int2, rd_lst1, rd_lst2, rd_tup1, rd_tup2, rd_dm, rd_seqI, rd_onSq1, rd_onSq2, rd_rng1, rd_onR1, rd_rng2, rd_onR2, xEnumT, rd_onEt, rd_zip, rd_onZ1, rd_onZ2, rd_par, rd_onP, xPar3, rd_onP3, rd_gtup, rd_gnil, rd_gcons, rd_isi, noO_int, noO_bl, noO_str, noO_lst, noO_tup, noO_non, ini, iniB, wipeD, unw, kf, List.map_cons, List.map_nil, List.replicate_succ, List.replicate_zero, List.cons_append, List.nil_append, List.length_cons, List.length_nil, List.getElem?_cons_zero, List.getElem?_cons_succ, List.set_cons_zero, List.set_cons_succ, decide_eq_true_eq, Nat.zero_add, Nat.reduceAdd, Nat.reduceSub, Nat.reduceLeDiff, true_and, Bool.false_eq_true, if_false, if_true, isi_int_non, isi_int_bl, isi_int_int, isi_int_str, isi_int_lst, isi_int_tup, isi_bool_non, isi_bool_bl, isi_bool_int, isi_bool_str, isi_bool_lst, isi_bool_tup, isi_list_non, isi_list_bl, isi_list_int, isi_list_str, isi_list_lst, isi_list_tup, isi_tuple_non, isi_tuple_bl, isi_tuple_int, isi_tuple_str, isi_tuple_lst, isi_tuple_tup, isi_str_non, isi_str_bl, isi_str_int, isi_str_str, isi_str_lst, isi_str_tup, Bool.not_true, Bool.not_false, Bool.or_false, Bool.or_true, Bool.false_or, Bool.true_or, ite_true, ite_false, Option.some.injEq, true_or, false_or, or_false, and_true, rd_isOwn, rd_own1, rd_own2, rd_own3, rd_ixO, rd_onIx1, rd_onIx2, rd_store, rd_onStore1, rd_onStore2, ex_eq, xApp, xDput, S.ow.injEq, S.bg.injEq, S.od.injEq, reduceCtorEq, exists_eq_left', exists_eq_left, exists_eq', D.int.injEq, atI_c0, atI_c1, atI_c2, ixN3_0, ixN3_1, ixN3_2, false_and, and_self]
  obtain ⟨top, etop⟩ : ∃ top : Int, top = 1 + r0 := ⟨_, rfl⟩
  have t1 : 1 ≤ top := by omega
  have t2 : top ≤ 40 := by omega
  rw [← etop]
  refine ⟨1, top, 8, hb0, by decide, rfl, t1, by omega, by decide, by decide, fun ms b1 hms hb1 => ?_⟩
  have mok := hms.ok (Int.le_refl 8)
  have msl := hms.1
  simp only [xSeq, xSet, xRet, xIf, xExpr, xNext, xNever, xC, xNil, xCons, xTup, xLst, xOp, xEq, xNe, xUn, xNot, xAnd, xOr, xIfE, xCB, xCall, xCallB, xName, xAsg, xIsi3, toD_fz, toD_ow, toD_od, toD_bg, rd_var, rd_getv1, rd_getv2, rd_getv3, rd_test, rd_onB, rd_onI, rd_onSB, rd_andV, rd_orV, rd_notV, rd_chain, rd_II, rd_II0, rd_add1, rd_add2, rd_add3, rd_mul1, rd_mul2, rd_mul3, rd_isN, rd_notN, rd_isN1, rd_isN2, rd_isN3, rd_neg, rd_ix1, rd_ix2, rd_part, rd_sl, rd_onSl1, rd_onSl2, rd_rev, rd_onRv, rd_len1, rd_len2, rd_max2, rd_min2, rd_int1, rd_int2, rd_lst1, rd_lst2, rd_tup1, rd_tup2, rd_dm, rd_seqI, rd_onSq1, rd_onSq2, rd_rng1, rd_onR1, rd_rng2, rd_onR2, xEnumT, rd_onEt, rd_zip, rd_onZ1, rd_onZ2, rd_par, rd_onP, xPar3, rd_onP3, rd_gtup, rd_gnil, rd_gcons, rd_isi, noO_int, noO_bl, noO_str, noO_lst, noO_tup, noO_non, ini, iniB, wipeD, unw, kf, List.map_cons, List.map_nil, List.replicate_succ, List.replicate_zero, List.cons_append, List.nil_append, List.length_cons, List.length_nil, List.getElem?_cons_zero, List.getElem?_cons_succ, List.set_cons_zero, List.set_cons_succ, decide_eq_true_eq, Nat.zero_add, Nat.reduceAdd, Nat.reduceSub, Nat.reduceLeDiff, true_and, Bool.false_eq_true, if_false, if_true, isi_int_non, isi_int_bl, isi_int_int, isi_int_str, isi_int_lst, isi_int_tup, isi_bool_non, isi_bool_bl, isi_bool_int, isi_bool_str, isi_bool_lst, isi_bool_tup, isi_list_non, isi_list_bl, isi_list_int, isi_list_str, isi_list_lst, isi_list_tup, isi_tuple_non, isi_tuple_bl, isi_tuple_int, isi_tuple_str, isi_tuple_lst, isi_tuple_tup, isi_str_non, isi_str_bl, isi_str_int, isi_str_str, isi_str_lst, isi_str_tup, Bool.not_true, Bool.not_false, Bool.or_false, Bool.or_true, Bool.false_or, Bool.true_or, ite_true, ite_false, Option.some.injEq, true_or, false_or, or_false, and_true, rd_isOwn, rd_own1, rd_own2, rd_own3, rd_ixO, rd_onIx1, rd_onIx2, rd_store, rd_onStore1, rd_onStore2, ex_eq, xApp, xDput, S.ow.injEq, S.bg.injEq, S.od.injEq, reduceCtorEq, exists_eq_left', exists_eq_left, exists_eq', D.int.injEq, atI_c0, atI_c1, atI_c2, ixN3_0, ixN3_1, ixN3_2, false_and, and_self, xLm, xLoan, xRevT, rd_onRvT, rd_mulT, xTupRg3, xFor, rd_onR3, List.length_map]
  have m9 : 1 ≤ (if 9 < top then 9 else top) ∧ (if 9 < top then 9 else top) ≤ 9 := by split <;> omega
  generalize (if 9 < top then 9 else top) = m at m9
  refine ⟨by decide, by decide, by omega, by omega, ⟨by omega, by omega, by decide, by decide⟩, by rw [rngN_len]; omega, by omega, _, 45, hb1, by decide, rfl, by decide, by decide, fun r b2 g0 g1 hb2 => ?_⟩
  have hrl : (rngN m (m - 0).toNat).length ≤ 100 := by rw [rngN_len]; omega
  have hrs : ∀ d ∈ rngN m (m - 0).toNat, sm 0 d = true := fun d hd => by
    obtain ⟨k, _, rfl⟩ := List.mem_map.mp hd
    rfl
  generalize rngN m (m - 0).toNat = l at hrl hrs
  simp only [xSeq, xSet, xRet, xIf, xExpr, xNext, xNever, xC, xNil, xCons, xTup, xLst, xOp, xEq, xNe, xUn, xNot, xAnd, xOr, xIfE, xCB, xCall, xCallB, xName, xAsg, xIsi3, toD_fz, toD_ow, toD_od, toD_bg, rd_var, rd_getv1, rd_getv2, rd_getv3, rd_test, rd_onB, rd_onI, rd_onSB, rd_andV, rd_orV, rd_notV, rd_chain, rd_II, rd_II0, rd_add1, rd_add2, rd_add3, rd_mul1, rd_mul2, rd_mul3, rd_isN, rd_notN, rd_isN1, rd_isN2, rd_isN3, rd_neg, rd_ix1, rd_ix2, rd_part, rd_sl, rd_onSl1, rd_onSl2, rd_rev, rd_onRv, rd_len1, rd_len2, rd_max2, rd_min2, rd_int1, rd_int2, rd_lst1, rd_lst2, rd_tup1, rd_tup2, rd_dm, rd_seqI, rd_onSq1, rd_onSq2, rd_rng1, rd_onR1, rd_rng2, rd_onR2, xEnumT, rd_onEt, rd_zip, rd_onZ1, rd_onZ2, rd_par, rd_onP, xPar3, rd_onP3, rd_gtup, rd_gnil, rd_gcons, rd_isi, noO_int, noO_bl, noO_str, noO_lst, noO_tup, noO_non, ini, iniB, wipeD, unw, kf, List.map_cons, List.map_nil, List.replicate_succ, List.replicate_zero, List.cons_append, List.nil_append, List.length_cons, List.length_nil, List.getElem?_cons_zero, List.getElem?_cons_succ, List.set_cons_zero, List.set_cons_succ, decide_eq_true_eq, Nat.zero_add, Nat.reduceAdd, Nat.reduceSub, Nat.reduceLeDiff, true_and, Bool.false_eq_true, if_false, if_true, isi_int_non, isi_int_bl, isi_int_int, isi_int_str, isi_int_lst, isi_int_tup, isi_bool_non, isi_bool_bl, isi_bool_int, isi_bool_str, isi_bool_lst, isi_bool_tup, isi_list_non, isi_list_bl, isi_list_int, isi_list_str, isi_list_lst, isi_list_tup, isi_tuple_non, isi_tuple_bl, isi_tuple_int, isi_tuple_str, isi_tuple_lst, isi_tuple_tup, isi_str_non, isi_str_bl, isi_str_int, isi_str_str, isi_str_lst, isi_str_tup, Bool.not_true, Bool.not_false, Bool.or_false, Bool.or_true, Bool.false_or, Bool.true_or, ite_true, ite_false, Option.some.injEq, true_or, false_or, or_false, and_true, rd_isOwn, rd_own1, rd_own2, rd_own3, rd_ixO, rd_onIx1, rd_onIx2, rd_store, rd_onStore1, rd_onStore2, ex_eq, xApp, xDput, S.ow.injEq, S.bg.injEq, S.od.injEq, reduceCtorEq, exists_eq_left', exists_eq_left, exists_eq', D.int.injEq, atI_c0, atI_c1, atI_c2, ixN3_0, ixN3_1, ixN3_2, false_and, and_self]
  rw [cut_take _ _ (by decide), cut_drop _ _ (by decide)]
  refine ⟨by rw [List.length_take, List.length_map]; omega, by simp only [List.length_append, List.length_take, List.length_drop, List.length_map, List.length_cons, List.length_nil]; omega, fun i ρ => ∃ x5 x6 x7 x8, ρ = [none, some (.bg b2), some (.fz (.int top)), some (.fz (.tup (ms.map D.int))), some (.fz (.lst (thingsL top ms l))), x5, x6, x7, x8], ⟨_, _, _, _, rfl⟩, fun i d ρ hd hI => ?_, fun ρ hI => ?_⟩
  · obtain ⟨x5, x6, x7, x8, rfl⟩ := hI
    have sx := thingsP (r := r) (show ms.length ≤ 8 by omega) hrs hrl d (List.mem_of_getElem? (show (thingsL top ms l ++ [lastT ms r])[i]? = some d from hd))
    simp only [xSeq, xSet, xRet, xIf, xExpr, xNext, xNever, xC, xNil, xCons, xTup, xLst, xOp, xEq, xNe, xUn, xNot, xAnd, xOr, xIfE, xCB, xCall, xCallB, xName, xAsg, xIsi3, toD_fz, toD_ow, toD_od, toD_bg, rd_var, rd_getv1, rd_getv2, rd_getv3, rd_test, rd_onB, rd_onI, rd_onSB, rd_andV, rd_orV, rd_notV, rd_chain, rd_II, rd_II0, rd_add1, rd_add2, rd_add3, rd_mul1, rd_mul2, rd_mul3, rd_isN, rd_notN, rd_isN1, rd_isN2, rd_isN3, rd_neg, rd_ix1, rd_ix2, rd_part, rd_sl, rd_onSl1, rd_onSl2, rd_rev, rd_onRv, rd_len1, rd_len2, rd_max2, rd_min2, rd_int1, rd_int2, rd_lst1, rd_lst2, rd_tup1, rd_tup2, rd_dm, rd_seqI, rd_onSq1, rd_onSq2, rd_rng1, rd_onR1, rd_rng2, rd_onR2, xEnumT, rd_onEt, rd_zip, rd_onZ1, rd_onZ2, rd_par, rd_onP, xPar3, rd_onP3, rd_gtup, rd_gnil, rd_gcons, rd_isi, noO_int, noO_bl, noO_str, noO_lst, noO_tup, noO_non, ini, iniB, wipeD, unw, kf, List.map_cons, List.map_nil, List.replicate_succ, List.replicate_zero, List.cons_append, List.nil_append, List.length_cons, List.length_nil, List.getElem?_cons_zero, List.getElem?_cons_succ, List.set_cons_zero, List.set_cons_succ, decide_eq_true_eq, Nat.zero_add, Nat.reduceAdd, Nat.reduceSub, Nat.reduceLeDiff, true_and, Bool.false_eq_true, if_false, if_true, isi_int_non, isi_int_bl, isi_int_int, isi_int_str, isi_int_lst, isi_int_tup, isi_bool_non, isi_bool_bl, isi_bool_int, isi_bool_str, isi_bool_lst, isi_bool_tup, isi_list_non, isi_list_bl, isi_list_int, isi_list_str, isi_list_lst, isi_list_tup, isi_tuple_non, isi_tuple_bl, isi_tuple_int, isi_tuple_str, isi_tuple_lst, isi_tuple_tup, isi_str_non, isi_str_bl, isi_str_int, isi_str_str, isi_str_lst, isi_str_tup, Bool.not_true, Bool.not_false, Bool.or_false, Bool.or_true, Bool.false_or, Bool.true_or, ite_true, ite_false, Option.some.injEq, true_or, false_or, or_false, and_true, rd_isOwn, rd_own1, rd_own2, rd_own3, rd_ixO, rd_onIx1, rd_onIx2, rd_store, rd_onStore1, rd_onStore2, ex_eq, xApp, xDput, S.ow.injEq, S.bg.injEq, S.od.injEq, reduceCtorEq, exists_eq_left', exists_eq_left, exists_eq', D.int.injEq, atI_c0, atI_c1, atI_c2, ixN3_0, ixN3_1, ixN3_2, false_and, and_self, xLm, xLoan]
    refine ⟨top, d, rfl, sx, ?_⟩
    simp only [xSeq, xSet, xRet, xIf, xExpr, xNext, xNever, xC, xNil, xCons, xTup, xLst, xOp, xEq, xNe, xUn, xNot, xAnd, xOr, xIfE, xCB, xCall, xCallB, xName, xAsg, xIsi3, toD_fz, toD_ow, toD_od, toD_bg, rd_var, rd_getv1, rd_getv2, rd_getv3, rd_test, rd_onB, rd_onI, rd_onSB, rd_andV, rd_orV, rd_notV, rd_chain, rd_II, rd_II0, rd_add1, rd_add2, rd_add3, rd_mul1, rd_mul2, rd_mul3, rd_isN, rd_notN, rd_isN1, rd_isN2, rd_isN3, rd_neg, rd_ix1, rd_ix2, rd_part, rd_sl, rd_onSl1, rd_onSl2, rd_rev, rd_onRv, rd_len1, rd_len2, rd_max2, rd_min2, rd_int1, rd_int2, rd_lst1, rd_lst2, rd_tup1, rd_tup2, rd_dm, rd_seqI, rd_onSq1, rd_onSq2, rd_rng1, rd_onR1, rd_rng2, rd_onR2, xEnumT, rd_onEt, rd_zip, rd_onZ1, rd_onZ2, rd_par, rd_onP, xPar3, rd_onP3, rd_gtup, rd_gnil, rd_gcons, rd_isi, noO_int, noO_bl, noO_str, noO_lst, noO_tup, noO_non, ini, iniB, wipeD, unw, kf, List.map_cons, List.map_nil, List.replicate_succ, List.replicate_zero, List.cons_append, List.nil_append, List.length_cons, List.length_nil, List.getElem?_cons_zero, List.getElem?_cons_succ, List.set_cons_zero, List.set_cons_succ, decide_eq_true_eq, Nat.zero_add, Nat.reduceAdd, Nat.reduceSub, Nat.reduceLeDiff, true_and, Bool.false_eq_true, if_false, if_true, isi_int_non, isi_int_bl, isi_int_int, isi_int_str, isi_int_lst, isi_int_tup, isi_bool_non, isi_bool_bl, isi_bool_int, isi_bool_str, isi_bool_lst, isi_bool_tup, isi_list_non, isi_list_bl, isi_list_int, isi_list_str, isi_list_lst, isi_list_tup, isi_tuple_non, isi_tuple_bl, isi_tuple_int, isi_tuple_str, isi_tuple_lst, isi_tuple_tup, isi_str_non, isi_str_bl, isi_str_int, isi_str_str, isi_str_lst, isi_str_tup, Bool.not_true, Bool.not_false, Bool.or_false, Bool.or_true, Bool.false_or, Bool.true_or, ite_true, ite_false, Option.some.injEq, true_or, false_or, or_false, and_true, rd_isOwn, rd_own1, rd_own2, rd_own3, rd_ixO, rd_onIx1, rd_onIx2, rd_store, rd_onStore1, rd_onStore2, ex_eq, xApp, xDput, S.ow.injEq, S.bg.injEq, S.od.injEq, reduceCtorEq, exists_eq_left', exists_eq_left, exists_eq', D.int.injEq, atI_c0, atI_c1, atI_c2, ixN3_0, ixN3_1, ixN3_2, false_and, and_self, xLm, xLoan]
    refine ⟨.int top, d, rfl, smA_int _, sx, ?_⟩
    rw [rfTop_int t1 t2, toldV_none]
    simp only [xSeq, xSet, xRet, xIf, xExpr, xNext, xNever, xC, xNil, xCons, xTup, xLst, xOp, xEq, xNe, xUn, xNot, xAnd, xOr, xIfE, xCB, xCall, xCallB, xName, xAsg, xIsi3, toD_fz, toD_ow, toD_od, toD_bg, rd_var, rd_getv1, rd_getv2, rd_getv3, rd_test, rd_onB, rd_onI, rd_onSB, rd_andV, rd_orV, rd_notV, rd_chain, rd_II, rd_II0, rd_add1, rd_add2, rd_add3, rd_mul1, rd_mul2, rd_mul3, rd_isN, rd_notN, rd_isN1, rd_isN2, rd_isN3, rd_neg, rd_ix1, rd_ix2, rd_part, rd_sl, rd_onSl1, rd_onSl2, rd_rev, rd_onRv, rd_len1, rd_len2, rd_max2, rd_min2, rd_int1, rd_int2, rd_lst1, rd_lst2, rd_tup1, rd_tup2, rd_dm, rd_seqI, rd_onSq1, rd_onSq2, rd_rng1, rd_onR1, rd_rng2, rd_onR2, xEnumT, rd_onEt, rd_zip, rd_onZ1, rd_onZ2, rd_par, rd_onP, xPar3, rd_onP3, rd_gtup, rd_gnil, rd_gcons, rd_isi, noO_int, noO_bl, noO_str, noO_lst, noO_tup, noO_non, ini, iniB, wipeD, unw, kf, List.map_cons, List.map_nil, List.replicate_succ, List.replicate_zero, List.cons_append, List.nil_append, List.length_cons, List.length_nil, List.getElem?_cons_zero, List.getElem?_cons_succ, List.set_cons_zero, List.set_cons_succ, decide_eq_true_eq, Nat.zero_add, Nat.reduceAdd, Nat.reduceSub, Nat.reduceLeDiff, true_and, Bool.false_eq_true, if_false, if_true, isi_int_non, isi_int_bl, isi_int_int, isi_int_str, isi_int_lst, isi_int_tup, isi_bool_non, isi_bool_bl, isi_bool_int, isi_bool_str, isi_bool_lst, isi_bool_tup, isi_list_non, isi_list_bl, isi_list_int, isi_list_str, isi_list_lst, isi_list_tup, isi_tuple_non, isi_tuple_bl, isi_tuple_int, isi_tuple_str, isi_tuple_lst, isi_tuple_tup, isi_str_non, isi_str_bl, isi_str_int, isi_str_str, isi_str_lst, isi_str_tup, Bool.not_true, Bool.not_false, Bool.or_false, Bool.or_true, Bool.false_or, Bool.true_or, ite_true, ite_false, Option.some.injEq, true_or, false_or, or_false, and_true, rd_isOwn, rd_own1, rd_own2, rd_own3, rd_ixO, rd_onIx1, rd_onIx2, rd_store, rd_onStore1, rd_onStore2, ex_eq, xApp, xDput, S.ow.injEq, S.bg.injEq, S.od.injEq, reduceCtorEq, exists_eq_left', exists_eq_left, exists_eq', D.int.injEq, atI_c0, atI_c1, atI_c2, ixN3_0, ixN3_1, ixN3_2, false_and, and_self, xLm, xLoan]
    refine ⟨marksD top d, rfl, ?_⟩
    simp only [xSeq, xSet, xRet, xIf, xExpr, xNext, xNever, xC, xNil, xCons, xTup, xLst, xOp, xEq, xNe, xUn, xNot, xAnd, xOr, xIfE, xCB, xCall, xCallB, xName, xAsg, xIsi3, toD_fz, toD_ow, toD_od, toD_bg, rd_var, rd_getv1, rd_getv2, rd_getv3, rd_test, rd_onB, rd_onI, rd_onSB, rd_andV, rd_orV, rd_notV, rd_chain, rd_II, rd_II0, rd_add1, rd_add2, rd_add3, rd_mul1, rd_mul2, rd_mul3, rd_isN, rd_notN, rd_isN1, rd_isN2, rd_isN3, rd_neg, rd_ix1, rd_ix2, rd_part, rd_sl, rd_onSl1, rd_onSl2, rd_rev, rd_onRv, rd_len1, rd_len2, rd_max2, rd_min2, rd_int1, rd_int2, rd_lst1, rd_lst2, rd_tup1, rd_tup2, rd_dm, rd_seqI, rd_onSq1, rd_onSq2, rd_rng1, rd_onR1, rd_rng2, rd_onR2, xEnumT, rd_onEt, rd_zip, rd_onZ1, rd_onZ2, rd_par, rd_onP, xPar3, rd_onP3, rd_gtup, rd_gnil, rd_gcons, rd_isi, noO_int, noO_bl, noO_str, noO_lst, noO_tup, noO_non, ini, iniB, wipeD, unw, kf, List.map_cons, List.map_nil, List.replicate_succ, List.replicate_zero, List.cons_append, List.nil_append, List.length_cons, List.length_nil, List.getElem?_cons_zero, List.getElem?_cons_succ, List.set_cons_zero, List.set_cons_succ, decide_eq_true_eq, Nat.zero_add, Nat.reduceAdd, Nat.reduceSub, Nat.reduceLeDiff, true_and, Bool.false_eq_true, if_false, if_true, isi_int_non, isi_int_bl, isi_int_int, isi_int_str, isi_int_lst, isi_int_tup, isi_bool_non, isi_bool_bl, isi_bool_int, isi_bool_str, isi_bool_lst, isi_bool_tup, isi_list_non, isi_list_bl, isi_list_int, isi_list_str, isi_list_lst, isi_list_tup, isi_tuple_non, isi_tuple_bl, isi_tuple_int, isi_tuple_str, isi_tuple_lst, isi_tuple_tup, isi_str_non, isi_str_bl, isi_str_int, isi_str_str, isi_str_lst, isi_str_tup, Bool.not_true, Bool.not_false, Bool.or_false, Bool.or_true, Bool.false_or, Bool.true_or, ite_true, ite_false, Option.some.injEq, true_or, false_or, or_false, and_true, rd_isOwn, rd_own1, rd_own2, rd_own3, rd_ixO, rd_onIx1, rd_onIx2, rd_store, rd_onStore1, rd_onStore2, ex_eq, xApp, xDput, S.ow.injEq, S.bg.injEq, S.od.injEq, reduceCtorEq, exists_eq_left', exists_eq_left, exists_eq', D.int.injEq, atI_c0, atI_c1, atI_c2, ixN3_0, ixN3_1, ixN3_2, false_and, and_self, xLm, xLoan]
    rcases Bool.eq_false_or_eq_true (marksD top d) with hk | hk
    · simp only [xSeq, xSet, xRet, xIf, xExpr, xNext, xNever, xC, xNil, xCons, xTup, xLst, xOp, xEq, xNe, xUn, xNot, xAnd, xOr, xIfE, xCB, xCall, xCallB, xName, xAsg, xIsi3, toD_fz, toD_ow, toD_od, toD_bg, rd_var, rd_getv1, rd_getv2, rd_getv3, rd_test, rd_onB, rd_onI, rd_onSB, rd_andV, rd_orV, rd_notV, rd_chain, rd_II, rd_II0, rd_add1, rd_add2, rd_add3, rd_mul1, rd_mul2, rd_mul3, rd_isN, rd_notN, rd_isN1, rd_isN2, rd_isN3, rd_neg, rd_ix1, rd_ix2, rd_part, rd_sl, rd_onSl1, rd_onSl2, rd_rev, rd_onRv, rd_len1, rd_len2, rd_max2, rd_min2, rd_int1, rd_int2, rd_lst1, rd_lst2, rd_tup1, rd_tup2, rd_dm, rd_seqI, rd_onSq1, rd_onSq2, rd_rng1, rd_onR1, rd_rng2, rd_onR2, xEnumT, rd_onEt, rd_zip, rd_onZ1, rd_onZ2, rd_par, rd_onP, xPar3, rd_onP3, rd_gtup, rd_gnil, rd_gcons, rd_isi, noO_int, noO_bl, noO_str, noO_lst, noO_tup, noO_non, ini, iniB, wipeD, unw, kf, List.map_cons, List.map_nil, List.replicate_succ, List.replicate_zero, List.cons_append, List.nil_append, List.length_cons, List.length_nil, List.getElem?_cons_zero, List.getElem?_cons_succ, List.set_cons_zero, List.set_cons_succ, decide_eq_true_eq, Nat.zero_add, Nat.reduceAdd, Nat.reduceSub, Nat.reduceLeDiff, true_and, Bool.false_eq_true, if_false, if_true, isi_int_non, isi_int_bl, isi_int_int, isi_int_str, isi_int_lst, isi_int_tup, isi_bool_non, isi_bool_bl, isi_bool_int, isi_bool_str, isi_bool_lst, isi_bool_tup, isi_list_non, isi_list_bl, isi_list_int, isi_list_str, isi_list_lst, isi_list_tup, isi_tuple_non, isi_tuple_bl, isi_tuple_int, isi_tuple_str, isi_tuple_lst, isi_tuple_tup, isi_str_non, isi_str_bl, isi_str_int, isi_str_str, isi_str_lst, isi_str_tup, Bool.not_true, Bool.not_false, Bool.or_false, Bool.or_true, Bool.false_or, Bool.true_or, ite_true, ite_false, Option.some.injEq, true_or, false_or, or_false, and_true, rd_isOwn, rd_own1, rd_own2, rd_own3, rd_ixO, rd_onIx1, rd_onIx2, rd_store, rd_onStore1, rd_onStore2, ex_eq, xApp, xDput, S.ow.injEq, S.bg.injEq, S.od.injEq, reduceCtorEq, exists_eq_left', exists_eq_left, exists_eq', D.int.injEq, atI_c0, atI_c1, atI_c2, ixN3_0, ixN3_1, ixN3_2, false_and, and_self, hk]
      exact ⟨_, _, _, _, rfl⟩
    · simp only [xSeq, xSet, xRet, xIf, xExpr, xNext, xNever, xC, xNil, xCons, xTup, xLst, xOp, xEq, xNe, xUn, xNot, xAnd, xOr, xIfE, xCB, xCall, xCallB, xName, xAsg, xIsi3, toD_fz, toD_ow, toD_od, toD_bg, rd_var, rd_getv1, rd_getv2, rd_getv3, rd_test, rd_onB, rd_onI, rd_onSB, rd_andV, rd_orV, rd_notV, rd_chain, rd_II, rd_II0, rd_add1, rd_add2, rd_add3, rd_mul1, rd_mul2, rd_mul3, rd_isN, rd_notN, rd_isN1, rd_isN2, rd_isN3, rd_neg, rd_ix1, rd_ix2, rd_part, rd_sl, rd_onSl1, rd_onSl2, rd_rev, rd_onRv, rd_len1, rd_len2, rd_max2, rd_min2, rd_int1, rd_int2, rd_lst1, rd_lst2, rd_tup1, rd_tup2, rd_dm, rd_seqI, rd_onSq1, rd_onSq2, rd_rng1, rd_onR1, rd_rng2, rd_onR2, xEnumT, rd_onEt, rd_zip, rd_onZ1, rd_onZ2, rd_par, rd_onP, xPar3, rd_onP3, rd_gtup, rd_gnil, rd_gcons, rd_isi, noO_int, noO_bl, noO_str, noO_lst, noO_tup, noO_non, ini, iniB, wipeD, unw, kf, List.map_cons, List.map_nil, List.replicate_succ, List.replicate_zero, List.cons_append, List.nil_append, List.length_cons, List.length_nil, List.getElem?_cons_zero, List.getElem?_cons_succ, List.set_cons_zero, List.set_cons_succ, decide_eq_true_eq, Nat.zero_add, Nat.reduceAdd, Nat.reduceSub, Nat.reduceLeDiff, true_and, Bool.false_eq_true, if_false, if_true, isi_int_non, isi_int_bl, isi_int_int, isi_int_str, isi_int_lst, isi_int_tup, isi_bool_non, isi_bool_bl, isi_bool_int, isi_bool_str, isi_bool_lst, isi_bool_tup, isi_list_non, isi_list_bl, isi_list_int, isi_list_str, isi_list_lst, isi_list_tup, isi_tuple_non, isi_tuple_bl, isi_tuple_int, isi_tuple_str, isi_tuple_lst, isi_tuple_tup, isi_str_non, isi_str_bl, isi_str_int, isi_str_str, isi_str_lst, isi_str_tup, Bool.not_true, Bool.not_false, Bool.or_false, Bool.or_true, Bool.false_or, Bool.true_or, ite_true, ite_false, Option.some.injEq, true_or, false_or, or_false, and_true, rd_isOwn, rd_own1, rd_own2, rd_own3, rd_ixO, rd_onIx1, rd_onIx2, rd_store, rd_onStore1, rd_onStore2, ex_eq, xApp, xDput, S.ow.injEq, S.bg.injEq, S.od.injEq, reduceCtorEq, exists_eq_left', exists_eq_left, exists_eq', D.int.injEq, atI_c0, atI_c1, atI_c2, ixN3_0, ixN3_1, ixN3_2, false_and, and_self, hk, xLm, xLoan]
      have hc : rfMarks (.int top) d = some (nmC 1) := by
        unfold rfMarks
        rw [rfTop_int t1 t2]
        show rfM top d = some (nmC 1)
        unfold rfM
        rw [hk]
        rfl
      refine ⟨.int top, d, 1, by decide, rfl, smA_int _, sx, hc, ?_⟩
      simp only [xSeq, xSet, xRet, xIf, xExpr, xNext, xNever, xC, xNil, xCons, xTup, xLst, xOp, xEq, xNe, xUn, xNot, xAnd, xOr, xIfE, xCB, xCall, xCallB, xName, xAsg, xIsi3, toD_fz, toD_ow, toD_od, toD_bg, rd_var, rd_getv1, rd_getv2, rd_getv3, rd_test, rd_onB, rd_onI, rd_onSB, rd_andV, rd_orV, rd_notV, rd_chain, rd_II, rd_II0, rd_add1, rd_add2, rd_add3, rd_mul1, rd_mul2, rd_mul3, rd_isN, rd_notN, rd_isN1, rd_isN2, rd_isN3, rd_neg, rd_ix1, rd_ix2, rd_part, rd_sl, rd_onSl1, rd_onSl2, rd_rev, rd_onRv, rd_len1, rd_len2, rd_max2, rd_min2, rd_int1, rd_int2, rd_lst1, rd_lst2, rd_tup1, rd_tup2, rd_dm, rd_seqI, rd_onSq1, rd_onSq2, rd_rng1, rd_onR1, rd_rng2, rd_onR2, xEnumT, rd_onEt, rd_zip, rd_onZ1, rd_onZ2, rd_par, rd_onP, xPar3, rd_onP3, rd_gtup, rd_gnil, rd_gcons, rd_isi, noO_int, noO_bl, noO_str, noO_lst, noO_tup, noO_non, ini, iniB, wipeD, unw, kf, List.map_cons, List.map_nil, List.replicate_succ, List.replicate_zero, List.cons_append, List.nil_append, List.length_cons, List.length_nil, List.getElem?_cons_zero, List.getElem?_cons_succ, List.set_cons_zero, List.set_cons_succ, decide_eq_true_eq, Nat.zero_add, Nat.reduceAdd, Nat.reduceSub, Nat.reduceLeDiff, true_and, Bool.false_eq_true, if_false, if_true, isi_int_non, isi_int_bl, isi_int_int, isi_int_str, isi_int_lst, isi_int_tup, isi_bool_non, isi_bool_bl, isi_bool_int, isi_bool_str, isi_bool_lst, isi_bool_tup, isi_list_non, isi_list_bl, isi_list_int, isi_list_str, isi_list_lst, isi_list_tup, isi_tuple_non, isi_tuple_bl, isi_tuple_int, isi_tuple_str, isi_tuple_lst, isi_tuple_tup, isi_str_non, isi_str_bl, isi_str_int, isi_str_str, isi_str_lst, isi_str_tup, Bool.not_true, Bool.not_false, Bool.or_false, Bool.or_true, Bool.false_or, Bool.true_or, ite_true, ite_false, Option.some.injEq, true_or, false_or, or_false, and_true, rd_isOwn, rd_own1, rd_own2, rd_own3, rd_ixO, rd_onIx1, rd_onIx2, rd_store, rd_onStore1, rd_onStore2, ex_eq, xApp, xDput, S.ow.injEq, S.bg.injEq, S.od.injEq, reduceCtorEq, exists_eq_left', exists_eq_left, exists_eq', D.int.injEq, atI_c0, atI_c1, atI_c2, ixN3_0, ixN3_1, ixN3_2, false_and, and_self, xLm, xLoan]
      have hb0 : rfBoth (.int top) (.tup []) d = some (nmC 1) := by
        unfold rfBoth
        rw [rfMarks_ok t1 t2 (show marksD top (.tup []) = true from rfl)]
        exact hc
      refine ⟨_, turns_cons (turn_lst (turns_cons turn_same (turns_cons turn_same (turns_cons turn_same (turns_cons turn_same (turns_cons turn_same (turns_cons turn_same (turns_cons turn_same (turns_cons turn_same (turns_cons turn_same (turns_cons turn_same (turns_cons turn_same (turns_cons turn_same (turns_cons (turn_lam (k := 6) (c := nmC 1) [false, false, true, false, false, true, false, false, false] (by rfl) (by rfl) (fun _ _ _ _ _ => rfl) (fun W hs hb f2 c2 A2 o2 s2 H2 E2 C2 ED2 hr2 hE2 => by obtain ⟨q, params, body, scope, cl⟩ := W; dsimp only at hs hb; subst hs hb; exact d_fnL hE2 h_how_many (hr2.mono (by decide)) (da_cons (dv 2) (da_cons (d_tup da_nil) (da_cons (dv 5) (da_cons d_non da_nil))))) (by trivial) ?_) (turns_cons (turn_lam (k := 6) (c := nmC 1) [false, false, true, false, false, true, false, false, false] (by rfl) (by rfl) (fun _ _ _ _ _ => rfl) (fun W hs hb f2 c2 A2 o2 s2 H2 E2 C2 ED2 hr2 hE2 => by obtain ⟨q, params, body, scope, cl⟩ := W; dsimp only at hs hb; subst hs hb; exact d_fnL hE2 h_alike_by (hr2.mono (by decide)) (da_cons (dv 2) (da_cons (d_tup da_nil) (da_cons (dv 5) da_nil)))) (by trivial) ?_) (turns_cons (turn_lam (k := 6) (c := nmC 1) [false, false, true, false, false, true, false, false, false] (by rfl) (by rfl) (fun _ _ _ _ _ => rfl) (fun W hs hb f2 c2 A2 o2 s2 H2 E2 C2 ED2 hr2 hE2 => by obtain ⟨q, params, body, scope, cl⟩ := W; dsimp only at hs hb; subst hs hb; exact d_fnL hE2 h_shortest (hr2.mono (by decide)) (da_cons (dv 2) (da_cons (d_tup da_nil) (da_cons (dv 5) da_nil)))) (by trivial) ?_) turns_nil)))))))))))))))) (turns_cons turn_same turns_nil), rfl, 1, 15, by decide, by decide, rfl, ⟨_, rfl, rfl⟩, ?_⟩
      · simp only [xSeq, xSet, xRet, xIf, xExpr, xNext, xNever, xC, xNil, xCons, xTup, xLst, xOp, xEq, xNe, xUn, xNot, xAnd, xOr, xIfE, xCB, xCall, xCallB, xName, xAsg, xIsi3, toD_fz, toD_ow, toD_od, toD_bg, rd_var, rd_getv1, rd_getv2, rd_getv3, rd_test, rd_onB, rd_onI, rd_onSB, rd_andV, rd_orV, rd_notV, rd_chain, rd_II, rd_II0, rd_add1, rd_add2, rd_add3, rd_mul1, rd_mul2, rd_mul3, rd_isN, rd_notN, rd_isN1, rd_isN2, rd_isN3, rd_neg, rd_ix1, rd_ix2, rd_part, rd_sl, rd_onSl1, rd_onSl2, rd_rev, rd_onRv, rd_len1, rd_len2, rd_max2, rd_min2, rd_int1, rd_int2, rd_lst1, rd_lst2, rd_tup1, rd_tup2, rd_dm, rd_seqI, rd_onSq1, rd_onSq2, rd_rng1, rd_onR1, rd_rng2, rd_onR2, xEnumT, rd_onEt, rd_zip, rd_onZ1, rd_onZ2, rd_par, rd_onP, xPar3, rd_onP3, rd_gtup, rd_gnil, rd_gcons, rd_isi, noO_int, noO_bl, noO_str, noO_lst, noO_tup, noO_non, ini, iniB, wipeD, unw, kf, List.map_cons, List.map_nil, List.replicate_succ, List.replicate_zero, List.cons_append, List.nil_append, List.length_cons, List.length_nil, List.getElem?_cons_zero, List.getElem?_cons_succ, List.set_cons_zero, List.set_cons_succ, decide_eq_true_eq, Nat.zero_add, Nat.reduceAdd, Nat.reduceSub, Nat.reduceLeDiff, true_and, Bool.false_eq_true, if_false, if_true, isi_int_non, isi_int_bl, isi_int_int, isi_int_str, isi_int_lst, isi_int_tup, isi_bool_non, isi_bool_bl, isi_bool_int, isi_bool_str, isi_bool_lst, isi_bool_tup, isi_list_non, isi_list_bl, isi_list_int, isi_list_str, isi_list_lst, isi_list_tup, isi_tuple_non, isi_tuple_bl, isi_tuple_int, isi_tuple_str, isi_tuple_lst, isi_tuple_tup, isi_str_non, isi_str_bl, isi_str_int, isi_str_str, isi_str_lst, isi_str_tup, Bool.not_true, Bool.not_false, Bool.or_false, Bool.or_true, Bool.false_or, Bool.true_or, ite_true, ite_false, Option.some.injEq, true_or, false_or, or_false, and_true, capD]
        exact ⟨.int top, .tup [], d, .non, rfl, smA_int _, ⟨1, rfl⟩, sx, smA_non, nmC 1, by simp only [hb0, then_some], rfl⟩
      · simp only [xSeq, xSet, xRet, xIf, xExpr, xNext, xNever, xC, xNil, xCons, xTup, xLst, xOp, xEq, xNe, xUn, xNot, xAnd, xOr, xIfE, xCB, xCall, xCallB, xName, xAsg, xIsi3, toD_fz, toD_ow, toD_od, toD_bg, rd_var, rd_getv1, rd_getv2, rd_getv3, rd_test, rd_onB, rd_onI, rd_onSB, rd_andV, rd_orV, rd_notV, rd_chain, rd_II, rd_II0, rd_add1, rd_add2, rd_add3, rd_mul1, rd_mul2, rd_mul3, rd_isN, rd_notN, rd_isN1, rd_isN2, rd_isN3, rd_neg, rd_ix1, rd_ix2, rd_part, rd_sl, rd_onSl1, rd_onSl2, rd_rev, rd_onRv, rd_len1, rd_len2, rd_max2, rd_min2, rd_int1, rd_int2, rd_lst1, rd_lst2, rd_tup1, rd_tup2, rd_dm, rd_seqI, rd_onSq1, rd_onSq2, rd_rng1, rd_onR1, rd_rng2, rd_onR2, xEnumT, rd_onEt, rd_zip, rd_onZ1, rd_onZ2, rd_par, rd_onP, xPar3, rd_onP3, rd_gtup, rd_gnil, rd_gcons, rd_isi, noO_int, noO_bl, noO_str, noO_lst, noO_tup, noO_non, ini, iniB, wipeD, unw, kf, List.map_cons, List.map_nil, List.replicate_succ, List.replicate_zero, List.cons_append, List.nil_append, List.length_cons, List.length_nil, List.getElem?_cons_zero, List.getElem?_cons_succ, List.set_cons_zero, List.set_cons_succ, decide_eq_true_eq, Nat.zero_add, Nat.reduceAdd, Nat.reduceSub, Nat.reduceLeDiff, true_and, Bool.false_eq_true, if_false, if_true, isi_int_non, isi_int_bl, isi_int_int, isi_int_str, isi_int_lst, isi_int_tup, isi_bool_non, isi_bool_bl, isi_bool_int, isi_bool_str, isi_bool_lst, isi_bool_tup, isi_list_non, isi_list_bl, isi_list_int, isi_list_str, isi_list_lst, isi_list_tup, isi_tuple_non, isi_tuple_bl, isi_tuple_int, isi_tuple_str, isi_tuple_lst, isi_tuple_tup, isi_str_non, isi_str_bl, isi_str_int, isi_str_str, isi_str_lst, isi_str_tup, Bool.not_true, Bool.not_false, Bool.or_false, Bool.or_true, Bool.false_or, Bool.true_or, ite_true, ite_false, Option.some.injEq, true_or, false_or, or_false, and_true, capD]
        exact ⟨.int top, .tup [], d, rfl, smA_int _, ⟨1, rfl⟩, sx, nmC 1, hb0, rfl⟩
      · simp only [xSeq, xSet, xRet, xIf, xExpr, xNext, xNever, xC, xNil, xCons, xTup, xLst, xOp, xEq, xNe, xUn, xNot, xAnd, xOr, xIfE, xCB, xCall, xCallB, xName, xAsg, xIsi3, toD_fz, toD_ow, toD_od, toD_bg, rd_var, rd_getv1, rd_getv2, rd_getv3, rd_test, rd_onB, rd_onI, rd_onSB, rd_andV, rd_orV, rd_notV, rd_chain, rd_II, rd_II0, rd_add1, rd_add2, rd_add3, rd_mul1, rd_mul2, rd_mul3, rd_isN, rd_notN, rd_isN1, rd_isN2, rd_isN3, rd_neg, rd_ix1, rd_ix2, rd_part, rd_sl, rd_onSl1, rd_onSl2, rd_rev, rd_onRv, rd_len1, rd_len2, rd_max2, rd_min2, rd_int1, rd_int2, rd_lst1, rd_lst2, rd_tup1, rd_tup2, rd_dm, rd_seqI, rd_onSq1, rd_onSq2, rd_rng1, rd_onR1, rd_rng2, rd_onR2, xEnumT, rd_onEt, rd_zip, rd_onZ1, rd_onZ2, rd_par, rd_onP, xPar3, rd_onP3, rd_gtup, rd_gnil, rd_gcons, rd_isi, noO_int, noO_bl, noO_str, noO_lst, noO_tup, noO_non, ini, iniB, wipeD, unw, kf, List.map_cons, List.map_nil, List.replicate_succ, List.replicate_zero, List.cons_append, List.nil_append, List.length_cons, List.length_nil, List.getElem?_cons_zero, List.getElem?_cons_succ, List.set_cons_zero, List.set_cons_succ, decide_eq_true_eq, Nat.zero_add, Nat.reduceAdd, Nat.reduceSub, Nat.reduceLeDiff, true_and, Bool.false_eq_true, if_false, if_true, isi_int_non, isi_int_bl, isi_int_int, isi_int_str, isi_int_lst, isi_int_tup, isi_bool_non, isi_bool_bl, isi_bool_int, isi_bool_str, isi_bool_lst, isi_bool_tup, isi_list_non, isi_list_bl, isi_list_int, isi_list_str, isi_list_lst, isi_list_tup, isi_tuple_non, isi_tuple_bl, isi_tuple_int, isi_tuple_str, isi_tuple_lst, isi_tuple_tup, isi_str_non, isi_str_bl, isi_str_int, isi_str_str, isi_str_lst, isi_str_tup, Bool.not_true, Bool.not_false, Bool.or_false, Bool.or_true, Bool.false_or, Bool.true_or, ite_true, ite_false, Option.some.injEq, true_or, false_or, or_false, and_true, capD]
        exact ⟨.int top, .tup [], d, rfl, smA_int _, ⟨1, rfl⟩, sx, nmC 1, hb0, rfl⟩
      · simp only [xSeq, xSet, xRet, xIf, xExpr, xNext, xNever, xC, xNil, xCons, xTup, xLst, xOp, xEq, xNe, xUn, xNot, xAnd, xOr, xIfE, xCB, xCall, xCallB, xName, xAsg, xIsi3, toD_fz, toD_ow, toD_od, toD_bg, rd_var, rd_getv1, rd_getv2, rd_getv3, rd_test, rd_onB, rd_onI, rd_onSB, rd_andV, rd_orV, rd_notV, rd_chain, rd_II, rd_II0, rd_add1, rd_add2, rd_add3, rd_mul1, rd_mul2, rd_mul3, rd_isN, rd_notN, rd_isN1, rd_isN2, rd_isN3, rd_neg, rd_ix1, rd_ix2, rd_part, rd_sl, rd_onSl1, rd_onSl2, rd_rev, rd_onRv, rd_len1, rd_len2, rd_max2, rd_min2, rd_int1, rd_int2, rd_lst1, rd_lst2, rd_tup1, rd_tup2, rd_dm, rd_seqI, rd_onSq1, rd_onSq2, rd_rng1, rd_onR1, rd_rng2, rd_onR2, xEnumT, rd_onEt, rd_zip, rd_onZ1, rd_onZ2, rd_par, rd_onP, xPar3, rd_onP3, rd_gtup, rd_gnil, rd_gcons, rd_isi, noO_int, noO_bl, noO_str, noO_lst, noO_tup, noO_non, ini, iniB, wipeD, unw, kf, List.map_cons, List.map_nil, List.replicate_succ, List.replicate_zero, List.cons_append, List.nil_append, List.length_cons, List.length_nil, List.getElem?_cons_zero, List.getElem?_cons_succ, List.set_cons_zero, List.set_cons_succ, decide_eq_true_eq, Nat.zero_add, Nat.reduceAdd, Nat.reduceSub, Nat.reduceLeDiff, true_and, Bool.false_eq_true, if_false, if_true, isi_int_non, isi_int_bl, isi_int_int, isi_int_str, isi_int_lst, isi_int_tup, isi_bool_non, isi_bool_bl, isi_bool_int, isi_bool_str, isi_bool_lst, isi_bool_tup, isi_list_non, isi_list_bl, isi_list_int, isi_list_str, isi_list_lst, isi_list_tup, isi_tuple_non, isi_tuple_bl, isi_tuple_int, isi_tuple_str, isi_tuple_lst, isi_tuple_tup, isi_str_non, isi_str_bl, isi_str_int, isi_str_str, isi_str_lst, isi_str_tup, Bool.not_true, Bool.not_false, Bool.or_false, Bool.or_true, Bool.false_or, Bool.true_or, ite_true, ite_false, Option.some.injEq, true_or, false_or, or_false, and_true, rd_isOwn, rd_own1, rd_own2, rd_own3, rd_ixO, rd_onIx1, rd_onIx2, rd_store, rd_onStore1, rd_onStore2, ex_eq, xApp, xDput, S.ow.injEq, S.bg.injEq, S.od.injEq, reduceCtorEq, exists_eq_left', exists_eq_left, exists_eq', D.int.injEq, atI_c0, atI_c1, atI_c2, ixN3_0, ixN3_1, ixN3_2, false_and, and_self]
        exact ⟨_, _, _, _, rfl⟩
  · obtain ⟨x5, x6, x7, x8, rfl⟩ := hI
    refine ⟨fun i ρ => ∃ x5 x6 x7 x8, ρ = [none, some (.bg b2), some (.fz (.int top)), some (.fz (.tup (ms.map D.int))), some (.fz (.lst (thingsL top ms l))), x5, x6, x7, x8], ⟨_, _, _, _, rfl⟩, fun i d ρ hd hI => ?_, fun ρ hI => ?_⟩
    · obtain ⟨x5, x6, x7, x8, rfl⟩ := hI
      have hP := oddP d (List.mem_of_getElem? (show oddL[i]? = some d from hd))
      have hc : rfMarks d (.tup []) = some (nmC 0) := by
        unfold rfMarks
        rw [hP.2]
        rfl
      simp only [xSeq, xSet, xRet, xIf, xExpr, xNext, xNever, xC, xNil, xCons, xTup, xLst, xOp, xEq, xNe, xUn, xNot, xAnd, xOr, xIfE, xCB, xCall, xCallB, xName, xAsg, xIsi3, toD_fz, toD_ow, toD_od, toD_bg, rd_var, rd_getv1, rd_getv2, rd_getv3, rd_test, rd_onB, rd_onI, rd_onSB, rd_andV, rd_orV, rd_notV, rd_chain, rd_II, rd_II0, rd_add1, rd_add2, rd_add3, rd_mul1, rd_mul2, rd_mul3, rd_isN, rd_notN, rd_isN1, rd_isN2, rd_isN3, rd_neg, rd_ix1, rd_ix2, rd_part, rd_sl, rd_onSl1, rd_onSl2, rd_rev, rd_onRv, rd_len1, rd_len2, rd_max2, rd_min2, rd_int1, rd_int2, rd_lst1, rd_lst2, rd_tup1, rd_tup2, rd_dm, rd_seqI, rd_onSq1, rd_onSq2, rd_rng1, rd_onR1, rd_rng2, rd_onR2, xEnumT, rd_onEt, rd_zip, rd_onZ1, rd_onZ2, rd_par, rd_onP, xPar3, rd_onP3, rd_gtup, rd_gnil, rd_gcons, rd_isi, noO_int, noO_bl, noO_str, noO_lst, noO_tup, noO_non, ini, iniB, wipeD, unw, kf, List.map_cons, List.map_nil, List.replicate_succ, List.replicate_zero, List.cons_append, List.nil_append, List.length_cons, List.length_nil, List.getElem?_cons_zero, List.getElem?_cons_succ, List.set_cons_zero, List.set_cons_succ, decide_eq_true_eq, Nat.zero_add, Nat.reduceAdd, Nat.reduceSub, Nat.reduceLeDiff, true_and, Bool.false_eq_true, if_false, if_true, isi_int_non, isi_int_bl, isi_int_int, isi_int_str, isi_int_lst, isi_int_tup, isi_bool_non, isi_bool_bl, isi_bool_int, isi_bool_str, isi_bool_lst, isi_bool_tup, isi_list_non, isi_list_bl, isi_list_int, isi_list_str, isi_list_lst, isi_list_tup, isi_tuple_non, isi_tuple_bl, isi_tuple_int, isi_tuple_str, isi_tuple_lst, isi_tuple_tup, isi_str_non, isi_str_bl, isi_str_int, isi_str_str, isi_str_lst, isi_str_tup, Bool.not_true, Bool.not_false, Bool.or_false, Bool.or_true, Bool.false_or, Bool.true_or, ite_true, ite_false, Option.some.injEq, true_or, false_or, or_false, and_true, rd_isOwn, rd_own1, rd_own2, rd_own3, rd_ixO, rd_onIx1, rd_onIx2, rd_store, rd_onStore1, rd_onStore2, ex_eq, xApp, xDput, S.ow.injEq, S.bg.injEq, S.od.injEq, reduceCtorEq, exists_eq_left', exists_eq_left, exists_eq', D.int.injEq, atI_c0, atI_c1, atI_c2, ixN3_0, ixN3_1, ixN3_2, false_and, and_self, xLm, xLoan]
      refine ⟨d, .tup [], 0, by decide, rfl, hP.1, ⟨1, rfl⟩, hc, ?_⟩
      simp only [xSeq, xSet, xRet, xIf, xExpr, xNext, xNever, xC, xNil, xCons, xTup, xLst, xOp, xEq, xNe, xUn, xNot, xAnd, xOr, xIfE, xCB, xCall, xCallB, xName, xAsg, xIsi3, toD_fz, toD_ow, toD_od, toD_bg, rd_var, rd_getv1, rd_getv2, rd_getv3, rd_test, rd_onB, rd_onI, rd_onSB, rd_andV, rd_orV, rd_notV, rd_chain, rd_II, rd_II0, rd_add1, rd_add2, rd_add3, rd_mul1, rd_mul2, rd_mul3, rd_isN, rd_notN, rd_isN1, rd_isN2, rd_isN3, rd_neg, rd_ix1, rd_ix2, rd_part, rd_sl, rd_onSl1, rd_onSl2, rd_rev, rd_onRv, rd_len1, rd_len2, rd_max2, rd_min2, rd_int1, rd_int2, rd_lst1, rd_lst2, rd_tup1, rd_tup2, rd_dm, rd_seqI, rd_onSq1, rd_onSq2, rd_rng1, rd_onR1, rd_rng2, rd_onR2, xEnumT, rd_onEt, rd_zip, rd_onZ1, rd_onZ2, rd_par, rd_onP, xPar3, rd_onP3, rd_gtup, rd_gnil, rd_gcons, rd_isi, noO_int, noO_bl, noO_str, noO_lst, noO_tup, noO_non, ini, iniB, wipeD, unw, kf, List.map_cons, List.map_nil, List.replicate_succ, List.replicate_zero, List.cons_append, List.nil_append, List.length_cons, List.length_nil, List.getElem?_cons_zero, List.getElem?_cons_succ, List.set_cons_zero, List.set_cons_succ, decide_eq_true_eq, Nat.zero_add, Nat.reduceAdd, Nat.reduceSub, Nat.reduceLeDiff, true_and, Bool.false_eq_true, if_false, if_true, isi_int_non, isi_int_bl, isi_int_int, isi_int_str, isi_int_lst, isi_int_tup, isi_bool_non, isi_bool_bl, isi_bool_int, isi_bool_str, isi_bool_lst, isi_bool_tup, isi_list_non, isi_list_bl, isi_list_int, isi_list_str, isi_list_lst, isi_list_tup, isi_tuple_non, isi_tuple_bl, isi_tuple_int, isi_tuple_str, isi_tuple_lst, isi_tuple_tup, isi_str_non, isi_str_bl, isi_str_int, isi_str_str, isi_str_lst, isi_str_tup, Bool.not_true, Bool.not_false, Bool.or_false, Bool.or_true, Bool.false_or, Bool.true_or, ite_true, ite_false, Option.some.injEq, true_or, false_or, or_false, and_true, rd_isOwn, rd_own1, rd_own2, rd_own3, rd_ixO, rd_onIx1, rd_onIx2, rd_store, rd_onStore1, rd_onStore2, ex_eq, xApp, xDput, S.ow.injEq, S.bg.injEq, S.od.injEq, reduceCtorEq, exists_eq_left', exists_eq_left, exists_eq', D.int.injEq, atI_c0, atI_c1, atI_c2, ixN3_0, ixN3_1, ixN3_2, false_and, and_self, xLm, xLoan]
      refine ⟨_, turns_cons (turn_lst (turns_cons turn_same (turns_cons turn_same (turns_cons turn_same (turns_cons turn_same (turns_cons turn_same (turns_cons turn_same (turns_cons turn_same (turns_cons turn_same (turns_cons turn_same (turns_cons turn_same (turns_cons turn_same (turns_cons turn_same (turns_cons (turn_lam (k := 6) (c := nmC 0) [false, false, false, false, false, false, false, false, true] (by rfl) (by rfl) (fun _ _ _ _ _ => rfl) (fun W hs hb f2 c2 A2 o2 s2 H2 E2 C2 ED2 hr2 hE2 => by obtain ⟨q, params, body, scope, cl⟩ := W; dsimp only at hs hb; subst hs hb; exact d_fnL hE2 h_are_marks (hr2.mono (by decide)) (da_cons (dv 8) (da_cons (d_tup da_nil) da_nil))) (by trivial) ?_) turns_nil)))))))))))))) (turns_cons turn_same turns_nil), rfl, 0, 13, by decide, by decide, rfl, ⟨_, rfl, rfl⟩, ?_⟩
      · simp only [xSeq, xSet, xRet, xIf, xExpr, xNext, xNever, xC, xNil, xCons, xTup, xLst, xOp, xEq, xNe, xUn, xNot, xAnd, xOr, xIfE, xCB, xCall, xCallB, xName, xAsg, xIsi3, toD_fz, toD_ow, toD_od, toD_bg, rd_var, rd_getv1, rd_getv2, rd_getv3, rd_test, rd_onB, rd_onI, rd_onSB, rd_andV, rd_orV, rd_notV, rd_chain, rd_II, rd_II0, rd_add1, rd_add2, rd_add3, rd_mul1, rd_mul2, rd_mul3, rd_isN, rd_notN, rd_isN1, rd_isN2, rd_isN3, rd_neg, rd_ix1, rd_ix2, rd_part, rd_sl, rd_onSl1, rd_onSl2, rd_rev, rd_onRv, rd_len1, rd_len2, rd_max2, rd_min2, rd_int1, rd_int2, rd_lst1, rd_lst2, rd_tup1, rd_tup2, rd_dm, rd_seqI, rd_onSq1, rd_onSq2, rd_rng1, rd_onR1, rd_rng2, rd_onR2, xEnumT, rd_onEt, rd_zip, rd_onZ1, rd_onZ2, rd_par, rd_onP, xPar3, rd_onP3, rd_gtup, rd_gnil, rd_gcons, rd_isi, noO_int, noO_bl, noO_str, noO_lst, noO_tup, noO_non, ini, iniB, wipeD, unw, kf, List.map_cons, List.map_nil, List.replicate_succ, List.replicate_zero, List.cons_append, List.nil_append, List.length_cons, List.length_nil, List.getElem?_cons_zero, List.getElem?_cons_succ, List.set_cons_zero, List.set_cons_succ, decide_eq_true_eq, Nat.zero_add, Nat.reduceAdd, Nat.reduceSub, Nat.reduceLeDiff, true_and, Bool.false_eq_true, if_false, if_true, isi_int_non, isi_int_bl, isi_int_int, isi_int_str, isi_int_lst, isi_int_tup, isi_bool_non, isi_bool_bl, isi_bool_int, isi_bool_str, isi_bool_lst, isi_bool_tup, isi_list_non, isi_list_bl, isi_list_int, isi_list_str, isi_list_lst, isi_list_tup, isi_tuple_non, isi_tuple_bl, isi_tuple_int, isi_tuple_str, isi_tuple_lst, isi_tuple_tup, isi_str_non, isi_str_bl, isi_str_int, isi_str_str, isi_str_lst, isi_str_tup, Bool.not_true, Bool.not_false, Bool.or_false, Bool.or_true, Bool.false_or, Bool.true_or, ite_true, ite_false, Option.some.injEq, true_or, false_or, or_false, and_true, capD]
        exact ⟨d, .tup [], rfl, hP.1, ⟨1, rfl⟩, by rw [hP.2]; rfl⟩
      · simp only [xSeq, xSet, xRet, xIf, xExpr, xNext, xNever, xC, xNil, xCons, xTup, xLst, xOp, xEq, xNe, xUn, xNot, xAnd, xOr, xIfE, xCB, xCall, xCallB, xName, xAsg, xIsi3, toD_fz, toD_ow, toD_od, toD_bg, rd_var, rd_getv1, rd_getv2, rd_getv3, rd_test, rd_onB, rd_onI, rd_onSB, rd_andV, rd_orV, rd_notV, rd_chain, rd_II, rd_II0, rd_add1, rd_add2, rd_add3, rd_mul1, rd_mul2, rd_mul3, rd_isN, rd_notN, rd_isN1, rd_isN2, rd_isN3, rd_neg, rd_ix1, rd_ix2, rd_part, rd_sl, rd_onSl1, rd_onSl2, rd_rev, rd_onRv, rd_len1, rd_len2, rd_max2, rd_min2, rd_int1, rd_int2, rd_lst1, rd_lst2, rd_tup1, rd_tup2, rd_dm, rd_seqI, rd_onSq1, rd_onSq2, rd_rng1, rd_onR1, rd_rng2, rd_onR2, xEnumT, rd_onEt, rd_zip, rd_onZ1, rd_onZ2, rd_par, rd_onP, xPar3, rd_onP3, rd_gtup, rd_gnil, rd_gcons, rd_isi, noO_int, noO_bl, noO_str, noO_lst, noO_tup, noO_non, ini, iniB, wipeD, unw, kf, List.map_cons, List.map_nil, List.replicate_succ, List.replicate_zero, List.cons_append, List.nil_append, List.length_cons, List.length_nil, List.getElem?_cons_zero, List.getElem?_cons_succ, List.set_cons_zero, List.set_cons_succ, decide_eq_true_eq, Nat.zero_add, Nat.reduceAdd, Nat.reduceSub, Nat.reduceLeDiff, true_and, Bool.false_eq_true, if_false, if_true, isi_int_non, isi_int_bl, isi_int_int, isi_int_str, isi_int_lst, isi_int_tup, isi_bool_non, isi_bool_bl, isi_bool_int, isi_bool_str, isi_bool_lst, isi_bool_tup, isi_list_non, isi_list_bl, isi_list_int, isi_list_str, isi_list_lst, isi_list_tup, isi_tuple_non, isi_tuple_bl, isi_tuple_int, isi_tuple_str, isi_tuple_lst, isi_tuple_tup, isi_str_non, isi_str_bl, isi_str_int, isi_str_str, isi_str_lst, isi_str_tup, Bool.not_true, Bool.not_false, Bool.or_false, Bool.or_true, Bool.false_or, Bool.true_or, ite_true, ite_false, Option.some.injEq, true_or, false_or, or_false, and_true, rd_isOwn, rd_own1, rd_own2, rd_own3, rd_ixO, rd_onIx1, rd_onIx2, rd_store, rd_onStore1, rd_onStore2, ex_eq, xApp, xDput, S.ow.injEq, S.bg.injEq, S.od.injEq, reduceCtorEq, exists_eq_left', exists_eq_left, exists_eq', D.int.injEq, atI_c0, atI_c1, atI_c2, ixN3_0, ixN3_1, ixN3_2, false_and, and_self]
        exact ⟨_, _, _, _, rfl⟩
    · obtain ⟨x5, x6, x7, x8, rfl⟩ := hI
      simp only [xSeq, xSet, xRet, xIf, xExpr, xNext, xNever, xC, xNil, xCons, xTup, xLst, xOp, xEq, xNe, xUn, xNot, xAnd, xOr, xIfE, xCB, xCall, xCallB, xName, xAsg, xIsi3, toD_fz, toD_ow, toD_od, toD_bg, rd_var, rd_getv1, rd_getv2, rd_getv3, rd_test, rd_onB, rd_onI, rd_onSB, rd_andV, rd_orV, rd_notV, rd_chain, rd_II, rd_II0, rd_add1, rd_add2, rd_add3, rd_mul1, rd_mul2, rd_mul3, rd_isN, rd_notN, rd_isN1, rd_isN2, rd_isN3, rd_neg, rd_ix1, rd_ix2, rd_part, rd_sl, rd_onSl1, rd_onSl2, rd_rev, rd_onRv, rd_len1, rd_len2, rd_max2, rd_min2, rd_int1, rd_int2, rd_lst1, rd_lst2, rd_tup1, rd_tup2, rd_dm, rd_seqI, rd_onSq1, rd_onSq2, rd_rng1, rd_onR1, rd_rng2, rd_onR2, xEnumT, rd_onEt, rd_zip, rd_onZ1, rd_onZ2, rd_par, rd_onP, xPar3, rd_onP3, rd_gtup, rd_gnil, rd_gcons, rd_isi, noO_int, noO_bl, noO_str, noO_lst, noO_tup, noO_non, ini, iniB, wipeD, unw, kf, List.map_cons, List.map_nil, List.replicate_succ, List.replicate_zero, List.cons_append, List.nil_append, List.length_cons, List.length_nil, List.getElem?_cons_zero, List.getElem?_cons_succ, List.set_cons_zero, List.set_cons_succ, decide_eq_true_eq, Nat.zero_add, Nat.reduceAdd, Nat.reduceSub, Nat.reduceLeDiff, true_and, Bool.false_eq_true, if_false, if_true, isi_int_non, isi_int_bl, isi_int_int, isi_int_str, isi_int_lst, isi_int_tup, isi_bool_non, isi_bool_bl, isi_bool_int, isi_bool_str, isi_bool_lst, isi_bool_tup, isi_list_non, isi_list_bl, isi_list_int, isi_list_str, isi_list_lst, isi_list_tup, isi_tuple_non, isi_tuple_bl, isi_tuple_int, isi_tuple_str, isi_tuple_lst, isi_tuple_tup, isi_str_non, isi_str_bl, isi_str_int, isi_str_str, isi_str_lst, isi_str_tup, Bool.not_true, Bool.not_false, Bool.or_false, Bool.or_true, Bool.false_or, Bool.true_or, ite_true, ite_false, Option.some.injEq, true_or, false_or, or_false, and_true, rd_isOwn, rd_own1, rd_own2, rd_own3, rd_ixO, rd_onIx1, rd_onIx2, rd_store, rd_onStore1, rd_onStore2, ex_eq, xApp, xDput, S.ow.injEq, S.bg.injEq, S.od.injEq, reduceCtorEq, exists_eq_left', exists_eq_left, exists_eq', D.int.injEq, atI_c0, atI_c1, atI_c2, ixN3_0, ixN3_1, ixN3_2, false_and, and_self, xLm, xLoan]
      refine ⟨top, _, rfl, t1, t2, smA_flat sm0_ints (by rw [List.length_map]; omega), mok, ?_⟩
      simp only [xSeq, xSet, xRet, xIf, xExpr, xNext, xNever, xC, xNil, xCons, xTup, xLst, xOp, xEq, xNe, xUn, xNot, xAnd, xOr, xIfE, xCB, xCall, xCallB, xName, xAsg, xIsi3, toD_fz, toD_ow, toD_od, toD_bg, rd_var, rd_getv1, rd_getv2, rd_getv3, rd_test, rd_onB, rd_onI, rd_onSB, rd_andV, rd_orV, rd_notV, rd_chain, rd_II, rd_II0, rd_add1, rd_add2, rd_add3, rd_mul1, rd_mul2, rd_mul3, rd_isN, rd_notN, rd_isN1, rd_isN2, rd_isN3, rd_neg, rd_ix1, rd_ix2, rd_part, rd_sl, rd_onSl1, rd_onSl2, rd_rev, rd_onRv, rd_len1, rd_len2, rd_max2, rd_min2, rd_int1, rd_int2, rd_lst1, rd_lst2, rd_tup1, rd_tup2, rd_dm, rd_seqI, rd_onSq1, rd_onSq2, rd_rng1, rd_onR1, rd_rng2, rd_onR2, xEnumT, rd_onEt, rd_zip, rd_onZ1, rd_onZ2, rd_par, rd_onP, xPar3, rd_onP3, rd_gtup, rd_gnil, rd_gcons, rd_isi, noO_int, noO_bl, noO_str, noO_lst, noO_tup, noO_non, ini, iniB, wipeD, unw, kf, List.map_cons, List.map_nil, List.replicate_succ, List.replicate_zero, List.cons_append, List.nil_append, List.length_cons, List.length_nil, List.getElem?_cons_zero, List.getElem?_cons_succ, List.set_cons_zero, List.set_cons_succ, decide_eq_true_eq, Nat.zero_add, Nat.reduceAdd, Nat.reduceSub, Nat.reduceLeDiff, true_and, Bool.false_eq_true, if_false, if_true, isi_int_non, isi_int_bl, isi_int_int, isi_int_str, isi_int_lst, isi_int_tup, isi_bool_non, isi_bool_bl, isi_bool_int, isi_bool_str, isi_bool_lst, isi_bool_tup, isi_list_non, isi_list_bl, isi_list_int, isi_list_str, isi_list_lst, isi_list_tup, isi_tuple_non, isi_tuple_bl, isi_tuple_int, isi_tuple_str, isi_tuple_lst, isi_tuple_tup, isi_str_non, isi_str_bl, isi_str_int, isi_str_str, isi_str_lst, isi_str_tup, Bool.not_true, Bool.not_false, Bool.or_false, Bool.or_true, Bool.false_or, Bool.true_or, ite_true, ite_false, Option.some.injEq, true_or, false_or, or_false, and_true, rd_isOwn, rd_own1, rd_own2, rd_own3, rd_ixO, rd_onIx1, rd_onIx2, rd_store, rd_onStore1, rd_onStore2, ex_eq, xApp, xDput, S.ow.injEq, S.bg.injEq, S.od.injEq, reduceCtorEq, exists_eq_left', exists_eq_left, exists_eq', D.int.injEq, atI_c0, atI_c1, atI_c2, ixN3_0, ixN3_1, ixN3_2, false_and, and_self]
      refine ⟨top, ms, rfl, t1, t2, hms, ?_⟩
      first | trivial | (simp only [xSeq, xSet, xRet, xIf, xExpr, xNext, xNever, xC, xNil, xCons, xTup, xLst, xOp, xEq, xNe, xUn, xNot, xAnd, xOr, xIfE, xCB, xCall, xCallB, xName, xAsg, xIsi3, toD_fz, toD_ow, toD_od, toD_bg, rd_var, rd_getv1, rd_getv2, rd_getv3, rd_test, rd_onB, rd_onI, rd_onSB, rd_andV, rd_orV, rd_notV, rd_chain, rd_II, rd_II0, rd_add1, rd_add2, rd_add3, rd_mul1, rd_mul2, rd_mul3, rd_isN, rd_notN, rd_isN1, rd_isN2, rd_isN3, rd_neg, rd_ix1, rd_ix2, rd_part, rd_sl, rd_onSl1, rd_onSl2, rd_rev, rd_onRv, rd_len1, rd_len2, rd_max2, rd_min2, rd_int1, rd_int2, rd_lst1, rd_lst2, rd_tup1, rd_tup2, rd_dm, rd_seqI, rd_onSq1, rd_onSq2, rd_rng1, rd_onR1, rd_rng2, rd_onR2, xEnumT, rd_onEt, rd_zip, rd_onZ1, rd_onZ2, rd_par, rd_onP, xPar3, rd_onP3, rd_gtup, rd_gnil, rd_gcons, rd_isi, noO_int, noO_bl, noO_str, noO_lst, noO_tup, noO_non, ini, iniB, wipeD, unw, kf, List.map_cons, List.map_nil, List.replicate_succ, List.replicate_zero, List.cons_append, List.nil_append, List.length_cons, List.length_nil, List.getElem?_cons_zero, List.getElem?_cons_succ, List.set_cons_zero, List.set_cons_succ, decide_eq_true_eq, Nat.zero_add, Nat.reduceAdd, Nat.reduceSub, Nat.reduceLeDiff, true_and, Bool.false_eq_true, if_false, if_true, isi_int_non, isi_int_bl, isi_int_int, isi_int_str, isi_int_lst, isi_int_tup, isi_bool_non, isi_bool_bl, isi_bool_int, isi_bool_str, isi_bool_lst, isi_bool_tup, isi_list_non, isi_list_bl, isi_list_int, isi_list_str, isi_list_lst, isi_list_tup, isi_tuple_non, isi_tuple_bl, isi_tuple_int, isi_tuple_str, isi_tuple_lst, isi_tuple_tup, isi_str_non, isi_str_bl, isi_str_int, isi_str_str, isi_str_lst, isi_str_tup, Bool.not_true, Bool.not_false, Bool.or_false, Bool.or_true, Bool.false_or, Bool.true_or, ite_true, ite_false, Option.some.injEq, true_or, false_or, or_false, and_true, rd_isOwn, rd_own1, rd_own2, rd_own3, rd_ixO, rd_onIx1, rd_onIx2, rd_store, rd_onStore1, rd_onStore2, ex_eq, xApp, xDput, S.ow.injEq, S.bg.injEq, S.od.injEq, reduceCtorEq, exists_eq_left', exists_eq_left, exists_eq', D.int.injEq, atI_c0, atI_c1, atI_c2, ixN3_0, ixN3_1, ixN3_2, false_and, and_self]; done) | (simp only [xSeq, xSet, xRet, xIf, xExpr, xNext, xNever, xC, xNil, xCons, xTup, xLst, xOp, xEq, xNe, xUn, xNot, xAnd, xOr, xIfE, xCB, xCall, xCallB, xName, xAsg, xIsi3, toD_fz, toD_ow, toD_od, toD_bg, rd_var, rd_getv1, rd_getv2, rd_getv3, rd_test, rd_onB, rd_onI, rd_onSB, rd_andV, rd_orV, rd_notV, rd_chain, rd_II, rd_II0, rd_add1, rd_add2, rd_add3, rd_mul1, rd_mul2, rd_mul3, rd_isN, rd_notN, rd_isN1, rd_isN2, rd_isN3, rd_neg, rd_ix1, rd_ix2, rd_part, rd_sl, rd_onSl1, rd_onSl2, rd_rev, rd_onRv, rd_len1, rd_len2, rd_max2, rd_min2, rd_int1, rd_int2, rd_lst1, rd_lst2, rd_tup1, rd_tup2, rd_dm, rd_seqI, rd_onSq1, rd_onSq2, rd_rng1, rd_onR1, rd_rng2, rd_onR2, xEnumT, rd_onEt, rd_zip, rd_onZ1, rd_onZ2, rd_par, rd_onP, xPar3, rd_onP3, rd_gtup, rd_gnil, rd_gcons, rd_isi, noO_int, noO_bl, noO_str, noO_lst, noO_tup, noO_non, ini, iniB, wipeD, unw, kf, List.map_cons, List.map_nil, List.replicate_succ, List.replicate_zero, List.cons_append, List.nil_append, List.length_cons, List.length_nil, List.getElem?_cons_zero, List.getElem?_cons_succ, List.set_cons_zero, List.set_cons_succ, decide_eq_true_eq, Nat.zero_add, Nat.reduceAdd, Nat.reduceSub, Nat.reduceLeDiff, true_and, Bool.false_eq_true, if_false, if_true, isi_int_non, isi_int_bl, isi_int_int, isi_int_str, isi_int_lst, isi_int_tup, isi_bool_non, isi_bool_bl, isi_bool_int, isi_bool_str, isi_bool_lst, isi_bool_tup, isi_list_non, isi_list_bl, isi_list_int, isi_list_str, isi_list_lst, isi_list_tup, isi_tuple_non, isi_tuple_bl, isi_tuple_int, isi_tuple_str, isi_tuple_lst, isi_tuple_tup, isi_str_non, isi_str_bl, isi_str_int, isi_str_str, isi_str_lst, isi_str_tup, Bool.not_true, Bool.not_false, Bool.or_false, Bool.or_true, Bool.false_or, Bool.true_or, ite_true, ite_false, Option.some.injEq, true_or, false_or, or_false, and_true, rd_isOwn, rd_own1, rd_own2, rd_own3, rd_ixO, rd_onIx1, rd_onIx2, rd_store, rd_onStore1, rd_onStore2, ex_eq, xApp, xDput, S.ow.injEq, S.bg.injEq, S.od.injEq, reduceCtorEq, exists_eq_left', exists_eq_left, exists_eq', D.int.injEq, atI_c0, atI_c1, atI_c2, ixN3_0, ixN3_1, ixN3_2, false_and, and_self]; trivial)

def spLaw (T : List (Addr × Str)) (K : PySem.W.Frag) : Sp := fun vs H Q _ => ∃ (a : Addr) (ns : List Int), vs = [.ref a] ∧ SqL K H a (ns.map V.int) ∧ ns.length ≤ 63 ∧ LamX.Tabs T H ∧ ∀ H', Q (.bl true) H'
theorem ok_law {P : Program} {w : World} {K : PySem.W.Frag} {mg : Str → Option Value} {base : Heap} {T : List (Addr × Str)} {c Pt : Addr} (B : Bt mg) (TB : LamX.TabB base mg c Pt) (hm : (Pt, qn "law" s_law) ∈ T) (hu : ∀ p ∈ T, p.1 = Pt → p.2 = qn "law" s_law) (h__law_others_refused : FnT P w K mg base T "_law_others_refused" 10 2 dp__law_others_refused) (h__law_floods_refused : FnT P w K mg base T "_law_floods_refused" 10 2 dp__law_floods_refused) (h__law_refused : Fn P w K mg base "_law_refused" 9 2 (dp__law_refused P w K mg base)) (h__law_doors : FnT P w K mg base T "_law_doors" 1 2 (dp__law_doors P w K mg base)) (h__law_take : FnB P w K mg base "_law_take" 1 1 dp__law_take) (h__law_same : Fn P w K mg base "_law_same" 1 2 dp__law_same) (h_are_marks : FnX P w K mg base "are_marks" 4 2 dp_are_marks) (h__law_good : Fn P w K mg base "_law_good" 2 2 dp__law_good) (h__law_marks : FnB P w K mg base "_law_marks" 2 2 dp__law_marks) (h_how_many : FnX P w K mg base "how_many" 6 4 dp_how_many) (h_alike_by : FnX P w K mg base "alike_by" 6 3 dp_alike_by) (h_shortest : FnX P w K mg base "shortest" 6 3 dp_shortest) (hbags : FnBags P w K mg base) {f : Addr} {oc kV doc pm ct : Value} {od an : Option Addr} {osl : Array (Option Value)}
    (lk : K.lookup f = some ⟨oc, od, .func (PySem.W.fnOf "law" "law" (defArgs s_law) (defBody s_law) (defScope s_law) .none kV doc pm an (.ref c) ct), osl⟩) (hcd : PySem.W.codeIn K (.ref c) "law" = true) :
    FnOk P w K mg base CX0 11 f (PySem.W.fnOf "law" "law" (defArgs s_law) (defBody s_law) (defScope s_law) .none kV doc pm an (.ref c) ct) ["script"] (spLaw T K) := by
  obtain ⟨fb, fdb, Gb, mb, kb, bb⟩ := hbags
  refine fn_of lk hcd sc_law (fun vs H Q E h => ?_) fun A outer s H vs Q E hr h => ?_
  · obtain ⟨a, ns, rfl, _⟩ := h
    rfl
  · obtain ⟨a, ns, rfl, hS, hl, tab, q⟩ := h
    obtain ⟨ts, hb⟩ := law_body B TB hm hu h__law_others_refused h__law_floods_refused h__law_refused h__law_doors h__law_take h__law_same h_are_marks h__law_good h__law_marks h_how_many h_alike_by h_shortest f A outer s H E hr
    obtain ⟨t0, hb0, _⟩ := hb ⟨stripH H, fun _ => none, none, T⟩ strip_plain rfl
    refine ⟨_, PSs.nox (pss_cons (ps_for PassesOwn.never rfl (pi_list (pe_call Gb (hr.mono (by decide)) (by rfl) mb kb bb .nil pass0 (pa_cons (pv 0) (pa_cons pe_int pa_nil)))) (pg_name (i := 1) sc_law.nd rfl (by first | exact .inl rfl | exact .inr rfl)) hb0.pe) (pss_one (ps_ret pe_bl))), ?_⟩
    refine ⟨.ref a, rfl, a, ns, 12, rfl, hS, hl, by decide, by decide, fun p H2 bs sm np hp2 hbl nd hbs => ?_⟩
    refine ⟨p, rfl, ⟨_, .inl (.inl hp2)⟩, ?_⟩
    refine for_bagsT (T := T) (n := 9) (fun C hC hT => (hb C hC hT).imp fun t h => ⟨h.1.rf, h.2⟩) (by decide) rfl (tab.ext sm) hp2 nd (fun hm => (hbs p hm).2.1 rfl) (fun j b _ hj => ?_) fun σ2 H3 => q _
    obtain ⟨_, _, h⟩ := hbs b (List.mem_of_getElem? hj)
    exact h
def makers : List Str := ["_law_doors", "_law_floods_refused", "_law_others_refused", "law"]
def hdB (cc : Value) (c P : Addr) (vs : Array Value) : Bool := (match cc with | .type "code" => true | _ => false) && ((match vs.getD 18 .none with | .str _ _ => true | _ => false) && ((match vs.getD 7 .none with | .int _ _ => true | _ => false) &&
  ((match vs.getD 9 .none with | .bool _ => true | _ => false) && ((match vs.getD 10 .none with | .int _ _ => true | _ => false) && c != P))))
theorem hd_of {K : PySem.W.Frag} {c P : Addr} {cc : Value} {dd : Option Addr} {vs : Array Value} {sl : Array (Option Value)} (u : K.lookup c = some ⟨cc, dd, .fields vs, sl⟩) (v : vs[11]? = some (.ref P)) (w : hdB cc c P vs = true) : PySem.W.codeHdIn K c P = true := by
  unfold hdB at w
  simp only [Bool.and_eq_true] at w
  obtain ⟨w1, w2, w3, w4, w5, w6⟩ := w
  split at w1
  · unfold PySem.W.codeHdIn
    rw [u]
    simp only [v, Bool.and_eq_true]
    exact ⟨⟨⟨⟨⟨beq_self_eq_true P, w2⟩, w3⟩, w4⟩, w5⟩, w6⟩
  · cases w1
theorem kit_same {K : PySem.W.Frag} {a : Addr} : PySem.W.kitOne K (.ref a) (.ref a) = some true := by
  unfold PySem.W.kitOne
  rw [if_pos (beq_self_eq_true _)]
theorem kit_cls {K : PySem.W.Frag} {a b : Addr} {r : Bool} (i : PySem.W.isClsIn K b = true) (t : PySem.W.typeIn K (.ref b) = some (.type "type")) (s : PySem.W.subIn K (.ref a) (.ref b) = some r) : PySem.W.kitCls K (.ref a) (.ref b) = some r := by
  unfold PySem.W.kitCls
  unfold PySem.W.isClsIn at i
  dsimp only
  rw [i, t, if_pos (by simp), s]
theorem kit_ne {K : PySem.W.Frag} {a b : Addr} (i : PySem.W.isClsIn K b = true) (t : PySem.W.typeIn K (.ref b) = some (.type "type")) (s0 : PySem.W.subIn K (.ref a) (.ref a) = some true) (s : PySem.W.subIn K (.ref a) (.ref b) = some false) : PySem.W.kitOne K (.ref a) (.ref b) = some false := by
  have ne : a ≠ b := fun e => by
    subst e
    rw [s0] at s
    cases s
  unfold PySem.W.kitOne
  rw [if_neg (by simpa using ne), kit_cls i t s]
theorem exm_in {K : PySem.W.Frag} {a b : Addr} (i : PySem.W.isClsIn K b = true) (t : PySem.W.typeIn K (.ref b) = some (.type "type")) (e : PySem.W.subIn K (.ref b) (.type "BaseException") = some true) (s : PySem.W.subIn K (.ref a) (.ref b) = some true) : PySem.W.exmOne K (.ref a) (.ref b) = some true := by
  unfold PySem.W.exmOne
  rw [e, if_pos (by simp), kit_cls i t s]
theorem tabs_nil {T : List (Addr × Str)} {cs : List (Addr × Addr)} {H : Hp} (h : ∀ p ∈ T, ∃ q ∈ cs, q.2 = p.1) (hH : ∀ p ∈ cs, H p.2 = some (.tbl #[])) : LamX.Tabs T H := fun p hp => by
  obtain ⟨q, hq, e⟩ := h p hp
  have z := hH q hq
  rw [e] at z
  exact ⟨#[], z, trivial, fun _ _ e => by cases e⟩
theorem walk_tabs {l : PySem.W.OpenLaw} {n k : Nat} {q : Program} {loose : List Str} {XP : (Str → Option Value) → Heap → Prop} {YP : World → Heap → Prop} {d : DefRec} {K : Params → PySem.W.Frag} {CX : World → CXT} {x : Str} {names : List Str}
    (hn : l.most = some n) (hn2 : n ≤ sizeLine) (hdf : d.params.defaults = []) (hr : Room k callerA) (hrec : (names.all fun y => (recsOf q).any fun e => e.name == y) = true) (hY : ∀ (w : World) (h : Heap), YP w h → (K w.params).In h)
    (F : ∀ (w : World) (mg : Str → Option Value) (fa : Addr) (h : Heap), YP w h → (K w.params).In h → h.Ns mainGlobals mg → mg d.name = some (.ref fa) → (∀ y ∈ names, ∀ fb : Addr, mg y = some (.ref fb) → LamX.OwnTab (K w.params) fb h) → LamX.LawAtS l w (K w.params) (CX w) k n x mg fa h)
    (hCX : ∀ (w : World) (H : Hp) (s : Shared) (e : Value) (s' : Shared), CX w [] H s (fun _ _ _ => False) e s' → False) :
    PySem.W.WalkO q loose XP YP l.row.toRowW d [] (fun f vs => PySem.call f vs) := by
  refine Att.attach_callB hn hdf fun w s₀ s₁ mg mb fa o pm cd doc a vs ns G Y ho hd hcd hmg hobj hints hlen hbits hg => ?_
  have KX := hY w _ Y
  have own : ∀ y ∈ names, ∀ fb : Addr, mg y = some (.ref fb) → LamX.OwnTab (K w.params) fb s₁.heap := fun y hy fb hyb c P o1 fd1 e dd vs1 sl k1 k2 k3 k4 k5 => by
    obtain ⟨dL, hmem, hn1⟩ := List.any_eq_true.mp (List.all_eq_true.mp hrec y hy)
    have en : dL.name = y := beq_iff_eq.mp hn1
    obtain ⟨a2, o2, fd2, c2, P2, h1, h2, h3, h4, h5, ⟨oc, vc, e1, _, e3, e4⟩, hP⟩ := G.T.tab dL hmem
    rw [en, hyb] at h1
    cases h1
    have g1 := KX _ _ k1
    rw [g1] at h2
    cases h2
    rw [k2] at h3
    cases h3
    rw [k3] at h4
    cases h4
    have g2 := KX _ _ k4
    rw [g2] at e1
    cases e1
    cases e3
    rw [k5] at e4
    cases e4
    exact hP
  obtain ⟨fd, cs, sp, hT, nT, C, hb, hsp, hF⟩ := F w mg fa _ Y KX G.T.g hmg own
  exact LamX.law_callTs KX G.T.g G.T.b G.T.builtins G.T.nolimit hg hT nT C G.T.bmain hobj hints (Nat.le_trans hlen hn2) hr hF hb (fun H hH hS => hsp H a ns hlen hbits hH hS) fun H e s' => hCX w H s₁ e s'

theorem all_mk {l : PySem.W.OpenLaw} {w : World} {K : PySem.W.Frag} {h : Heap} {mg : Str → Option Value} {fa : Addr} (X : K.In h) (G : h.Ns mainGlobals mg) (hfa : mg "law" = some (.ref fa)) (own : ∀ y ∈ makers, ∀ fb : Addr, mg y = some (.ref fb) → LamX.OwnTab K fb h)
    {f0 : Addr}
    {od0 an0 : Option Addr} {sl0 : Array (Option Value)} {oc0 kV0 dc0 pm0 ct0 : Value}
    {cd0 : Value}
    (a0 : PySem.W.nsIn K mainGlobals "is_whole" = some (some (.ref f0)))
    (l0 : K.lookup f0 = some ⟨oc0, od0, .func (PySem.W.fnOf "is_whole" "is_whole" (defArgs s_is_whole) (defBody s_is_whole) (defScope s_is_whole) .none kV0 dc0 pm0 an0 (cd0) ct0), sl0⟩)
    (c0 : PySem.W.codeIn K (cd0) "is_whole" = true)
    (k0 : PySem.W.keepIn K (.ref f0) = true)
    {f1 : Addr}
    {od1 an1 : Option Addr} {sl1 : Array (Option Value)} {oc1 kV1 dc1 pm1 ct1 : Value}
    {cd1 : Value}
    (a1 : PySem.W.nsIn K mainGlobals "is_within" = some (some (.ref f1)))
    (l1 : K.lookup f1 = some ⟨oc1, od1, .func (PySem.W.fnOf "is_within" "is_within" (defArgs s_is_within) (defBody s_is_within) (defScope s_is_within) .none kV1 dc1 pm1 an1 (cd1) ct1), sl1⟩)
    (c1 : PySem.W.codeIn K (cd1) "is_within" = true)
    (k1 : PySem.W.keepIn K (.ref f1) = true)
    {f2 : Addr}
    {od2 an2 : Option Addr} {sl2 : Array (Option Value)} {oc2 kV2 dc2 pm2 ct2 : Value}
    {cd2 : Value}
    (a2 : PySem.W.nsIn K mainGlobals "look_at_top" = some (some (.ref f2)))
    (l2 : K.lookup f2 = some ⟨oc2, od2, .func (PySem.W.fnOf "look_at_top" "look_at_top" (defArgs s_look_at_top) (defBody s_look_at_top) (defScope s_look_at_top) .none kV2 dc2 pm2 an2 (cd2) ct2), sl2⟩)
    (c2 : PySem.W.codeIn K (cd2) "look_at_top" = true)
    (k2 : PySem.W.keepIn K (.ref f2) = true)
    {f3 : Addr}
    {od3 an3 : Option Addr} {sl3 : Array (Option Value)} {oc3 kV3 dc3 pm3 ct3 : Value}
    {cd3 : Value}
    (a3 : PySem.W.nsIn K mainGlobals "falls" = some (some (.ref f3)))
    (l3 : K.lookup f3 = some ⟨oc3, od3, .func (PySem.W.fnOf "falls" "falls" (defArgs s_falls) (defBody s_falls) (defScope s_falls) .none kV3 dc3 pm3 an3 (cd3) ct3), sl3⟩)
    (c3 : PySem.W.codeIn K (cd3) "falls" = true)
    (k3 : PySem.W.keepIn K (.ref f3) = true)
    {f4 : Addr}
    {od4 an4 : Option Addr} {sl4 : Array (Option Value)} {oc4 kV4 dc4 pm4 ct4 : Value}
    {cd4 : Value}
    (a4 : PySem.W.nsIn K mainGlobals "are_marks_of" = some (some (.ref f4)))
    (l4 : K.lookup f4 = some ⟨oc4, od4, .func (PySem.W.fnOf "are_marks_of" "are_marks_of" (defArgs s_are_marks_of) (defBody s_are_marks_of) (defScope s_are_marks_of) .none kV4 dc4 pm4 an4 (cd4) ct4), sl4⟩)
    (c4 : PySem.W.codeIn K (cd4) "are_marks_of" = true)
    (k4 : PySem.W.keepIn K (.ref f4) = true)
    {f5 : Addr}
    {od5 an5 : Option Addr} {sl5 : Array (Option Value)} {oc5 kV5 dc5 pm5 ct5 : Value}
    {cd5 : Value}
    (a5 : PySem.W.nsIn K mainGlobals "are_marks" = some (some (.ref f5)))
    (l5 : K.lookup f5 = some ⟨oc5, od5, .func (PySem.W.fnOf "are_marks" "are_marks" (defArgs s_are_marks) (defBody s_are_marks) (defScope s_are_marks) .none kV5 dc5 pm5 an5 (cd5) ct5), sl5⟩)
    (c5 : PySem.W.codeIn K (cd5) "are_marks" = true)
    (k5 : PySem.W.keepIn K (.ref f5) = true)
    {f6 : Addr}
    {od6 an6 : Option Addr} {sl6 : Array (Option Value)} {oc6 kV6 dc6 pm6 ct6 : Value}
    {cd6 : Value}
    (a6 : PySem.W.nsIn K mainGlobals "look_at_marks" = some (some (.ref f6)))
    (l6 : K.lookup f6 = some ⟨oc6, od6, .func (PySem.W.fnOf "look_at_marks" "look_at_marks" (defArgs s_look_at_marks) (defBody s_look_at_marks) (defScope s_look_at_marks) .none kV6 dc6 pm6 an6 (cd6) ct6), sl6⟩)
    (c6 : PySem.W.codeIn K (cd6) "look_at_marks" = true)
    (k6 : PySem.W.keepIn K (.ref f6) = true)
    {f7 : Addr}
    {od7 an7 : Option Addr} {sl7 : Array (Option Value)} {oc7 kV7 dc7 pm7 ct7 : Value}
    {cd7 : Value}
    (a7 : PySem.W.nsIn K mainGlobals "look_at_many" = some (some (.ref f7)))
    (l7 : K.lookup f7 = some ⟨oc7, od7, .func (PySem.W.fnOf "look_at_many" "look_at_many" (defArgs s_look_at_many) (defBody s_look_at_many) (defScope s_look_at_many) .none kV7 dc7 pm7 an7 (cd7) ct7), sl7⟩)
    (c7 : PySem.W.codeIn K (cd7) "look_at_many" = true)
    (k7 : PySem.W.keepIn K (.ref f7) = true)
    {f8 : Addr}
    {od8 an8 : Option Addr} {sl8 : Array (Option Value)} {oc8 kV8 dc8 pm8 ct8 : Value}
    {cd8 : Value}
    (a8 : PySem.W.nsIn K mainGlobals "are_floods" = some (some (.ref f8)))
    (l8 : K.lookup f8 = some ⟨oc8, od8, .func (PySem.W.fnOf "are_floods" "are_floods" (defArgs s_are_floods) (defBody s_are_floods) (defScope s_are_floods) .none kV8 dc8 pm8 an8 (cd8) ct8), sl8⟩)
    (c8 : PySem.W.codeIn K (cd8) "are_floods" = true)
    (k8 : PySem.W.keepIn K (.ref f8) = true)
    {f9 : Addr}
    {od9 an9 : Option Addr} {sl9 : Array (Option Value)} {oc9 kV9 dc9 pm9 ct9 : Value}
    {cd9 : Value}
    (a9 : PySem.W.nsIn K mainGlobals "behind" = some (some (.ref f9)))
    (l9 : K.lookup f9 = some ⟨oc9, od9, .func (PySem.W.fnOf "behind" "behind" (defArgs s_behind) (defBody s_behind) (defScope s_behind) .none kV9 dc9 pm9 an9 (cd9) ct9), sl9⟩)
    (c9 : PySem.W.codeIn K (cd9) "behind" = true)
    (k9 : PySem.W.keepIn K (.ref f9) = true)
    {f10 : Addr}
    {od10 an10 : Option Addr} {sl10 : Array (Option Value)} {oc10 kV10 dc10 pm10 ct10 : Value}
    {cd10 : Value}
    (a10 : PySem.W.nsIn K mainGlobals "far" = some (some (.ref f10)))
    (l10 : K.lookup f10 = some ⟨oc10, od10, .func (PySem.W.fnOf "far" "far" (defArgs s_far) (defBody s_far) (defScope s_far) .none kV10 dc10 pm10 an10 (cd10) ct10), sl10⟩)
    (c10 : PySem.W.codeIn K (cd10) "far" = true)
    (k10 : PySem.W.keepIn K (.ref f10) = true)
    {f11 : Addr}
    {od11 an11 : Option Addr} {sl11 : Array (Option Value)} {oc11 kV11 dc11 pm11 ct11 : Value}
    {cd11 : Value}
    (a11 : PySem.W.nsIn K mainGlobals "look_at_both" = some (some (.ref f11)))
    (l11 : K.lookup f11 = some ⟨oc11, od11, .func (PySem.W.fnOf "look_at_both" "look_at_both" (defArgs s_look_at_both) (defBody s_look_at_both) (defScope s_look_at_both) .none kV11 dc11 pm11 an11 (cd11) ct11), sl11⟩)
    (c11 : PySem.W.codeIn K (cd11) "look_at_both" = true)
    (k11 : PySem.W.keepIn K (.ref f11) = true)
    {f12 : Addr}
    {od12 an12 : Option Addr} {sl12 : Array (Option Value)} {oc12 kV12 dc12 pm12 ct12 : Value}
    {cd12 : Value}
    (a12 : PySem.W.nsIn K mainGlobals "how_many" = some (some (.ref f12)))
    (l12 : K.lookup f12 = some ⟨oc12, od12, .func (PySem.W.fnOf "how_many" "how_many" (defArgs s_how_many) (defBody s_how_many) (defScope s_how_many) .none kV12 dc12 pm12 an12 (cd12) ct12), sl12⟩)
    (c12 : PySem.W.codeIn K (cd12) "how_many" = true)
    (k12 : PySem.W.keepIn K (.ref f12) = true)
    {f13 : Addr}
    {od13 an13 : Option Addr} {sl13 : Array (Option Value)} {oc13 kV13 dc13 pm13 ct13 : Value}
    {cd13 : Value}
    (a13 : PySem.W.nsIn K mainGlobals "rest" = some (some (.ref f13)))
    (l13 : K.lookup f13 = some ⟨oc13, od13, .func (PySem.W.fnOf "rest" "rest" (defArgs s_rest) (defBody s_rest) (defScope s_rest) .none kV13 dc13 pm13 an13 (cd13) ct13), sl13⟩)
    (c13 : PySem.W.codeIn K (cd13) "rest" = true)
    (k13 : PySem.W.keepIn K (.ref f13) = true)
    {f14 : Addr}
    {od14 an14 : Option Addr} {sl14 : Array (Option Value)} {oc14 kV14 dc14 pm14 ct14 : Value}
    {cd14 : Value}
    (a14 : PySem.W.nsIn K mainGlobals "shortest" = some (some (.ref f14)))
    (l14 : K.lookup f14 = some ⟨oc14, od14, .func (PySem.W.fnOf "shortest" "shortest" (defArgs s_shortest) (defBody s_shortest) (defScope s_shortest) .none kV14 dc14 pm14 an14 (cd14) ct14), sl14⟩)
    (c14 : PySem.W.codeIn K (cd14) "shortest" = true)
    (k14 : PySem.W.keepIn K (.ref f14) = true)
    {f15 : Addr}
    {od15 an15 : Option Addr} {sl15 : Array (Option Value)} {oc15 kV15 dc15 pm15 ct15 : Value}
    {cd15 : Value}
    (a15 : PySem.W.nsIn K mainGlobals "first_row" = some (some (.ref f15)))
    (l15 : K.lookup f15 = some ⟨oc15, od15, .func (PySem.W.fnOf "first_row" "first_row" (defArgs s_first_row) (defBody s_first_row) (defScope s_first_row) .none kV15 dc15 pm15 an15 (cd15) ct15), sl15⟩)
    (c15 : PySem.W.codeIn K (cd15) "first_row" = true)
    (k15 : PySem.W.keepIn K (.ref f15) = true)
    {f16 : Addr}
    {od16 an16 : Option Addr} {sl16 : Array (Option Value)} {oc16 kV16 dc16 pm16 ct16 : Value}
    {cd16 : Value}
    (a16 : PySem.W.nsIn K mainGlobals "is_log" = some (some (.ref f16)))
    (l16 : K.lookup f16 = some ⟨oc16, od16, .func (PySem.W.fnOf "is_log" "is_log" (defArgs s_is_log) (defBody s_is_log) (defScope s_is_log) .none kV16 dc16 pm16 an16 (cd16) ct16), sl16⟩)
    (c16 : PySem.W.codeIn K (cd16) "is_log" = true)
    (k16 : PySem.W.keepIn K (.ref f16) = true)
    {f17 : Addr}
    {od17 an17 : Option Addr} {sl17 : Array (Option Value)} {oc17 kV17 dc17 pm17 ct17 : Value}
    {cd17 : Value}
    (a17 : PySem.W.nsIn K mainGlobals "log_ways" = some (some (.ref f17)))
    (l17 : K.lookup f17 = some ⟨oc17, od17, .func (PySem.W.fnOf "log_ways" "log_ways" (defArgs s_log_ways) (defBody s_log_ways) (defScope s_log_ways) .none kV17 dc17 pm17 an17 (cd17) ct17), sl17⟩)
    (c17 : PySem.W.codeIn K (cd17) "log_ways" = true)
    (k17 : PySem.W.keepIn K (.ref f17) = true)
    {f18 : Addr}
    {od18 an18 : Option Addr} {sl18 : Array (Option Value)} {oc18 kV18 dc18 pm18 ct18 : Value}
    {cd18 : Value}
    (a18 : PySem.W.nsIn K mainGlobals "alike_by" = some (some (.ref f18)))
    (l18 : K.lookup f18 = some ⟨oc18, od18, .func (PySem.W.fnOf "alike_by" "alike_by" (defArgs s_alike_by) (defBody s_alike_by) (defScope s_alike_by) .none kV18 dc18 pm18 an18 (cd18) ct18), sl18⟩)
    (c18 : PySem.W.codeIn K (cd18) "alike_by" = true)
    (k18 : PySem.W.keepIn K (.ref f18) = true)
    {f19 : Addr}
    {od19 an19 : Option Addr} {sl19 : Array (Option Value)} {oc19 kV19 dc19 pm19 ct19 : Value}
    {cd19 : Value}
    (a19 : PySem.W.nsIn K mainGlobals "how_many_marks" = some (some (.ref f19)))
    (l19 : K.lookup f19 = some ⟨oc19, od19, .func (PySem.W.fnOf "how_many_marks" "how_many_marks" (defArgs s_how_many_marks) (defBody s_how_many_marks) (defScope s_how_many_marks) .none kV19 dc19 pm19 an19 (cd19) ct19), sl19⟩)
    (c19 : PySem.W.codeIn K (cd19) "how_many_marks" = true)
    (k19 : PySem.W.keepIn K (.ref f19) = true)
    {f20 : Addr}
    {od20 an20 : Option Addr} {sl20 : Array (Option Value)} {oc20 kV20 dc20 pm20 ct20 : Value}
    {cd20 : Value}
    (a20 : PySem.W.nsIn K mainGlobals "days" = some (some (.ref f20)))
    (l20 : K.lookup f20 = some ⟨oc20, od20, .func (PySem.W.fnOf "days" "days" (defArgs s_days) (defBody s_days) (defScope s_days) .none kV20 dc20 pm20 an20 (cd20) ct20), sl20⟩)
    (c20 : PySem.W.codeIn K (cd20) "days" = true)
    (k20 : PySem.W.keepIn K (.ref f20) = true)
    {f21 : Addr}
    {od21 an21 : Option Addr} {sl21 : Array (Option Value)} {oc21 kV21 dc21 pm21 ct21 : Value}
    {cd21 : Value}
    (a21 : PySem.W.nsIn K mainGlobals "heights" = some (some (.ref f21)))
    (l21 : K.lookup f21 = some ⟨oc21, od21, .func (PySem.W.fnOf "heights" "heights" (defArgs s_heights) (defBody s_heights) (defScope s_heights) .none kV21 dc21 pm21 an21 (cd21) ct21), sl21⟩)
    (c21 : PySem.W.codeIn K (cd21) "heights" = true)
    (k21 : PySem.W.keepIn K (.ref f21) = true)
    {f22 : Addr}
    {od22 an22 : Option Addr} {sl22 : Array (Option Value)} {oc22 kV22 dc22 pm22 ct22 : Value}
    {cd22 : Value}
    (a22 : PySem.W.nsIn K mainGlobals "unread" = some (some (.ref f22)))
    (l22 : K.lookup f22 = some ⟨oc22, od22, .func (PySem.W.fnOf "unread" "unread" (defArgs s_unread) (defBody s_unread) (defScope s_unread) .none kV22 dc22 pm22 an22 (cd22) ct22), sl22⟩)
    (c22 : PySem.W.codeIn K (cd22) "unread" = true)
    (k22 : PySem.W.keepIn K (.ref f22) = true)
    {f23 : Addr}
    {od23 an23 : Option Addr} {sl23 : Array (Option Value)} {oc23 kV23 dc23 pm23 ct23 : Value}
    {cd23 : Value}
    (a23 : PySem.W.nsIn K mainGlobals "_law_well" = some (some (.ref f23)))
    (l23 : K.lookup f23 = some ⟨oc23, od23, .func (PySem.W.fnOf "_law_well" "_law_well" (defArgs s__law_well) (defBody s__law_well) (defScope s__law_well) .none kV23 dc23 pm23 an23 (cd23) ct23), sl23⟩)
    (c23 : PySem.W.codeIn K (cd23) "_law_well" = true)
    (k23 : PySem.W.keepIn K (.ref f23) = true)
    {f24 : Addr}
    {od24 an24 : Option Addr} {sl24 : Array (Option Value)} {oc24 kV24 dc24 pm24 ct24 : Value}
    {cd24 : Value}
    (a24 : PySem.W.nsIn K mainGlobals "_law_take" = some (some (.ref f24)))
    (l24 : K.lookup f24 = some ⟨oc24, od24, .func (PySem.W.fnOf "_law_take" "_law_take" (defArgs s__law_take) (defBody s__law_take) (defScope s__law_take) .none kV24 dc24 pm24 an24 (cd24) ct24), sl24⟩)
    (c24 : PySem.W.codeIn K (cd24) "_law_take" = true)
    (k24 : PySem.W.keepIn K (.ref f24) = true)
    {f25 : Addr}
    {od25 an25 : Option Addr} {sl25 : Array (Option Value)} {oc25 kV25 dc25 pm25 ct25 : Value}
    {cd25 : Value}
    (a25 : PySem.W.nsIn K mainGlobals "_law_bags" = some (some (.ref f25)))
    (l25 : K.lookup f25 = some ⟨oc25, od25, .func (PySem.W.fnOf "_law_bags" "_law_bags" (defArgs s__law_bags) (defBody s__law_bags) (defScope s__law_bags) .none kV25 dc25 pm25 an25 (cd25) ct25), sl25⟩)
    (c25 : PySem.W.codeIn K (cd25) "_law_bags" = true)
    (k25 : PySem.W.keepIn K (.ref f25) = true)
    {f26 : Addr}
    {od26 an26 : Option Addr} {sl26 : Array (Option Value)} {oc26 kV26 dc26 pm26 ct26 : Value}
    {cd26 : Value}
    (a26 : PySem.W.nsIn K mainGlobals "_law_same" = some (some (.ref f26)))
    (l26 : K.lookup f26 = some ⟨oc26, od26, .func (PySem.W.fnOf "_law_same" "_law_same" (defArgs s__law_same) (defBody s__law_same) (defScope s__law_same) .none kV26 dc26 pm26 an26 (cd26) ct26), sl26⟩)
    (c26 : PySem.W.codeIn K (cd26) "_law_same" = true)
    (k26 : PySem.W.keepIn K (.ref f26) = true)
    {f27 : Addr}
    {od27 an27 : Option Addr} {sl27 : Array (Option Value)} {oc27 kV27 dc27 pm27 ct27 : Value}
    {cd27 : Value}
    (a27 : PySem.W.nsIn K mainGlobals "_law_in" = some (some (.ref f27)))
    (l27 : K.lookup f27 = some ⟨oc27, od27, .func (PySem.W.fnOf "_law_in" "_law_in" (defArgs s__law_in) (defBody s__law_in) (defScope s__law_in) .none kV27 dc27 pm27 an27 (cd27) ct27), sl27⟩)
    (c27 : PySem.W.codeIn K (cd27) "_law_in" = true)
    (k27 : PySem.W.keepIn K (.ref f27) = true)
    {f28 : Addr}
    {od28 an28 : Option Addr} {sl28 : Array (Option Value)} {oc28 kV28 dc28 pm28 ct28 : Value}
    {cd28 : Value}
    (a28 : PySem.W.nsIn K mainGlobals "_law_kind" = some (some (.ref f28)))
    (l28 : K.lookup f28 = some ⟨oc28, od28, .func (PySem.W.fnOf "_law_kind" "_law_kind" (defArgs s__law_kind) (defBody s__law_kind) (defScope s__law_kind) .none kV28 dc28 pm28 an28 (cd28) ct28), sl28⟩)
    (c28 : PySem.W.codeIn K (cd28) "_law_kind" = true)
    (k28 : PySem.W.keepIn K (.ref f28) = true)
    {f29 : Addr}
    {od29 an29 : Option Addr} {sl29 : Array (Option Value)} {oc29 kV29 dc29 pm29 ct29 : Value}
    {cd29 : Value}
    (a29 : PySem.W.nsIn K mainGlobals "_law_tried" = some (some (.ref f29)))
    (l29 : K.lookup f29 = some ⟨oc29, od29, .func (PySem.W.fnOf "_law_tried" "_law_tried" (defArgs s__law_tried) (defBody s__law_tried) (defScope s__law_tried) .none kV29 dc29 pm29 an29 (cd29) ct29), sl29⟩)
    (c29 : PySem.W.codeIn K (cd29) "_law_tried" = true)
    (k29 : PySem.W.keepIn K (.ref f29) = true)
    {f30 : Addr}
    {od30 an30 : Option Addr} {sl30 : Array (Option Value)} {oc30 kV30 dc30 pm30 ct30 : Value}
    {cd30 : Value}
    (a30 : PySem.W.nsIn K mainGlobals "_law_marks" = some (some (.ref f30)))
    (l30 : K.lookup f30 = some ⟨oc30, od30, .func (PySem.W.fnOf "_law_marks" "_law_marks" (defArgs s__law_marks) (defBody s__law_marks) (defScope s__law_marks) .none kV30 dc30 pm30 an30 (cd30) ct30), sl30⟩)
    (c30 : PySem.W.codeIn K (cd30) "_law_marks" = true)
    (k30 : PySem.W.keepIn K (.ref f30) = true)
    {f31 : Addr}
    {od31 an31 : Option Addr} {sl31 : Array (Option Value)} {oc31 kV31 dc31 pm31 ct31 : Value}
    {cd31 : Value}
    (a31 : PySem.W.nsIn K mainGlobals "_law_flooded" = some (some (.ref f31)))
    (l31 : K.lookup f31 = some ⟨oc31, od31, .func (PySem.W.fnOf "_law_flooded" "_law_flooded" (defArgs s__law_flooded) (defBody s__law_flooded) (defScope s__law_flooded) .none kV31 dc31 pm31 an31 (cd31) ct31), sl31⟩)
    (c31 : PySem.W.codeIn K (cd31) "_law_flooded" = true)
    (k31 : PySem.W.keepIn K (.ref f31) = true)
    {f32 : Addr}
    {od32 an32 : Option Addr} {sl32 : Array (Option Value)} {oc32 kV32 dc32 pm32 ct32 : Value}
    {cd32 : Value}
    (a32 : PySem.W.nsIn K mainGlobals "_law_good" = some (some (.ref f32)))
    (l32 : K.lookup f32 = some ⟨oc32, od32, .func (PySem.W.fnOf "_law_good" "_law_good" (defArgs s__law_good) (defBody s__law_good) (defScope s__law_good) .none kV32 dc32 pm32 an32 (cd32) ct32), sl32⟩)
    (c32 : PySem.W.codeIn K (cd32) "_law_good" = true)
    (k32 : PySem.W.keepIn K (.ref f32) = true)
    {f33 : Addr}
    {od33 an33 : Option Addr} {sl33 : Array (Option Value)} {oc33 kV33 dc33 pm33 ct33 : Value}
    {e33 p33 : Addr} {cc33 : Value} {dd33 : Option Addr} {vs33 : Array Value} {sk33 : Array (Option Value)}
    (a33 : PySem.W.nsIn K mainGlobals "_law_doors" = some (some (.ref f33)))
    (l33 : K.lookup f33 = some ⟨oc33, od33, .func (PySem.W.fnOf "_law_doors" "_law_doors" (defArgs s__law_doors) (defBody s__law_doors) (defScope s__law_doors) .none kV33 dc33 pm33 an33 (.ref e33) ct33), sl33⟩)
    (c33 : PySem.W.codeIn K (.ref e33) "_law_doors" = true)
    (k33 : PySem.W.keepIn K (.ref f33) = true)
    (u33 : K.lookup e33 = some ⟨cc33, dd33, .fields vs33, sk33⟩)
    (v33 : vs33[11]? = some (.ref p33))
    (w33 : hdB cc33 e33 p33 vs33 = true)
    (x33 : K.lookup p33 = none)
    {f34 : Addr}
    {od34 an34 : Option Addr} {sl34 : Array (Option Value)} {oc34 kV34 dc34 pm34 ct34 : Value}
    {cd34 : Value}
    (a34 : PySem.W.nsIn K mainGlobals "_law_refused" = some (some (.ref f34)))
    (l34 : K.lookup f34 = some ⟨oc34, od34, .func (PySem.W.fnOf "_law_refused" "_law_refused" (defArgs s__law_refused) (defBody s__law_refused) (defScope s__law_refused) .none kV34 dc34 pm34 an34 (cd34) ct34), sl34⟩)
    (c34 : PySem.W.codeIn K (cd34) "_law_refused" = true)
    (k34 : PySem.W.keepIn K (.ref f34) = true)
    {f35 : Addr}
    {od35 an35 : Option Addr} {sl35 : Array (Option Value)} {oc35 kV35 dc35 pm35 ct35 : Value}
    {e35 p35 : Addr} {cc35 : Value} {dd35 : Option Addr} {vs35 : Array Value} {sk35 : Array (Option Value)}
    (a35 : PySem.W.nsIn K mainGlobals "_law_floods_refused" = some (some (.ref f35)))
    (l35 : K.lookup f35 = some ⟨oc35, od35, .func (PySem.W.fnOf "_law_floods_refused" "_law_floods_refused" (defArgs s__law_floods_refused) (defBody s__law_floods_refused) (defScope s__law_floods_refused) .none kV35 dc35 pm35 an35 (.ref e35) ct35), sl35⟩)
    (c35 : PySem.W.codeIn K (.ref e35) "_law_floods_refused" = true)
    (k35 : PySem.W.keepIn K (.ref f35) = true)
    (u35 : K.lookup e35 = some ⟨cc35, dd35, .fields vs35, sk35⟩)
    (v35 : vs35[11]? = some (.ref p35))
    (w35 : hdB cc35 e35 p35 vs35 = true)
    (x35 : K.lookup p35 = none)
    {f36 : Addr}
    {od36 an36 : Option Addr} {sl36 : Array (Option Value)} {oc36 kV36 dc36 pm36 ct36 : Value}
    {e36 p36 : Addr} {cc36 : Value} {dd36 : Option Addr} {vs36 : Array Value} {sk36 : Array (Option Value)}
    (a36 : PySem.W.nsIn K mainGlobals "_law_others_refused" = some (some (.ref f36)))
    (l36 : K.lookup f36 = some ⟨oc36, od36, .func (PySem.W.fnOf "_law_others_refused" "_law_others_refused" (defArgs s__law_others_refused) (defBody s__law_others_refused) (defScope s__law_others_refused) .none kV36 dc36 pm36 an36 (.ref e36) ct36), sl36⟩)
    (c36 : PySem.W.codeIn K (.ref e36) "_law_others_refused" = true)
    (k36 : PySem.W.keepIn K (.ref f36) = true)
    (u36 : K.lookup e36 = some ⟨cc36, dd36, .fields vs36, sk36⟩)
    (v36 : vs36[11]? = some (.ref p36))
    (w36 : hdB cc36 e36 p36 vs36 = true)
    (x36 : K.lookup p36 = none)
    {f37 : Addr}
    {od37 an37 : Option Addr} {sl37 : Array (Option Value)} {oc37 kV37 dc37 pm37 ct37 : Value}
    {e37 p37 : Addr} {cc37 : Value} {dd37 : Option Addr} {vs37 : Array Value} {sk37 : Array (Option Value)}
    (a37 : PySem.W.nsIn K mainGlobals "law" = some (some (.ref f37)))
    (l37 : K.lookup f37 = some ⟨oc37, od37, .func (PySem.W.fnOf "law" "law" (defArgs s_law) (defBody s_law) (defScope s_law) .none kV37 dc37 pm37 an37 (.ref e37) ct37), sl37⟩)
    (c37 : PySem.W.codeIn K (.ref e37) "law" = true)
    (k37 : PySem.W.keepIn K (.ref f37) = true)
    (u37 : K.lookup e37 = some ⟨cc37, dd37, .fields vs37, sk37⟩)
    (v37 : vs37[11]? = some (.ref p37))
    (w37 : hdB cc37 e37 p37 vs37 = true)
    (x37 : K.lookup p37 = none)
    (q0_1 : p33 ≠ p35)
    (q0_2 : p33 ≠ p36)
    (q1_2 : p35 ≠ p36)
    (q0_3 : p33 ≠ p37)
    (q1_3 : p35 ≠ p37)
    (q2_3 : p36 ≠ p37)
    (z_isinstance : PySem.W.nsIn K mainGlobals "isinstance" = some none)
    (z_int : PySem.W.nsIn K mainGlobals "int" = some none)
    (z_bool : PySem.W.nsIn K mainGlobals "bool" = some none)
    (z_list : PySem.W.nsIn K mainGlobals "list" = some none)
    (z_tuple : PySem.W.nsIn K mainGlobals "tuple" = some none)
    (z_str : PySem.W.nsIn K mainGlobals "str" = some none)
    (z_len : PySem.W.nsIn K mainGlobals "len" = some none)
    (z_all : PySem.W.nsIn K mainGlobals "all" = some none)
    (z_zip : PySem.W.nsIn K mainGlobals "zip" = some none)
    (z_range : PySem.W.nsIn K mainGlobals "range" = some none)
    (z_enumerate : PySem.W.nsIn K mainGlobals "enumerate" = some none)
    (z_sum : PySem.W.nsIn K mainGlobals "sum" = some none)
    (z_max : PySem.W.nsIn K mainGlobals "max" = some none)
    (z_min : PySem.W.nsIn K mainGlobals "min" = some none)
    (z_sorted : PySem.W.nsIn K mainGlobals "sorted" = some none)
    (z_divmod : PySem.W.nsIn K mainGlobals "divmod" = some none)
    {t_MOST_TOP : Tok}
    (y_MOST_TOP : PySem.W.nsIn K mainGlobals "MOST_TOP" = some (some (.int 40 t_MOST_TOP)))
    {t_MOST_MARKS : Tok}
    (y_MOST_MARKS : PySem.W.nsIn K mainGlobals "MOST_MARKS" = some (some (.int 8 t_MOST_MARKS)))
    {t_MOST_FLOODS : Tok}
    (y_MOST_FLOODS : PySem.W.nsIn K mainGlobals "MOST_FLOODS" = some (some (.int 40 t_MOST_FLOODS)))
    {t_MOST_FAR : Tok}
    (y_MOST_FAR : PySem.W.nsIn K mainGlobals "MOST_FAR" = some (some (.int 1000000000000000000 t_MOST_FAR)))
    {t_MOST_BY : Tok}
    (y_MOST_BY : PySem.W.nsIn K mainGlobals "MOST_BY" = some (some (.int 1000000000 t_MOST_BY)))
    {t_MOST_LOG : Tok}
    (y_MOST_LOG : PySem.W.nsIn K mainGlobals "MOST_LOG" = some (some (.int 6 t_MOST_LOG)))
    {A0 : Addr}
    (gg0 : PySem.W.nsIn K mainGlobals "NoTop" = some (some (.ref A0)))
    (b0 : PySem.W.subIn K (.ref A0) (.type "BaseException") = some true)
    (t0 : PySem.W.typeIn K (.ref A0) = some (.type "type"))
    (i0 : PySem.W.isClsIn K A0 = true)
    {A1 : Addr}
    (gg1 : PySem.W.nsIn K mainGlobals "NoMarks" = some (some (.ref A1)))
    (b1 : PySem.W.subIn K (.ref A1) (.type "BaseException") = some true)
    (t1 : PySem.W.typeIn K (.ref A1) = some (.type "type"))
    (i1 : PySem.W.isClsIn K A1 = true)
    {A2 : Addr}
    (gg2 : PySem.W.nsIn K mainGlobals "NoFloods" = some (some (.ref A2)))
    (b2 : PySem.W.subIn K (.ref A2) (.type "BaseException") = some true)
    (t2 : PySem.W.typeIn K (.ref A2) = some (.type "type"))
    (i2 : PySem.W.isClsIn K A2 = true)
    {A3 : Addr}
    (gg3 : PySem.W.nsIn K mainGlobals "NoMany" = some (some (.ref A3)))
    (b3 : PySem.W.subIn K (.ref A3) (.type "BaseException") = some true)
    (t3 : PySem.W.typeIn K (.ref A3) = some (.type "type"))
    (i3 : PySem.W.isClsIn K A3 = true)
    {A4 : Addr}
    (gg4 : PySem.W.nsIn K mainGlobals "NoBy" = some (some (.ref A4)))
    (b4 : PySem.W.subIn K (.ref A4) (.type "BaseException") = some true)
    (t4 : PySem.W.typeIn K (.ref A4) = some (.type "type"))
    (i4 : PySem.W.isClsIn K A4 = true)
    {A5 : Addr}
    (gg5 : PySem.W.nsIn K mainGlobals "NoPlace" = some (some (.ref A5)))
    (b5 : PySem.W.subIn K (.ref A5) (.type "BaseException") = some true)
    (t5 : PySem.W.typeIn K (.ref A5) = some (.type "type"))
    (i5 : PySem.W.isClsIn K A5 = true)
    {A6 : Addr}
    (gg6 : PySem.W.nsIn K mainGlobals "NoNumber" = some (some (.ref A6)))
    (b6 : PySem.W.subIn K (.ref A6) (.type "BaseException") = some true)
    (t6 : PySem.W.typeIn K (.ref A6) = some (.type "type"))
    (i6 : PySem.W.isClsIn K A6 = true)
    {A7 : Addr}
    (gg7 : PySem.W.nsIn K mainGlobals "FloodError" = some (some (.ref A7)))
    (b7 : PySem.W.subIn K (.ref A7) (.type "BaseException") = some true)
    (t7 : PySem.W.typeIn K (.ref A7) = some (.type "type"))
    (i7 : PySem.W.isClsIn K A7 = true)
    (r0 : PySem.W.excIn K A0 [.type "ValueError", .type "Exception", .type "BaseException", .type "object"] "ValueError.__new__" = true)
    (j0 : PySem.W.keepIn K (.ref A0) = true)
    (m0 : PySem.W.findIn K (.ref A0) "__getattribute__" = some (some (.builtin "BaseException.__getattribute__")))
    (n0 : PySem.W.findIn K (.ref A0) "__getattr__" = some none)
    (o0 : PySem.W.hasDictIn K A0 = true)
    (h0 : PySem.W.findIn K (.ref A0) "__class__" = some (some (.builtin "object.__class__")))
    (s0 : PySem.W.mroIn K A0 (.type "object") = some true)
    (F0 : PySem.W.subIn K (.ref A0) (.ref A7) = some true)
    (S0_0 : PySem.W.subIn K (.ref A0) (.ref A0) = some true)
    (S0_1 : PySem.W.subIn K (.ref A0) (.ref A1) = some false)
    (S0_2 : PySem.W.subIn K (.ref A0) (.ref A2) = some false)
    (S0_3 : PySem.W.subIn K (.ref A0) (.ref A3) = some false)
    (S0_4 : PySem.W.subIn K (.ref A0) (.ref A4) = some false)
    (S0_5 : PySem.W.subIn K (.ref A0) (.ref A5) = some false)
    (S0_6 : PySem.W.subIn K (.ref A0) (.ref A6) = some false)
    (r1 : PySem.W.excIn K A1 [.type "ValueError", .type "Exception", .type "BaseException", .type "object"] "ValueError.__new__" = true)
    (j1 : PySem.W.keepIn K (.ref A1) = true)
    (m1 : PySem.W.findIn K (.ref A1) "__getattribute__" = some (some (.builtin "BaseException.__getattribute__")))
    (n1 : PySem.W.findIn K (.ref A1) "__getattr__" = some none)
    (o1 : PySem.W.hasDictIn K A1 = true)
    (h1 : PySem.W.findIn K (.ref A1) "__class__" = some (some (.builtin "object.__class__")))
    (s1 : PySem.W.mroIn K A1 (.type "object") = some true)
    (F1 : PySem.W.subIn K (.ref A1) (.ref A7) = some true)
    (S1_0 : PySem.W.subIn K (.ref A1) (.ref A0) = some false)
    (S1_1 : PySem.W.subIn K (.ref A1) (.ref A1) = some true)
    (S1_2 : PySem.W.subIn K (.ref A1) (.ref A2) = some false)
    (S1_3 : PySem.W.subIn K (.ref A1) (.ref A3) = some false)
    (S1_4 : PySem.W.subIn K (.ref A1) (.ref A4) = some false)
    (S1_5 : PySem.W.subIn K (.ref A1) (.ref A5) = some false)
    (S1_6 : PySem.W.subIn K (.ref A1) (.ref A6) = some false)
    (r2 : PySem.W.excIn K A2 [.type "ValueError", .type "Exception", .type "BaseException", .type "object"] "ValueError.__new__" = true)
    (j2 : PySem.W.keepIn K (.ref A2) = true)
    (m2 : PySem.W.findIn K (.ref A2) "__getattribute__" = some (some (.builtin "BaseException.__getattribute__")))
    (n2 : PySem.W.findIn K (.ref A2) "__getattr__" = some none)
    (o2 : PySem.W.hasDictIn K A2 = true)
    (h2 : PySem.W.findIn K (.ref A2) "__class__" = some (some (.builtin "object.__class__")))
    (s2 : PySem.W.mroIn K A2 (.type "object") = some true)
    (F2 : PySem.W.subIn K (.ref A2) (.ref A7) = some true)
    (S2_0 : PySem.W.subIn K (.ref A2) (.ref A0) = some false)
    (S2_1 : PySem.W.subIn K (.ref A2) (.ref A1) = some false)
    (S2_2 : PySem.W.subIn K (.ref A2) (.ref A2) = some true)
    (S2_3 : PySem.W.subIn K (.ref A2) (.ref A3) = some false)
    (S2_4 : PySem.W.subIn K (.ref A2) (.ref A4) = some false)
    (S2_5 : PySem.W.subIn K (.ref A2) (.ref A5) = some false)
    (S2_6 : PySem.W.subIn K (.ref A2) (.ref A6) = some false)
    (r3 : PySem.W.excIn K A3 [.type "ValueError", .type "Exception", .type "BaseException", .type "object"] "ValueError.__new__" = true)
    (j3 : PySem.W.keepIn K (.ref A3) = true)
    (m3 : PySem.W.findIn K (.ref A3) "__getattribute__" = some (some (.builtin "BaseException.__getattribute__")))
    (n3 : PySem.W.findIn K (.ref A3) "__getattr__" = some none)
    (o3 : PySem.W.hasDictIn K A3 = true)
    (h3 : PySem.W.findIn K (.ref A3) "__class__" = some (some (.builtin "object.__class__")))
    (s3 : PySem.W.mroIn K A3 (.type "object") = some true)
    (F3 : PySem.W.subIn K (.ref A3) (.ref A7) = some true)
    (S3_0 : PySem.W.subIn K (.ref A3) (.ref A0) = some false)
    (S3_1 : PySem.W.subIn K (.ref A3) (.ref A1) = some false)
    (S3_2 : PySem.W.subIn K (.ref A3) (.ref A2) = some false)
    (S3_3 : PySem.W.subIn K (.ref A3) (.ref A3) = some true)
    (S3_4 : PySem.W.subIn K (.ref A3) (.ref A4) = some false)
    (S3_5 : PySem.W.subIn K (.ref A3) (.ref A5) = some false)
    (S3_6 : PySem.W.subIn K (.ref A3) (.ref A6) = some false)
    (r4 : PySem.W.excIn K A4 [.type "ValueError", .type "Exception", .type "BaseException", .type "object"] "ValueError.__new__" = true)
    (j4 : PySem.W.keepIn K (.ref A4) = true)
    (m4 : PySem.W.findIn K (.ref A4) "__getattribute__" = some (some (.builtin "BaseException.__getattribute__")))
    (n4 : PySem.W.findIn K (.ref A4) "__getattr__" = some none)
    (o4 : PySem.W.hasDictIn K A4 = true)
    (h4 : PySem.W.findIn K (.ref A4) "__class__" = some (some (.builtin "object.__class__")))
    (s4 : PySem.W.mroIn K A4 (.type "object") = some true)
    (F4 : PySem.W.subIn K (.ref A4) (.ref A7) = some true)
    (S4_0 : PySem.W.subIn K (.ref A4) (.ref A0) = some false)
    (S4_1 : PySem.W.subIn K (.ref A4) (.ref A1) = some false)
    (S4_2 : PySem.W.subIn K (.ref A4) (.ref A2) = some false)
    (S4_3 : PySem.W.subIn K (.ref A4) (.ref A3) = some false)
    (S4_4 : PySem.W.subIn K (.ref A4) (.ref A4) = some true)
    (S4_5 : PySem.W.subIn K (.ref A4) (.ref A5) = some false)
    (S4_6 : PySem.W.subIn K (.ref A4) (.ref A6) = some false)
    (r5 : PySem.W.excIn K A5 [.type "ValueError", .type "Exception", .type "BaseException", .type "object"] "ValueError.__new__" = true)
    (j5 : PySem.W.keepIn K (.ref A5) = true)
    (m5 : PySem.W.findIn K (.ref A5) "__getattribute__" = some (some (.builtin "BaseException.__getattribute__")))
    (n5 : PySem.W.findIn K (.ref A5) "__getattr__" = some none)
    (o5 : PySem.W.hasDictIn K A5 = true)
    (h5 : PySem.W.findIn K (.ref A5) "__class__" = some (some (.builtin "object.__class__")))
    (s5 : PySem.W.mroIn K A5 (.type "object") = some true)
    (F5 : PySem.W.subIn K (.ref A5) (.ref A7) = some true)
    (S5_0 : PySem.W.subIn K (.ref A5) (.ref A0) = some false)
    (S5_1 : PySem.W.subIn K (.ref A5) (.ref A1) = some false)
    (S5_2 : PySem.W.subIn K (.ref A5) (.ref A2) = some false)
    (S5_3 : PySem.W.subIn K (.ref A5) (.ref A3) = some false)
    (S5_4 : PySem.W.subIn K (.ref A5) (.ref A4) = some false)
    (S5_5 : PySem.W.subIn K (.ref A5) (.ref A5) = some true)
    (S5_6 : PySem.W.subIn K (.ref A5) (.ref A6) = some false)
    (r6 : PySem.W.excIn K A6 [.type "ValueError", .type "Exception", .type "BaseException", .type "object"] "ValueError.__new__" = true)
    (j6 : PySem.W.keepIn K (.ref A6) = true)
    (m6 : PySem.W.findIn K (.ref A6) "__getattribute__" = some (some (.builtin "BaseException.__getattribute__")))
    (n6 : PySem.W.findIn K (.ref A6) "__getattr__" = some none)
    (o6 : PySem.W.hasDictIn K A6 = true)
    (h6 : PySem.W.findIn K (.ref A6) "__class__" = some (some (.builtin "object.__class__")))
    (s6 : PySem.W.mroIn K A6 (.type "object") = some true)
    (F6 : PySem.W.subIn K (.ref A6) (.ref A7) = some true)
    (S6_0 : PySem.W.subIn K (.ref A6) (.ref A0) = some false)
    (S6_1 : PySem.W.subIn K (.ref A6) (.ref A1) = some false)
    (S6_2 : PySem.W.subIn K (.ref A6) (.ref A2) = some false)
    (S6_3 : PySem.W.subIn K (.ref A6) (.ref A3) = some false)
    (S6_4 : PySem.W.subIn K (.ref A6) (.ref A4) = some false)
    (S6_5 : PySem.W.subIn K (.ref A6) (.ref A5) = some false)
    (S6_6 : PySem.W.subIn K (.ref A6) (.ref A6) = some true)
    (N0 : PySem.W.specialIn K (.builtin "object.__class__") "__get__" = some (some (.builtin "getset_descriptor.__get__")))
    (N1 : PySem.W.takesIn K (.builtin "object.__class__") = some true) :
    LamX.LawAtS l w K CX0 11 63 "script" mg fa h := by
  have e := hfa.symm.trans (PySem.W.mg_of X G a37)
  cases e
  have B : Bt mg := ⟨PySem.W.mg_none_of X G z_isinstance, PySem.W.mg_none_of X G z_int, PySem.W.mg_none_of X G z_bool, PySem.W.mg_none_of X G z_list, PySem.W.mg_none_of X G z_tuple, PySem.W.mg_none_of X G z_str, PySem.W.mg_none_of X G z_len, PySem.W.mg_none_of X G z_all, PySem.W.mg_none_of X G z_zip, PySem.W.mg_none_of X G z_range, PySem.W.mg_none_of X G z_enumerate, PySem.W.mg_none_of X G z_sum, PySem.W.mg_none_of X G z_max, PySem.W.mg_none_of X G z_min, PySem.W.mg_none_of X G z_sorted, PySem.W.mg_none_of X G z_divmod, ⟨_, PySem.W.mg_of X G y_MOST_TOP⟩, ⟨_, PySem.W.mg_of X G y_MOST_MARKS⟩, ⟨_, PySem.W.mg_of X G y_MOST_FLOODS⟩, ⟨_, PySem.W.mg_of X G y_MOST_FAR⟩, ⟨_, PySem.W.mg_of X G y_MOST_BY⟩, ⟨_, PySem.W.mg_of X G y_MOST_LOG⟩⟩
  have CL : L3.Cls K mg (fun i => ([A0, A1, A2, A3, A4, A5, A6] : List Addr).getD i 0) A7 := by
    refine ⟨fun i hi => ?_, fun i hi => ?_, fun i j hi hj => ?_, PySem.W.mg_of X G gg7, fun i hi => ?_⟩
    · match i, hi with
      | 0, _ => exact ⟨PySem.W.mg_of X G gg0, r0, j0, b0, t0⟩
      | 1, _ => exact ⟨PySem.W.mg_of X G gg1, r1, j1, b1, t1⟩
      | 2, _ => exact ⟨PySem.W.mg_of X G gg2, r2, j2, b2, t2⟩
      | 3, _ => exact ⟨PySem.W.mg_of X G gg3, r3, j3, b3, t3⟩
      | 4, _ => exact ⟨PySem.W.mg_of X G gg4, r4, j4, b4, t4⟩
      | 5, _ => exact ⟨PySem.W.mg_of X G gg5, r5, j5, b5, t5⟩
      | 6, _ => exact ⟨PySem.W.mg_of X G gg6, r6, j6, b6, t6⟩
      | n + 7, h => exact absurd h (by omega)
    · match i, hi with
      | 0, _ => exact ⟨m0, n0, b0, o0, h0, N0, N1, s0⟩
      | 1, _ => exact ⟨m1, n1, b1, o1, h1, N0, N1, s1⟩
      | 2, _ => exact ⟨m2, n2, b2, o2, h2, N0, N1, s2⟩
      | 3, _ => exact ⟨m3, n3, b3, o3, h3, N0, N1, s3⟩
      | 4, _ => exact ⟨m4, n4, b4, o4, h4, N0, N1, s4⟩
      | 5, _ => exact ⟨m5, n5, b5, o5, h5, N0, N1, s5⟩
      | 6, _ => exact ⟨m6, n6, b6, o6, h6, N0, N1, s6⟩
      | n + 7, h => exact absurd h (by omega)
    · match i, hi, j, hj with
      | 0, _, 0, _ => exact kit_same
      | 0, _, 1, _ => exact kit_ne i1 t1 S0_0 S0_1
      | 0, _, 2, _ => exact kit_ne i2 t2 S0_0 S0_2
      | 0, _, 3, _ => exact kit_ne i3 t3 S0_0 S0_3
      | 0, _, 4, _ => exact kit_ne i4 t4 S0_0 S0_4
      | 0, _, 5, _ => exact kit_ne i5 t5 S0_0 S0_5
      | 0, _, 6, _ => exact kit_ne i6 t6 S0_0 S0_6
      | 1, _, 0, _ => exact kit_ne i0 t0 S1_1 S1_0
      | 1, _, 1, _ => exact kit_same
      | 1, _, 2, _ => exact kit_ne i2 t2 S1_1 S1_2
      | 1, _, 3, _ => exact kit_ne i3 t3 S1_1 S1_3
      | 1, _, 4, _ => exact kit_ne i4 t4 S1_1 S1_4
      | 1, _, 5, _ => exact kit_ne i5 t5 S1_1 S1_5
      | 1, _, 6, _ => exact kit_ne i6 t6 S1_1 S1_6
      | 2, _, 0, _ => exact kit_ne i0 t0 S2_2 S2_0
      | 2, _, 1, _ => exact kit_ne i1 t1 S2_2 S2_1
      | 2, _, 2, _ => exact kit_same
      | 2, _, 3, _ => exact kit_ne i3 t3 S2_2 S2_3
      | 2, _, 4, _ => exact kit_ne i4 t4 S2_2 S2_4
      | 2, _, 5, _ => exact kit_ne i5 t5 S2_2 S2_5
      | 2, _, 6, _ => exact kit_ne i6 t6 S2_2 S2_6
      | 3, _, 0, _ => exact kit_ne i0 t0 S3_3 S3_0
      | 3, _, 1, _ => exact kit_ne i1 t1 S3_3 S3_1
      | 3, _, 2, _ => exact kit_ne i2 t2 S3_3 S3_2
      | 3, _, 3, _ => exact kit_same
      | 3, _, 4, _ => exact kit_ne i4 t4 S3_3 S3_4
      | 3, _, 5, _ => exact kit_ne i5 t5 S3_3 S3_5
      | 3, _, 6, _ => exact kit_ne i6 t6 S3_3 S3_6
      | 4, _, 0, _ => exact kit_ne i0 t0 S4_4 S4_0
      | 4, _, 1, _ => exact kit_ne i1 t1 S4_4 S4_1
      | 4, _, 2, _ => exact kit_ne i2 t2 S4_4 S4_2
      | 4, _, 3, _ => exact kit_ne i3 t3 S4_4 S4_3
      | 4, _, 4, _ => exact kit_same
      | 4, _, 5, _ => exact kit_ne i5 t5 S4_4 S4_5
      | 4, _, 6, _ => exact kit_ne i6 t6 S4_4 S4_6
      | 5, _, 0, _ => exact kit_ne i0 t0 S5_5 S5_0
      | 5, _, 1, _ => exact kit_ne i1 t1 S5_5 S5_1
      | 5, _, 2, _ => exact kit_ne i2 t2 S5_5 S5_2
      | 5, _, 3, _ => exact kit_ne i3 t3 S5_5 S5_3
      | 5, _, 4, _ => exact kit_ne i4 t4 S5_5 S5_4
      | 5, _, 5, _ => exact kit_same
      | 5, _, 6, _ => exact kit_ne i6 t6 S5_5 S5_6
      | 6, _, 0, _ => exact kit_ne i0 t0 S6_6 S6_0
      | 6, _, 1, _ => exact kit_ne i1 t1 S6_6 S6_1
      | 6, _, 2, _ => exact kit_ne i2 t2 S6_6 S6_2
      | 6, _, 3, _ => exact kit_ne i3 t3 S6_6 S6_3
      | 6, _, 4, _ => exact kit_ne i4 t4 S6_6 S6_4
      | 6, _, 5, _ => exact kit_ne i5 t5 S6_6 S6_5
      | 6, _, 6, _ => exact kit_same
      | n + 7, h, _, _ => exact absurd h (by omega)
      | _, _, n + 7, h => exact absurd h (by omega)
    · match i, hi with
      | 0, _ => exact exm_in i7 t7 b7 F0
      | 1, _ => exact exm_in i7 t7 b7 F1
      | 2, _ => exact exm_in i7 t7 b7 F2
      | 3, _ => exact exm_in i7 t7 b7 F3
      | 4, _ => exact exm_in i7 t7 b7 F4
      | 5, _ => exact exm_in i7 t7 b7 F5
      | 6, _ => exact exm_in i7 t7 b7 F6
      | n + 7, h => exact absurd h (by omega)
  have F0 := fun_mk (st := s_is_whole) l0 c0 k0
  have bb0 := F0.binds (ps := ["thing"]) fun _ _ _ _ _ _ us hl => match us, hl with | [_], _ => rfl
  have d0 : Df K mg "is_whole" s_is_whole ["thing"] := ⟨_, _, F0, PySem.W.mg_of X G a0, bb0⟩
  have F1 := fun_mk (st := s_is_within) l1 c1 k1
  have bb1 := F1.binds (ps := ["thing", "low", "high"]) fun _ _ _ _ _ _ us hl => match us, hl with | [_, _, _], _ => rfl
  have d1 : Df K mg "is_within" s_is_within ["thing", "low", "high"] := ⟨_, _, F1, PySem.W.mg_of X G a1, bb1⟩
  have F2 := fun_mk (st := s_look_at_top) l2 c2 k2
  have bb2 := F2.binds (ps := ["top"]) fun _ _ _ _ _ _ us hl => match us, hl with | [_], _ => rfl
  have d2 : Df K mg "look_at_top" s_look_at_top ["top"] := ⟨_, _, F2, PySem.W.mg_of X G a2, bb2⟩
  have F3 := fun_mk (st := s_falls) l3 c3 k3
  have bb3 := F3.binds (ps := ["things"]) fun _ _ _ _ _ _ us hl => match us, hl with | [_], _ => rfl
  have d3 : Df K mg "falls" s_falls ["things"] := ⟨_, _, F3, PySem.W.mg_of X G a3, bb3⟩
  have F4 := fun_mk (st := s_are_marks_of) l4 c4 k4
  have bb4 := F4.binds (ps := ["top", "thing"]) fun _ _ _ _ _ _ us hl => match us, hl with | [_, _], _ => rfl
  have d4 : Df K mg "are_marks_of" s_are_marks_of ["top", "thing"] := ⟨_, _, F4, PySem.W.mg_of X G a4, bb4⟩
  have F5 := fun_mk (st := s_are_marks) l5 c5 k5
  have bb5 := F5.binds (ps := ["top", "thing"]) fun _ _ _ _ _ _ us hl => match us, hl with | [_, _], _ => rfl
  have d5 : Df K mg "are_marks" s_are_marks ["top", "thing"] := ⟨_, _, F5, PySem.W.mg_of X G a5, bb5⟩
  have F6 := fun_mk (st := s_look_at_marks) l6 c6 k6
  have bb6 := F6.binds (ps := ["top", "marks"]) fun _ _ _ _ _ _ us hl => match us, hl with | [_, _], _ => rfl
  have d6 : Df K mg "look_at_marks" s_look_at_marks ["top", "marks"] := ⟨_, _, F6, PySem.W.mg_of X G a6, bb6⟩
  have F7 := fun_mk (st := s_look_at_many) l7 c7 k7
  have bb7 := F7.binds (ps := ["many", "most"]) fun _ _ _ _ _ _ us hl => match us, hl with | [_, _], _ => rfl
  have d7 : Df K mg "look_at_many" s_look_at_many ["many", "most"] := ⟨_, _, F7, PySem.W.mg_of X G a7, bb7⟩
  have F8 := fun_mk (st := s_are_floods) l8 c8 k8
  have bb8 := F8.binds (ps := ["top", "thing", "least"]) fun _ _ _ _ _ _ us hl => match us, hl with | [_, _, _], _ => rfl
  have d8 : Df K mg "are_floods" s_are_floods ["top", "thing", "least"] := ⟨_, _, F8, PySem.W.mg_of X G a8, bb8⟩
  have F9 := fun_mk (st := s_behind) l9 c9 k9
  have bb9 := F9.binds (ps := ["top", "marks", "floods"]) fun _ _ _ _ _ _ us hl => match us, hl with | [_, _, _], _ => rfl
  have d9 : Df K mg "behind" s_behind ["top", "marks", "floods"] := ⟨_, _, F9, PySem.W.mg_of X G a9, bb9⟩
  have F10 := fun_mk (st := s_far) l10 c10 k10
  have bb10 := F10.binds (ps := ["top", "marks", "tour", "many"]) fun _ _ _ _ _ _ us hl => match us, hl with | [_, _, _, _], _ => rfl
  have d10 : Df K mg "far" s_far ["top", "marks", "tour", "many"] := ⟨_, _, F10, PySem.W.mg_of X G a10, bb10⟩
  have F11 := fun_mk (st := s_look_at_both) l11 c11 k11
  have bb11 := F11.binds (ps := ["top", "marks", "later"]) fun _ _ _ _ _ _ us hl => match us, hl with | [_, _, _], _ => rfl
  have d11 : Df K mg "look_at_both" s_look_at_both ["top", "marks", "later"] := ⟨_, _, F11, PySem.W.mg_of X G a11, bb11⟩
  have F12 := fun_mk (st := s_how_many) l12 c12 k12
  have bb12 := F12.binds (ps := ["top", "marks", "later", "many"]) fun _ _ _ _ _ _ us hl => match us, hl with | [_, _, _, _], _ => rfl
  have d12 : Df K mg "how_many" s_how_many ["top", "marks", "later", "many"] := ⟨_, _, F12, PySem.W.mg_of X G a12, bb12⟩
  have F13 := fun_mk (st := s_rest) l13 c13 k13
  have bb13 := F13.binds (ps := ["top", "marks", "later", "many", "by"]) fun _ _ _ _ _ _ us hl => match us, hl with | [_, _, _, _, _], _ => rfl
  have d13 : Df K mg "rest" s_rest ["top", "marks", "later", "many", "by"] := ⟨_, _, F13, PySem.W.mg_of X G a13, bb13⟩
  have F14 := fun_mk (st := s_shortest) l14 c14 k14
  have bb14 := F14.binds (ps := ["top", "marks", "later"]) fun _ _ _ _ _ _ us hl => match us, hl with | [_, _, _], _ => rfl
  have d14 : Df K mg "shortest" s_shortest ["top", "marks", "later"] := ⟨_, _, F14, PySem.W.mg_of X G a14, bb14⟩
  have F15 := fun_mk (st := s_first_row) l15 c15 k15
  have bb15 := F15.binds (ps := ["top", "marks", "later", "many"]) fun _ _ _ _ _ _ us hl => match us, hl with | [_, _, _, _], _ => rfl
  have d15 : Df K mg "first_row" s_first_row ["top", "marks", "later", "many"] := ⟨_, _, F15, PySem.W.mg_of X G a15, bb15⟩
  have F16 := fun_mk (st := s_is_log) l16 c16 k16
  have bb16 := F16.binds (ps := ["top", "thing"]) fun _ _ _ _ _ _ us hl => match us, hl with | [_, _], _ => rfl
  have d16 : Df K mg "is_log" s_is_log ["top", "thing"] := ⟨_, _, F16, PySem.W.mg_of X G a16, bb16⟩
  have F17 := fun_mk (st := s_log_ways) l17 c17 k17
  have bb17 := F17.binds (ps := ["top", "marks", "log"]) fun _ _ _ _ _ _ us hl => match us, hl with | [_, _, _], _ => rfl
  have d17 : Df K mg "log_ways" s_log_ways ["top", "marks", "log"] := ⟨_, _, F17, PySem.W.mg_of X G a17, bb17⟩
  have F18 := fun_mk (st := s_alike_by) l18 c18 k18
  have bb18 := F18.binds (ps := ["top", "one", "other"]) fun _ _ _ _ _ _ us hl => match us, hl with | [_, _, _], _ => rfl
  have d18 : Df K mg "alike_by" s_alike_by ["top", "one", "other"] := ⟨_, _, F18, PySem.W.mg_of X G a18, bb18⟩
  have F19 := fun_mk (st := s_how_many_marks) l19 c19 k19
  have bb19 := F19.binds (ps := ["top", "marks", "many"]) fun _ _ _ _ _ _ us hl => match us, hl with | [_, _, _], _ => rfl
  have d19 : Df K mg "how_many_marks" s_how_many_marks ["top", "marks", "many"] := ⟨_, _, F19, PySem.W.mg_of X G a19, bb19⟩
  have F20 := fun_mk (st := s_days) l20 c20 k20
  have bb20 := F20.binds (ps := ["top", "marks", "later", "many", "place"]) fun _ _ _ _ _ _ us hl => match us, hl with | [_, _, _, _, _], _ => rfl
  have d20 : Df K mg "days" s_days ["top", "marks", "later", "many", "place"] := ⟨_, _, F20, PySem.W.mg_of X G a20, bb20⟩
  have F21 := fun_mk (st := s_heights) l21 c21 k21
  have bb21 := F21.binds (ps := ["top", "marks", "later", "many", "number"]) fun _ _ _ _ _ _ us hl => match us, hl with | [_, _, _, _, _], _ => rfl
  have d21 : Df K mg "heights" s_heights ["top", "marks", "later", "many", "number"] := ⟨_, _, F21, PySem.W.mg_of X G a21, bb21⟩
  have F22 := fun_mk (st := s_unread) l22 c22 k22
  have bb22 := F22.binds (ps := ["top", "marks", "later", "many"]) fun _ _ _ _ _ _ us hl => match us, hl with | [_, _, _, _], _ => rfl
  have d22 : Df K mg "unread" s_unread ["top", "marks", "later", "many"] := ⟨_, _, F22, PySem.W.mg_of X G a22, bb22⟩
  have F23 := fun_mk (st := s__law_well) l23 c23 k23
  have bb23 := F23.binds (ps := ["cell", "turn"]) fun _ _ _ _ _ _ us hl => match us, hl with | [_, _], _ => rfl
  have d23 : Df K mg "_law_well" s__law_well ["cell", "turn"] := ⟨_, _, F23, PySem.W.mg_of X G a23, bb23⟩
  have F24 := fun_mk (st := s__law_take) l24 c24 k24
  have bb24 := F24.binds (ps := ["bag", "many"]) fun _ _ _ _ _ _ us hl => match us, hl with | [_, _], _ => rfl
  have d24 : Df K mg "_law_take" s__law_take ["bag", "many"] := ⟨_, _, F24, PySem.W.mg_of X G a24, bb24⟩
  have F25 := fun_mk (st := s__law_bags) l25 c25 k25
  have bb25 := F25.binds (ps := ["script", "most"]) fun _ _ _ _ _ _ us hl => match us, hl with | [_, _], _ => rfl
  have d25 : Df K mg "_law_bags" s__law_bags ["script", "most"] := ⟨_, _, F25, PySem.W.mg_of X G a25, bb25⟩
  have F26 := fun_mk (st := s__law_same) l26 c26 k26
  have bb26 := F26.binds (ps := ["a", "b"]) fun _ _ _ _ _ _ us hl => match us, hl with | [_, _], _ => rfl
  have d26 : Df K mg "_law_same" s__law_same ["a", "b"] := ⟨_, _, F26, PySem.W.mg_of X G a26, bb26⟩
  have F27 := fun_mk (st := s__law_in) l27 c27 k27
  have bb27 := F27.binds (ps := ["x", "low", "high"]) fun _ _ _ _ _ _ us hl => match us, hl with | [_, _, _], _ => rfl
  have d27 : Df K mg "_law_in" s__law_in ["x", "low", "high"] := ⟨_, _, F27, PySem.W.mg_of X G a27, bb27⟩
  have F28 := fun_mk (st := s__law_kind) l28 c28 k28
  have bb28 := F28.binds (ps := ["e"]) fun _ _ _ _ _ _ us hl => match us, hl with | [_], _ => rfl
  have d28 : Df K mg "_law_kind" s__law_kind ["e"] := ⟨_, _, F28, PySem.W.mg_of X G a28, bb28⟩
  have F29 := fun_mk (st := s__law_tried) l29 c29 k29
  have bb29 := F29.binds (ps := ["deed"]) fun _ _ _ _ _ _ us hl => match us, hl with | [_], _ => rfl
  have d29 : Df K mg "_law_tried" s__law_tried ["deed"] := ⟨_, _, F29, PySem.W.mg_of X G a29, bb29⟩
  have F30 := fun_mk (st := s__law_marks) l30 c30 k30
  have bb30 := F30.binds (ps := ["bag", "top", "most"]) fun _ _ _ _ _ _ us hl => match us, hl with | [_, _, _], _ => rfl
  have d30 : Df K mg "_law_marks" s__law_marks ["bag", "top", "most"] := ⟨_, _, F30, PySem.W.mg_of X G a30, bb30⟩
  have F31 := fun_mk (st := s__law_flooded) l31 c31 k31
  have bb31 := F31.binds (ps := ["marks1", "heights1"]) fun _ _ _ _ _ _ us hl => match us, hl with | [_, _], _ => rfl
  have d31 : Df K mg "_law_flooded" s__law_flooded ["marks1", "heights1"] := ⟨_, _, F31, PySem.W.mg_of X G a31, bb31⟩
  have F32 := fun_mk (st := s__law_good) l32 c32 k32
  have bb32 := F32.binds (ps := ["top", "x"]) fun _ _ _ _ _ _ us hl => match us, hl with | [_, _], _ => rfl
  have d32 : Df K mg "_law_good" s__law_good ["top", "x"] := ⟨_, _, F32, PySem.W.mg_of X G a32, bb32⟩
  have F33 := fun_mk (st := s__law_doors) l33 c33 k33
  have bb33 := F33.binds (ps := ["top", "x"]) fun _ _ _ _ _ _ us hl => match us, hl with | [_, _], _ => rfl
  have dT33 : DfT K mg "_law_doors" s__law_doors ["top", "x"] e33 := ⟨_, _, _, _, _, _, _, _, _, l33, c33, k33, PySem.W.mg_of X G a33, bb33⟩
  have F34 := fun_mk (st := s__law_refused) l34 c34 k34
  have bb34 := F34.binds (ps := ["doors", "word"]) fun _ _ _ _ _ _ us hl => match us, hl with | [_, _], _ => rfl
  have d34 : Df K mg "_law_refused" s__law_refused ["doors", "word"] := ⟨_, _, F34, PySem.W.mg_of X G a34, bb34⟩
  have F35 := fun_mk (st := s__law_floods_refused) l35 c35 k35
  have bb35 := F35.binds (ps := ["top", "marks1"]) fun _ _ _ _ _ _ us hl => match us, hl with | [_, _], _ => rfl
  have dT35 : DfT K mg "_law_floods_refused" s__law_floods_refused ["top", "marks1"] e35 := ⟨_, _, _, _, _, _, _, _, _, l35, c35, k35, PySem.W.mg_of X G a35, bb35⟩
  have F36 := fun_mk (st := s__law_others_refused) l36 c36 k36
  have bb36 := F36.binds (ps := ["top", "marks1"]) fun _ _ _ _ _ _ us hl => match us, hl with | [_, _], _ => rfl
  have dT36 : DfT K mg "_law_others_refused" s__law_others_refused ["top", "marks1"] e36 := ⟨_, _, _, _, _, _, _, _, _, l36, c36, k36, PySem.W.mg_of X G a36, bb36⟩
  refine ⟨PySem.W.fnOf "law" "law" (defArgs s_law) (defBody s_law) (defScope s_law) .none kV37 dc37 pm37 an37 (.ref e37) ct37, [(e33, p33), (e35, p35), (e36, p36), (e37, p37)], spLaw [(p33, qn "_law_doors" s__law_doors), (p35, qn "_law_floods_refused" s__law_floods_refused), (p36, qn "_law_others_refused" s__law_others_refused), (p37, qn "law" s_law)] K, ?_, ?_, ?_, fun s u => .of_eq rfl, fun H a ns hl hz hH hS => ⟨a, ns, rfl, hS, hl, ?_, fun _ => rfl⟩, fun base KB GB TBs => ?_⟩
  · intro p hp
    simp only [List.mem_cons, List.not_mem_nil, or_false] at hp
    rcases hp with rfl | rfl | rfl | rfl
    · exact own "_law_doors" (by simp [makers]) _ (PySem.W.mg_of X G a33) _ _ _ _ _ _ _ _ l33 rfl rfl u33 v33
    · exact own "_law_floods_refused" (by simp [makers]) _ (PySem.W.mg_of X G a35) _ _ _ _ _ _ _ _ l35 rfl rfl u35 v35
    · exact own "_law_others_refused" (by simp [makers]) _ (PySem.W.mg_of X G a36) _ _ _ _ _ _ _ _ l36 rfl rfl u36 v36
    · exact own "law" (by simp [makers]) _ (PySem.W.mg_of X G a37) _ _ _ _ _ _ _ _ l37 rfl rfl u37 v37
  · intro p hp
    simp only [List.mem_cons, List.not_mem_nil, or_false] at hp
    rcases hp with rfl | rfl | rfl | rfl
    · exact x33
    · exact x35
    · exact x36
    · exact x37
  · intro p hp
    simp only [List.mem_cons, List.not_mem_nil, or_false] at hp
    rcases hp with rfl | rfl | rfl | rfl
    · exact PySem.W.codeHd_of_K X (hd_of u33 v33 w33)
    · exact PySem.W.codeHd_of_K X (hd_of u35 v35 w35)
    · exact PySem.W.codeHd_of_K X (hd_of u36 v36 w36)
    · exact PySem.W.codeHd_of_K X (hd_of u37 v37 w37)
  · refine tabs_nil (cs := [(e33, p33), (e35, p35), (e36, p36), (e37, p37)]) (fun p hp => ?_) hH
    simp only [List.mem_cons, List.not_mem_nil, or_false] at hp
    rcases hp with rfl | rfl | rfl | rfl
    all_goals simp
  obtain ⟨T, eT⟩ : ∃ T, T = ([(p33, qn "_law_doors" s__law_doors), (p35, qn "_law_floods_refused" s__law_floods_refused), (p36, qn "_law_others_refused" s__law_others_refused), (p37, qn "law" s_law)] : List (Addr × Str)) := ⟨_, rfl⟩
  rw [← eT]
  have TB33 := TBs (e33, p33) (by simp)
  have hm33 : (p33, qn "_law_doors" s__law_doors) ∈ T := by rw [eT]; simp
  have hu33 : ∀ p ∈ T, p.1 = p33 → p.2 = qn "_law_doors" s__law_doors := by
    intro p hp he
    rw [eT] at hp
    simp only [List.mem_cons, List.not_mem_nil, or_false] at hp
    rcases hp with rfl | rfl | rfl | rfl
    all_goals first | exact absurd he q0_1 | exact absurd he q0_1.symm | exact absurd he q0_2 | exact absurd he q0_2.symm | exact absurd he q1_2 | exact absurd he q1_2.symm | exact absurd he q0_3 | exact absurd he q0_3.symm | exact absurd he q1_3 | exact absurd he q1_3.symm | exact absurd he q2_3 | exact absurd he q2_3.symm | rfl
  have TB35 := TBs (e35, p35) (by simp)
  have hm35 : (p35, qn "_law_floods_refused" s__law_floods_refused) ∈ T := by rw [eT]; simp
  have hu35 : ∀ p ∈ T, p.1 = p35 → p.2 = qn "_law_floods_refused" s__law_floods_refused := by
    intro p hp he
    rw [eT] at hp
    simp only [List.mem_cons, List.not_mem_nil, or_false] at hp
    rcases hp with rfl | rfl | rfl | rfl
    all_goals first | exact absurd he q0_1 | exact absurd he q0_1.symm | exact absurd he q0_2 | exact absurd he q0_2.symm | exact absurd he q1_2 | exact absurd he q1_2.symm | exact absurd he q0_3 | exact absurd he q0_3.symm | exact absurd he q1_3 | exact absurd he q1_3.symm | exact absurd he q2_3 | exact absurd he q2_3.symm | rfl
  have TB36 := TBs (e36, p36) (by simp)
  have hm36 : (p36, qn "_law_others_refused" s__law_others_refused) ∈ T := by rw [eT]; simp
  have hu36 : ∀ p ∈ T, p.1 = p36 → p.2 = qn "_law_others_refused" s__law_others_refused := by
    intro p hp he
    rw [eT] at hp
    simp only [List.mem_cons, List.not_mem_nil, or_false] at hp
    rcases hp with rfl | rfl | rfl | rfl
    all_goals first | exact absurd he q0_1 | exact absurd he q0_1.symm | exact absurd he q0_2 | exact absurd he q0_2.symm | exact absurd he q1_2 | exact absurd he q1_2.symm | exact absurd he q0_3 | exact absurd he q0_3.symm | exact absurd he q1_3 | exact absurd he q1_3.symm | exact absurd he q2_3 | exact absurd he q2_3.symm | rfl
  have TB37 := TBs (e37, p37) (by simp)
  have hm37 : (p37, qn "law" s_law) ∈ T := by rw [eT]; simp
  have hu37 : ∀ p ∈ T, p.1 = p37 → p.2 = qn "law" s_law := by
    intro p hp he
    rw [eT] at hp
    simp only [List.mem_cons, List.not_mem_nil, or_false] at hp
    rcases hp with rfl | rfl | rfl | rfl
    all_goals first | exact absurd he q0_1 | exact absurd he q0_1.symm | exact absurd he q0_2 | exact absurd he q0_2.symm | exact absurd he q1_2 | exact absurd he q1_2.symm | exact absurd he q0_3 | exact absurd he q0_3.symm | exact absurd he q1_3 | exact absurd he q1_3.symm | exact absurd he q2_3 | exact absurd he q2_3.symm | rfl
  have h_is_whole := ok_is_whole (P := l.prog) (w := w) (base := base) B d0 
  have h_is_within := ok_is_within (P := l.prog) (w := w) (base := base) B d1 h_is_whole
  have h_look_at_top := ok_look_at_top (P := l.prog) (w := w) (base := base) B CL d2 h_is_within
  have h_falls := ok_falls (P := l.prog) (w := w) (base := base) B d3 
  have h_are_marks_of := ok_are_marks_of (P := l.prog) (w := w) (base := base) B d4 h_falls h_is_within
  have h_are_marks := ok_are_marks (P := l.prog) (w := w) (base := base) B CL d5 h_are_marks_of h_look_at_top
  have h_look_at_marks := ok_look_at_marks (P := l.prog) (w := w) (base := base) B CL d6 h_are_marks_of h_look_at_top
  have h_look_at_many := ok_look_at_many (P := l.prog) (w := w) (base := base) B CL d7 h_is_within
  have h_are_floods := ok_are_floods (P := l.prog) (w := w) (base := base) B d8 h_is_within
  have h_behind := ok_behind (P := l.prog) (w := w) (base := base) B CL d9 h_are_floods h_look_at_marks
  have h_far := ok_far (P := l.prog) (w := w) (base := base) B CL d10 h_look_at_many h_are_floods h_look_at_marks
  have h_look_at_both := ok_look_at_both (P := l.prog) (w := w) (base := base) B CL d11 h_look_at_marks
  have h_how_many := ok_how_many (P := l.prog) (w := w) (base := base) B CL d12 h_look_at_many h_look_at_both
  have h_rest := ok_rest (P := l.prog) (w := w) (base := base) B CL d13 h_is_within h_look_at_many h_look_at_both
  have h_shortest := ok_shortest (P := l.prog) (w := w) (base := base) B CL d14 h_look_at_both
  have h_first_row := ok_first_row (P := l.prog) (w := w) (base := base) B CL d15 h_look_at_many h_look_at_both
  have h_is_log := ok_is_log (P := l.prog) (w := w) (base := base) B d16 h_are_marks_of h_is_within
  have h_log_ways := ok_log_ways (P := l.prog) (w := w) (base := base) B CL d17 h_is_log h_look_at_marks
  have h_alike_by := ok_alike_by (P := l.prog) (w := w) (base := base) B CL d18 h_look_at_both
  have h_how_many_marks := ok_how_many_marks (P := l.prog) (w := w) (base := base) B CL d19 h_look_at_many h_look_at_marks
  have h_days := ok_days (P := l.prog) (w := w) (base := base) B CL d20 h_is_within h_look_at_many h_look_at_both
  have h_heights := ok_heights (P := l.prog) (w := w) (base := base) B CL d21 h_is_within h_look_at_many h_look_at_both
  have h_unread := ok_unread (P := l.prog) (w := w) (base := base) B CL d22 h_look_at_many h_are_marks_of h_look_at_marks
  have h__law_well := ok__law_well (P := l.prog) (w := w) (base := base) B d23 
  have h__law_take := ok__law_take (P := l.prog) (w := w) (base := base) B d24 
  have hbags : FnBags l.prog w K mg base := ⟨_, _, ok__law_bags B h__law_well F25, PySem.W.mg_of X G a25, k25, bb25⟩
  have h__law_same := ok__law_same (P := l.prog) (w := w) (base := base) B d26
  have h__law_in := ok__law_in (P := l.prog) (w := w) (base := base) B d27 
  have FK := ok__law_kind (P := l.prog) (w := w) (base := base) B CL F28 bb28
  have h__law_tried := ok__law_tried (P := l.prog) (w := w) (base := base) B CL FK (PySem.W.mg_of X G a28) k28 d29
  have h__law_marks := ok__law_marks (P := l.prog) (w := w) (base := base) B d30 h__law_take
  have h__law_flooded := ok__law_flooded (P := l.prog) (w := w) (base := base) B d31 
  have h__law_good := ok__law_good (P := l.prog) (w := w) (base := base) B d32 h__law_in
  have h__law_doors := ok__law_doors (P := l.prog) (w := w) (base := base) B TB33 hm33 hu33 dT33 h_behind h_far h_how_many h_rest h_first_row h_shortest h_log_ways h_days h_heights h_unread h_alike_by h_how_many_marks
  have h__law_refused := ok__law_refused (P := l.prog) (w := w) (base := base) B d34 h__law_tried
  have h__law_floods_refused := ok__law_floods_refused (P := l.prog) (w := w) (base := base) B TB35 hm35 hu35 dT35 h__law_tried h__law_refused h_behind h_far h_log_ways
  have h__law_others_refused := ok__law_others_refused (P := l.prog) (w := w) (base := base) B TB36 hm36 hu36 dT36 h__law_tried h__law_refused h__law_flooded h_how_many h_first_row h_days h_how_many_marks h_heights h_unread h_far h_rest
  exact ok_law B TB37 hm37 hu37 h__law_others_refused h__law_floods_refused h__law_refused h__law_doors h__law_take h__law_same h_are_marks h__law_good h__law_marks h_how_many h_alike_by h_shortest hbags l37 c37
end FM
open PySem PySem.W PyProof.Rows
set_option maxHeartbeats 0 in
theorem PySem.Challenge.cw_floodmarks_k01_what_are_marks_and_who_is_holds : PySem.Challenge.rw_floodmarks_k01_what_are_marks_and_who_is.Holds := by
  w_on; o_law; k_head; (case hw => w_witness2)
  k_fill
  refine FM.walk_tabs (l := PySem.Challenge.rw_floodmarks_k01_what_are_marks_and_who_is) (n := 63) (k := 11) (x := "script") (CX := fun _ => L2.CX0) (names := FM.makers) rfl (by decide) rfl ⟨rfl, by decide, by decide⟩ (by decide +kernel) (fun w h Y => PySem.W.km_in_of Y) ?F (fun _ _ _ _ _ h => h)
  case F =>
    intro w mg fa h Y KX G hmg own
    refine' FM.all_mk KX G hmg own ?a0 ?l0 ?c0 ?k0 ?a1 ?l1 ?c1 ?k1 ?a2 ?l2 ?c2 ?k2 ?a3 ?l3 ?c3 ?k3 ?a4 ?l4 ?c4 ?k4 ?a5 ?l5 ?c5 ?k5 ?a6 ?l6 ?c6 ?k6 ?a7 ?l7 ?c7 ?k7 ?a8 ?l8 ?c8 ?k8 ?a9 ?l9 ?c9 ?k9 ?a10 ?l10 ?c10 ?k10 ?a11 ?l11 ?c11 ?k11 ?a12 ?l12 ?c12 ?k12 ?a13 ?l13 ?c13 ?k13 ?a14 ?l14 ?c14 ?k14 ?a15 ?l15 ?c15 ?k15 ?a16 ?l16 ?c16 ?k16 ?a17 ?l17 ?c17 ?k17 ?a18 ?l18 ?c18 ?k18 ?a19 ?l19 ?c19 ?k19 ?a20 ?l20 ?c20 ?k20 ?a21 ?l21 ?c21 ?k21 ?a22 ?l22 ?c22 ?k22 ?a23 ?l23 ?c23 ?k23 ?a24 ?l24 ?c24 ?k24 ?a25 ?l25 ?c25 ?k25 ?a26 ?l26 ?c26 ?k26 ?a27 ?l27 ?c27 ?k27 ?a28 ?l28 ?c28 ?k28 ?a29 ?l29 ?c29 ?k29 ?a30 ?l30 ?c30 ?k30 ?a31 ?l31 ?c31 ?k31 ?a32 ?l32 ?c32 ?k32 ?a33 ?l33 ?c33 ?k33 ?u33 ?v33 ?w33 ?x33 ?a34 ?l34 ?c34 ?k34 ?a35 ?l35 ?c35 ?k35 ?u35 ?v35 ?w35 ?x35 ?a36 ?l36 ?c36 ?k36 ?u36 ?v36 ?w36 ?x36 ?a37 ?l37 ?c37 ?k37 ?u37 ?v37 ?w37 ?x37 ?q0_1 ?q0_2 ?q1_2 ?q0_3 ?q1_3 ?q2_3 ?z_isinstance ?z_int ?z_bool ?z_list ?z_tuple ?z_str ?z_len ?z_all ?z_zip ?z_range ?z_enumerate ?z_sum ?z_max ?z_min ?z_sorted ?z_divmod ?y_MOST_TOP ?y_MOST_MARKS ?y_MOST_FLOODS ?y_MOST_FAR ?y_MOST_BY ?y_MOST_LOG ?gg0 ?b0 ?t0 ?i0 ?gg1 ?b1 ?t1 ?i1 ?gg2 ?b2 ?t2 ?i2 ?gg3 ?b3 ?t3 ?i3 ?gg4 ?b4 ?t4 ?i4 ?gg5 ?b5 ?t5 ?i5 ?gg6 ?b6 ?t6 ?i6 ?gg7 ?b7 ?t7 ?i7 ?r0 ?j0 ?m0 ?n0 ?o0 ?h0 ?s0 ?F0 ?S0_0 ?S0_1 ?S0_2 ?S0_3 ?S0_4 ?S0_5 ?S0_6 ?r1 ?j1 ?m1 ?n1 ?o1 ?h1 ?s1 ?F1 ?S1_0 ?S1_1 ?S1_2 ?S1_3 ?S1_4 ?S1_5 ?S1_6 ?r2 ?j2 ?m2 ?n2 ?o2 ?h2 ?s2 ?F2 ?S2_0 ?S2_1 ?S2_2 ?S2_3 ?S2_4 ?S2_5 ?S2_6 ?r3 ?j3 ?m3 ?n3 ?o3 ?h3 ?s3 ?F3 ?S3_0 ?S3_1 ?S3_2 ?S3_3 ?S3_4 ?S3_5 ?S3_6 ?r4 ?j4 ?m4 ?n4 ?o4 ?h4 ?s4 ?F4 ?S4_0 ?S4_1 ?S4_2 ?S4_3 ?S4_4 ?S4_5 ?S4_6 ?r5 ?j5 ?m5 ?n5 ?o5 ?h5 ?s5 ?F5 ?S5_0 ?S5_1 ?S5_2 ?S5_3 ?S5_4 ?S5_5 ?S5_6 ?r6 ?j6 ?m6 ?n6 ?o6 ?h6 ?s6 ?F6 ?S6_0 ?S6_1 ?S6_2 ?S6_3 ?S6_4 ?S6_5 ?S6_6 ?N0 ?N1
    (case a0 => k_is)
    (case l0 => k_is)
    (case c0 => k_is)
    (case k0 => k_is)
    (case a1 => k_is)
    (case l1 => k_is)
    (case c1 => k_is)
    (case k1 => k_is)
    (case a2 => k_is)
    (case l2 => k_is)
    (case c2 => k_is)
    (case k2 => k_is)
    (case a3 => k_is)
    (case l3 => k_is)
    (case c3 => k_is)
    (case k3 => k_is)
    (case a4 => k_is)
    (case l4 => k_is)
    (case c4 => k_is)
    (case k4 => k_is)
    (case a5 => k_is)
    (case l5 => k_is)
    (case c5 => k_is)
    (case k5 => k_is)
    (case a6 => k_is)
    (case l6 => k_is)
    (case c6 => k_is)
    (case k6 => k_is)
    (case a7 => k_is)
    (case l7 => k_is)
    (case c7 => k_is)
    (case k7 => k_is)
    (case a8 => k_is)
    (case l8 => k_is)
    (case c8 => k_is)
    (case k8 => k_is)
    (case a9 => k_is)
    (case l9 => k_is)
    (case c9 => k_is)
    (case k9 => k_is)
    (case a10 => k_is)
    (case l10 => k_is)
    (case c10 => k_is)
    (case k10 => k_is)
    (case a11 => k_is)
    (case l11 => k_is)
    (case c11 => k_is)
    (case k11 => k_is)
    (case a12 => k_is)
    (case l12 => k_is)
    (case c12 => k_is)
    (case k12 => k_is)
    (case a13 => k_is)
    (case l13 => k_is)
    (case c13 => k_is)
    (case k13 => k_is)
    (case a14 => k_is)
    (case l14 => k_is)
    (case c14 => k_is)
    (case k14 => k_is)
    (case a15 => k_is)
    (case l15 => k_is)
    (case c15 => k_is)
    (case k15 => k_is)
    (case a16 => k_is)
    (case l16 => k_is)
    (case c16 => k_is)
    (case k16 => k_is)
    (case a17 => k_is)
    (case l17 => k_is)
    (case c17 => k_is)
    (case k17 => k_is)
    (case a18 => k_is)
    (case l18 => k_is)
    (case c18 => k_is)
    (case k18 => k_is)
    (case a19 => k_is)
    (case l19 => k_is)
    (case c19 => k_is)
    (case k19 => k_is)
    (case a20 => k_is)
    (case l20 => k_is)
    (case c20 => k_is)
    (case k20 => k_is)
    (case a21 => k_is)
    (case l21 => k_is)
    (case c21 => k_is)
    (case k21 => k_is)
    (case a22 => k_is)
    (case l22 => k_is)
    (case c22 => k_is)
    (case k22 => k_is)
    (case a23 => k_is)
    (case l23 => k_is)
    (case c23 => k_is)
    (case k23 => k_is)
    (case a24 => k_is)
    (case l24 => k_is)
    (case c24 => k_is)
    (case k24 => k_is)
    (case a25 => k_is)
    (case l25 => k_is)
    (case c25 => k_is)
    (case k25 => k_is)
    (case a26 => k_is)
    (case l26 => k_is)
    (case c26 => k_is)
    (case k26 => k_is)
    (case a27 => k_is)
    (case l27 => k_is)
    (case c27 => k_is)
    (case k27 => k_is)
    (case a28 => k_is)
    (case l28 => k_is)
    (case c28 => k_is)
    (case k28 => k_is)
    (case a29 => k_is)
    (case l29 => k_is)
    (case c29 => k_is)
    (case k29 => k_is)
    (case a30 => k_is)
    (case l30 => k_is)
    (case c30 => k_is)
    (case k30 => k_is)
    (case a31 => k_is)
    (case l31 => k_is)
    (case c31 => k_is)
    (case k31 => k_is)
    (case a32 => k_is)
    (case l32 => k_is)
    (case c32 => k_is)
    (case k32 => k_is)
    (case a33 => k_is)
    (case l33 => k_is)
    (case c33 => k_is)
    (case k33 => k_is)
    (case u33 => k_is)
    (case v33 => rfl)
    (case w33 => rfl)
    (case x33 => rfl)
    (case a34 => k_is)
    (case l34 => k_is)
    (case c34 => k_is)
    (case k34 => k_is)
    (case a35 => k_is)
    (case l35 => k_is)
    (case c35 => k_is)
    (case k35 => k_is)
    (case u35 => k_is)
    (case v35 => rfl)
    (case w35 => rfl)
    (case x35 => rfl)
    (case a36 => k_is)
    (case l36 => k_is)
    (case c36 => k_is)
    (case k36 => k_is)
    (case u36 => k_is)
    (case v36 => rfl)
    (case w36 => rfl)
    (case x36 => rfl)
    (case a37 => k_is)
    (case l37 => k_is)
    (case c37 => k_is)
    (case k37 => k_is)
    (case u37 => k_is)
    (case v37 => rfl)
    (case w37 => rfl)
    (case x37 => rfl)
    (case q0_1 => decide)
    (case q0_2 => decide)
    (case q1_2 => decide)
    (case q0_3 => decide)
    (case q1_3 => decide)
    (case q2_3 => decide)
    (case z_isinstance => k_is)
    (case z_int => k_is)
    (case z_bool => k_is)
    (case z_list => k_is)
    (case z_tuple => k_is)
    (case z_str => k_is)
    (case z_len => k_is)
    (case z_all => k_is)
    (case z_zip => k_is)
    (case z_range => k_is)
    (case z_enumerate => k_is)
    (case z_sum => k_is)
    (case z_max => k_is)
    (case z_min => k_is)
    (case z_sorted => k_is)
    (case z_divmod => k_is)
    (case y_MOST_TOP => k_is)
    (case y_MOST_MARKS => k_is)
    (case y_MOST_FLOODS => k_is)
    (case y_MOST_FAR => k_is)
    (case y_MOST_BY => k_is)
    (case y_MOST_LOG => k_is)
    (case gg0 => k_is)
    (case b0 => k_is)
    (case t0 => k_is)
    (case i0 => k_is)
    (case gg1 => k_is)
    (case b1 => k_is)
    (case t1 => k_is)
    (case i1 => k_is)
    (case gg2 => k_is)
    (case b2 => k_is)
    (case t2 => k_is)
    (case i2 => k_is)
    (case gg3 => k_is)
    (case b3 => k_is)
    (case t3 => k_is)
    (case i3 => k_is)
    (case gg4 => k_is)
    (case b4 => k_is)
    (case t4 => k_is)
    (case i4 => k_is)
    (case gg5 => k_is)
    (case b5 => k_is)
    (case t5 => k_is)
    (case i5 => k_is)
    (case gg6 => k_is)
    (case b6 => k_is)
    (case t6 => k_is)
    (case i6 => k_is)
    (case gg7 => k_is)
    (case b7 => k_is)
    (case t7 => k_is)
    (case i7 => k_is)
    (case r0 => k_exc)
    (case j0 => k_is)
    (case m0 => k_is)
    (case n0 => k_is)
    (case o0 => k_is)
    (case h0 => k_is)
    (case s0 => k_is)
    (case F0 => k_is)
    (case S0_0 => k_is)
    (case S0_1 => k_is)
    (case S0_2 => k_is)
    (case S0_3 => k_is)
    (case S0_4 => k_is)
    (case S0_5 => k_is)
    (case S0_6 => k_is)
    (case r1 => k_exc)
    (case j1 => k_is)
    (case m1 => k_is)
    (case n1 => k_is)
    (case o1 => k_is)
    (case h1 => k_is)
    (case s1 => k_is)
    (case F1 => k_is)
    (case S1_0 => k_is)
    (case S1_1 => k_is)
    (case S1_2 => k_is)
    (case S1_3 => k_is)
    (case S1_4 => k_is)
    (case S1_5 => k_is)
    (case S1_6 => k_is)
    (case r2 => k_exc)
    (case j2 => k_is)
    (case m2 => k_is)
    (case n2 => k_is)
    (case o2 => k_is)
    (case h2 => k_is)
    (case s2 => k_is)
    (case F2 => k_is)
    (case S2_0 => k_is)
    (case S2_1 => k_is)
    (case S2_2 => k_is)
    (case S2_3 => k_is)
    (case S2_4 => k_is)
    (case S2_5 => k_is)
    (case S2_6 => k_is)
    (case r3 => k_exc)
    (case j3 => k_is)
    (case m3 => k_is)
    (case n3 => k_is)
    (case o3 => k_is)
    (case h3 => k_is)
    (case s3 => k_is)
    (case F3 => k_is)
    (case S3_0 => k_is)
    (case S3_1 => k_is)
    (case S3_2 => k_is)
    (case S3_3 => k_is)
    (case S3_4 => k_is)
    (case S3_5 => k_is)
    (case S3_6 => k_is)
    (case r4 => k_exc)
    (case j4 => k_is)
    (case m4 => k_is)
    (case n4 => k_is)
    (case o4 => k_is)
    (case h4 => k_is)
    (case s4 => k_is)
    (case F4 => k_is)
    (case S4_0 => k_is)
    (case S4_1 => k_is)
    (case S4_2 => k_is)
    (case S4_3 => k_is)
    (case S4_4 => k_is)
    (case S4_5 => k_is)
    (case S4_6 => k_is)
    (case r5 => k_exc)
    (case j5 => k_is)
    (case m5 => k_is)
    (case n5 => k_is)
    (case o5 => k_is)
    (case h5 => k_is)
    (case s5 => k_is)
    (case F5 => k_is)
    (case S5_0 => k_is)
    (case S5_1 => k_is)
    (case S5_2 => k_is)
    (case S5_3 => k_is)
    (case S5_4 => k_is)
    (case S5_5 => k_is)
    (case S5_6 => k_is)
    (case r6 => k_exc)
    (case j6 => k_is)
    (case m6 => k_is)
    (case n6 => k_is)
    (case o6 => k_is)
    (case h6 => k_is)
    (case s6 => k_is)
    (case F6 => k_is)
    (case S6_0 => k_is)
    (case S6_1 => k_is)
    (case S6_2 => k_is)
    (case S6_3 => k_is)
    (case S6_4 => k_is)
    (case S6_5 => k_is)
    (case S6_6 => k_is)
    (case N0 => k_is)
    (case N1 => k_is)