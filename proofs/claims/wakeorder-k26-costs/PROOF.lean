import PyProof.Rows.All
import Wide.All
import OpenK.AllK
import Wide.FinOn
import KE.KStateDown
import HandS.ForMost
import HandS.Exc
import HandS.WordsExc
import HandS.Flow
import HandS.Style
import HandS.Wide
import HandS.IsInst
import HandS.Deep
import HandS.RevRange
import HandS.TupAny
import HandS.TupLe
import HandS.Conv
import HandS.Evl
import KE.SortData
import HandS.Defaults
import HandS.More
import HandS.SortKw
import KE.DataMinMax
import KE.DataCmp
import KE.DataEq
import HandS.ClsMeth
import HandS.HeadHook1
import HandS.HeadHook2
import HandS.HeadHook3
import HandS.HeadHook4
import HandS.Head0
import HandS.Head1
import HandS.Head2
import HandS.HeadEnd
import PySem.Challenge.RW_wakeorder_k26_costs
set_option Elab.async false
set_option linter.all false
set_option maxRecDepth 100000
set_option maxHeartbeats 4000000
namespace GL
open PySem L2
open Evl (Ex ex_l ex_t)
abbrev Fg := PySem.W.Frag

/-! ### growth: F the settled part of the heap H -/
structure Gr (F H F' H' : Hp) : Prop where
  f : Ex F F'
  h : Ex H H'
  s : Ex F' H'
  n : ∀ a, F a = none → H a ≠ none → F' a = none
theorem Gr.refl {F H : Hp} (s : Ex F H) : Gr F H F H := ⟨Ex.refl F, Ex.refl H, s, fun _ h _ => h⟩
theorem Gr.trans {F H F1 H1 F2 H2 : Hp} (a : Gr F H F1 H1) (b : Gr F1 H1 F2 H2) : Gr F H F2 H2 :=
  ⟨a.f.trans b.f, a.h.trans b.h, b.s, fun x h1 h2 => b.n x (a.n x h1 h2) (by
    cases e : H x with
    | none => exact absurd e h2
    | some o => rw [a.h x o e]; exact fun z => nomatch z)⟩
/-- only the heap grew -/
theorem Gr.hp {F H H' : Hp} (s : Ex F H) (h : Ex H H') : Gr F H F H' := ⟨Ex.refl F, h, s.trans h, fun _ z _ => z⟩
/-- a new object, settled -/
theorem Gr.new {F H : Hp} {p : Addr} {o : HO} (s : Ex F H) (hp : H p = none) : Gr F H (upd F p o) (upd H p o) := by
  have fp : F p = none := by
    cases e : F p with
    | none => rfl
    | some u => rw [s p u e] at hp; cases hp
  refine ⟨Ex.new fp, Ex.new hp, fun a u e => ?_, fun a h1 h2 => ?_⟩
  · by_cases q : a = p
    · subst q; rw [upd_same] at e ⊢; exact e
    · rw [upd_ne q] at e ⊢; exact s a u e
  · have q : a ≠ p := fun z => h2 (by rw [z]; exact hp)
    rw [upd_ne q]; exact h1
/-- a new object, one's own -/
theorem Gr.own {F H : Hp} {p : Addr} {o : HO} (s : Ex F H) (hp : H p = none) : Gr F H F (upd H p o) := Gr.hp s (Ex.new hp)
/-- one's own object settled -/
theorem Gr.settle {F H : Hp} {p : Addr} {o : HO} (s : Ex F H) (fp : F p = none) (hp : H p = some o) : Ex F (upd F p o) ∧ Ex (upd F p o) H := by
  refine ⟨Ex.new fp, fun a u e => ?_⟩
  by_cases q : a = p
  · subst q; rw [upd_same] at e; rw [← e]; exact hp
  · rw [upd_ne q] at e; exact s a u e

/-! ### what is said of a value, as long as the settled part grows -/
structure MP where
  p : Hp → V → Prop
  mono : ∀ F F' v, Ex F F' → p F v → p F' v
mutual
/-- a datum at a value: lists tracked, tuples readable -/
inductive Dq (K : Fg) (F : Hp) : V → PyData → Prop
  | non : Dq K F .non .none
  | bl (b : Bool) : Dq K F (.bl b) (.bool b)
  | int (i : Int) : Dq K F (.int i) (.int i)
  | str (x : Str) : Dq K F (.str x) (.str x)
  | lst {a : Addr} {xs : List V} {ds : List PyData} : F a = some (.lst xs) → DqAll K F xs ds → Dq K F (.ref a) (.list ds)
  | tup {a : Addr} {xs : List V} {ds : List PyData} : SqT K F a xs → DqAll K F xs ds → Dq K F (.ref a) (.tuple ds)
inductive DqAll (K : Fg) (F : Hp) : List V → List PyData → Prop
  | nil : DqAll K F [] []
  | cons {v : V} {vs : List V} {d : PyData} {ds : List PyData} : Dq K F v d → DqAll K F vs ds → DqAll K F (v :: vs) (d :: ds)
end
mutual
theorem dq_mono {K : Fg} {F F' : Hp} (e : Ex F F') : ∀ (d : PyData) (v : V), Dq K F v d → Dq K F' v d
  | .none, _, h => by cases h; exact .non
  | .bool b, _, h => by cases h; exact .bl b
  | .int i, _, h => by cases h; exact .int i
  | .str x, _, h => by cases h; exact .str x
  | .list ds, _, h => by
    cases h with
    | lst hs ha => exact .lst (e _ _ hs) (dqAll_mono e ds _ ha)
  | .tuple ds, _, h => by
    cases h with
    | tup hs ha => exact .tup (ex_t e hs) (dqAll_mono e ds _ ha)
  | .dict _, _, h => by cases h
theorem dqAll_mono {K : Fg} {F F' : Hp} (e : Ex F F') : ∀ (ds : List PyData) (vs : List V), DqAll K F vs ds → DqAll K F' vs ds
  | [], _, h => by cases h; exact .nil
  | d :: ds, _, h => by
    cases h with
    | cons h1 h2 => exact .cons (dq_mono e d _ h1) (dqAll_mono e ds _ h2)
end
mutual
theorem dq_dp {K : Fg} {F : Hp} : ∀ (d : PyData) (v : V), Dq K F v d → Dp K F v d
  | .none, _, h => by cases h; exact .non
  | .bool b, _, h => by cases h; exact .bl b
  | .int i, _, h => by cases h; exact .int i
  | .str x, _, h => by cases h; exact .str x
  | .list ds, _, h => by
    cases h with
    | lst hs ha => exact .lst (SqL.of hs) (dqAll_dp ds _ ha)
  | .tuple ds, _, h => by
    cases h with
    | tup hs ha => exact .tup hs (dqAll_dp ds _ ha)
  | .dict _, _, h => by cases h
theorem dqAll_dp {K : Fg} {F : Hp} : ∀ (ds : List PyData) (vs : List V), DqAll K F vs ds → DpAll K F vs ds
  | [], _, h => by cases h; exact .nil
  | d :: ds, _, h => by
    cases h with
    | cons h1 h2 => exact .cons (dq_dp d _ h1) (dqAll_dp ds _ h2)
end
mutual
theorem dp_mono {K : Fg} {F F' : Hp} (e : Ex F F') : ∀ (d : PyData) (v : V), Dp K F v d → Dp K F' v d
  | .none, _, h => by cases h; exact .non
  | .bool b, _, h => by cases h; exact .bl b
  | .int i, _, h => by cases h; exact .int i
  | .str x, _, h => by cases h; exact .str x
  | .list ds, _, h => by
    cases h with
    | lst hs ha => exact .lst (ex_l e hs) (dpAll_mono e ds _ ha)
  | .tuple ds, _, h => by
    cases h with
    | tup hs ha => exact .tup (ex_t e hs) (dpAll_mono e ds _ ha)
  | .dict _, _, h => by cases h
theorem dpAll_mono {K : Fg} {F F' : Hp} (e : Ex F F') : ∀ (ds : List PyData) (vs : List V), DpAll K F vs ds → DpAll K F' vs ds
  | [], _, h => by cases h; exact .nil
  | d :: ds, _, h => by
    cases h with
    | cons h1 h2 => exact .cons (dp_mono e d _ h1) (dpAll_mono e ds _ h2)
end
/-- a datum -/
def py (K : Fg) (d : PyData) : MP := ⟨fun F v => Dq K F v d, fun _ _ v e h => dq_mono e d v h⟩
/-- a datum that is only compared -/
def dp (K : Fg) (d : PyData) : MP := ⟨fun F v => Dp K F v d, fun _ _ v e h => dp_mono e d v h⟩
/-- the script -/
def scrP (K : Fg) (ns : List Int) : MP := ⟨fun F v => ∃ a, v = .ref a ∧ SqL K F a (ns.map V.int), fun _ _ _ e ⟨a, h1, h2⟩ => ⟨a, h1, ex_l e h2⟩⟩
def AllP (Ps : List MP) (F : Hp) (vs : List V) : Prop := vs.length = Ps.length ∧ ∀ (i : Nat) (P : MP) (v : V), Ps[i]? = some P → vs[i]? = some v → P.p F v
theorem AllP.mono {Ps : List MP} {F F' : Hp} {vs : List V} (e : Ex F F') (h : AllP Ps F vs) : AllP Ps F' vs := ⟨h.1, fun i P v h1 h2 => P.mono F F' v e (h.2 i P v h1 h2)⟩
theorem AllP.nil {F : Hp} : AllP [] F [] := ⟨rfl, fun i P v h => by simp at h⟩
theorem AllP.cons {P : MP} {Ps : List MP} {F : Hp} {v : V} {vs : List V} (h : P.p F v) (hs : AllP Ps F vs) : AllP (P :: Ps) F (v :: vs) :=
  ⟨by simp [hs.1], fun i Q u h1 h2 => by
    cases i with
    | zero => simp at h1 h2; subst h1; subst h2; exact h
    | succ i => exact hs.2 i Q u (by simpa using h1) (by simpa using h2)⟩
theorem AllP.inv {P : MP} {Ps : List MP} {F : Hp} {us : List V} (h : AllP (P :: Ps) F us) : ∃ v vs, us = v :: vs ∧ P.p F v ∧ AllP Ps F vs := by
  obtain ⟨h1, h2⟩ := h
  cases us with
  | nil => simp at h1
  | cons v vs => exact ⟨v, vs, rfl, h2 0 P v rfl rfl, by simpa using h1, fun i Q u a b => h2 (i + 1) Q u (by simpa using a) (by simpa using b)⟩
theorem AllP.inv0 {F : Hp} {us : List V} (h : AllP [] F us) : us = [] := by
  cases us with
  | nil => rfl
  | cons v vs => exact absurd h.1 (by simp)
theorem AllP.snoc {Ps : List MP} {P : MP} {F : Hp} {vs : List V} {v : V} (hs : AllP Ps F vs) (h : P.p F v) : AllP (Ps ++ [P]) F (vs ++ [v]) := by
  refine ⟨by simp [hs.1], fun i Q u h1 h2 => ?_⟩
  by_cases hi : i < vs.length
  · rw [List.getElem?_append_left hi] at h2
    rw [List.getElem?_append_left (by rw [← hs.1]; exact hi)] at h1
    exact hs.2 i Q u h1 h2
  · rw [List.getElem?_append_right (by omega)] at h2
    rw [List.getElem?_append_right (by rw [← hs.1]; omega)] at h1
    have e : i - vs.length = 0 := by
      have := (List.getElem?_eq_some_iff.mp h2).1
      simp at this; omega
    rw [← hs.1, e] at h1
    rw [e] at h2
    simp at h1 h2
    subst h1; subst h2; exact h
theorem dqAll_allP {K : Fg} {F : Hp} : ∀ {ds : List PyData} {vs : List V}, DqAll K F vs ds → AllP (ds.map (py K)) F vs
  | [], _, h => by cases h; exact .nil
  | d :: ds, _, h => by
    cases h with
    | cons h1 h2 => exact .cons h1 (dqAll_allP h2)
theorem allP_dqAll {K : Fg} {F : Hp} : ∀ {ds : List PyData} {vs : List V}, AllP (ds.map (py K)) F vs → DqAll K F vs ds
  | [], vs, h => by rw [h.inv0]; exact .nil
  | d :: ds, vs, h => by
    obtain ⟨v, us, rfl, h1, h2⟩ := AllP.inv (P := py K d) (Ps := ds.map (py K)) h
    exact .cons h1 (allP_dqAll h2)
/-- a list, a tuple of such -/
def lstP (Ps : List MP) : MP := ⟨fun F v => ∃ a vs, v = .ref a ∧ F a = some (.lst vs) ∧ AllP Ps F vs, fun _ _ _ e ⟨a, vs, h1, h2, h3⟩ => ⟨a, vs, h1, e _ _ h2, h3.mono e⟩⟩
def tupP (K : Fg) (Ps : List MP) : MP := ⟨fun F v => ∃ a vs, v = .ref a ∧ SqT K F a vs ∧ AllP Ps F vs, fun _ _ _ e ⟨a, vs, h1, h2, h3⟩ => ⟨a, vs, h1, ex_t e h2, h3.mono e⟩⟩
theorem py_list {K : Fg} {F : Hp} {v : V} {ds : List PyData} : (py K (.list ds)).p F v ↔ (lstP (ds.map (py K))).p F v := by
  constructor
  · intro h
    cases h with
    | lst hs ha => exact ⟨_, _, rfl, hs, dqAll_allP ha⟩
  · rintro ⟨a, vs, rfl, hs, ha⟩
    exact .lst hs (allP_dqAll ha)
theorem py_tuple {K : Fg} {F : Hp} {v : V} {ds : List PyData} : (py K (.tuple ds)).p F v ↔ (tupP K (ds.map (py K))).p F v := by
  constructor
  · intro h
    cases h with
    | tup hs ha => exact ⟨_, _, rfl, hs, dqAll_allP ha⟩
  · rintro ⟨a, vs, rfl, hs, ha⟩
    exact .tup hs (allP_dqAll ha)

/-! ### slots -/
inductive SD where
  | un
  | im (P : MP)
  | ow (Ps : List MP)
def SD.ok (H0 F H : Hp) (o : Option V) : SD → Prop
  | .un => True
  | .im P => ∃ v, o = some v ∧ P.p F v
  | .ow Ps => ∃ l vs, o = some (.ref l) ∧ H0 l = none ∧ F l = none ∧ H l = some (.lst vs) ∧ AllP Ps F vs
def SD.isOw : SD → Bool
  | .ow _ => true
  | _ => false
structure Sl (H0 : Hp) (Φ : List SD) (σ : St) (F H : Hp) : Prop where
  len : σ.length = Φ.length
  at_ : ∀ (i : Nat) (d : SD) (o : Option V), Φ[i]? = some d → σ[i]? = some o → d.ok H0 F H o
  apart : ∀ (i j : Nat) (d e : SD) (l : Addr), i ≠ j → Φ[i]? = some d → Φ[j]? = some e → d.isOw = true → e.isOw = true → σ[i]? = some (some (.ref l)) → σ[j]? = some (some (.ref l)) → False
section
variable {H0 F H F' H' : Hp} {Φ : List SD} {σ : St}
theorem ne_none {o : HO} {a : Addr} (e : H a = some o) : H a ≠ none := fun z => by rw [z] at e; cases e
theorem SD.ok_gr {d : SD} {o : Option V} (g : Gr F H F' H') (h : d.ok H0 F H o) : d.ok H0 F' H' o := by
  cases d with
  | un => trivial
  | im P => obtain ⟨v, h1, h2⟩ := h; exact ⟨v, h1, P.mono _ _ _ g.f h2⟩
  | ow Ps => obtain ⟨l, vs, h1, h2, h3, h4, h5⟩ := h; exact ⟨l, vs, h1, h2, g.n l h3 (ne_none h4), g.h l _ h4, h5.mono g.f⟩
theorem Sl.gr (g : Gr F H F' H') (h : Sl H0 Φ σ F H) : Sl H0 Φ σ F' H' := ⟨h.len, fun i d o a b => SD.ok_gr g (h.at_ i d o a b), h.apart⟩
theorem Sl.get {i : Nat} {d : SD} (h : Sl H0 Φ σ F H) (e : Φ[i]? = some d) : ∃ o, σ[i]? = some o ∧ d.ok H0 F H o := by
  have hi : i < σ.length := by rw [h.len]; exact (List.getElem?_eq_some_iff.mp e).1
  exact ⟨σ[i], List.getElem?_eq_getElem hi, h.at_ i d _ e (List.getElem?_eq_getElem hi)⟩
theorem Sl.im {i : Nat} {P : MP} (h : Sl H0 Φ σ F H) (e : Φ[i]? = some (.im P)) : ∃ v, σ[i]? = some (some v) ∧ P.p F v := by
  obtain ⟨o, h1, v, rfl, h2⟩ := h.get e
  exact ⟨v, h1, h2⟩
theorem Sl.ow {i : Nat} {Ps : List MP} (h : Sl H0 Φ σ F H) (e : Φ[i]? = some (.ow Ps)) : ∃ l vs, σ[i]? = some (some (.ref l)) ∧ H0 l = none ∧ F l = none ∧ H l = some (.lst vs) ∧ AllP Ps F vs := by
  obtain ⟨o, h1, l, vs, rfl, h2⟩ := h.get e
  exact ⟨l, vs, h1, h2⟩
/-- a slot set to a settled value (or forgotten) -/
theorem Sl.set {i : Nat} {d : SD} {o : Option V} (h : Sl H0 Φ σ F H) (hd : d.ok H0 F H o) (ho : d.isOw = false) : Sl H0 (Φ.set i d) (σ.set i o) F H := by
  refine ⟨by simp [h.len], fun j e u a b => ?_, fun j k e e' l hjk a b c c' f g => ?_⟩
  · by_cases q : i = j
    · subst q
      have ha := (List.getElem?_eq_some_iff.mp a).1
      have hb := (List.getElem?_eq_some_iff.mp b).1
      rw [List.getElem?_set_self (by simpa using ha)] at a
      rw [List.getElem?_set_self (by simpa using hb)] at b
      cases a; cases b; exact hd
    · rw [List.getElem?_set_ne q] at a b
      exact h.at_ j e u a b
  · by_cases q : i = j
    · subst q
      rw [List.getElem?_set_self (by simpa using (List.getElem?_eq_some_iff.mp a).1)] at a
      cases a; rw [ho] at c; cases c
    · by_cases q' : i = k
      · subst q'
        rw [List.getElem?_set_self (by simpa using (List.getElem?_eq_some_iff.mp b).1)] at b
        cases b; rw [ho] at c'; cases c'
      · rw [List.getElem?_set_ne q] at a f
        rw [List.getElem?_set_ne q'] at b g
        exact h.apart j k e e' l hjk a b c c' f g
/-- a slot set to a new list of one's own -/
theorem Sl.setOw {i : Nat} {Ps : List MP} {l : Addr} {vs : List V} (h : Sl H0 Φ σ F H) (hl0 : H0 l = none) (hF : F l = none) (hH : H l = some (.lst vs)) (hP : AllP Ps F vs)
    (new : ∀ j e, Φ[j]? = some e → e.isOw = true → j ≠ i → σ[j]? ≠ some (some (.ref l))) : Sl H0 (Φ.set i (.ow Ps)) (σ.set i (some (.ref l))) F H := by
  refine ⟨by simp [h.len], fun j e u a b => ?_, fun j k e e' l' hjk a b c c' f g => ?_⟩
  · by_cases q : i = j
    · subst q
      rw [List.getElem?_set_self (by simpa using (List.getElem?_eq_some_iff.mp a).1)] at a
      rw [List.getElem?_set_self (by simpa using (List.getElem?_eq_some_iff.mp b).1)] at b
      cases a; cases b; exact ⟨l, vs, rfl, hl0, hF, hH, hP⟩
    · rw [List.getElem?_set_ne q] at a b
      exact h.at_ j e u a b
  · by_cases q : i = j
    · subst q
      rw [List.getElem?_set_self (by simpa using (List.getElem?_eq_some_iff.mp f).1)] at f
      rw [List.getElem?_set_ne (fun z => hjk z)] at b g
      cases f
      exact new k e' b c' (fun z => hjk z.symm) g
    · by_cases q' : i = k
      · subst q'
        rw [List.getElem?_set_self (by simpa using (List.getElem?_eq_some_iff.mp g).1)] at g
        rw [List.getElem?_set_ne q] at a f
        cases g
        exact new j e a c hjk f
      · rw [List.getElem?_set_ne q] at a f
        rw [List.getElem?_set_ne q'] at b g
        exact h.apart j k e e' l' hjk a b c c' f g
/-- new lists are nobody's -/
theorem Sl.new {l : Addr} {i : Nat} (h : Sl H0 Φ σ F H) (hl : H l = none) : ∀ j e, Φ[j]? = some e → e.isOw = true → j ≠ i → σ[j]? ≠ some (some (.ref l)) := fun j e a c _ b => by
  have q := h.at_ j e _ a b
  cases e with
  | ow Ps => obtain ⟨m, vs, e1, _, _, e2, _⟩ := q; cases e1; rw [hl] at e2; cases e2
  | un => cases c
  | im P => cases c
/-- one's own list at slot i written -/
theorem Sl.write {i : Nat} {Ps Qs : List MP} {l : Addr} {vs : List V} (h : Sl H0 Φ σ F H) (e : Φ[i]? = some (.ow Ps)) (hσ : σ[i]? = some (some (.ref l))) (hl0 : H0 l = none) (hF : F l = none) (hP : AllP Qs F vs) :
    Sl H0 (Φ.set i (.ow Qs)) σ F (upd H l (.lst vs)) := by
  refine ⟨by simp [h.len], fun j d u a b => ?_, fun j k d d' l' hjk a b c c' f g => ?_⟩
  · by_cases q : i = j
    · subst q
      rw [List.getElem?_set_self (by simpa using (List.getElem?_eq_some_iff.mp a).1)] at a
      rw [hσ] at b
      cases a; cases b; exact ⟨l, vs, rfl, hl0, hF, upd_same, hP⟩
    · rw [List.getElem?_set_ne q] at a
      have z := h.at_ j d u a b
      cases d with
      | un => trivial
      | im P => exact z
      | ow Rs =>
        obtain ⟨m, ws, rfl, h1, h2, h3, h4⟩ := z
        have hm : m ≠ l := fun w => h.apart j i _ _ m (fun w => q w.symm) a e rfl rfl b (by rw [w]; exact hσ)
        exact ⟨m, ws, rfl, h1, h2, by rw [upd_ne hm]; exact h3, h4⟩
  · have cv : ∀ (k : Nat) (d : SD), (Φ.set i (.ow Qs))[k]? = some d → d.isOw = true → ∃ d0, Φ[k]? = some d0 ∧ d0.isOw = true := fun k d a c => by
      by_cases q : i = k
      · subst q; exact ⟨_, e, rfl⟩
      · rw [List.getElem?_set_ne q] at a; exact ⟨d, a, c⟩
    obtain ⟨d0, a0, c0⟩ := cv j d a c
    obtain ⟨d1, a1, c1⟩ := cv k d' b c'
    exact h.apart j k d0 d1 l' hjk a0 a1 c0 c1 f g
/-- one's own list at slot i settled -/
theorem Sl.settle {i : Nat} {Ps : List MP} {l : Addr} {vs : List V} (h : Sl H0 Φ σ F H) (s : Ex F H) (e : Φ[i]? = some (.ow Ps)) (hσ : σ[i]? = some (some (.ref l))) (hF : F l = none) (hH : H l = some (.lst vs)) (hP : AllP Ps F vs) :
    Sl H0 (Φ.set i (.im (lstP Ps))) σ (upd F l (.lst vs)) H := by
  obtain ⟨x1, x2⟩ := Gr.settle s hF hH
  refine ⟨by simp [h.len], fun j d u a b => ?_, fun j k d d' l' hjk a b c c' f g => ?_⟩
  · by_cases q : i = j
    · subst q
      rw [List.getElem?_set_self (by simpa using (List.getElem?_eq_some_iff.mp a).1)] at a
      rw [hσ] at b
      cases a; cases b; exact ⟨_, rfl, l, vs, rfl, upd_same, hP.mono x1⟩
    · rw [List.getElem?_set_ne q] at a
      have z := h.at_ j d u a b
      cases d with
      | un => trivial
      | im P => obtain ⟨v, h1, h2⟩ := z; exact ⟨v, h1, P.mono _ _ _ x1 h2⟩
      | ow Rs =>
        obtain ⟨m, ws, rfl, h1, h2, h3, h4⟩ := z
        have hm : m ≠ l := fun w => h.apart j i _ _ m (fun w => q w.symm) a e rfl rfl b (by rw [w]; exact hσ)
        exact ⟨m, ws, rfl, h1, by rw [upd_ne hm]; exact h2, h3, h4.mono x1⟩
  · have cv : ∀ (k : Nat) (d : SD), (Φ.set i (.im (lstP Ps)))[k]? = some d → d.isOw = true → Φ[k]? = some d := fun k d a c => by
      by_cases q : i = k
      · subst q
        rw [List.getElem?_set_self (by simpa using (List.getElem?_eq_some_iff.mp a).1)] at a
        cases a; cases c
      · rw [List.getElem?_set_ne q] at a; exact a
    exact h.apart j k d d' l' hjk (cv j d a c) (cv k d' b c') c c' f g
end
end GL

set_option Elab.async false
set_option linter.all false
set_option maxRecDepth 100000
set_option maxHeartbeats 4000000
namespace GL
open PySem L2
open Evl (Ex ex_l ex_t)

/-! ### data of a type -/
class Py (α : Type) where
  enc : α → PyData
  can : ∀ x : α, (enc x).canLay0 = true
  dep : Nat
  deep : ∀ x : α, (enc x).depth ≤ dep
abbrev enc {α : Type} [Py α] (x : α) : PyData := Py.enc x
/-- == is = -/
class PyQ (α : Type) [Py α] where
  eqv : ∀ x y : α, PyData.eqv (enc x) (enc y) = true ↔ x = y
theorem eqv_dec {α : Type} [Py α] [PyQ α] [DecidableEq α] (x y : α) : PyData.eqv (enc x) (enc y) = decide (x = y) := by
  by_cases h : x = y
  · rw [(PyQ.eqv x y).mpr h, decide_eq_true h]
  · rw [decide_eq_false h]
    cases q : PyData.eqv (enc x) (enc y) with
    | false => rfl
    | true => exact absurd ((PyQ.eqv x y).mp q) h
theorem shaped_of {α : Type} [Py α] (h : Py.dep α ≤ 64) (x : α) : SeqAt.shaped (enc x) = true := by
  unfold SeqAt.shaped
  rw [Py.can x, Bool.true_and]
  exact decide_eq_true (Nat.le_trans (Py.deep x) h)

instance : Py Int := ⟨.int, fun _ => by simp [PyData.canLay0], 0, fun _ => by simp [PyData.depth]⟩
instance : PyQ Int := ⟨fun x y => by simp [enc, Py.enc, PyData.eqv]⟩
instance : Py Bool := ⟨.bool, fun _ => by simp [PyData.canLay0], 0, fun _ => by simp [PyData.depth]⟩
instance : PyQ Bool := ⟨fun x y => by simp [enc, Py.enc, PyData.eqv]⟩
instance : Py Unit := ⟨fun _ => .none, fun _ => by simp [PyData.canLay0], 0, fun _ => by simp [PyData.depth]⟩
instance : PyQ Unit := ⟨fun x y => by simp [enc, Py.enc, PyData.eqv]⟩
theorem canAll {α : Type} [Py α] : ∀ xs : List α, PyData.canLayAll0 (xs.map enc) = true
  | [] => by simp [PyData.canLayAll0]
  | x :: xs => by simp [PyData.canLayAll0, canAll xs, enc, Py.can x]
theorem depAll {α : Type} [Py α] : ∀ xs : List α, PyData.depthAll (xs.map enc) ≤ Py.dep α
  | [] => by simp [PyData.depthAll]
  | x :: xs => by
    have h1 := Py.deep x
    have h2 := depAll xs
    simp only [List.map_cons, PyData.depthAll, enc] at *
    omega
theorem eqvAll_iff {α : Type} [Py α] [PyQ α] : ∀ xs ys : List α, PyData.eqvAll (xs.map enc) (ys.map enc) = true ↔ xs = ys
  | [], [] => by simp [PyData.eqvAll]
  | [], y :: ys => by simp [PyData.eqvAll]
  | x :: xs, [] => by simp [PyData.eqvAll]
  | x :: xs, y :: ys => by
    have h1 := PyQ.eqv x y
    have h2 := eqvAll_iff xs ys
    simp only [List.map_cons, PyData.eqvAll, Bool.and_eq_true, h1, h2, List.cons.injEq]
instance {α : Type} [Py α] : Py (List α) := ⟨fun xs => .list (xs.map enc), fun xs => by simpa [PyData.canLay0] using canAll xs, Py.dep α + 1, fun xs => by
  have := depAll xs
  simp only [PyData.depth]; omega⟩
instance {α : Type} [Py α] [PyQ α] : PyQ (List α) := ⟨fun xs ys => by
  show PyData.eqv (.list (xs.map enc)) (.list (ys.map enc)) = true ↔ _
  rw [PyData.eqv]; exact eqvAll_iff xs ys⟩
/-- a tuple of any length -/
structure Tup (α : Type) where
  l : List α
  deriving DecidableEq, Inhabited
instance {α : Type} [Py α] : Py (Tup α) := ⟨fun xs => .tuple (xs.l.map enc), fun xs => by simpa [PyData.canLay0] using canAll xs.l, Py.dep α + 1, fun xs => by
  have := depAll xs.l
  simp only [PyData.depth]; omega⟩
instance {α : Type} [Py α] [PyQ α] : PyQ (Tup α) := ⟨fun xs ys => by
  show PyData.eqv (.tuple (xs.l.map enc)) (.tuple (ys.l.map enc)) = true ↔ _
  rw [PyData.eqv, eqvAll_iff]
  cases xs; cases ys; simp⟩
instance {α β : Type} [Py α] [Py β] : Py (α × β) := ⟨fun p => .tuple [enc p.1, enc p.2], fun p => by simp [PyData.canLay0, PyData.canLayAll0, Py.can], max (Py.dep α) (Py.dep β) + 1, fun p => by
  have := Py.deep p.1
  have := Py.deep p.2
  simp only [PyData.depth, PyData.depthAll, enc]; omega⟩
instance {α β : Type} [Py α] [Py β] [PyQ α] [PyQ β] : PyQ (α × β) := ⟨fun p q => by
  show PyData.eqv (.tuple [enc p.1, enc p.2]) (.tuple [enc q.1, enc q.2]) = true ↔ _
  have h1 := PyQ.eqv p.1 q.1
  have h2 := PyQ.eqv p.2 q.2
  simp only [PyData.eqv, PyData.eqvAll, Bool.and_true, Bool.and_eq_true, h1, h2]
  cases p; cases q; simp⟩
structure T3 (α β γ : Type) where
  a : α
  b : β
  c : γ
  deriving DecidableEq, Inhabited
structure T4 (α β γ δ : Type) where
  a : α
  b : β
  c : γ
  d : δ
  deriving DecidableEq, Inhabited
structure T5 (α β γ δ ε : Type) where
  a : α
  b : β
  c : γ
  d : δ
  e : ε
  deriving DecidableEq, Inhabited
instance {α β γ : Type} [Py α] [Py β] [Py γ] : Py (T3 α β γ) := ⟨fun p => .tuple [enc p.a, enc p.b, enc p.c], fun p => by simp [PyData.canLay0, PyData.canLayAll0, Py.can], max (max (Py.dep α) (Py.dep β)) (Py.dep γ) + 1, fun p => by
  have := Py.deep p.a
  have := Py.deep p.b
  have := Py.deep p.c
  simp only [PyData.depth, PyData.depthAll, enc]; omega⟩
instance {α β γ : Type} [Py α] [Py β] [Py γ] [PyQ α] [PyQ β] [PyQ γ] : PyQ (T3 α β γ) := ⟨fun p q => by
  show PyData.eqv (.tuple [enc p.a, enc p.b, enc p.c]) (.tuple [enc q.a, enc q.b, enc q.c]) = true ↔ _
  have h1 := PyQ.eqv p.a q.a
  have h2 := PyQ.eqv p.b q.b
  have h3 := PyQ.eqv p.c q.c
  simp only [PyData.eqv, PyData.eqvAll, Bool.and_true, Bool.and_eq_true, h1, h2, h3]
  cases p; cases q; simp⟩
instance {α β γ δ : Type} [Py α] [Py β] [Py γ] [Py δ] : Py (T4 α β γ δ) := ⟨fun p => .tuple [enc p.a, enc p.b, enc p.c, enc p.d], fun p => by simp [PyData.canLay0, PyData.canLayAll0, Py.can], max (max (Py.dep α) (Py.dep β)) (max (Py.dep γ) (Py.dep δ)) + 1, fun p => by
  have := Py.deep p.a
  have := Py.deep p.b
  have := Py.deep p.c
  have := Py.deep p.d
  simp only [PyData.depth, PyData.depthAll, enc]; omega⟩
instance {α β γ δ : Type} [Py α] [Py β] [Py γ] [Py δ] [PyQ α] [PyQ β] [PyQ γ] [PyQ δ] : PyQ (T4 α β γ δ) := ⟨fun p q => by
  show PyData.eqv (.tuple [enc p.a, enc p.b, enc p.c, enc p.d]) (.tuple [enc q.a, enc q.b, enc q.c, enc q.d]) = true ↔ _
  have h1 := PyQ.eqv p.a q.a
  have h2 := PyQ.eqv p.b q.b
  have h3 := PyQ.eqv p.c q.c
  have h4 := PyQ.eqv p.d q.d
  simp only [PyData.eqv, PyData.eqvAll, Bool.and_true, Bool.and_eq_true, h1, h2, h3, h4]
  cases p; cases q; simp⟩
instance {α β γ δ ε : Type} [Py α] [Py β] [Py γ] [Py δ] [Py ε] : Py (T5 α β γ δ ε) := ⟨fun p => .tuple [enc p.a, enc p.b, enc p.c, enc p.d, enc p.e], fun p => by simp [PyData.canLay0, PyData.canLayAll0, Py.can], max (max (max (Py.dep α) (Py.dep β)) (max (Py.dep γ) (Py.dep δ))) (Py.dep ε) + 1, fun p => by
  have := Py.deep p.a
  have := Py.deep p.b
  have := Py.deep p.c
  have := Py.deep p.d
  have := Py.deep p.e
  simp only [PyData.depth, PyData.depthAll, enc]; omega⟩
instance {α β γ δ ε : Type} [Py α] [Py β] [Py γ] [Py δ] [Py ε] [PyQ α] [PyQ β] [PyQ γ] [PyQ δ] [PyQ ε] : PyQ (T5 α β γ δ ε) := ⟨fun p q => by
  show PyData.eqv (.tuple [enc p.a, enc p.b, enc p.c, enc p.d, enc p.e]) (.tuple [enc q.a, enc q.b, enc q.c, enc q.d, enc q.e]) = true ↔ _
  have h1 := PyQ.eqv p.a q.a
  have h2 := PyQ.eqv p.b q.b
  have h3 := PyQ.eqv p.c q.c
  have h4 := PyQ.eqv p.d q.d
  have h5 := PyQ.eqv p.e q.e
  simp only [PyData.eqv, PyData.eqvAll, Bool.and_true, Bool.and_eq_true, h1, h2, h3, h4, h5]
  cases p; cases q; simp⟩
/-- x or None -/
instance {α : Type} [Py α] : Py (Option α) := ⟨fun o => match o with | none => .none | some x => enc x, fun o => by cases o <;> simp [PyData.canLay0, Py.can], Py.dep α, fun o => by
  cases o with
  | none => simp [PyData.depth]
  | some x => exact Py.deep x⟩

abbrev rp (K : Fg) {α : Type} [Py α] (x : α) : MP := py K (enc x)
abbrev rps (K : Fg) {α : Type} [Py α] (xs : List α) : List MP := xs.map fun x => py K (enc x)
abbrev sI (K : Fg) {α : Type} [Py α] (x : α) : SD := .im (py K (enc x))
abbrev sO (K : Fg) {α : Type} [Py α] (xs : List α) : SD := .ow (xs.map fun x => py K (enc x))
theorem rps_map {K : Fg} {α : Type} [Py α] (xs : List α) : (xs.map enc).map (py K) = rps K xs := by simp [rps]
theorem py_lst {K : Fg} {F : Hp} {v : V} {α : Type} [Py α] {xs : List α} : (py K (enc xs)).p F v ↔ (lstP (rps K xs)).p F v := by
  rw [← rps_map]; exact py_list
theorem py_tup {K : Fg} {F : Hp} {v : V} {α : Type} [Py α] {xs : Tup α} : (py K (enc xs)).p F v ↔ (tupP K (rps K xs.l)).p F v := by
  rw [← rps_map]; exact py_tuple

/-! ### the judgements -/
section
variable (X : Cx)
def wE (e : Expr) : TE := fun σ H Q => ∀ pins s, Inv X pins σ H s → wpAny (model X.prog X.w) X.A (eval e X.env) (EP X pins σ Q) X.xe s
def wT (e : Expr) : TT := fun σ H Q => ∀ pins s, Inv X pins σ H s → wpAny (model X.prog X.w) X.A (isTrue e X.env (eval e X.env)) (TP X pins σ Q) X.xe s
def wW (e : Expr) : TT := fun σ H Q => ∀ (whole : Sem Value) pins s, Inv X pins σ H s → wpAny (model X.prog X.w) X.A (isTrue e X.env whole) (TP X pins σ Q) X.xe s
def wA (es : List Expr) : TA := fun σ H Q => ∀ (pos : Pos) pins s, Inv X pins σ H s → wpAny (model X.prog X.w) X.A (spliced (backTo pos (starEach es X.env))) (AP X pins σ Q) X.xe s
def wS (st : Stmt) : TS := fun D σ H => ∀ pins s, Inv X pins σ H s → wpAny (model X.prog X.w) X.A (exec st X.env) (SP X pins D) X.xe s
def wSs (st : List Stmt) : TS := fun D σ H => ∀ pins s, Inv X pins σ H s → wpAny (model X.prog X.w) X.A (execs st X.env) (SP X pins D) X.xe s
def wG (tg : Expr) : TG := fun v σ H Q => ∀ pins s u, Inv X pins σ H s → RelV v u → wpAny (model X.prog X.w) X.A (assign tg X.env u) (fun _ s' => ∃ σ' H', Inv X pins σ' H' s' ∧ Q σ' H') X.xe s
def wI (tg iter : Expr) : TI := fun σ H R => ∀ pins s, Inv X pins σ H s → wpAny (model X.prog X.w) X.A (eval iter X.env) (fun v s1 => wpAny (model X.prog X.w) X.A (pyIter v) (PIE X pins σ tg R) X.xe s1) X.xe s
variable {X}
theorem peW {e : Expr} : PE X e (wE X e) := ⟨fun pins s _ _ _ I h => h pins s I⟩
theorem ptW {e : Expr} : PT X e (wT X e) := ⟨fun pins s _ _ _ I h => h pins s I⟩
theorem pwW {e : Expr} : PW X e (wW X e) := ⟨fun whole pins s _ _ _ I h => h whole pins s I⟩
theorem paW {es : List Expr} : PA X es (wA X es) := ⟨fun pos pins s _ _ _ I h => h pos pins s I⟩
theorem psW {st : Stmt} : PS X st (wS X st) := ⟨fun pins s _ _ _ I h => h pins s I⟩
theorem pssW {st : List Stmt} : PSs X st (wSs X st) := ⟨fun pins s _ _ _ I h => h pins s I⟩
theorem pgW {tg : Expr} : PG X tg (wG X tg) := ⟨fun pins s _ _ _ u _ I r h => h pins s u I r⟩
theorem piW {tg iter : Expr} : PI X tg iter (wI X tg iter) := ⟨fun pins s _ _ _ I h => h pins s I⟩
theorem wE_of {e : Expr} {t : TE} {σ : St} {H : Hp} {Q : VK} (p : PE X e t) (h : t σ H Q) : wE X e σ H Q := fun pins s I => p.run pins s σ H Q I h
theorem wT_of {e : Expr} {t : TT} {σ : St} {H : Hp} {Q : Bool → Hp → Prop} (p : PT X e t) (h : t σ H Q) : wT X e σ H Q := fun pins s I => p.run pins s σ H Q I h
theorem wW_of {e : Expr} {t : TT} {σ : St} {H : Hp} {Q : Bool → Hp → Prop} (p : PW X e t) (h : t σ H Q) : wW X e σ H Q := fun whole pins s I => p.run whole pins s σ H Q I h
theorem wA_of {es : List Expr} {t : TA} {σ : St} {H : Hp} {Q : List V → Hp → Prop} (p : PA X es t) (h : t σ H Q) : wA X es σ H Q := fun pos pins s I => p.run pos pins s σ H Q I h
theorem wS_of {st : Stmt} {t : TS} {σ : St} {H : Hp} {D : Ends} (p : PS X st t) (h : t D σ H) : wS X st D σ H := fun pins s I => p.run pins s σ H D I h
theorem wSs_of {st : List Stmt} {t : TS} {σ : St} {H : Hp} {D : Ends} (p : PSs X st t) (h : t D σ H) : wSs X st D σ H := fun pins s I => p.run pins s σ H D I h
theorem wG_of {tg : Expr} {t : TG} {v : V} {σ : St} {H : Hp} {Q : St → Hp → Prop} (p : PG X tg t) (h : t v σ H Q) : wG X tg v σ H Q := fun pins s u I r => p.run pins s σ H v u Q I r h
theorem wI_of {tg iter : Expr} {t : TI} {σ : St} {H : Hp} {R : It → Hp → Prop} (p : PI X tg iter t) (h : t σ H R) : wI X tg iter σ H R := fun pins s I => p.run pins s σ H R I h
variable (X)
/-- e gives a settled value | a new list of one's own | a list that may be read | arguments | a truth -/
structure PEv (Φ : List SD) (e : Expr) (P : MP) : Prop where
  run : ∀ (H0 : Hp) (σ : St) (F H : Hp) (Q : VK), Ex F H → Sl H0 Φ σ F H → (∀ v F' H', Gr F H F' H' → P.p F' v → Q v H') → wE X e σ H Q
instance {Φ : List SD} {e : Expr} {P : MP} : CoeFun (PEv X Φ e P) (fun _ => ∀ (H0 : Hp) (σ : St) (F H : Hp) (Q : VK), Ex F H → Sl H0 Φ σ F H → (∀ v F' H', Gr F H F' H' → P.p F' v → Q v H') → wE X e σ H Q) := ⟨PEv.run⟩
structure PEn (Φ : List SD) (e : Expr) (Ps : List MP) : Prop where
  run : ∀ (H0 : Hp) (σ : St) (F H : Hp) (Q : VK), Ex F H → Sl H0 Φ σ F H → (∀ a vs F' H', Gr F H F' H' → H a = none → F' a = none → H' a = some (.lst vs) → AllP Ps F' vs → Q (.ref a) H') → wE X e σ H Q
instance {Φ : List SD} {e : Expr} {Ps : List MP} : CoeFun (PEn X Φ e Ps) (fun _ => ∀ (H0 : Hp) (σ : St) (F H : Hp) (Q : VK), Ex F H → Sl H0 Φ σ F H → (∀ a vs F' H', Gr F H F' H' → H a = none → F' a = none → H' a = some (.lst vs) → AllP Ps F' vs → Q (.ref a) H') → wE X e σ H Q) := ⟨PEn.run⟩
structure PEl (Φ : List SD) (e : Expr) (Ps : List MP) : Prop where
  run : ∀ (H0 : Hp) (σ : St) (F H : Hp) (Q : VK), Ex F H → Sl H0 Φ σ F H → (∀ a vs F' H', Gr F H F' H' → SqL X.K H' a vs → AllP Ps F' vs → Q (.ref a) H') → wE X e σ H Q
instance {Φ : List SD} {e : Expr} {Ps : List MP} : CoeFun (PEl X Φ e Ps) (fun _ => ∀ (H0 : Hp) (σ : St) (F H : Hp) (Q : VK), Ex F H → Sl H0 Φ σ F H → (∀ a vs F' H', Gr F H F' H' → SqL X.K H' a vs → AllP Ps F' vs → Q (.ref a) H') → wE X e σ H Q) := ⟨PEl.run⟩
structure PEk (Φ : List SD) (e : Expr) (Ps : List MP) : Prop where
  run : ∀ (H0 : Hp) (σ : St) (F H : Hp) (Q : VK), Ex F H → Sl H0 Φ σ F H → (∀ a vs F' H', Gr F H F' H' → H' a = some (.lst vs) → AllP Ps F' vs → Q (.ref a) H') → wE X e σ H Q
instance {Φ : List SD} {e : Expr} {Ps : List MP} : CoeFun (PEk X Φ e Ps) (fun _ => ∀ (H0 : Hp) (σ : St) (F H : Hp) (Q : VK), Ex F H → Sl H0 Φ σ F H → (∀ a vs F' H', Gr F H F' H' → H' a = some (.lst vs) → AllP Ps F' vs → Q (.ref a) H') → wE X e σ H Q) := ⟨PEk.run⟩
structure PAs (Φ : List SD) (es : List Expr) (Ps : List MP) : Prop where
  run : ∀ (H0 : Hp) (σ : St) (F H : Hp) (Q : List V → Hp → Prop), Ex F H → Sl H0 Φ σ F H → (∀ vs F' H', Gr F H F' H' → AllP Ps F' vs → Q vs H') → wA X es σ H Q
instance {Φ : List SD} {es : List Expr} {Ps : List MP} : CoeFun (PAs X Φ es Ps) (fun _ => ∀ (H0 : Hp) (σ : St) (F H : Hp) (Q : List V → Hp → Prop), Ex F H → Sl H0 Φ σ F H → (∀ vs F' H', Gr F H F' H' → AllP Ps F' vs → Q vs H') → wA X es σ H Q) := ⟨PAs.run⟩
structure PTv (Φ : List SD) (e : Expr) (b : Bool) : Prop where
  run : ∀ (H0 : Hp) (σ : St) (F H : Hp) (Q : Bool → Hp → Prop), Ex F H → Sl H0 Φ σ F H → (∀ F' H', Gr F H F' H' → Q b H') → wT X e σ H Q
instance {Φ : List SD} {e : Expr} {b : Bool} : CoeFun (PTv X Φ e b) (fun _ => ∀ (H0 : Hp) (σ : St) (F H : Hp) (Q : Bool → Hp → Prop), Ex F H → Sl H0 Φ σ F H → (∀ F' H', Gr F H F' H' → Q b H') → wT X e σ H Q) := ⟨PTv.run⟩
structure PWv (Φ : List SD) (e : Expr) (b : Bool) : Prop where
  run : ∀ (H0 : Hp) (σ : St) (F H : Hp) (Q : Bool → Hp → Prop), Ex F H → Sl H0 Φ σ F H → (∀ F' H', Gr F H F' H' → Q b H') → wW X e σ H Q
instance {Φ : List SD} {e : Expr} {b : Bool} : CoeFun (PWv X Φ e b) (fun _ => ∀ (H0 : Hp) (σ : St) (F H : Hp) (Q : Bool → Hp → Prop), Ex F H → Sl H0 Φ σ F H → (∀ F' H', Gr F H F' H' → Q b H') → wW X e σ H Q) := ⟨PWv.run⟩
abbrev PV (Φ : List SD) (e : Expr) {α : Type} [Py α] (x : α) : Prop := PEv X Φ e (py X.K (enc x))
abbrev PN (Φ : List SD) (e : Expr) {α : Type} [Py α] (xs : List α) : Prop := PEn X Φ e (xs.map fun x => py X.K (enc x))
abbrev PK (Φ : List SD) (e : Expr) {α : Type} [Py α] (xs : List α) : Prop := PEk X Φ e (xs.map fun x => py X.K (enc x))
abbrev PD (Φ : List SD) (e : Expr) {α : Type} [Py α] (x : α) : Prop := PEv X Φ e (dp X.K (enc x))
abbrev PL (Φ : List SD) (e : Expr) {α : Type} [Py α] (xs : List α) : Prop := PEl X Φ e (xs.map fun x => py X.K (enc x))
end

section
variable {X : Cx} {Φ : List SD} {a b c e : Expr} {es : List Expr} {pos p p2 : Pos} {P : MP} {Ps : List MP} {i j k : Int}
/-! ### from one to the other -/
theorem PEn.xk (h : PEn X Φ e Ps) : PEk X Φ e Ps := .mk fun H0 σ F H Q s sl q => h H0 σ F H Q s sl fun a vs F' H' g _ _ h2 h3 => q a vs F' H' g h2 h3
theorem PEk.l (h : PEk X Φ e Ps) : PEl X Φ e Ps := .mk fun H0 σ F H Q s sl q => h H0 σ F H Q s sl fun a vs F' H' g h2 h3 => q a vs F' H' g (SqL.of h2) h3
theorem PEn.v (h : PEn X Φ e Ps) : PEv X Φ e (lstP Ps) := .mk fun H0 σ F H Q s sl q => h H0 σ F H Q s sl fun a vs F' H' g h1 h2 h3 h4 => by
  obtain ⟨x1, x2⟩ := Gr.settle g.s h2 h3
  refine q (.ref a) _ H' ⟨g.f.trans x1, g.h, x2, fun b z1 z2 => ?_⟩ ⟨a, vs, rfl, upd_same, h4.mono x1⟩
  have hb : b ≠ a := fun w => z2 (by rw [w]; exact h1)
  rw [upd_ne hb]; exact g.n b z1 z2
theorem PEv.xk (h : PEv X Φ e (lstP Ps)) : PEk X Φ e Ps := .mk fun H0 σ F H Q s sl q => h H0 σ F H Q s sl fun v F' H' g ⟨a, vs, h1, h2, h3⟩ => by
  subst h1; exact q a vs F' H' g (g.s _ _ h2) h3
theorem PN.xk {α : Type} [Py α] {xs : List α} (h : PN X Φ e xs) : PK X Φ e xs := PEn.xk h
theorem PK.l {α : Type} [Py α] {xs : List α} (h : PK X Φ e xs) : PL X Φ e xs := PEk.l h
theorem PEv.imp {P' : MP} (h : PEv X Φ e P) (w : ∀ F v, P.p F v → P'.p F v) : PEv X Φ e P' := .mk fun H0 σ F H Q s sl q => h H0 σ F H Q s sl fun v F' H' g z => q v F' H' g (w _ _ z)
theorem PN.v {α : Type} [Py α] {xs : List α} (h : PN X Φ e xs) : PV X Φ e xs := (PEn.v h).imp fun _ _ z => py_lst.mpr z
theorem PV.xk {α : Type} [Py α] {xs : List α} (h : PV X Φ e xs) : PK X Φ e xs := PEv.xk (PEv.imp h fun _ _ z => py_lst.mp z)
theorem PV.d {α : Type} [Py α] {x : α} (h : PV X Φ e x) : PD X Φ e x := PEv.imp h fun _ _ z => dq_dp _ _ z
/-! ### leaves -/
theorem v_im (n : Nat) {x : Str} (h : Φ[n]? = some (.im P) := by rfl) (hN : X.N[n]? = some x := by rfl) (hv : Vis X.env.scope x := by first | exact Or.inl rfl | exact Or.inr (Or.inl rfl) | exact Or.inr (Or.inr rfl)) (hd : (x == ("__debug__" : Str)) = false := by decide)
    (hcd : (x == ("__classdict__" : Str)) = false := by decide) : PEv X Φ (.Name x pos) P := .mk fun H0 σ F H Q s sl q => by
  obtain ⟨v, h1, h2⟩ := sl.im h
  exact wE_of (pe_var hN hv hd hcd) ⟨v, h1, q v F H (Gr.refl s) h2⟩
theorem v_ow (n : Nat) {x : Str} (h : Φ[n]? = some (.ow Ps) := by rfl) (hN : X.N[n]? = some x := by rfl) (hv : Vis X.env.scope x := by first | exact Or.inl rfl | exact Or.inr (Or.inl rfl) | exact Or.inr (Or.inr rfl)) (hd : (x == ("__debug__" : Str)) = false := by decide)
    (hcd : (x == ("__classdict__" : Str)) = false := by decide) : PEk X Φ (.Name x pos) Ps := .mk fun H0 σ F H Q s sl q => by
  obtain ⟨l, vs, h1, h2, h3, h4, h5⟩ := sl.ow h
  exact wE_of (pe_var hN hv hd hcd) ⟨_, h1, q l vs F H (Gr.refl s) h4 h5⟩
theorem v_int : PV X Φ (.Constant (.int i) 0 pos) i := .mk fun H0 σ F H Q s sl q => wE_of pe_int (q _ _ _ (Gr.refl s) (.int i))
theorem v_bl {k : Bool} : PV X Φ (.Constant (.bool k) 0 pos) k := .mk fun H0 σ F H Q s sl q => wE_of pe_bl (q _ _ _ (Gr.refl s) (.bl k))
theorem v_non : PV X Φ (.Constant .none 0 pos) () := .mk fun H0 σ F H Q s sl q => wE_of pe_non (q _ _ _ (Gr.refl s) .non)
theorem v_gint {x : Str} {t : Tok} (hg : Gl X x) (hm : X.mg x = some (.int i t)) (hd : (x == ("__debug__" : Str)) = false := by decide) : PV X Φ (.Name x pos) i := .mk fun H0 σ F H Q s sl q =>
  wE_of (pe_glob (v := .int i) hg hm ⟨t, rfl⟩ hd) (q _ _ _ (Gr.refl s) (.int i))
/-! ### ints -/
theorem v_op2 {op : Operator} {C : Int → Int → Prop} {f : Int → Int → Int} (ho : OpR X (binaryOp op) (rI C fun i j => .int (f i j))) (ha : PV X Φ a i) (hb : PV X Φ b j) (hc : C i j) : PV X Φ (.BinOp a op b pos) (f i j) := .mk fun H0 σ F H Q s sl q =>
  wE_of (pe_op ho peW peW) (ha H0 σ F H _ s sl fun x F1 H1 g1 p1 => hb H0 σ F1 H1 _ g1.s (sl.gr g1) fun y F2 H2 g2 p2 => by
    cases p1; cases p2
    exact ⟨i, j, rfl, rfl, hc, q _ _ _ (g1.trans g2) (.int _)⟩)
theorem v_op0 {op : Operator} {f : Int → Int → Int} (ho : OpR X (binaryOp op) (rI0 fun i j => .int (f i j))) (ha : PV X Φ a i) (hb : PV X Φ b j) : PV X Φ (.BinOp a op b pos) (f i j) := .mk fun H0 σ F H Q s sl q =>
  wE_of (pe_op ho peW peW) (ha H0 σ F H _ s sl fun x F1 H1 g1 p1 => hb H0 σ F1 H1 _ g1.s (sl.gr g1) fun y F2 H2 g2 p2 => by
    cases p1; cases p2
    exact ⟨i, j, rfl, rfl, q _ _ _ (g1.trans g2) (.int _)⟩)
theorem v_add (ha : PV X Φ a i) (hb : PV X Φ b j) : PV X Φ (.BinOp a .Add b pos) (i + j) := v_op0 op_add ha hb
theorem v_sub (ha : PV X Φ a i) (hb : PV X Φ b j) : PV X Φ (.BinOp a .Sub b pos) (i - j) := v_op0 op_sub ha hb
theorem v_mul (ha : PV X Φ a i) (hb : PV X Φ b j) (hc : CMul i j) : PV X Φ (.BinOp a .Mult b pos) (i * j) := v_op2 op_mul ha hb hc
theorem v_mulW (ha : PV X Φ a i) (hb : PV X Φ b j) (hc : CMulW i j) : PV X Φ (.BinOp a .Mult b pos) (i * j) := v_op2 op_mulW ha hb hc
theorem v_div (ha : PV X Φ a i) (hb : PV X Φ b j) (hc : CDivW i j) : PV X Φ (.BinOp a .FloorDiv b pos) (i / j) := v_op2 op_fdivW ha hb hc
theorem v_mod (ha : PV X Φ a i) (hb : PV X Φ b j) (hc : 0 < j) : PV X Φ (.BinOp a .Mod b pos) (i % j) := v_op2 (C := fun _ j => 0 < j) op_mod ha hb hc
theorem v_pow (ha : PV X Φ a i) (hb : PV X Φ b j) (hc : CPow i j) : PV X Φ (.BinOp a .Pow b pos) (i ^ j.toNat) := v_op2 op_pow ha hb hc
theorem v_neg (ha : PV X Φ a i) : PV X Φ (.UnaryOp .USub a pos) (-i) := .mk fun H0 σ F H Q s sl q =>
  wE_of (pe_un un_neg peW) (ha H0 σ F H _ s sl fun x F1 H1 g1 p1 => by cases p1; exact ⟨i, rfl, q _ _ _ g1 (.int _)⟩)
/-! ### comparisons, tests -/
theorem v_cmp {op : CmpOp} {f : Int → Int → Bool} (ho : OpR X (compareOp op) (rI0 fun i j => .bl (f i j))) (ha : PV X Φ a i) (hb : PV X Φ b j) (hm : behindInMarks op b = false := by first | exact nomark _ | rfl) : PV X Φ (.Compare a [op] [b] pos) (f i j) := .mk fun H0 σ F H Q s sl q =>
  wE_of (pe_cmpR ho peW peW hm) (ha H0 σ F H _ s sl fun x F1 H1 g1 p1 => hb H0 σ F1 H1 _ g1.s (sl.gr g1) fun y F2 H2 g2 p2 => by
    cases p1; cases p2
    exact ⟨i, j, rfl, rfl, q _ _ _ (g1.trans g2) (.bl _)⟩)
theorem v_lt (ha : PV X Φ a i) (hb : PV X Φ b j) : PV X Φ (.Compare a [.Lt] [b] pos) (decide (i < j)) := v_cmp op_lt ha hb (nomark _)
theorem v_le (ha : PV X Φ a i) (hb : PV X Φ b j) : PV X Φ (.Compare a [.LtE] [b] pos) (decide (i ≤ j)) := v_cmp op_le ha hb (nomark _)
theorem v_gt (ha : PV X Φ a i) (hb : PV X Φ b j) : PV X Φ (.Compare a [.Gt] [b] pos) (decide (j < i)) := v_cmp op_gt ha hb (nomark _)
theorem v_ge (ha : PV X Φ a i) (hb : PV X Φ b j) : PV X Φ (.Compare a [.GtE] [b] pos) (decide (j ≤ i)) := v_cmp op_ge ha hb (nomark _)
/-- a <= b < c and the like -/
theorem v_chain {op op' : CmpOp} {f f' : Int → Int → Bool} (ho : OpR X (compareOp op) (rI0 fun i j => .bl (f i j))) (ho' : OpR X (compareOp op') (rI0 fun i j => .bl (f' i j))) (ha : PV X Φ a i) (hb : PV X Φ b j) (hc : f i j = true → PV X Φ c k)
    (hm : lastMarks [op, op'] [b, c] = false := by with_unfolding_all rfl) : PV X Φ (.Compare a [op, op'] [b, c] pos) (f i j && f' j k) := .mk fun H0 σ F H Q s sl q =>
  wE_of (pe_chain ho ho' peW peW peW hm) (ha H0 σ F H _ s sl fun x F1 H1 g1 p1 => hb H0 σ F1 H1 _ g1.s (sl.gr g1) fun y F2 H2 g2 p2 => by
    cases p1; cases p2
    refine ⟨i, j, rfl, rfl, f i j, rfl, ?_⟩
    cases e : f i j with
    | true =>
      refine iteT (hc e H0 σ F2 H2 _ g2.s ((sl.gr g1).gr g2) fun z F3 H3 g3 p3 => ?_)
      cases p3
      exact ⟨j, k, rfl, rfl, by
        have := q (.bl (f' j k)) F3 H3 ((g1.trans g2).trans g3) (by rw [e, Bool.true_and]; exact .bl _)
        exact this⟩
    | false => exact iteF (by
        have := q (.bl false) F2 H2 (g1.trans g2) (by rw [e, Bool.false_and]; exact .bl _)
        exact this))
theorem v_eq {α : Type} [Py α] [PyQ α] [DecidableEq α] {x y : α} (hu : X.A.units + 64 < cLine) (hd : Py.dep α ≤ 64) (ha : PD X Φ a x) (hb : PD X Φ b y) : PV X Φ (.Compare a [.Eq] [b] pos) (decide (x = y)) := .mk fun H0 σ F H Q s sl q =>
  wE_of (pe_cmpR (op_eqD hu) peW peW (nomark _)) (ha H0 σ F H _ s sl fun x F1 H1 g1 p1 => hb H0 σ F1 H1 _ g1.s (sl.gr g1) fun y F2 H2 g2 p2 =>
    ⟨_, _, dp_mono (g2.f.trans g2.s) _ _ p1, dp_mono g2.s _ _ p2, shaped_of hd _, shaped_of hd _, q _ _ _ (g1.trans g2) (by rw [eqv_dec]; exact .bl _)⟩)
theorem v_ne {α : Type} [Py α] [PyQ α] [DecidableEq α] {x y : α} (hu : X.A.units + 64 < cLine) (hd : Py.dep α ≤ 64) (ha : PD X Φ a x) (hb : PD X Φ b y) : PV X Φ (.Compare a [.NotEq] [b] pos) (!decide (x = y)) := .mk fun H0 σ F H Q s sl q =>
  wE_of (pe_cmpR (op_neD hu) peW peW (nomark _)) (ha H0 σ F H _ s sl fun x F1 H1 g1 p1 => hb H0 σ F1 H1 _ g1.s (sl.gr g1) fun y F2 H2 g2 p2 =>
    ⟨_, _, dp_mono (g2.f.trans g2.s) _ _ p1, dp_mono g2.s _ _ p2, shaped_of hd _, shaped_of hd _, q _ _ _ (g1.trans g2) (by rw [eqv_dec]; exact .bl _)⟩)
theorem v_not {k : Bool} (ha : PTv X Φ a k) : PTv X Φ (.UnaryOp .Not a pos) (!k) := .mk fun H0 σ F H Q s sl q =>
  wT_of (pt_not ptW) (ha H0 σ F H _ s sl fun F1 H1 g1 => q _ _ g1)
theorem v_notV {k : Bool} (ha : PV X Φ a k) : PV X Φ (.UnaryOp .Not a pos) (!k) := .mk fun H0 σ F H Q s sl q =>
  wE_of (pe_not peW) (ha H0 σ F H _ s sl fun x F1 H1 g1 p1 => by cases p1; exact ⟨k, rfl, q _ _ _ g1 (.bl _)⟩)
theorem t_val {k : Bool} (ha : PV X Φ e k) (he : ∀ whole, isTrue e X.env whole = (do let v ← whole; standAt e.pos; holding [v] (truthy v)) := by intro _; rfl) : PTv X Φ e k := .mk fun H0 σ F H Q s sl q =>
  wT_of (pt_val peW he) (ha H0 σ F H _ s sl fun x F1 H1 g1 p1 => by cases p1; exact ⟨k, rfl, q _ _ g1⟩)
theorem t_cmp {op : CmpOp} {f : Int → Int → Bool} (ho : OpR X (compareOp op) (rI0 fun i j => .bl (f i j))) (ha : PV X Φ a i) (hb : PV X Φ b j) (hm : behindInMarks op b = false := by first | exact nomark _ | rfl) : PTv X Φ (.Compare a [op] [b] pos) (f i j) := .mk fun H0 σ F H Q s sl q =>
  wT_of (pt_cmpR ho peW peW hm) (ha H0 σ F H _ s sl fun x F1 H1 g1 p1 => hb H0 σ F1 H1 _ g1.s (sl.gr g1) fun y F2 H2 g2 p2 => by
    cases p1; cases p2
    exact ⟨i, j, rfl, rfl, _, rfl, q _ _ (g1.trans g2)⟩)
theorem t_lt (ha : PV X Φ a i) (hb : PV X Φ b j) : PTv X Φ (.Compare a [.Lt] [b] pos) (decide (i < j)) := t_cmp op_lt ha hb (nomark _)
theorem t_le (ha : PV X Φ a i) (hb : PV X Φ b j) : PTv X Φ (.Compare a [.LtE] [b] pos) (decide (i ≤ j)) := t_cmp op_le ha hb (nomark _)
theorem t_gt (ha : PV X Φ a i) (hb : PV X Φ b j) : PTv X Φ (.Compare a [.Gt] [b] pos) (decide (j < i)) := t_cmp op_gt ha hb (nomark _)
theorem t_ge (ha : PV X Φ a i) (hb : PV X Φ b j) : PTv X Φ (.Compare a [.GtE] [b] pos) (decide (j ≤ i)) := t_cmp op_ge ha hb (nomark _)
theorem t_chain {op op' : CmpOp} {f f' : Int → Int → Bool} (ho : OpR X (compareOp op) (rI0 fun i j => .bl (f i j))) (ho' : OpR X (compareOp op') (rI0 fun i j => .bl (f' i j))) (ha : PV X Φ a i) (hb : PV X Φ b j) (hc : f i j = true → PV X Φ c k)
    (hm : lastMarks [op, op'] [b, c] = false := by with_unfolding_all rfl) : PTv X Φ (.Compare a [op, op'] [b, c] pos) (f i j && f' j k) := .mk fun H0 σ F H Q s sl q =>
  wT_of (pt_chain ho ho' peW peW peW hm) (ha H0 σ F H _ s sl fun x F1 H1 g1 p1 => hb H0 σ F1 H1 _ g1.s (sl.gr g1) fun y F2 H2 g2 p2 => by
    cases p1; cases p2
    refine ⟨i, j, rfl, rfl, f i j, rfl, ?_⟩
    cases e : f i j with
    | true =>
      refine iteT (hc e H0 σ F2 H2 _ g2.s ((sl.gr g1).gr g2) fun z F3 H3 g3 p3 => ?_)
      cases p3
      exact ⟨j, k, rfl, rfl, _, rfl, by
        have := q F3 H3 ((g1.trans g2).trans g3)
        rw [e, Bool.true_and] at this
        exact this⟩
    | false => exact iteF (by
        have := q F2 H2 (g1.trans g2)
        rw [e, Bool.false_and] at this
        exact ⟨_, rfl, this⟩))
theorem t_eq {α : Type} [Py α] [PyQ α] [DecidableEq α] {x y : α} (hu : X.A.units + 64 < cLine) (hd : Py.dep α ≤ 64) (ha : PD X Φ a x) (hb : PD X Φ b y) : PTv X Φ (.Compare a [.Eq] [b] pos) (decide (x = y)) := .mk fun H0 σ F H Q s sl q =>
  wT_of (pt_cmpR (op_eqD hu) peW peW (nomark _)) (ha H0 σ F H _ s sl fun x F1 H1 g1 p1 => hb H0 σ F1 H1 _ g1.s (sl.gr g1) fun y F2 H2 g2 p2 =>
    ⟨_, _, dp_mono (g2.f.trans g2.s) _ _ p1, dp_mono g2.s _ _ p2, shaped_of hd _, shaped_of hd _, _, rfl, by rw [eqv_dec]; exact q _ _ (g1.trans g2)⟩)
theorem t_ne {α : Type} [Py α] [PyQ α] [DecidableEq α] {x y : α} (hu : X.A.units + 64 < cLine) (hd : Py.dep α ≤ 64) (ha : PD X Φ a x) (hb : PD X Φ b y) : PTv X Φ (.Compare a [.NotEq] [b] pos) (!decide (x = y)) := .mk fun H0 σ F H Q s sl q =>
  wT_of (pt_cmpR (op_neD hu) peW peW (nomark _)) (ha H0 σ F H _ s sl fun x F1 H1 g1 p1 => hb H0 σ F1 H1 _ g1.s (sl.gr g1) fun y F2 H2 g2 p2 =>
    ⟨_, _, dp_mono (g2.f.trans g2.s) _ _ p1, dp_mono g2.s _ _ p2, shaped_of hd _, shaped_of hd _, _, rfl, by rw [eqv_dec]; exact q _ _ (g1.trans g2)⟩)
theorem v_and {l m : Bool} (ha : PV X Φ a l) (hb : l = true → PV X Φ (.BoolOp .And (b :: es) pos) m) : PV X Φ (.BoolOp .And (a :: b :: es) pos) (l && m) := .mk fun H0 σ F H Q s sl q =>
  wE_of (pe_and peW peW) (ha H0 σ F H _ s sl fun x F1 H1 g1 p1 => by
    cases p1
    refine ⟨l, rfl, ?_⟩
    cases l with
    | true => exact iteT (hb rfl H0 σ F1 H1 _ g1.s (sl.gr g1) fun y F2 H2 g2 p2 => q y F2 H2 (g1.trans g2) p2)
    | false => exact iteF (q _ _ _ g1 (.bl false)))
theorem v_or {l m : Bool} (ha : PV X Φ a l) (hb : l = false → PV X Φ (.BoolOp .Or (b :: es) pos) m) : PV X Φ (.BoolOp .Or (a :: b :: es) pos) (l || m) := .mk fun H0 σ F H Q s sl q =>
  wE_of (pe_or peW peW) (ha H0 σ F H _ s sl fun x F1 H1 g1 p1 => by
    cases p1
    refine ⟨l, rfl, ?_⟩
    cases l with
    | true => exact iteT (q _ _ _ g1 (.bl true))
    | false => exact iteF (hb rfl H0 σ F1 H1 _ g1.s (sl.gr g1) fun y F2 H2 g2 p2 => q y F2 H2 (g1.trans g2) p2))
theorem v_one {op : BoolOp} {l : Bool} (ha : PV X Φ a l) : PV X Φ (.BoolOp op [a] pos) l := .mk fun H0 σ F H Q s sl q => wE_of (pe_one peW) (ha H0 σ F H Q s sl q)
theorem w_and1 {l : Bool} (ha : PTv X Φ a l) : PWv X Φ (.BoolOp .And [a] pos) l := .mk fun H0 σ F H Q s sl q => wW_of (pw_and1 ptW) (ha H0 σ F H Q s sl q)
theorem w_or1 {l : Bool} (ha : PTv X Φ a l) : PWv X Φ (.BoolOp .Or [a] pos) l := .mk fun H0 σ F H Q s sl q => wW_of (pw_or1 ptW) (ha H0 σ F H Q s sl q)
theorem w_and {l m : Bool} (ha : PTv X Φ a l) (hb : l = true → PWv X Φ (.BoolOp .And (b :: es) pos) m) : PWv X Φ (.BoolOp .And (a :: b :: es) pos) (l && m) := .mk fun H0 σ F H Q s sl q =>
  wW_of (pw_and ptW pwW) (ha H0 σ F H _ s sl fun F1 H1 g1 => by
    cases l with
    | true => exact iteT (hb rfl H0 σ F1 H1 _ g1.s (sl.gr g1) fun F2 H2 g2 => q F2 H2 (g1.trans g2))
    | false => exact iteF (q _ _ g1))
theorem w_or {l m : Bool} (ha : PTv X Φ a l) (hb : l = false → PWv X Φ (.BoolOp .Or (b :: es) pos) m) : PWv X Φ (.BoolOp .Or (a :: b :: es) pos) (l || m) := .mk fun H0 σ F H Q s sl q =>
  wW_of (pw_or ptW pwW) (ha H0 σ F H _ s sl fun F1 H1 g1 => by
    cases l with
    | true => exact iteT (q _ _ g1)
    | false => exact iteF (hb rfl H0 σ F1 H1 _ g1.s (sl.gr g1) fun F2 H2 g2 => q F2 H2 (g1.trans g2)))
theorem PWv.t {l : Bool} (h : PWv X Φ e l) : PTv X Φ e l := .mk fun H0 σ F H Q s sl q => wT_of (PW.pt pwW) (h H0 σ F H Q s sl q)
/-- an expression whose answer leans on no object, by what is one's own being read alone -/
theorem PEv.flat {n : Nat} (hs : ∀ F F' v, P.p F v → P.p F' v) (ho : Φ[n]? = some (.ow Ps)) (h : PEv X (Φ.set n (.im (lstP Ps))) e P) : PEv X Φ e P := .mk fun H0 σ F H Q s sl q => by
  obtain ⟨l, vs, h1, h2, h3, h4, h5⟩ := sl.ow ho
  obtain ⟨x1, x2⟩ := Gr.settle s h3 h4
  exact h H0 σ _ H Q x2 (sl.settle s ho h1 h3 h4 h5) fun v F' H' g z => q v F H' (Gr.hp s g.h) (hs _ _ _ z)
end
end GL

set_option Elab.async false
set_option linter.all false
set_option maxRecDepth 100000
set_option maxHeartbeats 4000000
namespace GL
open PySem L2
open Evl (Ex ex_l ex_t)
section
variable {X : Cx} {Φ : List SD} {a b c e : Expr} {es : List Expr} {pos p p2 : Pos} {P : MP} {Ps Qs : List MP} {i j k : Int}
/-! ### arguments, displays -/
def nst : Expr → Bool
  | .Starred .. => false
  | _ => true
theorem star_cons {env : Env} (h : nst e = true) : starEach (e :: es) env = (false, eval e env) :: starEach es env := by
  cases e with
  | Starred => cases h
  | _ => rfl
theorem star_plain {env : Env} {pos : Pos} : ∀ {es : List Expr}, es.all nst = true → (backTo pos (starEach es env)).any (·.1) = false
  | [], _ => rfl
  | e :: es, h => by
    rw [List.all_cons, Bool.and_eq_true] at h
    rw [star_cons h.1]
    show (false || (backTo pos (starEach es env)).any (·.1)) = false
    rw [star_plain h.2]; rfl
theorem as_nil : PAs X Φ [] [] := .mk fun H0 σ F H Q s sl q => wA_of pa_nil (q [] F H (Gr.refl s) .nil)
theorem as_cons (ha : PEv X Φ e P) (hs : PAs X Φ es Ps) (hst : nst e = true := by rfl) : PAs X Φ (e :: es) (P :: Ps) := .mk fun H0 σ F H Q s sl q =>
  wA_of (pa_cons peW paW (star_cons hst)) (ha H0 σ F H _ s sl fun v F1 H1 g1 p1 => hs H0 σ F1 H1 _ g1.s (sl.gr g1) fun vs F2 H2 g2 p2 => q _ F2 H2 (g1.trans g2) (.cons (P.mono _ _ _ g2.f p1) p2))
theorem v_tuple {x1} (h : PAs X Φ es Ps) (hl : Ps.length ≤ sizeLine := by exact Nat.le_of_ble_eq_true rfl) : PEv X Φ (.Tuple es x1 pos) (tupP X.K Ps) := .mk fun H0 σ F H Q s sl q =>
  wE_of (pe_tup paW) (h H0 σ F H _ s sl fun vs F1 H1 g1 p1 => ⟨by rw [p1.1]; exact hl, fun t ht => q _ _ _ (g1.trans (Gr.new g1.s ht)) ⟨t, vs, rfl, SqT.of upd_same, p1.mono (Gr.new (o := .tup vs) g1.s ht).f⟩⟩)
theorem v_list (h : PAs X Φ es Ps) (hl : Ps.length ≤ sizeLine := by exact Nat.le_of_ble_eq_true rfl) : PEn X Φ (.List es pos) Ps := .mk fun H0 σ F H Q s sl q =>
  wE_of (pe_lst paW) (h H0 σ F H _ s sl fun vs F1 H1 g1 p1 => ⟨by rw [p1.1]; exact hl, fun t ht => by
    have ft : F1 t = none := by
      cases z : F1 t with
      | none => rfl
      | some u => rw [g1.s t u z] at ht; cases ht
    have h0 : H t = none := by
      cases z : H t with
      | none => rfl
      | some u => rw [g1.h t u z] at ht; cases ht
    exact q t vs F1 _ (g1.trans (Gr.own g1.s ht)) h0 ft upd_same p1⟩)
theorem v_t2 {α β : Type} [Py α] [Py β] {x1} {x : α} {y : β} (ha : PV X Φ a x) (hb : PV X Φ b y)
    (h1 : nst a = true := by rfl) (h2 : nst b = true := by rfl) : PV X Φ (.Tuple [a, b] x1 pos) (x, y) :=
  (v_tuple (as_cons ha (as_cons hb as_nil h2) h1)).imp fun _ _ z => py_tuple.mpr z
theorem v_t3 {α β γ : Type} [Py α] [Py β] [Py γ] {x1} {x : α} {y : β} {z : γ} (h : PAs X Φ es [py X.K (enc x), py X.K (enc y), py X.K (enc z)]) : PV X Φ (.Tuple es x1 pos) (T3.mk x y z) :=
  (v_tuple h).imp fun _ _ z => py_tuple.mpr z
theorem v_t4 {α β γ δ : Type} [Py α] [Py β] [Py γ] [Py δ] {x1} {x : α} {y : β} {z : γ} {u : δ} (h : PAs X Φ es [py X.K (enc x), py X.K (enc y), py X.K (enc z), py X.K (enc u)]) : PV X Φ (.Tuple es x1 pos) (T4.mk x y z u) :=
  (v_tuple h).imp fun _ _ z => py_tuple.mpr z
theorem v_t5 {α β γ δ ε : Type} [Py α] [Py β] [Py γ] [Py δ] [Py ε] {x1} {x : α} {y : β} {z : γ} {u : δ} {w : ε} (h : PAs X Φ es [py X.K (enc x), py X.K (enc y), py X.K (enc z), py X.K (enc u), py X.K (enc w)]) : PV X Φ (.Tuple es x1 pos) (T5.mk x y z u w) :=
  (v_tuple h).imp fun _ _ z => py_tuple.mpr z
theorem v_tup {α : Type} [Py α] {x1} {xs : List α} (h : PAs X Φ es (xs.map fun x => py X.K (enc x))) (hl : xs.length ≤ sizeLine := by exact Nat.le_of_ble_eq_true rfl) : PV X Φ (.Tuple es x1 pos) (Tup.mk xs) :=
  (v_tuple h (by simpa using hl)).imp fun _ _ z => py_tup.mpr z
/-! ### items -/
def ix {α : Type} [Inhabited α] (xs : List α) (i : Int) : α := xs.getD i.toNat default
theorem ix_nat {α : Type} [Inhabited α] (xs : List α) (n : Nat) : ix xs (n : Int) = xs.getD n default := rfl
theorem allP_at {Ps : List MP} {F : Hp} {vs : List V} {n : Nat} {P : MP} (h : AllP Ps F vs) (hp : Ps[n]? = some P) : ∃ v, vs[n]? = some v ∧ P.p F v := by
  have hn : n < vs.length := by rw [h.1]; exact (List.getElem?_eq_some_iff.mp hp).1
  exact ⟨vs[n], List.getElem?_eq_getElem hn, h.2 n P _ hp (List.getElem?_eq_getElem hn)⟩
theorem v_ixP {n : Nat} (ha : PEl X Φ a Ps) (hb : PV X Φ b i) (hn : i = (n : Int)) (hp : Ps[n]? = some P) (hs : PlainIx b := by exact fun _ _ => rfl) : PEv X Φ (.Subscript a b pos) P := .mk fun H0 σ F H Q s sl q =>
  wE_of (pe_ix ix_list peW peW hs) (ha H0 σ F H _ s sl fun l vs F1 H1 g1 h1 p1 => hb H0 σ F1 H1 _ g1.s (sl.gr g1) fun y F2 H2 g2 p2 => by
    cases p2
    obtain ⟨v, hv, pv⟩ := allP_at p1 hp
    exact ⟨l, vs, i, v, rfl, rfl, ex_l g2.h h1, by rw [hn]; exact atI_nat hv, q v F2 H2 (g1.trans g2) (P.mono _ _ _ g2.f pv)⟩)
theorem v_ix {α : Type} [Py α] [Inhabited α] {xs : List α} (ha : PL X Φ a xs) (hb : PV X Φ b i) (h : 0 ≤ i ∧ i < xs.length) (hs : PlainIx b := by exact fun _ _ => rfl) : PV X Φ (.Subscript a b pos) (ix xs i) :=
  v_ixP (n := i.toNat) ha hb (by omega) (by
    have hi : i.toNat < xs.length := by omega
    rw [List.getElem?_map, List.getElem?_eq_getElem hi]
    simp [ix, List.getD, List.getElem?_eq_getElem hi]) hs
theorem v_ixTP {n : Nat} (ha : PEv X Φ a (tupP X.K Ps)) (hb : PV X Φ b i) (hn : i = (n : Int)) (hp : Ps[n]? = some P) (hs : PlainIx b := by exact fun _ _ => rfl) : PEv X Φ (.Subscript a b pos) P := .mk fun H0 σ F H Q s sl q =>
  wE_of (pe_ix ix_tup peW peW hs) (ha H0 σ F H _ s sl fun u F1 H1 g1 ⟨l, vs, e1, h1, p1⟩ => hb H0 σ F1 H1 _ g1.s (sl.gr g1) fun y F2 H2 g2 p2 => by
    cases p2
    subst e1
    obtain ⟨v, hv, pv⟩ := allP_at p1 hp
    exact ⟨l, vs, i, v, rfl, rfl, ex_t (g1.s.trans g2.h) h1, by rw [hn]; exact atI_nat hv, q v F2 H2 (g1.trans g2) (P.mono _ _ _ g2.f pv)⟩)
/-- t[n] of a tuple of known make, n written -/
theorem v_fld (n : Nat) {ds : List PyData} {d : PyData} {q1 q2 : Pos} (ha : PEv X Φ a (py X.K (.tuple ds))) (hd : ds[n]? = some d := by rfl) : PEv X Φ (.Subscript a (.Constant (.int (n : Int)) 0 q1) pos) (py X.K d) :=
  v_ixTP (n := n) (i := (n : Int)) (ha.imp fun _ _ z => py_tuple.mp z) v_int rfl (by rw [List.getElem?_map, hd]; rfl) (fun _ _ => rfl)
theorem v_ixT {α : Type} [Py α] [Inhabited α] {xs : Tup α} (ha : PV X Φ a xs) (hb : PV X Φ b i) (h : 0 ≤ i ∧ i < xs.l.length) (hs : PlainIx b := by exact fun _ _ => rfl) : PV X Φ (.Subscript a b pos) (ix xs.l i) :=
  v_ixTP (n := i.toNat) (ha.imp fun _ _ z => py_tup.mp z) hb (by omega) (by
    have hi : i.toNat < xs.l.length := by omega
    rw [List.getElem?_map, List.getElem?_eq_getElem hi]
    simp [ix, List.getD, List.getElem?_eq_getElem hi]) hs
/-- xs[-1] -/
def lastD {α : Type} [Inhabited α] (xs : List α) : α := xs.getD (xs.length - 1) default
theorem v_last {α : Type} [Py α] [Inhabited α] {xs : List α} {q1 q2 : Pos} (ha : PL X Φ a xs) (h : 0 < xs.length) : PV X Φ (.Subscript a (.UnaryOp .USub (.Constant (.int 1) 0 q1) q2) pos) (lastD xs) := .mk fun H0 σ F H Q s sl q =>
  wE_of (pe_ix ix_list peW peW (fun _ _ => rfl)) (ha H0 σ F H _ s sl fun l vs F1 H1 g1 h1 p1 => v_neg (X := X) (Φ := Φ) v_int H0 σ F1 H1 _ g1.s (sl.gr g1) fun y F2 H2 g2 p2 => by
    cases p2
    have hp : (xs.map fun x => py X.K (enc x))[xs.length - 1]? = some (py X.K (enc (lastD xs))) := by
      have hi : xs.length - 1 < xs.length := by omega
      rw [List.getElem?_map, List.getElem?_eq_getElem hi]
      simp [lastD, List.getD, List.getElem?_eq_getElem hi]
    obtain ⟨v, hv, pv⟩ := allP_at p1 hp
    have hl : vs.length = xs.length := by simpa using p1.1
    refine ⟨l, vs, -1, v, rfl, rfl, ex_l g2.h h1, ?_, q v F2 H2 (g1.trans g2) (dq_mono g2.f _ _ pv)⟩
    unfold atI ixN
    rw [if_neg (by decide), if_pos (by omega)]
    show vs[(-1 + (vs.length : Int)).toNat]? = some v
    rw [← hv]; congr 1; omega)
/-! ### slices -/
def slc {α : Type} (xs : List α) (lo hi : Option Int) : List α := (xs.drop (HT.sIx xs.length 0 lo)).take (HT.sIx xs.length xs.length hi - HT.sIx xs.length 0 lo)
theorem AllP.slc {Ps : List MP} {F : Hp} {vs : List V} (h : AllP Ps F vs) (lo hi : Option Int) : AllP (slc Ps lo hi) F (cutV vs lo hi) := by
  unfold GL.slc cutV
  rw [h.1]
  generalize HT.sIx Ps.length 0 lo = m
  generalize HT.sIx Ps.length Ps.length hi - m = n
  refine ⟨by simp [h.1], fun i P v h1 h2 => ?_⟩
  rw [List.getElem?_take] at h1 h2
  split at h1
  · rename_i hi
    rw [if_pos hi, List.getElem?_drop] at h2
    rw [List.getElem?_drop] at h1
    exact h.2 _ P v h1 h2
  · cases h1
theorem slc_map {α β : Type} (f : α → β) (xs : List α) (lo hi : Option Int) : slc (xs.map f) lo hi = (slc xs lo hi).map f := by
  unfold slc
  rw [List.length_map, List.map_take, List.map_drop]
/-- a slice's ends -/
def PO' (X : Cx) (Φ : List SD) (o : Option Expr) (v : Option Int) : Prop := match o, v with
  | none, none => True
  | some e, some i => PV X Φ e i
  | _, _ => False
theorem v_slP {lo hi : Option Expr} {l h : Option Int} (ha : PEl X Φ a Ps) (h1 : PO' X Φ lo l) (h2 : PO' X Φ hi h) : PEn X Φ (.Subscript a (.Slice lo hi none p2) pos) (slc Ps l h) := .mk fun H0 σ F H Q s sl q => by
  have step : ∀ (o : Option Expr) (v : Option Int), PO' X Φ o v → ∃ t : TO, PO X o t ∧ ∀ (F H : Hp) (R : Option Int → Hp → Prop), Ex F H → Sl H0 Φ σ F H → (∀ F' H', Gr F H F' H' → R v H') → t σ H R := fun o v hv => by
    cases o with
    | none =>
      cases v with
      | none => exact ⟨_, po_none, fun F H R s sl r => r F H (Gr.refl s)⟩
      | some i => exact hv.elim
    | some e =>
      cases v with
      | none => exact hv.elim
      | some i => exact ⟨_, po_some peW, fun F H R s sl r => (show PV X Φ e i from hv) H0 σ F H _ s sl fun v F' H' g z => by cases z; exact ⟨i, rfl, r F' H' g⟩⟩
  obtain ⟨t1, k1, r1⟩ := step _ _ h1
  obtain ⟨t2, k2, r2⟩ := step _ _ h2
  refine wE_of (pe_slice sl_list peW k1 k2) (ha H0 σ F H _ s sl fun x vs F1 H1 g1 hx p1 => r1 F1 H1 _ g1.s (sl.gr g1) fun F2 H2 g2 => r2 F2 H2 _ g2.s ((sl.gr g1).gr g2) fun F3 H3 g3 => ⟨x, vs, rfl, ex_l (g2.trans g3).h hx, fun t ht => ?_⟩)
  have g := (g1.trans g2).trans g3
  have ft : F3 t = none := by
    cases z : F3 t with
    | none => rfl
    | some u => rw [g.s t u z] at ht; cases ht
  have h0 : H t = none := by
    cases z : H t with
    | none => rfl
    | some u => rw [g.h t u z] at ht; cases ht
  exact q t _ F3 _ (g.trans (Gr.own g.s ht)) h0 ft upd_same ((p1.mono (g2.trans g3).f).slc l h)
theorem v_sl {α : Type} [Py α] {xs : List α} {lo hi : Option Expr} {l h : Option Int} (ha : PL X Φ a xs) (h1 : PO' X Φ lo l) (h2 : PO' X Φ hi h) : PN X Φ (.Subscript a (.Slice lo hi none p2) pos) (slc xs l h) := by
  have := v_slP (pos := pos) (p2 := p2) ha h1 h2
  rw [slc_map] at this
  exact this
theorem AllP.reverse {Ps : List MP} {F : Hp} {vs : List V} (h : AllP Ps F vs) : AllP Ps.reverse F vs.reverse := by
  refine ⟨by simp [h.1], fun i P v h1 h2 => ?_⟩
  have hi : i < vs.length := by
    have := (List.getElem?_eq_some_iff.mp h2).1
    simpa using this
  rw [List.getElem?_reverse (by rw [← h.1]; exact hi)] at h1
  rw [List.getElem?_reverse hi] at h2
  rw [← h.1] at h1
  exact h.2 _ P v h1 h2
theorem fresh_of {F H F' H' : Hp} (g : Gr F H F' H') {t : Addr} (ht : H' t = none) : F' t = none ∧ H t = none := by
  constructor
  · cases z : F' t with
    | none => rfl
    | some u => rw [g.s t u z] at ht; cases ht
  · cases z : H t with
    | none => rfl
    | some u => rw [g.h t u z] at ht; cases ht
theorem v_rev {α : Type} [Py α] {xs : List α} {kk : Nat} {p1 p3 : Pos} (ha : PL X Φ a xs) : PN X Φ (.Subscript a (.Slice none none (some (.UnaryOp .USub (.Constant (.int 1) kk p1) p2)) p3) pos) xs.reverse := .mk fun H0 σ F H Q s sl q =>
  wE_of (pe_revL peW) (ha H0 σ F H _ s sl fun l vs F1 H1 g1 h1 p1 => ⟨l, vs, rfl, h1, fun t ht => q t _ F1 _ (g1.trans (Gr.own g1.s ht)) (fresh_of g1 ht).2 (fresh_of g1 ht).1 upd_same (by rw [List.map_reverse]; exact p1.reverse)⟩)
/-! ### list + list, list * int -/
theorem AllP.append : ∀ {Ps Qs : List MP} {F : Hp} {vs ws : List V}, AllP Ps F vs → AllP Qs F ws → AllP (Ps ++ Qs) F (vs ++ ws)
  | [], _, _, vs, _, h, h' => by rw [h.inv0]; exact h'
  | P :: Ps, _, _, vs, _, h, h' => by
    obtain ⟨v, us, rfl, h1, h2⟩ := h.inv
    exact .cons h1 (AllP.append h2 h')
theorem v_cat {α : Type} [Py α] {xs ys : List α} (ha : PK X Φ a xs) (hb : PK X Φ b ys) (hz : xs.length + ys.length ≤ sizeLine) : PN X Φ (.BinOp a .Add b pos) (xs ++ ys) := .mk fun H0 σ F H Q s sl q =>
  wE_of (pe_op op_cat peW peW) (ha H0 σ F H _ s sl fun l vs F1 H1 g1 h1 p1 => hb H0 σ F1 H1 _ g1.s (sl.gr g1) fun m ws F2 H2 g2 h2 p2 => by
    have e1 : vs.length = xs.length := by simpa using p1.1
    have e2 : ws.length = ys.length := by simpa using p2.1
    have g := g1.trans g2
    exact ⟨l, m, vs, ws, rfl, rfl, g2.h _ _ h1, h2, by omega, fun t ht => q t _ F2 _ (g.trans (Gr.own g.s ht)) (fresh_of g ht).2 (fresh_of g ht).1 upd_same (by rw [List.map_append]; exact (p1.mono g2.f).append p2)⟩)
theorem AllP.rep {Ps : List MP} {F : Hp} {vs : List V} (h : AllP Ps F vs) : ∀ n : Nat, AllP (List.replicate n Ps).flatten F (List.replicate n vs).flatten
  | 0 => by simpa using AllP.nil
  | n + 1 => by
    rw [List.replicate_succ, List.replicate_succ, List.flatten_cons, List.flatten_cons]
    exact h.append (AllP.rep h n)
def lrep {α : Type} (xs : List α) (k : Int) : List α := (List.replicate k.toNat xs).flatten
theorem map_flat_rep {α β : Type} (f : α → β) (xs : List α) : ∀ n : Nat, (List.replicate n (xs.map f)).flatten = ((List.replicate n xs).flatten).map f
  | 0 => rfl
  | n + 1 => by rw [List.replicate_succ, List.replicate_succ, List.flatten_cons, List.flatten_cons, List.map_append, map_flat_rep f xs n]
theorem v_rep {α : Type} [Py α] {xs : List α} (ha : PK X Φ a xs) (hb : PV X Φ b k) (h0 : -(2 ^ 63) ≤ k ∧ k < 2 ^ 63) (hz : xs.length * k.toNat ≤ sizeLine) : PN X Φ (.BinOp a .Mult b pos) (lrep xs k) := .mk fun H0 σ F H Q s sl q =>
  wE_of (pe_op op_rep peW peW) (ha H0 σ F H _ s sl fun l vs F1 H1 g1 h1 p1 => hb H0 σ F1 H1 _ g1.s (sl.gr g1) fun y F2 H2 g2 p2 => by
    cases p2
    have e1 : vs.length = xs.length := by simpa using p1.1
    have g := g1.trans g2
    exact ⟨l, k, vs, rfl, rfl, g2.h _ _ h1, h0.1, h0.2, by rw [e1]; exact hz, fun t ht => q t _ F2 _ (g.trans (Gr.own g.s ht)) (fresh_of g ht).2 (fresh_of g ht).1 upd_same (by
      show AllP (((List.replicate k.toNat xs).flatten).map _) _ _
      rw [← map_flat_rep]; exact (p1.mono g2.f).rep _)⟩)
/-! ### built-ins -/
/-- the built-in names are nobody else's -/
structure Blt (mg : Str → Option Value) : Prop where
  len : mg "len" = none
  range : mg "range" = none
  list : mg "list" = none
  tuple : mg "tuple" = none
  isinstance : mg "isinstance" = none
  int : mg "int" = none
  bool : mg "bool" = none
  max : mg "max" = none
  min : mg "min" = none
  sorted : mg "sorted" = none
  enumerate : mg "enumerate" = none
  zip : mg "zip" = none
  sum : mg "sum" = none
  all : mg "all" = none
  any : mg "any" = none
  set : mg "set" = none
  abs : mg "abs" = none
  reversed : mg "reversed" = none
  str : mg "str" = none
  dict : mg "dict" = none
  ve : mg "ValueError" = none
theorem wA_one {σ : St} {H : Hp} {Q : List V → Hp → Prop} (hst : nst e = true) (h : wE X e σ H fun v H1 => Q [v] H1) : wA X [e] σ H Q := wA_of (pa_cons peW pa_nil (star_cons hst)) h
section
variable {x : Str} {id T : String} {r : List V → Hp → VK → Prop}
theorem wE_callB (hc : CallR X (.builtin id) r) (hg : Gl X x) (hm : X.mg x = none) (hv : bootBuiltins x = some (.builtin id)) (hn : x ≠ "__name__") (hd : (x == ("__debug__" : Str)) = false) (hst : (e :: es).all nst = true)
    {σ : St} {H : Hp} {Q : VK} (h : wA X (e :: es) σ H fun vs H1 => r vs H1 Q) : wE X (.Call (.Name x p) (e :: es) [] pos) σ H Q := by
  have h2 := hst
  rw [List.all_cons, Bool.and_eq_true] at h2
  exact wE_of (pe_callB hc hg hm hv paW hn hd (star_cons h2.1) (star_plain h2.2)) h
theorem wE_callT (hc : CallR X (.type T) r) (hg : Gl X x) (hm : X.mg x = none) (hv : bootBuiltins x = some (.type T)) (hn : x ≠ "__name__") (hd : (x == ("__debug__" : Str)) = false) (hst : (e :: es).all nst = true)
    {σ : St} {H : Hp} {Q : VK} (h : wA X (e :: es) σ H fun vs H1 => r vs H1 Q) : wE X (.Call (.Name x p) (e :: es) [] pos) σ H Q := by
  have h2 := hst
  rw [List.all_cons, Bool.and_eq_true] at h2
  exact wE_of (pe_callTy hc hg hm hv paW hn hd (star_cons h2.1) (star_plain h2.2)) h
end
theorem v_lenP (B : Blt X.mg) (ha : PEl X Φ e Ps) (hg : Gl X "len" := by rfl) (hst : nst e = true := by rfl) : PV X Φ (.Call (.Name "len" p) [e] [] pos) (Ps.length : Int) := .mk fun H0 σ F H Q s sl q =>
  wE_callB call_len_seq hg B.len PySem.boot_len (by decide +kernel) (by decide +kernel) (by simp [hst]) (wA_one hst (ha H0 σ F H _ s sl fun l vs F1 H1 g1 h1 p1 => ⟨l, vs, rfl, .inl h1, by rw [p1.1]; exact q _ F1 H1 g1 (.int _)⟩))
theorem v_len {α : Type} [Py α] {xs : List α} (B : Blt X.mg) (ha : PL X Φ e xs) (hg : Gl X "len" := by rfl) (hst : nst e = true := by rfl) : PV X Φ (.Call (.Name "len" p) [e] [] pos) (xs.length : Int) := by
  have := v_lenP (p := p) (pos := pos) B ha hg hst
  rw [List.length_map] at this
  exact this
theorem v_lenT {α : Type} [Py α] {xs : Tup α} (B : Blt X.mg) (ha : PV X Φ e xs) (hg : Gl X "len" := by rfl) (hst : nst e = true := by rfl) : PV X Φ (.Call (.Name "len" p) [e] [] pos) (xs.l.length : Int) := .mk fun H0 σ F H Q s sl q =>
  wE_callB call_len_seq hg B.len PySem.boot_len (by decide +kernel) (by decide +kernel) (by simp [hst]) (wA_one hst (ha H0 σ F H _ s sl fun v F1 H1 g1 p1 => by
    obtain ⟨l, vs, e1, h1, p3⟩ := py_tup.mp p1
    subst e1
    exact ⟨l, vs, rfl, .inr (ex_t g1.s h1), by rw [p3.1, List.length_map]; exact q _ F1 H1 g1 (.int _)⟩))
def iabs (i : Int) : Int := if i < 0 then -i else i
def imax (i j : Int) : Int := if j > i then j else i
def imin (i j : Int) : Int := if j < i then j else i
theorem v_abs (B : Blt X.mg) (ha : PV X Φ e i) (hg : Gl X "abs" := by rfl) (hst : nst e = true := by rfl) : PV X Φ (.Call (.Name "abs" p) [e] [] pos) (iabs i) := .mk fun H0 σ F H Q s sl q =>
  wE_callB call_abs hg B.abs (by decide +kernel) (by decide +kernel) (by decide +kernel) (by simp [hst]) (wA_one hst (ha H0 σ F H _ s sl fun v F1 H1 g1 p1 => by cases p1; exact ⟨i, rfl, q _ F1 H1 g1 (.int _)⟩))
theorem wA_two {H0 : Hp} {σ : St} {F H : Hp} {Q : List V → Hp → Prop} (s : Ex F H) (sl : Sl H0 Φ σ F H) (ha : PV X Φ a i) (hb : PV X Φ b j) (h1 : nst a = true) (h2 : nst b = true) (q : ∀ F' H', Gr F H F' H' → Q [.int i, .int j] H') : wA X [a, b] σ H Q :=
  wA_of (pa_cons peW (pa_cons peW pa_nil (star_cons h2)) (star_cons h1)) (ha H0 σ F H _ s sl fun v F1 H1 g1 p1 => hb H0 σ F1 H1 _ g1.s (sl.gr g1) fun w F2 H2 g2 p2 => by
    cases p1; cases p2; exact q F2 H2 (g1.trans g2))
theorem v_max (B : Blt X.mg) (hc : X.calm = true) (ha : PV X Φ a i) (hb : PV X Φ b j) (hg : Gl X "max" := by rfl) (h1 : nst a = true := by rfl) (h2 : nst b = true := by rfl) : PV X Φ (.Call (.Name "max" p) [a, b] [] pos) (imax i j) := .mk fun H0 σ F H Q s sl q =>
  wE_callB (call_max2 hc) hg B.max (by decide +kernel) (by decide +kernel) (by decide +kernel) (by simp [h1, h2]) (wA_two s sl ha hb h1 h2 fun F1 H1 g => ⟨i, j, rfl, q _ F1 H1 g (.int _)⟩)
theorem v_min (B : Blt X.mg) (hc : X.calm = true) (ha : PV X Φ a i) (hb : PV X Φ b j) (hg : Gl X "min" := by rfl) (h1 : nst a = true := by rfl) (h2 : nst b = true := by rfl) : PV X Φ (.Call (.Name "min" p) [a, b] [] pos) (imin i j) := .mk fun H0 σ F H Q s sl q =>
  wE_callB (call_min2 hc) hg B.min (by decide +kernel) (by decide +kernel) (by decide +kernel) (by simp [h1, h2]) (wA_two s sl ha hb h1 h2 fun F1 H1 g => ⟨i, j, rfl, q _ F1 H1 g (.int _)⟩)
def b2i (k : Bool) : Int := if k then 1 else 0
theorem v_intB {k : Bool} (B : Blt X.mg) (ha : PV X Φ e k) (hg : Gl X "int" := by rfl) (hst : nst e = true := by rfl) : PV X Φ (.Call (.Name "int" p) [e] [] pos) (b2i k) := .mk fun H0 σ F H Q s sl q =>
  wE_callT call_int1 hg B.int (by decide +kernel) (by decide +kernel) (by decide +kernel) (by simp [hst]) (wA_one hst (ha H0 σ F H _ s sl fun v F1 H1 g1 p1 => by cases p1; exact .inr ⟨k, rfl, q _ F1 H1 g1 (.int _)⟩))
/-- list(xs) -/
theorem v_listOfP (B : Blt X.mg) (ha : PEl X Φ e Ps) (hg : Gl X "list" := by rfl) (hst : nst e = true := by rfl) : PEn X Φ (.Call (.Name "list" p) [e] [] pos) Ps := .mk fun H0 σ F H Q s sl q =>
  wE_callT call_list_of hg B.list (by decide +kernel) (by decide +kernel) (by decide +kernel) (by simp [hst]) (wA_one hst (ha H0 σ F H _ s sl fun l vs F1 H1 g1 h1 p1 => ⟨l, vs, rfl, .inl h1, fun t ht => q t vs F1 _ (g1.trans (Gr.own g1.s ht)) (fresh_of g1 ht).2 (fresh_of g1 ht).1 upd_same p1⟩))
theorem v_listOf {α : Type} [Py α] {xs : List α} (B : Blt X.mg) (ha : PL X Φ e xs) (hg : Gl X "list" := by rfl) (hst : nst e = true := by rfl) : PN X Φ (.Call (.Name "list" p) [e] [] pos) xs := v_listOfP B ha hg hst
theorem v_listOfT {α : Type} [Py α] {xs : Tup α} (B : Blt X.mg) (ha : PV X Φ e xs) (hg : Gl X "list" := by rfl) (hst : nst e = true := by rfl) : PN X Φ (.Call (.Name "list" p) [e] [] pos) xs.l := .mk fun H0 σ F H Q s sl q =>
  wE_callT call_list_of hg B.list (by decide +kernel) (by decide +kernel) (by decide +kernel) (by simp [hst]) (wA_one hst (ha H0 σ F H _ s sl fun v F1 H1 g1 p1 => by
    obtain ⟨l, vs, e1, h1, p3⟩ := py_tup.mp p1
    subst e1
    exact ⟨l, vs, rfl, .inr (ex_t g1.s h1), fun t ht => q t vs F1 _ (g1.trans (Gr.own g1.s ht)) (fresh_of g1 ht).2 (fresh_of g1 ht).1 upd_same p3⟩))
/-- tuple(xs) -/
theorem v_tupOf {α : Type} [Py α] {xs : List α} (B : Blt X.mg) (ha : PL X Φ e xs) (hg : Gl X "tuple" := by rfl) (hst : nst e = true := by rfl) : PV X Φ (.Call (.Name "tuple" p) [e] [] pos) (Tup.mk xs) := .mk fun H0 σ F H Q s sl q =>
  wE_callT call_tuple_of hg B.tuple (by decide +kernel) (by decide +kernel) (by decide +kernel) (by simp [hst]) (wA_one hst (ha H0 σ F H _ s sl fun l vs F1 H1 g1 h1 p1 =>
    ⟨l, vs, rfl, .inl ⟨h1, fun t ht => q _ _ _ (g1.trans (Gr.new g1.s ht)) (py_tup.mpr ⟨t, vs, rfl, SqT.of upd_same, p1.mono (Gr.new (o := .tup vs) g1.s ht).f⟩)⟩⟩))
/-- sum, all, any of a list -/
theorem allP_vals {α : Type} [Py α] (f : α → V) (hf : ∀ (K : Fg) (F : Hp) (v : V) (x : α), Dq K F v (enc x) → v = f x) {K : Fg} {F : Hp} : ∀ {xs : List α} {vs : List V}, AllP (xs.map fun x => py K (enc x)) F vs → vs = xs.map f
  | [], vs, h => h.inv0
  | x :: xs, vs, h => by
    obtain ⟨v, us, rfl, h1, h2⟩ := AllP.inv (P := py K (enc x)) (Ps := xs.map fun x => py K (enc x)) h
    rw [hf K F v x h1, allP_vals f hf h2]; rfl
theorem allP_ints {K : Fg} {F : Hp} {xs : List Int} {vs : List V} (h : AllP (xs.map fun x => py K (enc x)) F vs) : vs = xs.map V.int := allP_vals V.int (fun _ _ _ _ h => by cases h; rfl) h
theorem allP_bools {K : Fg} {F : Hp} {xs : List Bool} {vs : List V} (h : AllP (xs.map fun x => py K (enc x)) F vs) : vs = xs.map V.bl := allP_vals V.bl (fun _ _ _ _ h => by cases h; rfl) h
theorem ints_allP {K : Fg} {F : Hp} : ∀ {xs : List Int}, AllP (xs.map fun x => py K (enc x)) F (xs.map V.int)
  | [] => .nil
  | x :: xs => .cons (.int x) ints_allP
theorem v_sum {xs : List Int} (B : Blt X.mg) (hc : X.calm = true) (ha : PL X Φ e xs) (hg : Gl X "sum" := by rfl) (hst : nst e = true := by rfl) : PV X Φ (.Call (.Name "sum" p) [e] [] pos) xs.sum := .mk fun H0 σ F H Q s sl q =>
  wE_callB (cr_sum hc) hg B.sum (by decide +kernel) (by decide +kernel) (by decide +kernel) (by simp [hst]) (wA_one hst (ha H0 σ F H _ s sl fun l vs F1 H1 g1 h1 p1 => ⟨l, xs, rfl, by rw [← allP_ints p1]; exact h1, q _ F1 H1 g1 (.int _)⟩))
theorem v_all {xs : List Bool} (B : Blt X.mg) (hc : X.calm = true) (ha : PL X Φ e xs) (hg : Gl X "all" := by rfl) (hst : nst e = true := by rfl) : PV X Φ (.Call (.Name "all" p) [e] [] pos) (xs.all id) := .mk fun H0 σ F H Q s sl q =>
  wE_callB (cr_all hc) hg B.all (by decide +kernel) (by decide +kernel) (by decide +kernel) (by simp [hst]) (wA_one hst (ha H0 σ F H _ s sl fun l vs F1 H1 g1 h1 p1 => ⟨l, xs, rfl, by rw [← allP_bools p1]; exact h1, q _ F1 H1 g1 (.bl _)⟩))
theorem v_any {xs : List Bool} (B : Blt X.mg) (hc : X.calm = true) (ha : PL X Φ e xs) (hg : Gl X "any" := by rfl) (hst : nst e = true := by rfl) : PV X Φ (.Call (.Name "any" p) [e] [] pos) (xs.any id) := .mk fun H0 σ F H Q s sl q =>
  wE_callB (cr_any hc) hg B.any (by decide +kernel) (by decide +kernel) (by decide +kernel) (by simp [hst]) (wA_one hst (ha H0 σ F H _ s sl fun l vs F1 H1 g1 h1 p1 => ⟨l, xs, rfl, by rw [← allP_bools p1]; exact h1, q _ F1 H1 g1 (.bl _)⟩))
def maxL (xs : List Int) : Int := xs.foldl imax (xs.getD 0 0)
def minL (xs : List Int) : Int := xs.foldl imin (xs.getD 0 0)
theorem foldl_imax_le : ∀ (xs : List Int) (a : Int), a ≤ xs.foldl imax a ∧ ∀ y ∈ xs, y ≤ xs.foldl imax a
  | [], a => by simp
  | x :: xs, a => by
    obtain ⟨h1, h2⟩ := foldl_imax_le xs (imax a x)
    have h3 : a ≤ imax a x ∧ x ≤ imax a x := by unfold imax; split <;> omega
    refine ⟨by show a ≤ xs.foldl imax (imax a x); omega, fun y hy => ?_⟩
    show y ≤ xs.foldl imax (imax a x)
    rcases List.mem_cons.mp hy with e | e
    · subst e; omega
    · exact h2 y e
theorem foldl_imax_mem : ∀ (xs : List Int) (a : Int), xs.foldl imax a = a ∨ xs.foldl imax a ∈ xs
  | [], a => .inl rfl
  | x :: xs, a => by
    show xs.foldl imax (imax a x) = a ∨ xs.foldl imax (imax a x) ∈ x :: xs
    rcases foldl_imax_mem xs (imax a x) with h | h
    · rw [h]; unfold imax; split
      · exact .inr (by simp)
      · exact .inl rfl
    · exact .inr (List.mem_cons_of_mem _ h)
theorem maxL_mem {xs : List Int} (h : 0 < xs.length) : maxL xs ∈ xs := by
  cases xs with
  | nil => simp at h
  | cons x xs =>
    show (x :: xs).foldl imax x ∈ x :: xs
    rcases foldl_imax_mem (x :: xs) x with e | e
    · rw [e]; simp
    · exact e
theorem le_maxL {xs : List Int} {y : Int} (h : y ∈ xs) : y ≤ maxL xs := (foldl_imax_le xs _).2 y h
theorem foldl_imin_le : ∀ (xs : List Int) (a : Int), xs.foldl imin a ≤ a ∧ ∀ y ∈ xs, xs.foldl imin a ≤ y
  | [], a => by simp
  | x :: xs, a => by
    obtain ⟨h1, h2⟩ := foldl_imin_le xs (imin a x)
    have h3 : imin a x ≤ a ∧ imin a x ≤ x := by unfold imin; split <;> omega
    refine ⟨by show xs.foldl imin (imin a x) ≤ a; omega, fun y hy => ?_⟩
    show xs.foldl imin (imin a x) ≤ y
    rcases List.mem_cons.mp hy with e | e
    · subst e; omega
    · exact h2 y e
theorem foldl_imin_mem : ∀ (xs : List Int) (a : Int), xs.foldl imin a = a ∨ xs.foldl imin a ∈ xs
  | [], a => .inl rfl
  | x :: xs, a => by
    show xs.foldl imin (imin a x) = a ∨ xs.foldl imin (imin a x) ∈ x :: xs
    rcases foldl_imin_mem xs (imin a x) with h | h
    · rw [h]; unfold imin; split
      · exact .inr (by simp)
      · exact .inl rfl
    · exact .inr (List.mem_cons_of_mem _ h)
theorem minL_mem {xs : List Int} (h : 0 < xs.length) : minL xs ∈ xs := by
  cases xs with
  | nil => simp at h
  | cons x xs =>
    show (x :: xs).foldl imin x ∈ x :: xs
    rcases foldl_imin_mem (x :: xs) x with e | e
    · rw [e]; simp
    · exact e
theorem minL_le {xs : List Int} {y : Int} (h : y ∈ xs) : minL xs ≤ y := (foldl_imin_le xs _).2 y h
theorem v_maxL {xs : List Int} (B : Blt X.mg) (hc : X.calm = true) (ha : PL X Φ e xs) (h : 0 < xs.length) (hg : Gl X "max" := by rfl) (hst : nst e = true := by rfl) : PV X Φ (.Call (.Name "max" p) [e] [] pos) (maxL xs) := .mk fun H0 σ F H Q s sl q =>
  wE_callB (cr_max hc) hg B.max (by decide +kernel) (by decide +kernel) (by decide +kernel) (by simp [hst]) (wA_one hst (ha H0 σ F H _ s sl fun l vs F1 H1 g1 h1 p1 => ⟨l, xs, rfl, by rw [← allP_ints p1]; exact h1, h, fun m h2 h3 => by
    have e : m = maxL xs := Int.le_antisymm (le_maxL h2) (h3 _ (maxL_mem h))
    subst e; exact q _ F1 H1 g1 (.int _)⟩))
theorem v_minL {xs : List Int} (B : Blt X.mg) (hc : X.calm = true) (ha : PL X Φ e xs) (h : 0 < xs.length) (hg : Gl X "min" := by rfl) (hst : nst e = true := by rfl) : PV X Φ (.Call (.Name "min" p) [e] [] pos) (minL xs) := .mk fun H0 σ F H Q s sl q =>
  wE_callB (cr_min hc) hg B.min (by decide +kernel) (by decide +kernel) (by decide +kernel) (by simp [hst]) (wA_one hst (ha H0 σ F H _ s sl fun l vs F1 H1 g1 h1 p1 => ⟨l, xs, rfl, by rw [← allP_ints p1]; exact h1, h, fun m h2 h3 => by
    have e : m = minL xs := Int.le_antisymm (h3 _ (minL_mem h)) (minL_le h2)
    subst e; exact q _ F1 H1 g1 (.int _)⟩))
/-- x in xs -/
theorem v_inL {α : Type} [Py α] [PyQ α] [DecidableEq α] {y : α} {xs : List α} (hu : X.A.units + 65 < cLine) (hd : Py.dep α + 1 ≤ 64) (ha : PD X Φ a y) (hb : PD X Φ b xs) (hm : behindInMarks .In b = false := by rfl) : PV X Φ (.Compare a [.In] [b] pos) (decide (y ∈ xs)) := .mk fun H0 σ F H Q s sl q =>
  wE_of (pe_cmpR (op_inD hu) peW peW hm) (ha H0 σ F H _ s sl fun v F1 H1 g1 p1 => hb H0 σ F1 H1 _ g1.s (sl.gr g1) fun w F2 H2 g2 p2 =>
    ⟨enc y, xs.map enc, dp_mono (g2.f.trans g2.s) _ _ p1, dp_mono g2.s _ _ p2, shaped_of (by omega) _, shaped_of (α := List α) hd xs, by
      have e : ((xs.map enc).any fun z => PyData.eqv z (enc y)) = decide (y ∈ xs) := by
        rw [List.any_map]
        by_cases h : y ∈ xs
        · rw [decide_eq_true h]
          exact List.any_eq_true.mpr ⟨y, h, (PyQ.eqv y y).mpr rfl⟩
        · rw [decide_eq_false h]
          refine List.any_eq_false.mpr fun z hz w => h ?_
          rw [← (PyQ.eqv z y).mp w]; exact hz
      rw [e]; exact q _ _ _ (g1.trans g2) (.bl _)⟩)
theorem v_notInL {α : Type} [Py α] [PyQ α] [DecidableEq α] {y : α} {xs : List α} (hu : X.A.units + 65 < cLine) (hd : Py.dep α + 1 ≤ 64) (ha : PD X Φ a y) (hb : PD X Φ b xs) (hm : behindInMarks .NotIn b = false := by rfl) : PV X Φ (.Compare a [.NotIn] [b] pos) (!decide (y ∈ xs)) := .mk fun H0 σ F H Q s sl q =>
  wE_of (pe_cmpR (op_notInD hu) peW peW hm) (ha H0 σ F H _ s sl fun v F1 H1 g1 p1 => hb H0 σ F1 H1 _ g1.s (sl.gr g1) fun w F2 H2 g2 p2 =>
    ⟨enc y, xs.map enc, dp_mono (g2.f.trans g2.s) _ _ p1, dp_mono g2.s _ _ p2, shaped_of (by omega) _, shaped_of (α := List α) hd xs, by
      have e : ((xs.map enc).any fun z => PyData.eqv z (enc y)) = decide (y ∈ xs) := by
        rw [List.any_map]
        by_cases h : y ∈ xs
        · rw [decide_eq_true h]
          exact List.any_eq_true.mpr ⟨y, h, (PyQ.eqv y y).mpr rfl⟩
        · rw [decide_eq_false h]
          refine List.any_eq_false.mpr fun z hz w => h ?_
          rw [← (PyQ.eqv z y).mp w]; exact hz
      rw [e]; exact q _ _ _ (g1.trans g2) (.bl _)⟩)
/-- x is None, x is not None -/
theorem non_iff {α : Type} [Py α] (hn : ∀ y : α, enc y ≠ .none) {K : Fg} {F : Hp} {v : V} {o : Option α} (h : Dq K F v (enc o)) : decide (v = .non) = o.isNone := by
  cases o with
  | none => cases h; rfl
  | some y =>
    have h' : Dq K F v (enc y) := h
    refine decide_eq_false fun z => ?_
    subst z
    have : enc y = .none := by
      generalize enc y = d at h'
      cases h'; rfl
    exact hn y this
theorem v_isN {α : Type} [Py α] {o : Option α} {q1 : Pos} (hn : ∀ y : α, enc y ≠ .none) (ha : PV X Φ a o) : PV X Φ (.Compare a [.Is] [.Constant .none 0 q1] pos) o.isNone := .mk fun H0 σ F H Q s sl q =>
  wE_of (pe_cmpR op_isN peW pe_non (nomark _)) (ha H0 σ F H _ s sl fun v F1 H1 g1 p1 => ⟨rfl, by rw [non_iff hn p1]; exact q _ _ _ g1 (.bl _)⟩)
theorem v_notN {α : Type} [Py α] {o : Option α} {q1 : Pos} (hn : ∀ y : α, enc y ≠ .none) (ha : PV X Φ a o) : PV X Φ (.Compare a [.IsNot] [.Constant .none 0 q1] pos) o.isSome := .mk fun H0 σ F H Q s sl q =>
  wE_of (pe_cmpR op_notN peW pe_non (nomark _)) (ha H0 σ F H _ s sl fun v F1 H1 g1 p1 => ⟨rfl, by rw [non_iff hn p1, Option.not_isNone]; exact q _ _ _ g1 (.bl _)⟩)
end
end GL

set_option Elab.async false
set_option linter.all false
set_option maxRecDepth 100000
set_option maxHeartbeats 4000000
namespace GL
open PySem L2
open Evl (Ex ex_l ex_t)
/-! ### what a def hands back -/
inductive RS where
  | val (P : MP)
  | new (Ps : List MP)
  | err (C : Value) (P : Option Addr → Hp → Prop)
/-- W: what is wanted of an error -/
def RS.sat (F0 H0 : Hp) (Q : VK) (W : XK) : RS → Prop
  | .val P => ∀ v F H, Gr F0 H0 F H → P.p F v → Q v H
  | .new Ps => ∀ a vs F H, Gr F0 H0 F H → H0 a = none → F a = none → H a = some (.lst vs) → AllP Ps F vs → Q (.ref a) H
  | .err C P => ∀ d F H, Gr F0 H0 F H → P d H → W C d H
def spG {A : Type} (argP : A → List MP) (pre : A → Prop) (res : A → RS) : Sp := fun vs H Q E => ∃ (x : A) (F : Hp), Ex F H ∧ AllP (argP x) F vs ∧ pre x ∧ (res x).sat F H Q E
structure FnG (P : Program) (w : World) (K : Fg) (mg : Str → Option Value) (base : Heap) (CX : CXT) (k : Nat) (x : Str) (sp : Sp) : Prop where
  ex : ∃ (f : Addr) (fd : FuncData) (ps : List Str), FnOk P w K mg base CX k f fd ps sp ∧ mg x = some (.ref f) ∧ PySem.W.keepIn K (.ref f) = true ∧ Binds K fd ps []
theorem FnG.mono {P : Program} {w : World} {K : Fg} {mg : Str → Option Value} {base : Heap} {CX : CXT} {j k : Nat} {x : Str} {sp : Sp} (G : FnG P w K mg base CX j x sp) (h : j ≤ k) : FnG P w K mg base CX k x sp :=
  let ⟨f, fd, ps, a, b, c, d⟩ := G.ex
  ⟨f, fd, ps, a.mono h, b, c, d⟩
/-! ### what a loop takes -/
/-- J gives, from any settled part F on, the items of which Ps says -/
structure Src (J : It) (F : Hp) (Ps : List MP) : Prop where
  go : ∀ (i : Nat) (P : MP) (F' H' : Hp), Ps[i]? = some P → Ex F F' → Ex F' H' → J.go i H' ∧ ∀ v H'', J.yld i H' v H'' → ∃ F'', Gr F' H' F'' H'' ∧ P.p F'' v
  stop : ∀ (F' H' : Hp), Ex F F' → Ex F' H' → J.stop Ps.length H'
structure PIv (X : Cx) (Φ : List SD) (tg iter : Expr) (Ps : List MP) : Prop where
  run : ∀ (H0 : Hp) (σ : St) (F H : Hp) (R : It → Hp → Prop), Ex F H → Sl H0 Φ σ F H → (∀ J F' H', Gr F H F' H' → Src J F' Ps → R J H') → wI X tg iter σ H R
instance {X : Cx} {Φ : List SD} {tg iter : Expr} {Ps : List MP} : CoeFun (PIv X Φ tg iter Ps) (fun _ => ∀ (H0 : Hp) (σ : St) (F H : Hp) (R : It → Hp → Prop), Ex F H → Sl H0 Φ σ F H → (∀ J F' H', Gr F H F' H' → Src J F' Ps → R J H') → wI X tg iter σ H R) := ⟨PIv.run⟩
abbrev PIt (X : Cx) (Φ : List SD) (tg iter : Expr) {α : Type} [Py α] (xs : List α) : Prop := PIv X Φ tg iter (xs.map fun x => py X.K (enc x))
def setAll (Φ : List SD) : List (Nat × SD) → List SD
  | [] => Φ
  | (i, d) :: r => setAll (Φ.set i d) r
/-- a target: of a value of P its slots are us -/
structure PGv (X : Cx) (tg : Expr) (P : MP) (us : List (Nat × SD)) : Prop where
  run : ∀ (H0 : Hp) (Φ : List SD) (σ : St) (F H : Hp) (v : V) (Q : St → Hp → Prop), Ex F H → Sl H0 Φ σ F H → P.p F v → (∀ σ', Sl H0 (setAll Φ us) σ' F H → (∀ (j : Nat), (∀ u ∈ us, u.1 ≠ j) → σ'[j]? = σ[j]?) → Q σ' H) → wG X tg v σ H Q
instance {X : Cx} {tg : Expr} {P : MP} {us : List (Nat × SD)} : CoeFun (PGv X tg P us) (fun _ => ∀ (H0 : Hp) (Φ : List SD) (σ : St) (F H : Hp) (v : V) (Q : St → Hp → Prop), Ex F H → Sl H0 Φ σ F H → P.p F v → (∀ σ', Sl H0 (setAll Φ us) σ' F H → (∀ (j : Nat), (∀ u ∈ us, u.1 ≠ j) → σ'[j]? = σ[j]?) → Q σ' H) → wG X tg v σ H Q) := ⟨PGv.run⟩
abbrev PGt (X : Cx) (tg : Expr) {α : Type} [Py α] (x : α) (us : List (Nat × SD)) : Prop := PGv X tg (py X.K (enc x)) us
section
variable {X : Cx} {Φ : List SD} {a b c e : Expr} {es : List Expr} {pos p p2 : Pos} {P : MP} {Ps Qs : List MP} {i j k : Int} {tg : Expr}
/-! ### a def called -/
theorem wE_call {x : Str} {CX : CXT} {n : Nat} {sp : Sp} (G : FnG X.prog X.w X.K X.mg X.base CX n x sp) (hr : Room n X.A) (hx : Passes CX X E0) (hg : Gl X x) (hd : (x == ("__debug__" : Str)) = false) (hst : (e :: es).all nst = true)
    {σ : St} {H : Hp} {Q : VK} (h : wA X (e :: es) σ H fun vs H1 => sp vs H1 Q E0) : wE X (.Call (.Name x p) (e :: es) [] pos) σ H Q := by
  obtain ⟨f, fd, ps, h1, h2, h3, h4⟩ := G.ex
  have h2' := hst
  rw [List.all_cons, Bool.and_eq_true] at h2'
  refine wE_of (pe_call h1 hr hg h2 h3 h4 .nil hx paW hd (star_cons h2'.1) (star_plain h2'.2)) ?_
  show wA X (e :: es) σ H fun vs H1 => sp (vs ++ []) H1 Q E0
  have ee : (fun (vs : List V) (H1 : Hp) => sp (vs ++ []) H1 Q E0) = fun vs H1 => sp vs H1 Q E0 := by funext vs H1; rw [List.append_nil]
  rw [ee]; exact h
theorem wE_call0 {x : Str} {CX : CXT} {n : Nat} {sp : Sp} (G : FnG X.prog X.w X.K X.mg X.base CX n x sp) (hr : Room n X.A) (hx : Passes CX X E0) (hg : Gl X x) (hd : (x == ("__debug__" : Str)) = false)
    {σ : St} {H : Hp} {Q : VK} (h : sp [] H Q E0) : wE X (.Call (.Name x p) [] [] pos) σ H Q := by
  obtain ⟨f, fd, ps, h1, h2, h3, h4⟩ := G.ex
  exact wE_of (pe_call0 h1 hr hg h2 h3 h4 .nil hx hd) h
theorem v_call {A : Type} {argP : A → List MP} {pre : A → Prop} {res : A → RS} {x : Str} {CX : CXT} {n : Nat} (G : FnG X.prog X.w X.K X.mg X.base CX n x (spG argP pre res)) (hr : Room n X.A) (hx : Passes CX X E0) (z : A) (hp : pre z) (hv : res z = .val P)
    (ha : PAs X Φ (e :: es) (argP z)) (hg : Gl X x := by rfl) (hd : (x == ("__debug__" : Str)) = false := by decide) (hst : (e :: es).all nst = true := by rfl) : PEv X Φ (.Call (.Name x p) (e :: es) [] pos) P := .mk fun H0 σ F H Q s sl q =>
  wE_call G hr hx hg hd hst (ha H0 σ F H _ s sl fun vs F1 H1 g1 p1 => ⟨z, F1, g1.s, p1, hp, by rw [hv]; exact fun v F2 H2 g2 p2 => q v F2 H2 (g1.trans g2) p2⟩)
theorem v_callN {A : Type} {argP : A → List MP} {pre : A → Prop} {res : A → RS} {x : Str} {CX : CXT} {n : Nat} (G : FnG X.prog X.w X.K X.mg X.base CX n x (spG argP pre res)) (hr : Room n X.A) (hx : Passes CX X E0) (z : A) (hp : pre z) (hv : res z = .new Ps)
    (ha : PAs X Φ (e :: es) (argP z)) (hg : Gl X x := by rfl) (hd : (x == ("__debug__" : Str)) = false := by decide) (hst : (e :: es).all nst = true := by rfl) : PEn X Φ (.Call (.Name x p) (e :: es) [] pos) Ps := .mk fun H0 σ F H Q s sl q =>
  wE_call G hr hx hg hd hst (ha H0 σ F H _ s sl fun vs F1 H1 g1 p1 => ⟨z, F1, g1.s, p1, hp, by
    rw [hv]
    exact fun a vs F2 H2 g2 h1 h2 h3 p2 => q a vs F2 H2 (g1.trans g2) (by
      cases w : H a with
      | none => rfl
      | some u => rw [g1.h a u w] at h1; cases h1) h2 h3 p2⟩)
/-! ### sources -/
theorem i_list {α : Type} [Py α] {xs : List α} (ha : PV X Φ e xs) : PIt X Φ tg e xs := .mk fun H0 σ F H R s sl q =>
  wI_of (pi_list peW) (ha H0 σ F H _ s sl fun v F1 H1 g1 p1 => by
    obtain ⟨l, vs, rfl, h1, p2⟩ := py_lst.mp p1
    refine ⟨l, rfl, ⟨vs, SqL.of (g1.s _ _ h1)⟩, q _ F1 H1 g1 ⟨fun n P F2 H2 hp e1 e2 => ?_, fun F2 H2 e1 e2 => ⟨vs, SqL.of (e2 _ _ (e1 _ _ h1)), by rw [p2.1]; exact Nat.le_refl _⟩⟩⟩
    obtain ⟨v, hv, pv⟩ := allP_at p2 hp
    refine ⟨⟨vs, v, SqL.of (e2 _ _ (e1 _ _ h1)), hv⟩, fun u H3 y => ?_⟩
    obtain ⟨rfl, z⟩ := y
    have z2 := z vs (SqL.of (e2 _ _ (e1 _ _ h1)))
    rw [hv] at z2; cases z2
    exact ⟨F2, Gr.refl e2, P.mono _ _ _ e1 pv⟩)
theorem i_scr {ns : List Int} (ha : PEv X Φ e (scrP X.K ns)) : PIt X Φ tg e ns := .mk fun H0 σ F H R s sl q =>
  wI_of (pi_list peW) (ha H0 σ F H _ s sl fun v F1 H1 g1 p1 => by
    obtain ⟨l, rfl, h1⟩ := p1
    have p2 : AllP (ns.map fun x => py X.K (enc x)) F1 (ns.map V.int) := ints_allP
    refine ⟨l, rfl, ⟨_, ex_l g1.s h1⟩, q _ F1 H1 g1 ⟨fun n P F2 H2 hp e1 e2 => ?_, fun F2 H2 e1 e2 => ⟨_, ex_l (e1.trans e2) h1, by simp⟩⟩⟩
    obtain ⟨v, hv, pv⟩ := allP_at p2 hp
    refine ⟨⟨_, v, ex_l (e1.trans e2) h1, hv⟩, fun u H3 y => ?_⟩
    obtain ⟨rfl, z⟩ := y
    have z2 := z _ (ex_l (e1.trans e2) h1)
    rw [hv] at z2; cases z2
    exact ⟨F2, Gr.refl e2, P.mono _ _ _ e1 pv⟩)
theorem i_tup {α : Type} [Py α] {xs : Tup α} (ha : PV X Φ e xs) : PIt X Φ tg e xs.l := .mk fun H0 σ F H R s sl q =>
  wI_of (pi_tup peW) (ha H0 σ F H _ s sl fun v F1 H1 g1 p1 => by
    obtain ⟨l, vs, rfl, h1, p2⟩ := py_tup.mp p1
    refine ⟨l, rfl, ⟨vs, ex_t g1.s h1⟩, q _ F1 H1 g1 ⟨fun n P F2 H2 hp e1 e2 => ?_, fun F2 H2 e1 e2 => ⟨vs, ex_t (e1.trans e2) h1, by rw [p2.1]; exact Nat.le_refl _⟩⟩⟩
    obtain ⟨v, hv, pv⟩ := allP_at p2 hp
    refine ⟨⟨vs, v, ex_t (e1.trans e2) h1, hv⟩, fun u H3 y => ?_⟩
    obtain ⟨rfl, z⟩ := y
    have z2 := z vs (ex_t (e1.trans e2) h1)
    rw [hv] at z2; cases z2
    exact ⟨F2, Gr.refl e2, P.mono _ _ _ e1 pv⟩)
/-- lo, lo + 1, .. below hi -/
def rng (lo hi : Int) : List Int := (List.range (hi - lo).toNat).map fun (n : Nat) => lo + (n : Int)
theorem rng_length (lo hi : Int) : (rng lo hi).length = (hi - lo).toNat := by simp [rng]
theorem rng_get {K : Fg} {lo hi : Int} {n : Nat} {P : MP} (h : ((rng lo hi).map fun x => py K (enc x))[n]? = some P) : n < (hi - lo).toNat ∧ P = py K (.int (lo + (n : Int))) := by
  have hn := (List.getElem?_eq_some_iff.mp h).1
  rw [List.length_map, rng_length] at hn
  refine ⟨hn, ?_⟩
  simp only [rng, List.map_map, List.getElem?_map, List.getElem?_range hn, Option.map_some, Option.some.injEq] at h
  exact h.symm
theorem src_range {K : Fg} {F : Hp} {lo hi : Int} : Src (Itr lo (hi - lo).toNat) F ((rng lo hi).map fun x => py K (enc x)) := by
  refine ⟨fun n P F2 H2 hp e1 e2 => ?_, fun F2 H2 _ _ => ?_⟩
  · obtain ⟨hn, rfl⟩ := rng_get hp
    refine ⟨hn, fun v H3 y => ?_⟩
    obtain ⟨rfl, rfl⟩ := y
    exact ⟨F2, Gr.refl e2, .int _⟩
  · show (hi - lo).toNat ≤ _
    rw [List.length_map, rng_length]; exact Nat.le_refl _
def small62 (i : Int) : Prop := -(2 ^ 62) ≤ i ∧ i < 2 ^ 62
theorem i_range1 (B : Blt X.mg) (ha : PV X Φ a i) (hi : small62 i) (hg : Gl X "range" := by rfl) (h1 : nst a = true := by rfl) : PIt X Φ tg (.Call (.Name "range" p) [a] [] pos) (rng 0 i) := .mk fun H0 σ F H R s sl q =>
  wI_of (pi_range1 hg B.range paW (by rw [star_cons h1]; rfl)) (wA_one h1 (ha H0 σ F H _ s sl fun v F1 H1 g1 p1 => by
    cases p1
    refine ⟨i, rfl, hi.1, hi.2, q _ F1 H1 g1 ?_⟩
    have := src_range (K := X.K) (F := F1) (lo := 0) (hi := i)
    rw [Int.sub_zero] at this
    exact this))
theorem i_range2 (B : Blt X.mg) (ha : PV X Φ a i) (hb : PV X Φ b j) (hi : small62 i) (hj : small62 j) (hg : Gl X "range" := by rfl) (h1 : nst a = true := by rfl) (h2 : nst b = true := by rfl) : PIt X Φ tg (.Call (.Name "range" p) [a, b] [] pos) (rng i j) := .mk fun H0 σ F H R s sl q =>
  wI_of (pi_range2 hg B.range paW (by rw [star_cons h1, star_cons h2]; rfl) (by rw [star_cons h2]; rfl)) (wA_two s sl ha hb h1 h2 fun F1 H1 g1 => ⟨i, j, rfl, ⟨hi.1, hi.2, hj.1, hj.2⟩, q _ F1 H1 g1 src_range⟩)
/-- the pairs of enumerate, of zip -/
def enumL {α : Type} (xs : List α) : List (Int × α) := (rng 0 xs.length).zip xs
theorem rng_at {lo hi : Int} {n : Nat} (h : n < (hi - lo).toNat) : (rng lo hi)[n]? = some (lo + (n : Int)) := by
  unfold rng
  rw [List.getElem?_map, List.getElem?_range h]; rfl
theorem enumL_get {α : Type} {xs : List α} {n : Nat} {x : α} (h : xs[n]? = some x) : (enumL xs)[n]? = some ((n : Int), x) := by
  have hn := (List.getElem?_eq_some_iff.mp h).1
  unfold enumL
  refine List.getElem?_zip_eq_some.mpr ⟨?_, h⟩
  rw [rng_at (by omega), Int.zero_add]
theorem enumL_length {α : Type} (xs : List α) : (enumL xs).length = xs.length := by
  unfold enumL
  rw [List.length_zip, rng_length]; omega
theorem i_enum {α : Type} [Py α] {xs : List α} {elts : List Expr} {kk : Nat} {tpos : Pos} (B : Blt X.mg) (ha : PV X Φ e xs) (hg : Gl X "enumerate" := by rfl) (h1 : nst e = true := by rfl) : PIt X Φ (.Tuple elts kk tpos) (.Call (.Name "enumerate" p) [e] [] pos) (enumL xs) := .mk fun H0 σ F H R s sl q =>
  wI_of (pi_enum hg B.enumerate paW (by rw [star_cons h1]; rfl)) (wA_one h1 (ha H0 σ F H _ s sl fun v F1 H1 g1 p1 => by
    obtain ⟨l, vs, rfl, hl, p2⟩ := py_lst.mp p1
    have e3 : vs.length = xs.length := by simpa using p2.1
    refine ⟨l, vs, rfl, SqL.of (g1.s _ _ hl), q _ F1 H1 g1 ⟨fun n P F2 H2 hp e1 e2 => ?_, fun F2 H2 e1 e2 => ⟨vs, SqL.of (e2 _ _ (e1 _ _ hl)), by simp [enumL_length, e3]⟩⟩⟩
    have hn := (List.getElem?_eq_some_iff.mp hp).1
    rw [List.length_map, enumL_length] at hn
    obtain ⟨v, hv, pv⟩ := allP_at (n := n) p2 (by rw [List.getElem?_map, List.getElem?_eq_getElem hn]; rfl)
    have eP : P = py X.K (enc ((n : Int), xs[n])) := by
      rw [List.getElem?_map, enumL_get (List.getElem?_eq_getElem hn)] at hp
      exact (Option.some.inj hp).symm
    subst eP
    refine ⟨⟨vs, v, SqL.of (e2 _ _ (e1 _ _ hl)), hv⟩, fun u H3 y => ?_⟩
    obtain ⟨T, x, rfl, hT, rfl, z⟩ := y
    have z2 := z vs (SqL.of (e2 _ _ (e1 _ _ hl)))
    rw [hv] at z2; cases z2
    exact ⟨_, Gr.new e2 hT, .tup (SqT.of upd_same) (.cons (.int _) (.cons (dq_mono (e1.trans (Gr.new (o := .tup [.int (n : Nat), v]) e2 hT).f) _ _ pv) .nil))⟩))
theorem i_zip {α β : Type} [Py α] [Py β] {xs : List α} {ys : List β} {elts : List Expr} {kk : Nat} {tpos : Pos} (B : Blt X.mg) (ha : PV X Φ a xs) (hb : PV X Φ b ys) (hg : Gl X "zip" := by rfl) (h1 : nst a = true := by rfl) (h2 : nst b = true := by rfl) :
    PIt X Φ (.Tuple elts kk tpos) (.Call (.Name "zip" p) [a, b] [] pos) (xs.zip ys) := .mk fun H0 σ F H R s sl q =>
  wI_of (pi_zip hg B.zip paW (star_cons h1) (star_plain (by simp [h2]))) (wA_of (pa_cons peW (pa_cons peW pa_nil (star_cons h2)) (star_cons h1)) (ha H0 σ F H _ s sl fun v F1 H1 g1 p1 => hb H0 σ F1 H1 _ g1.s (sl.gr g1) fun w F2 H2 g2 q1 => by
    obtain ⟨l, vs, rfl, hl, p2⟩ := py_lst.mp p1
    obtain ⟨m, ws, rfl, hm, q2⟩ := py_lst.mp q1
    have e3 : vs.length = xs.length := by simpa using p2.1
    have e4 : ws.length = ys.length := by simpa using q2.1
    have hl2 := g2.f _ _ hl
    have p3 := p2.mono g2.f
    refine ⟨l, m, vs, ws, rfl, SqL.of (g2.s _ _ hl2), SqL.of (g2.s _ _ hm), q _ F2 H2 (g1.trans g2) ⟨fun n P F3 H3 hp e1 e2 => ?_, fun F3 H3 e1 e2 => ⟨vs, ws, SqL.of (e2 _ _ (e1 _ _ hl2)), SqL.of (e2 _ _ (e1 _ _ hm)), by rw [List.length_map, List.length_zip]; omega⟩⟩⟩
    have hn := (List.getElem?_eq_some_iff.mp hp).1
    rw [List.length_map, List.length_zip] at hn
    obtain ⟨v, hv, pv⟩ := allP_at (n := n) p3 (by rw [List.getElem?_map, List.getElem?_eq_getElem (show n < xs.length by omega)]; rfl)
    obtain ⟨w, hw, pw⟩ := allP_at (n := n) q2 (by rw [List.getElem?_map, List.getElem?_eq_getElem (show n < ys.length by omega)]; rfl)
    have eP : P = py X.K (enc (xs[n]'(by omega), ys[n]'(by omega))) := by
      rw [List.getElem?_map, (List.getElem?_zip_eq_some (z := (xs[n]'(by omega), ys[n]'(by omega)))).mpr ⟨List.getElem?_eq_getElem (show n < xs.length by omega), List.getElem?_eq_getElem (show n < ys.length by omega)⟩] at hp
      exact (Option.some.inj hp).symm
    subst eP
    refine ⟨⟨vs, ws, v, w, SqL.of (e2 _ _ (e1 _ _ hl2)), SqL.of (e2 _ _ (e1 _ _ hm)), hv, hw⟩, fun u H4 y => ?_⟩
    obtain ⟨T, x, x', rfl, hT, rfl, z, z'⟩ := y
    have z2 := z vs (SqL.of (e2 _ _ (e1 _ _ hl2)))
    have z3 := z' ws (SqL.of (e2 _ _ (e1 _ _ hm)))
    rw [hv] at z2; cases z2
    rw [hw] at z3; cases z3
    have ee := e1.trans (Gr.new (o := .tup [v, w]) e2 hT).f
    exact ⟨_, Gr.new e2 hT, .tup (SqT.of upd_same) (.cons (dq_mono ee _ _ pv) (.cons (dq_mono ee _ _ pw) .nil))⟩))
theorem i_rev {α : Type} [Py α] {xs : List α} (B : Blt X.mg) (ha : PV X Φ e xs) (hg : Gl X "reversed" := by rfl) (h1 : nst e = true := by rfl) : PIt X Φ tg (.Call (.Name "reversed" p) [e] [] pos) xs.reverse := .mk fun H0 σ F H R s sl q =>
  wI_of (pi_reversed hg B.reversed paW (by rw [star_cons h1]; rfl)) (wA_one h1 (ha H0 σ F H _ s sl fun v F1 H1 g1 p1 => by
    obtain ⟨l, vs, rfl, hl, p2⟩ := py_lst.mp p1
    have e3 : vs.length = xs.length := by simpa using p2.1
    refine ⟨l, vs, rfl, SqL.of (g1.s _ _ hl), q _ F1 H1 g1 ⟨fun n P F2 H2 hp e1 e2 => ?_, fun F2 H2 e1 e2 => by show vs.length ≤ _; simp [e3]⟩⟩
    rw [List.map_reverse] at hp
    have hn := (List.getElem?_eq_some_iff.mp hp).1
    simp only [List.length_reverse, List.length_map] at hn
    rw [List.getElem?_reverse (by simpa using hn), List.length_map, ← e3] at hp
    obtain ⟨v, hv, pv⟩ := allP_at p2 hp
    refine ⟨⟨by omega, vs, v, SqL.of (e2 _ _ (e1 _ _ hl)), hv⟩, fun u H3 y => ?_⟩
    obtain ⟨rfl, z⟩ := y
    have z2 := z vs (SqL.of (e2 _ _ (e1 _ _ hl)))
    rw [hv] at z2; cases z2
    exact ⟨F2, Gr.refl e2, P.mono _ _ _ e1 pv⟩))
theorem i_revR (B : Blt X.mg) (ha : PV X Φ a i) (hi : small62 i) (hg : Gl X "range" := by rfl) (hg2 : Gl X "reversed" := by rfl) (h1 : nst a = true := by rfl) : PIt X Φ tg (.Call (.Name "reversed" p) [.Call (.Name "range" p2) [a] [] pos] [] pos') (rng 0 i).reverse := .mk fun H0 σ F H R s sl q =>
  wI_of (pi_revR hg2 B.reversed (prg_1 hg B.range peW (by rw [star_cons h1])) (star_cons rfl)) (ha H0 σ F H _ s sl fun v F1 H1 g1 p1 => by
    cases p1
    refine ⟨i, rfl, by decide, by decide, hi.1, hi.2, q _ F1 H1 g1 ⟨fun n P F2 H2 hp e1 e2 => ?_, fun F2 H2 e1 e2 => by show (i - 0).toNat ≤ _; simp [rng_length]⟩⟩
    rw [List.map_reverse] at hp
    have hn := (List.getElem?_eq_some_iff.mp hp).1
    simp only [List.length_reverse, List.length_map, rng_length] at hn
    rw [List.getElem?_reverse (by simpa [rng_length] using hn), List.length_map, rng_length] at hp
    obtain ⟨_, rfl⟩ := rng_get hp
    refine ⟨hn, fun v H3 y => ?_⟩
    obtain ⟨rfl, rfl⟩ := y
    refine ⟨F2, Gr.refl e2, ?_⟩
    have ei : (0 : Int) + ((((i - 0).toNat : Nat) : Int)) - 1 + ((n : Nat) : Int) * (-1) = 0 + (((i - 0).toNat - 1 - n : Nat) : Int) := by omega
    rw [ei]; exact .int _)
/-! ### targets -/
theorem g_name (n : Nat) {x : Str} (hN : X.N.Nodup) (hi : X.N[n]? = some x := by rfl) (hx : Loc X.env.scope x := by first | exact Or.inl rfl | exact Or.inr rfl) (hf : X.fn x = true ∨ X.env.scope.names.lookup x = some .local := by first | exact .inl rfl | exact .inr rfl) : PGv X (.Name x pos) P [(n, .im P)] :=
  .mk fun H0 Φ σ F H v Q s sl hp q => wG_of (pg_name hN hi hx hf) (q _ (sl.set ⟨v, rfl, hp⟩ rfl) fun j hj => List.getElem?_set_ne (hj _ (List.mem_singleton.mpr rfl)))
/-- several targets, one after another -/
def wGs (X : Cx) (ts : List Expr) : TGs := fun vs σ H Q => ∀ pins s us, Inv X pins σ H s → Vals vs us → wpAny (model X.prog X.w) X.A (assignInOrder ((assignEach ts X.env).map (·.2)) us) (fun _ s' => ∃ σ' H', Inv X pins σ' H' s' ∧ Q σ' H') X.xe s
theorem pgsW {ts : List Expr} : PGs X ts (wGs X ts) := ⟨fun pins s _ _ _ us _ I r h => h pins s us I r⟩
theorem wGs_of {ts : List Expr} {t : TGs} {vs : List V} {σ : St} {H : Hp} {Q : St → Hp → Prop} (p : PGs X ts t) (h : t vs σ H Q) : wGs X ts vs σ H Q := fun pins s us I r => p.run pins s σ H vs us Q I r h
structure PGsv (X : Cx) (ts : List Expr) (Ps : List MP) (us : List (Nat × SD)) : Prop where
  run : ∀ (H0 : Hp) (Φ : List SD) (σ : St) (F H : Hp) (vs : List V) (Q : St → Hp → Prop), Ex F H → Sl H0 Φ σ F H → AllP Ps F vs → (∀ σ', Sl H0 (setAll Φ us) σ' F H → (∀ (j : Nat), (∀ u ∈ us, u.1 ≠ j) → σ'[j]? = σ[j]?) → Q σ' H) → wGs X ts vs σ H Q
instance {X : Cx} {ts : List Expr} {Ps : List MP} {us : List (Nat × SD)} : CoeFun (PGsv X ts Ps us) (fun _ => ∀ (H0 : Hp) (Φ : List SD) (σ : St) (F H : Hp) (vs : List V) (Q : St → Hp → Prop), Ex F H → Sl H0 Φ σ F H → AllP Ps F vs → (∀ σ', Sl H0 (setAll Φ us) σ' F H → (∀ (j : Nat), (∀ u ∈ us, u.1 ≠ j) → σ'[j]? = σ[j]?) → Q σ' H) → wGs X ts vs σ H Q) := ⟨PGsv.run⟩
def ntg : Expr → Bool
  | .Starred .. => false
  | _ => true
theorem each_cons {e : Expr} {es : List Expr} {env : Env} (h : ntg e = true) : (assignEach (e :: es) env).map (·.2) = assign e env :: (assignEach es env).map (·.2) := by
  cases e with
  | Starred => cases h
  | _ => rfl
theorem each_len {env : Env} : ∀ {es : List Expr}, es.all ntg = true → (assignEach es env).length = es.length ∧ (assignEach es env).findIdx? (·.1) = none
  | [], _ => ⟨rfl, rfl⟩
  | e :: es, h => by
    rw [List.all_cons, Bool.and_eq_true] at h
    obtain ⟨h1, h2⟩ := each_len (env := env) h.2
    have e3 : assignEach (e :: es) env = (false, assign e env) :: assignEach es env := by
      cases e with
      | Starred => cases h.1
      | _ => rfl
    rw [e3]
    refine ⟨by simp [h1], ?_⟩
    rw [List.findIdx?_cons]
    simp [h2]
theorem gs_nil : PGsv X [] [] [] := .mk fun H0 Φ σ F H vs Q s sl hp q => wGs_of pgs_nil ⟨hp.inv0, q σ sl fun _ _ => rfl⟩
theorem gs_cons {us ws : List (Nat × SD)} (h1 : PGv X e P us) (h2 : PGsv X es Ps ws) (hs : ntg e = true := by rfl) (hu : us.map (·.1) = us.map (·.1) := by rfl) : PGsv X (e :: es) (P :: Ps) (us ++ ws) := .mk fun H0 Φ σ F H vs Q s sl hp q => by
  obtain ⟨v, ws', rfl, h3, h4⟩ := hp.inv
  refine wGs_of (pgs_cons pgW pgsW (each_cons hs)) ⟨v, ws', rfl, h1 H0 Φ σ F H v _ s sl h3 fun σ1 sl1 k1 => h2 H0 (setAll Φ us) σ1 F H ws' _ s sl1 h4 fun σ2 sl2 k2 => q σ2 ?_ fun j hj => ?_⟩
  · have e3 : ∀ (us ws : List (Nat × SD)) (Φ : List SD), setAll Φ (us ++ ws) = setAll (setAll Φ us) ws := by
      intro us
      induction us with
      | nil => intro ws Φ; rfl
      | cons u us ih => intro ws Φ; exact ih ws (Φ.set u.1 u.2)
    rw [e3]; exact sl2
  · rw [k2 j fun u hu => hj u (List.mem_append_right _ hu), k1 j fun u hu => hj u (List.mem_append_left _ hu)]
theorem g_tupP {us : List (Nat × SD)} {kk : Nat} (hc : X.calm = true) (h : PGsv X es Ps us) (hs : es.all ntg = true := by rfl) (hl : Ps.length = es.length := by rfl) : PGv X (.Tuple es kk pos) (tupP X.K Ps) us := .mk fun H0 Φ σ F H v Q s sl hp q => by
  obtain ⟨l, vs, rfl, h1, h2⟩ := hp
  obtain ⟨h3, h4⟩ := each_len (env := X.env) hs
  exact wG_of (pg_tup hc pgsW h3 h4) ⟨l, vs, rfl, ex_t s h1, by rw [h2.1, hl], h H0 Φ σ F H vs Q s sl h2 q⟩
theorem g_tup {us : List (Nat × SD)} {kk : Nat} {ds : List PyData} (hc : X.calm = true) (h : PGsv X es (ds.map (py X.K)) us) (hs : es.all ntg = true := by rfl) (hl : (ds.map (py X.K)).length = es.length := by rfl) : PGv X (.Tuple es kk pos) (py X.K (.tuple ds)) us := .mk fun H0 Φ σ F H v Q s sl hp q =>
  g_tupP hc h hs hl H0 Φ σ F H v Q s sl (py_tuple.mp hp) q
end
end GL

set_option Elab.async false
set_option linter.all false
set_option maxRecDepth 100000
set_option maxHeartbeats 4000000
namespace GL
open PySem L2
open Evl (Ex ex_l ex_t)
/-! ### comprehensions -/
def wipeS (Φ : List SD) : List Nat → List SD
  | [] => Φ
  | v :: vs => (wipeS Φ vs).set v .un
theorem Sl.wipe {H0 F H : Hp} {Φ : List SD} {σ : St} (h : Sl H0 Φ σ F H) : ∀ vs : List Nat, Sl H0 (wipeS Φ vs) (wipe σ vs) F H
  | [] => h
  | v :: vs => by
    have := (Sl.wipe h vs).set (i := v) (d := .un) (o := none) trivial rfl
    exact this
theorem wipe_out {σ : St} {j : Nat} : ∀ {vs : List Nat}, j ∉ vs → (wipe σ vs)[j]? = σ[j]?
  | [], _ => rfl
  | v :: vs, h => by
    unfold L2.wipe
    rw [List.getElem?_set_ne (fun z => h (by simp [z]))]
    exact wipe_out fun z => h (by simp [z])
theorem wipe_in {σ : St} {j : Nat} : ∀ {vs : List Nat}, j ∈ vs → j < σ.length → (wipe σ vs)[j]? = some none
  | [], h, _ => by simp at h
  | v :: vs, h, hl => by
    unfold L2.wipe
    by_cases q : v = j
    · subst q
      rw [List.getElem?_set_self (by rw [wipe_length]; exact hl)]
    · rw [List.getElem?_set_ne q]
      exact wipe_in (by
        rcases List.mem_cons.mp h with z | z
        · exact absurd z.symm q
        · exact z) hl
theorem wipe_eq {σ σ2 : St} {vs : List Nat} (hl : σ2.length = σ.length) (h : ∀ j, j ∉ vs → σ2[j]? = (wipe σ vs)[j]?) : wipe σ2 vs = wipe σ vs := by
  apply List.ext_getElem?
  intro j
  by_cases q : j ∈ vs
  · by_cases hj : j < σ.length
    · rw [wipe_in q hj, wipe_in q (by omega)]
    · rw [List.getElem?_eq_none (by rw [wipe_length]; omega), List.getElem?_eq_none (by rw [wipe_length]; omega)]
  · rw [wipe_out q, h j q]
section
variable {X : Cx} {Φ : List SD} {a b c e : Expr} {es : List Expr} {pos p p2 : Pos} {P : MP} {Ps Qs : List MP} {i j k : Int} {tg iter elt : Expr} {scope : Scope} {own : List (Str × Nat)}
def Blk (X : Cx) (scope : Scope) (Y : Cx) : Prop := ∃ (s : Shared) (H : Hp) (C : Addr) (cl : List (Str × Addr)) (fp : List Addr), Y = X.blk s H scope (compEnvC scope cl C X.env) fp
/-- the block's readings -/
def gB (X : Cx) (scope : Scope) (tg : Expr) : TG := fun v σ H Q => ∀ (s : Shared) (H' : Hp) (C : Addr) (cl : List (Str × Addr)) (fp : List Addr), wG (X.blk s H' scope (compEnvC scope cl C X.env) fp) tg v σ H Q
def eB (X : Cx) (scope : Scope) (e : Expr) : TE := fun σ H Q => ∀ (s : Shared) (H' : Hp) (C : Addr) (cl : List (Str × Addr)) (fp : List Addr), wE (X.blk s H' scope (compEnvC scope cl C X.env) fp) e σ H Q
def tB' (X : Cx) (scope : Scope) (e : Expr) : TT := fun σ H Q => ∀ (s : Shared) (H' : Hp) (C : Addr) (cl : List (Str × Addr)) (fp : List Addr), wT (X.blk s H' scope (compEnvC scope cl C X.env) fp) e σ H Q
theorem pgB (s : Shared) (H : Hp) (C : Addr) (cl : List (Str × Addr)) (fp : List Addr) : PG (X.blk s H scope (compEnvC scope cl C X.env) fp) tg (gB X scope tg) := ⟨fun pins s' _ _ _ u _ I r h => h s H C cl fp pins s' u I r⟩
theorem peB (s : Shared) (H : Hp) (C : Addr) (cl : List (Str × Addr)) (fp : List Addr) : PE (X.blk s H scope (compEnvC scope cl C X.env) fp) e (eB X scope e) := ⟨fun pins s' _ _ _ I h => h s H C cl fp pins s' I⟩
theorem ptB (s : Shared) (H : Hp) (C : Addr) (cl : List (Str × Addr)) (fp : List Addr) : PT (X.blk s H scope (compEnvC scope cl C X.env) fp) e (tB' X scope e) := ⟨fun pins s' _ _ _ I h => h s H C cl fp pins s' I⟩
/-- a comprehension's reading, its test at tt -/
theorem lc_ok {α β : Type} [Py α] [Py β] {xs : List α} {cnd : α → Bool} {f : α → β} {us : α → List (Nat × SD)} {tt : TT} {vs : List Nat} {H0 : Hp} {σ : St} {F H : Hp} {Q : VK} (s : Ex F H) (sl : Sl H0 Φ σ F H)
    (hi : PIt X Φ tg iter xs) (hz : xs.length ≤ sizeLine)
    (hg : ∀ x, ∀ (s : Shared) (H : Hp) (C : Addr) (cl : List (Str × Addr)) (fp : List Addr), PGt (X.blk s H scope (compEnvC scope cl C X.env) fp) tg x (us x))
    (hu : ∀ x, ∀ u ∈ us x, u.1 ∈ vs)
    (ht : ∀ x, x ∈ xs → ∀ (σ' : St) (F' H' : Hp) (R : Bool → Hp → Prop), Ex F' H' → Sl H0 (setAll (wipeS Φ vs) (us x)) σ' F' H' → (∀ F'' H'', Gr F' H' F'' H'' → R (cnd x) H'') → tt σ' H' R)
    (he : ∀ x, x ∈ xs → cnd x = true → ∀ (s : Shared) (H : Hp) (C : Addr) (cl : List (Str × Addr)) (fp : List Addr), PEv (X.blk s H scope (compEnvC scope cl C X.env) fp) (setAll (wipeS Φ vs) (us x)) elt (py X.K (enc (f x))))
    (q : ∀ a vs F' H', Gr F H F' H' → H a = none → F' a = none → H' a = some (.lst vs) → AllP (((xs.filter cnd).map f).map fun x => py X.K (enc x)) F' vs → Q (.ref a) H') :
    tLc (wI X tg iter) (gB X scope tg) tt (eB X scope elt) vs σ H Q := by
  refine hi H0 σ F H _ s sl fun J F1 H1 g1 src D hD => ?_
  have fD := (fresh_of g1 hD)
  have hlen : (xs.map fun x => py X.K (enc x)).length = xs.length := List.length_map _
  refine ⟨fun n m H' => m = xs.length - n ∧ n ≤ xs.length ∧ ∃ F' acc, Gr F1 H1 F' H' ∧ F' D = none ∧ H' D = some (.lst acc) ∧ acc.length ≤ n ∧ AllP ((((xs.take n).filter cnd).map f).map fun x => py X.K (enc x)) F' acc,
    ⟨xs.length, by simp, Nat.zero_le _, F1, [], Gr.own g1.s hD, fD.1, upd_same, Nat.le_refl _, by simpa using AllP.nil⟩, ?_⟩
  rintro n m H' ⟨rfl, hn, F', acc, g, fd, hd, hal, hacc⟩
  by_cases hlt : n < xs.length
  · have hx : xs[n]? = some xs[n] := List.getElem?_eq_getElem hlt
    obtain ⟨go, yl⟩ := src.go n _ F' H' (by rw [List.getElem?_map, hx]; rfl) g.f g.s
    refine .inr ⟨go, fun H2 => (fun n m H' => m = xs.length - n ∧ n ≤ xs.length ∧ ∃ F' acc, Gr F1 H1 F' H' ∧ F' D = none ∧ H' D = some (.lst acc) ∧ acc.length ≤ n ∧ AllP ((((xs.take n).filter cnd).map f).map fun x => py X.K (enc x)) F' acc) (n + 1) (xs.length - (n + 1)) H2, fun H2 h => ⟨_, by omega, h⟩, fun v H2 y => ?_⟩
    obtain ⟨F2, g2, pv⟩ := yl v H2 y
    have hmem : xs[n] ∈ xs := List.getElem_mem hlt
    have tk : xs.take (n + 1) = xs.take n ++ [xs[n]] := by rw [List.take_succ, hx]; rfl
    have sl2 : Sl H0 (wipeS Φ vs) (wipe σ vs) F2 H2 := ((sl.gr g1).gr (g.trans g2)).wipe vs
    intro s' Hs C cl fp
    refine hg xs[n] s' Hs C cl fp H0 (wipeS Φ vs) (wipe σ vs) F2 H2 v _ g2.s sl2 pv fun σ2 sl3 keep => ⟨wipe_eq ?_ fun j hj => keep j fun u hu' z => hj (by rw [← z]; exact hu _ u hu'), ?_⟩
    · have l1 := sl3.len
      have l2 : ∀ (us : List (Nat × SD)) (Φ : List SD), (setAll Φ us).length = Φ.length := by
        intro us
        induction us with
        | nil => intro Φ; rfl
        | cons u us ih => intro Φ; exact (ih _).trans (List.length_set)
      rw [l2] at l1
      have l3 := sl2.len
      rw [wipe_length] at l3
      omega
    · refine ht xs[n] hmem σ2 F2 H2 _ g2.s sl3 fun F3 H3 g3 => ?_
      have fd3 : F3 D = none := g3.n D (g2.n D fd (ne_none hd)) (ne_none (g2.h _ _ hd))
      have hd3 : H3 D = some (.lst acc) := g3.h _ _ (g2.h _ _ hd)
      cases hc : cnd xs[n] with
      | false =>
        rw [if_neg (by simp)]
        refine ⟨rfl, by omega, F3, acc, (g.trans g2).trans g3, fd3, hd3, by omega, ?_⟩
        rw [tk, List.filter_append, List.filter_cons, hc]
        simpa using hacc.mono (g2.f.trans g3.f)
      | true =>
        rw [if_pos rfl]
        intro s'' Hs' C' cl' fp'
        refine he xs[n] hmem hc s'' Hs' C' cl' fp' H0 σ2 F3 H3 _ g3.s (sl3.gr g3) fun y F4 H4 g4 py4 => ?_
        have fd4 : F4 D = none := g4.n D fd3 (ne_none hd3)
        have hd4 : H4 D = some (.lst acc) := g4.h _ _ hd3
        have gg := ((g.trans g2).trans g3).trans g4
        refine ⟨acc, hd4, by omega, rfl, by omega, F4, acc ++ [y], ⟨gg.f, fun b o z => ?_, fun b o z => ?_, fun b z1 z2 => gg.n b z1 z2⟩, fd4, upd_same, by simp; omega, ?_⟩
        · rw [upd_ne (ne_of_none z hD)]; exact gg.h b o z
        · rw [upd_ne (ne_of_none z fd4)]; exact gg.s b o z
        · rw [tk, List.filter_append, List.filter_cons, hc]
          simp only [List.filter_nil, if_true, List.map_append, List.map_cons, List.map_nil]
          exact (hacc.mono ((g2.f.trans g3.f).trans g4.f)).snoc py4
  · have e : n = xs.length := by omega
    subst e
    refine .inl ⟨by have := src.stop F' H' g.f g.s; rw [hlen] at this; exact this, ?_⟩
    rw [List.take_length] at hacc
    exact q D acc F' H' (g1.trans g) fD.2 fd hd hacc
variable {x1 : Nat}
theorem filter_true {α : Type} (xs : List α) : xs.filter (fun _ => true) = xs := by simp
theorem v_lc {α β : Type} [Py α] [Py β] {xs : List α} {f : α → β} (own : List (Str × Nat)) (us : α → List (Nat × SD)) (hc : X.calm = true) (hN : X.N.Nodup) (ok : BlkOk X.N X.env.scope scope own) (hi : PIt X Φ tg iter xs) (hz : xs.length ≤ sizeLine)
    (hg : ∀ x, ∀ (s : Shared) (H : Hp) (C : Addr) (cl : List (Str × Addr)) (fp : List Addr), PGt (X.blk s H scope (compEnvC scope cl C X.env) fp) tg x (us x)) (hu : ∀ x, ∀ u ∈ us x, u.1 ∈ own.map (·.2))
    (he : ∀ x, x ∈ xs → ∀ (s : Shared) (H : Hp) (C : Addr) (cl : List (Str × Addr)) (fp : List Addr), PEv (X.blk s H scope (compEnvC scope cl C X.env) fp) (setAll (wipeS Φ (own.map (·.2))) (us x)) elt (py X.K (enc (f x))))
    (hs : ∀ x, foldedSetIterable iter X.env x = pure x := by intro _; rfl) : PN X Φ (.ListComp elt [⟨tg, iter, [], 0⟩] scope pos) (xs.map f) := .mk fun H0 σ F H Q s sl q =>
  wE_of (pe_lc (own := own) hc hN piW ok pgB (fun _ _ _ _ _ => pts_nil) peB hs) (lc_ok (cnd := fun _ => true) s sl hi hz hg hu (fun x hx σ' F' H' R s' _ r => r F' H' (Gr.refl s')) (fun x hx _ => he x hx) (by rw [filter_true]; exact q))
theorem v_lcIf {α β : Type} [Py α] [Py β] {xs : List α} {cnd : α → Bool} {f : α → β} (own : List (Str × Nat)) (us : α → List (Nat × SD)) (hc : X.calm = true) (hN : X.N.Nodup) (ok : BlkOk X.N X.env.scope scope own) (hi : PIt X Φ tg iter xs) (hz : xs.length ≤ sizeLine)
    (hg : ∀ x, ∀ (s : Shared) (H : Hp) (C : Addr) (cl : List (Str × Addr)) (fp : List Addr), PGt (X.blk s H scope (compEnvC scope cl C X.env) fp) tg x (us x)) (hu : ∀ x, ∀ u ∈ us x, u.1 ∈ own.map (·.2))
    (ht : ∀ x, x ∈ xs → ∀ (s : Shared) (H : Hp) (C : Addr) (cl : List (Str × Addr)) (fp : List Addr), PTv (X.blk s H scope (compEnvC scope cl C X.env) fp) (setAll (wipeS Φ (own.map (·.2))) (us x)) c (cnd x))
    (he : ∀ x, x ∈ xs → cnd x = true → ∀ (s : Shared) (H : Hp) (C : Addr) (cl : List (Str × Addr)) (fp : List Addr), PEv (X.blk s H scope (compEnvC scope cl C X.env) fp) (setAll (wipeS Φ (own.map (·.2))) (us x)) elt (py X.K (enc (f x))))
    (hs : ∀ x, foldedSetIterable iter X.env x = pure x := by intro _; rfl) : PN X Φ (.ListComp elt [⟨tg, iter, [c], 0⟩] scope pos) ((xs.filter cnd).map f) := .mk fun H0 σ F H Q s sl q =>
  wE_of (pe_lc (own := own) hc hN piW ok pgB (fun s H C cl fp => pts_one (ptB s H C cl fp)) peB hs) (lc_ok s sl hi hz hg hu (fun x hx σ' F' H' R s' sl' r s2 Hs C cl fp => ht x hx s2 Hs C cl fp H0 σ' F' H' R s' sl' r) he q)
end

/-! ### statements -/
inductive Ctl (S R : Type) where
  | nx (s : S)
  | ct (s : S)
  | bk (s : S)
  | rt (r : R)
/-- blocks, one behind another -/
def wK (X : Cx) : List (List Stmt) → TS
  | [] => fun D σ H => D.nx σ H
  | A :: r => fun D σ H => wSs X A { D with nx := fun σ' H' => wK X r D σ' H' } σ H
def Ctl.post {S R : Type} (F0 H0 : Hp) (D : Ends) (W : XK) (M : S → List SD) (T : R → RS) : Ctl S R → Prop
  | .nx s => ∀ σ F H, Gr F0 H0 F H → Sl H0 (M s) σ F H → D.nx σ H
  | .ct s => ∀ σ F H, Gr F0 H0 F H → Sl H0 (M s) σ F H → D.ct σ H
  | .bk s => ∀ σ F H, Gr F0 H0 F H → Sl H0 (M s) σ F H → D.bk σ H
  | .rt r => (T r).sat F0 H0 D.rt W
structure HB (X : Cx) (W : XK) {S R : Type} (ks : List (List Stmt)) (Φ : List SD) (M : S → List SD) (T : R → RS) (o : Ctl S R) : Prop where
  run : ∀ (F0 H0 : Hp) (D : Ends) (σ : St) (F H : Hp), Gr F0 H0 F H → Sl H0 Φ σ F H → o.post F0 H0 D W M T → wK X ks D σ H
instance {X : Cx} {W : XK} {S R : Type} {ks : List (List Stmt)} {Φ : List SD} {M : S → List SD} {T : R → RS} {o : Ctl S R} : CoeFun (HB X W ks Φ M T o) (fun _ => ∀ (F0 H0 : Hp) (D : Ends) (σ : St) (F H : Hp), Gr F0 H0 F H → Sl H0 Φ σ F H → o.post F0 H0 D W M T → wK X ks D σ H) := ⟨HB.run⟩
/-- fewer slots known -/
inductive Wk : List SD → List SD → Prop
  | nil : Wk [] []
  | keep {d : SD} {Φ Ψ : List SD} (h : Wk Φ Ψ) : Wk (d :: Φ) (d :: Ψ)
  | drop {d : SD} {Φ Ψ : List SD} (h : Wk Φ Ψ) : Wk (d :: Φ) (.un :: Ψ)
theorem Wk.get : ∀ {Φ Ψ : List SD}, Wk Φ Ψ → Φ.length = Ψ.length ∧ ∀ (i : Nat) (d : SD), Ψ[i]? = some d → d = .un ∨ Φ[i]? = some d
  | _, _, .nil => ⟨rfl, fun i d h => by simp at h⟩
  | _, _, .keep h => by
    obtain ⟨h1, h2⟩ := h.get
    refine ⟨by simp [h1], fun i d e => ?_⟩
    cases i with
    | zero => exact .inr e
    | succ i => exact h2 i d (by simpa using e)
  | _, _, .drop h => by
    obtain ⟨h1, h2⟩ := h.get
    refine ⟨by simp [h1], fun i d e => ?_⟩
    cases i with
    | zero => left; simpa using e.symm
    | succ i => exact h2 i d (by simpa using e)
theorem Sl.wk {H0 F H : Hp} {Φ Ψ : List SD} {σ : St} (h : Sl H0 Φ σ F H) (w : Wk Φ Ψ) : Sl H0 Ψ σ F H := by
  obtain ⟨w1, w2⟩ := w.get
  refine ⟨by rw [h.len, w1], fun i d o a b => ?_, fun i j d e l hij a b c c' f g => ?_⟩
  · rcases w2 i d a with z | z
    · subst z; trivial
    · exact h.at_ i d o z b
  · rcases w2 i d a with z | z
    · subst z; cases c
    · rcases w2 j e b with z' | z'
      · subst z'; cases c'
      · exact h.apart i j d e l hij z z' c c' f g
section
variable {X : Cx} {W : XK} {S R : Type} {Φ : List SD} {M : S → List SD} {T : R → RS} {o o1 o2 : Ctl S R} {a b c e : Expr} {es : List Expr} {pos p p2 : Pos} {P : MP} {Ps Qs : List MP} {i j : Int} {tg iter : Expr} {A A1 A2 : List Stmt} {r : List (List Stmt)} {st : Stmt}
theorem wK_cons {D : Ends} {σ : St} {H : Hp} (h : wS X st { D with nx := fun σ' H' => wK X (A :: r) D σ' H' } σ H) : wK X ((st :: A) :: r) D σ H := wSs_of (pss_cons psW pssW) h
theorem h_nil {s : S} (w : Wk Φ (M s)) : HB X W [] Φ M T (.nx s) := .mk fun F0 H0 D σ F H g sl k => k σ F H g (sl.wk w)
theorem h_end (h : HB X W r Φ M T o) : HB X W ([] :: r) Φ M T o := .mk fun F0 H0 D σ F H g sl k => wSs_of pss_nil (h F0 H0 D σ F H g sl k)
theorem h_wk {Ψ : List SD} (w : Wk Φ Ψ) (h : HB X W r Ψ M T o) : HB X W r Φ M T o := .mk fun F0 H0 D σ F H g sl k => h F0 H0 D σ F H g (sl.wk w) k
theorem h_set (n : Nat) {x : Str} (hN : X.N.Nodup) (he : PEv X Φ e P) (h : HB X W (A :: r) (Φ.set n (.im P)) M T o) (hi : X.N[n]? = some x := by rfl) (hx : Loc X.env.scope x := by first | exact Or.inl rfl | exact Or.inr rfl) (hs : swapsWith e (some (.Name x p)) pos.line X.env = pure false := by rfl)
    (hf : X.fn x = true ∨ X.env.scope.names.lookup x = some .local := by first | exact .inl rfl | exact .inr rfl) : HB X W ((.Assign [.Name x p] e pos :: A) :: r) Φ M T o := .mk fun F0 H0 D σ F H g sl k =>
  wK_cons (wS_of (ps_set hN hi hx peW hs hf) (he H0 σ F H _ g.s sl fun v F1 H1 g1 p1 => h F0 H0 D _ F1 H1 (g.trans g1) ((sl.gr g1).set ⟨v, rfl, p1⟩ rfl) k))
theorem h_setN (n : Nat) {x : Str} (hN : X.N.Nodup) (he : PEn X Φ e Ps) (h : HB X W (A :: r) (Φ.set n (.ow Ps)) M T o) (hi : X.N[n]? = some x := by rfl) (hx : Loc X.env.scope x := by first | exact Or.inl rfl | exact Or.inr rfl) (hs : swapsWith e (some (.Name x p)) pos.line X.env = pure false := by rfl)
    (hf : X.fn x = true ∨ X.env.scope.names.lookup x = some .local := by first | exact .inl rfl | exact .inr rfl) : HB X W ((.Assign [.Name x p] e pos :: A) :: r) Φ M T o := .mk fun F0 H0 D σ F H g sl k =>
  wK_cons (wS_of (ps_set hN hi hx peW hs hf) (he H0 σ F H _ g.s sl fun l vs F1 H1 g1 h1 h2 h3 h4 => h F0 H0 D _ F1 H1 (g.trans g1) (Sl.setOw (sl.gr g1) (by
      cases z : H0 l with
      | none => rfl
      | some u => rw [g.h l u z] at h1; cases h1) h2 h3 h4 (sl.new h1)) k))
theorem h_settle {α : Type} [Py α] (n : Nat) {xs : List α} (ho : Φ[n]? = some (sO X.K xs) := by rfl) (h : HB X W r (Φ.set n (sI X.K xs)) M T o) : HB X W r Φ M T o := .mk fun F0 H0 D σ F H g sl k => by
  obtain ⟨l, vs, h1, h2, h3, h4, h5⟩ := sl.ow ho
  obtain ⟨x1, x2⟩ := Gr.settle g.s h3 h4
  have s1 := sl.settle g.s ho h1 h3 h4 h5
  have g1 : Gr F0 H0 (upd F l (.lst vs)) H := ⟨g.f.trans x1, g.h, x2, fun b z1 z2 => by
    have hb : b ≠ l := fun w => z2 (by rw [w]; exact h2)
    rw [upd_ne hb]; exact g.n b z1 z2⟩
  refine h F0 H0 D σ _ H g1 ?_ k
  refine ⟨by rw [s1.len]; simp, fun m d u a b => ?_, fun m m' d d' l' hm a b c c' f f' => ?_⟩
  · by_cases q : n = m
    · subst q
      have hn := (List.getElem?_eq_some_iff.mp ho).1
      rw [List.getElem?_set_self hn] at a
      cases a
      obtain ⟨v, e1, e2⟩ := s1.at_ n _ u (List.getElem?_set_self hn) b
      exact ⟨v, e1, py_lst.mpr e2⟩
    · rw [List.getElem?_set_ne q] at a
      exact s1.at_ m d u (by rw [List.getElem?_set_ne q]; exact a) b
  · have cv : ∀ (k : Nat) (d : SD), (Φ.set n (sI X.K xs))[k]? = some d → d.isOw = true → Φ[k]? = some d := fun k d a c => by
      by_cases q : n = k
      · subst q
        rw [List.getElem?_set_self (List.getElem?_eq_some_iff.mp ho).1] at a
        cases a; cases c
      · rw [List.getElem?_set_ne q] at a; exact a
    exact sl.apart m m' d d' l' hm (cv m d a c) (cv m' d' b c') c c' f f'
theorem h_asg {us : List (Nat × SD)} (he : PEv X Φ e P) (hg : PGv X tg P us) (h : HB X W (A :: r) (setAll Φ us) M T o) (hs : swapsWithSole [tg] e pos.line X.env = pure false := by rfl) (hw : swappedStores [tg] e X.env = pure none := by rfl)
    (h1 : (assignEach [tg] X.env).map (·.2) = [assign tg X.env] := by rfl) : HB X W ((.Assign [tg] e pos :: A) :: r) Φ M T o := .mk fun F0 H0 D σ F H g sl k =>
  wK_cons (wS_of (ps_asg peW pgW hs hw h1) (he H0 σ F H _ g.s sl fun v F1 H1 g1 p1 => hg H0 Φ σ F1 H1 v _ g1.s (sl.gr g1) p1 fun σ' sl' _ => h F0 H0 D σ' F1 H1 (g.trans g1) sl' k))
theorem h_ret {v : R} (he : PEv X Φ e P) (hT : T v = .val P := by rfl) : HB X W ((.Return (some e) pos :: A) :: r) Φ M T (.rt v) := .mk fun F0 H0 D σ F H g sl k =>
  wK_cons (wS_of (ps_ret peW) (he H0 σ F H _ g.s sl fun u F1 H1 g1 p1 => by
    have k' : (T v).sat F0 H0 D.rt W := k
    rw [hT] at k'
    exact k' u F1 H1 (g.trans g1) p1))
theorem h_retN {v : R} (he : PEn X Φ e Ps) (hT : T v = .new Ps := by rfl) : HB X W ((.Return (some e) pos :: A) :: r) Φ M T (.rt v) := .mk fun F0 H0 D σ F H g sl k =>
  wK_cons (wS_of (ps_ret peW) (he H0 σ F H _ g.s sl fun l vs F1 H1 g1 h1 h2 h3 h4 => by
    have k' : (T v).sat F0 H0 D.rt W := k
    rw [hT] at k'
    exact k' l vs F1 H1 (g.trans g1) (by
      cases z : H0 l with
      | none => rfl
      | some u => rw [g.h l u z] at h1; cases h1) h2 h3 h4))
/-- return x, x one's own list -/
theorem h_retOw (n : Nat) {v : R} {x : Str} (ho : Φ[n]? = some (.ow Ps) := by rfl) (hT : T v = .new Ps := by rfl) (hN : X.N[n]? = some x := by rfl) (hv : Vis X.env.scope x := by first | exact Or.inl rfl | exact Or.inr (Or.inl rfl) | exact Or.inr (Or.inr rfl)) (hd : (x == ("__debug__" : Str)) = false := by decide)
    (hcd : (x == ("__classdict__" : Str)) = false := by decide) : HB X W ((.Return (some (.Name x p)) pos :: A) :: r) Φ M T (.rt v) := .mk fun F0 H0 D σ F H g sl k => by
  obtain ⟨l, vs, h1, h2, h3, h4, h5⟩ := sl.ow ho
  have k' : (T v).sat F0 H0 D.rt W := k
  rw [hT] at k'
  exact wK_cons (wS_of (ps_ret (pe_var hN hv hd hcd)) ⟨_, h1, k' l vs F H g h2 h3 h4 h5⟩)
theorem h_drop (he : PEv X Φ e P) (h : HB X W (A :: r) Φ M T o) (hs : swapsWith e none pos.line X.env = pure false := by rfl) : HB X W ((.Expr e pos :: A) :: r) Φ M T o := .mk fun F0 H0 D σ F H g sl k =>
  wK_cons (wS_of (ps_expr peW hs) (he H0 σ F H _ g.s sl fun v F1 H1 g1 _ => h F0 H0 D σ F1 H1 (g.trans g1) (sl.gr g1) k))
theorem h_if {k : Bool} (hc : PTv X Φ c k) (h1 : k = true → HB X W (A1 :: A :: r) Φ M T o1) (h2 : k = false → HB X W (A2 :: A :: r) Φ M T o2) : HB X W ((.If c A1 A2 pos :: A) :: r) Φ M T (cond k o1 o2) := .mk fun F0 H0 D σ F H g sl kp =>
  wK_cons (wS_of (ps_if ptW pssW pssW) (hc H0 σ F H _ g.s sl fun F1 H1 g1 => by
    cases k with
    | true => exact iteT (h1 rfl F0 H0 D σ F1 H1 (g.trans g1) (sl.gr g1) kp)
    | false => exact iteF (h2 rfl F0 H0 D σ F1 H1 (g.trans g1) (sl.gr g1) kp)))
/-- an if whose ways meet: what each leaves is told at once -/
theorem h_ifM {S' : Type} {M' : S' → List SD} {k : Bool} {s1 s2 : S'} (hc : PTv X Φ c k) (h1 : k = true → HB X W [A1] Φ M' T (.nx s1)) (h2 : k = false → HB X W [A2] Φ M' T (.nx s2)) (h : HB X W (A :: r) (M' (cond k s1 s2)) M T o) : HB X W ((.If c A1 A2 pos :: A) :: r) Φ M T o := .mk fun F0 H0 D σ F H g sl kp =>
  wK_cons (wS_of (ps_if ptW pssW pssW) (hc H0 σ F H _ g.s sl fun F1 H1 g1 => by
    cases k with
    | true => exact iteT (h1 rfl F0 H0 { D with nx := fun σ' H' => wK X (A :: r) D σ' H' } σ F1 H1 (g.trans g1) (sl.gr g1) fun σ2 F2 H2 g2 sl2 => h F0 H0 D σ2 F2 H2 g2 sl2 kp)
    | false => exact iteF (h2 rfl F0 H0 { D with nx := fun σ' H' => wK X (A :: r) D σ' H' } σ F1 H1 (g.trans g1) (sl.gr g1) fun σ2 F2 H2 g2 sl2 => h F0 H0 D σ2 F2 H2 g2 sl2 kp)))
theorem h_pass (h : HB X W (A :: r) Φ M T o) : HB X W ((.Pass pos :: A) :: r) Φ M T o := .mk fun F0 H0 D σ F H g sl k => wK_cons (wS_of ps_pass (h F0 H0 D σ F H g sl k))
theorem wK_bk {D : Ends} {σ : St} {H : Hp} : ∀ {r : List (List Stmt)}, D.bk σ H → wK X ((.Break pos :: A) :: r) D σ H := fun h => wK_cons (wS_of ps_break h)
theorem h_bk {s : S} (w : Wk Φ (M s)) : HB X W ((.Break pos :: A) :: r) Φ M T (.bk s) := .mk fun F0 H0 D σ F H g sl k => wK_cons (wS_of ps_break (k σ F H g (sl.wk w)))
theorem h_ct {s : S} (w : Wk Φ (M s)) : HB X W ((.Continue pos :: A) :: r) Φ M T (.ct s) := .mk fun F0 H0 D σ F H g sl k => wK_cons (wS_of ps_continue (k σ F H g (sl.wk w)))
end
end GL

set_option Elab.async false
set_option linter.all false
set_option maxRecDepth 100000
set_option maxHeartbeats 4000000
namespace GL
open PySem PySem.Spec PyProof.Rows L2
open Evl (Ex ex_l ex_t)
/-- the ground may be taken later -/
theorem Gr.base {F0 H0 F1 H1 F2 H2 : Hp} (a : Gr F0 H0 F1 H1) (b : Gr F1 H0 F2 H2) : Gr F0 H0 F2 H2 := ⟨a.f.trans b.f, b.h, b.s, fun x h1 h2 => b.n x (a.n x h1 h2) h2⟩
theorem Gr.rebase {F0 H0 F1 H1 : Hp} (a : Gr F0 H0 F1 H1) : Gr F1 H0 F1 H1 := ⟨Ex.refl _, a.h, a.s, fun _ h _ => h⟩
theorem RS.sat_base {F0 H0 F1 H1 : Hp} {Q : VK} {W : XK} {r : RS} (a : Gr F0 H0 F1 H1) (h : r.sat F0 H0 Q W) : r.sat F1 H0 Q W := by
  cases r with
  | val P => exact fun v F H g p => h v F H (a.base g) p
  | new Ps => exact fun l vs F H g => h l vs F H (a.base g)
  | err C P => exact fun d F H g => h d F H (a.base g)
/-! ### loops, as functions -/
def forL {α S R : Type} (f : S → α → Ctl S R) : S → List α → Sum S R
  | s, [] => .inl s
  | s, x :: xs => match f s x with
    | .nx s' => forL f s' xs
    | .ct s' => forL f s' xs
    | .bk s' => .inl s'
    | .rt r => .inr r
/-- the state behind so many turns, none of them the last -/
def steps {α S R : Type} (f : S → α → Ctl S R) : S → List α → Option S
  | s, [] => some s
  | s, x :: xs => match f s x with
    | .nx s' => steps f s' xs
    | .ct s' => steps f s' xs
    | _ => none
def forK {α S S' R : Type} (f : S' → α → Ctl S' R) (s0 : S') (xs : List α) (k : S' → Ctl S R) : Ctl S R := match forL f s0 xs with
  | .inl s => k s
  | .inr r => .rt r
theorem steps_snoc {α S R : Type} {f : S → α → Ctl S R} : ∀ {xs : List α} {s s1 s2 : S} {x : α}, steps f s xs = some s1 → (f s1 x = .nx s2 ∨ f s1 x = .ct s2) → steps f s (xs ++ [x]) = some s2
  | [], s, s1, s2, x, h, h2 => by
    have e : s = s1 := Option.some.inj h
    subst e
    rcases h2 with h2 | h2 <;> · simp [steps, h2]
  | y :: ys, s, s1, s2, x, h, h2 => by
    simp only [List.cons_append, steps] at h ⊢
    cases q : f s y with
    | nx s' => rw [q] at h; exact steps_snoc h h2
    | ct s' => rw [q] at h; exact steps_snoc h h2
    | bk s' => rw [q] at h; cases h
    | rt r => rw [q] at h; cases h
/-- an invariant of the turns -/
theorem steps_inv {α S R : Type} {f : S → α → Ctl S R} {s0 : S} {xs : List α} (I : Nat → S → Prop) (h0 : I 0 s0) (hs : ∀ n s x s', xs[n]? = some x → I n s → (f s x = .nx s' ∨ f s x = .ct s') → I (n + 1) s') :
    ∀ (n : Nat) (s : S), n ≤ xs.length → steps f s0 (xs.take n) = some s → I n s
  | 0, s, _, h => by
    have e : s0 = s := Option.some.inj h
    subst e; exact h0
  | n + 1, s, hn, h => by
    have hx : xs[n]? = some xs[n] := List.getElem?_eq_getElem (by omega)
    have tk : xs.take (n + 1) = xs.take n ++ [xs[n]] := by rw [List.take_succ, hx]; rfl
    rw [tk] at h
    have key : ∀ (ys : List α) (s s2 : S) (x : α), steps f s (ys ++ [x]) = some s2 → ∃ s1, steps f s ys = some s1 ∧ (f s1 x = .nx s2 ∨ f s1 x = .ct s2) := by
      intro ys
      induction ys with
      | nil =>
        intro s s2 x h
        refine ⟨s, rfl, ?_⟩
        simp only [List.nil_append, steps] at h
        cases q : f s x with
        | nx s' => rw [q] at h; simp [steps] at h; subst h; exact .inl rfl
        | ct s' => rw [q] at h; simp [steps] at h; subst h; exact .inr rfl
        | bk s' => rw [q] at h; cases h
        | rt r => rw [q] at h; cases h
      | cons y ys ih =>
        intro s s2 x h
        simp only [List.cons_append, steps] at h ⊢
        cases q : f s y with
        | nx s' => rw [q] at h; exact ih s' s2 x h
        | ct s' => rw [q] at h; exact ih s' s2 x h
        | bk s' => rw [q] at h; cases h
        | rt r => rw [q] at h; cases h
    obtain ⟨s1, h1, h2⟩ := key _ _ _ _ h
    exact hs n s1 xs[n] s hx (steps_inv I h0 hs n s1 (by omega) h1) h2
/-- while c: .. -/
def whileL {S R : Type} (c : S → Bool) (f : S → Ctl S R) : Nat → S → Sum S R
  | 0, s => .inl s
  | n + 1, s => match c s with
    | false => .inl s
    | true => match f s with
      | .nx s' => whileL c f n s'
      | .ct s' => whileL c f n s'
      | .bk s' => .inl s'
      | .rt r => .inr r
def whileK {S S' R : Type} (c : S' → Bool) (f : S' → Ctl S' R) (n : Nat) (s0 : S') (k : S' → Ctl S R) : Ctl S R := match whileL c f n s0 with
  | .inl s => k s
  | .inr r => .rt r
section
variable {X : Cx} {W : XK} {S R : Type} {Φ : List SD} {M : S → List SD} {T : R → RS} {o o1 o2 : Ctl S R} {a b c e : Expr} {es : List Expr} {pos p p2 : Pos} {P : MP} {Ps Qs : List MP} {i j : Int} {tg iter : Expr} {A A1 A2 body : List Stmt} {r : List (List Stmt)} {st : Stmt}
theorem h_for {α S' : Type} [Py α] {xs : List α} {M' : S' → List SD} (us : α → List (Nat × SD)) (f : S' → α → Ctl S' R) (s0 : S') {k : S' → Ctl S R} (hp : PassesOwn (model X.prog X.w) X.A X.env X.xe) (hc : X.calm = true)
    (hi : PIt X Φ tg iter xs) (hg : ∀ x, PGt X tg x (us x)) (w0 : Wk Φ (M' s0))
    (hb : ∀ n s x, xs[n]? = some x → steps f s0 (xs.take n) = some s → HB X W [body] (setAll (M' s) (us x)) M' T (f s x))
    (hr : ∀ s, forL f s0 xs = .inl s → HB X W (A :: r) (M' s) M T (k s)) (hs : ∀ x, foldedSetIterable iter X.env x = pure x := by intro _; rfl) :
    HB X W ((.For tg iter body [] pos :: A) :: r) Φ M T (forK f s0 xs k) := .mk fun F0 H0 D σ F H g sl kp => by
  refine wK_cons (wS_of (ps_for hp hc piW pgW pssW hs) (hi H0 σ F H _ g.s sl fun J F1 H1 g1 src => ?_))
  have hlen : (xs.map fun x => py X.K (enc x)).length = xs.length := List.length_map _
  have ga := g.trans g1
  refine ⟨fun n m σ' H' => m = xs.length - n ∧ n ≤ xs.length ∧ ∃ s F', Gr F1 H0 F' H' ∧ Sl H0 (M' s) σ' F' H' ∧ forL f s (xs.drop n) = forL f s0 xs ∧ steps f s0 (xs.take n) = some s,
    ⟨xs.length, by simp, Nat.zero_le _, s0, F1, ga.rebase, (sl.gr g1).wk w0, by simp, by simp [steps]⟩, ?_⟩
  rintro n m σ' H' ⟨rfl, hn, s, F', gg, sl', fe, hst⟩
  by_cases hlt : n < xs.length
  · have hx : xs[n]? = some xs[n] := List.getElem?_eq_getElem hlt
    have dr : xs.drop n = xs[n] :: xs.drop (n + 1) := List.drop_eq_getElem_cons hlt
    obtain ⟨go, yl⟩ := src.go n _ F' H' (by rw [List.getElem?_map, hx]; rfl) gg.f gg.s
    refine .inr ⟨go, fun σ2 H2 => ∃ s2 F2, (f s xs[n] = .nx s2 ∨ f s xs[n] = .ct s2) ∧ Gr F1 H0 F2 H2 ∧ Sl H0 (M' s2) σ2 F2 H2, fun σ2 H2 hN => ?_, fun v H2 y => ?_⟩
    · obtain ⟨s2, F2, hf, g2, sl2⟩ := hN
      refine ⟨xs.length - (n + 1), by omega, rfl, by omega, s2, F2, g2, sl2, ?_, ?_⟩
      · rw [← fe, dr]
        rcases hf with hf | hf <;> · simp only [forL, hf]
      · have tk : xs.take (n + 1) = xs.take n ++ [xs[n]] := by rw [List.take_succ, hx]; rfl
        rw [tk]; exact steps_snoc hst hf
    · obtain ⟨F2, g2, pv⟩ := yl v H2 y
      refine hg xs[n] H0 (M' s) σ' F2 H2 v _ g2.s (sl'.gr g2) pv fun σ2 sl2 _ => ?_
      rw [dr] at fe
      have post : (f s xs[n]).post F1 H0 ⟨fun σ2 H2 => ∃ s2 F2, (f s xs[n] = .nx s2 ∨ f s xs[n] = .ct s2) ∧ Gr F1 H0 F2 H2 ∧ Sl H0 (M' s2) σ2 F2 H2, D.rt, fun σ' H' => wK X (A :: r) D σ' H', fun σ2 H2 => ∃ s2 F2, (f s xs[n] = .nx s2 ∨ f s xs[n] = .ct s2) ∧ Gr F1 H0 F2 H2 ∧ Sl H0 (M' s2) σ2 F2 H2⟩ W M' T := by
        cases hf : f s xs[n] with
        | nx s2 => exact fun σ3 F3 H3 g3 sl3 => ⟨s2, F3, .inl rfl, g3, sl3⟩
        | ct s2 => exact fun σ3 F3 H3 g3 sl3 => ⟨s2, F3, .inr rfl, g3, sl3⟩
        | bk s2 =>
          simp only [forL, hf] at fe
          refine fun σ3 F3 H3 g3 sl3 => hr s2 fe.symm F0 H0 D σ3 F3 H3 (ga.base g3) sl3 ?_
          have kp' : (forK f s0 xs k).post F0 H0 D W M T := kp
          unfold forK at kp'
          rw [← fe] at kp'
          exact kp'
        | rt rr =>
          simp only [forL, hf] at fe
          have kp' : (forK f s0 xs k).post F0 H0 D W M T := kp
          unfold forK at kp'
          rw [← fe] at kp'
          exact RS.sat_base ga kp'
      exact hb n s xs[n] hx hst F1 H0 ⟨fun σ2 H2 => ∃ s2 F2, (f s xs[n] = .nx s2 ∨ f s xs[n] = .ct s2) ∧ Gr F1 H0 F2 H2 ∧ Sl H0 (M' s2) σ2 F2 H2, D.rt, fun σ' H' => wK X (A :: r) D σ' H', fun σ2 H2 => ∃ s2 F2, (f s xs[n] = .nx s2 ∨ f s xs[n] = .ct s2) ∧ Gr F1 H0 F2 H2 ∧ Sl H0 (M' s2) σ2 F2 H2⟩ σ2 F2 H2 (gg.trans g2) sl2 post
  · have en : n = xs.length := by omega
    subst en
    refine .inl ⟨by have := src.stop F' H' gg.f gg.s; rw [hlen] at this; exact this, ?_⟩
    rw [List.drop_length] at fe
    have fe' : forL f s0 xs = .inl s := fe.symm
    refine hr s fe' F0 H0 D σ' F' H' (ga.base gg) sl' ?_
    have kp' : (forK f s0 xs k).post F0 H0 D W M T := kp
    unfold forK at kp'
    rw [fe'] at kp'
    exact kp'
/-- a loop that is a fold -/
theorem forL_fold {α S R : Type} {g : S → α → S} : ∀ (xs : List α) (s : S), forL (fun s x => (.nx (g s x) : Ctl S R)) s xs = .inl (xs.foldl g s)
  | [], s => rfl
  | x :: xs, s => forL_fold xs (g s x)
theorem steps_fold {α S R : Type} {g : S → α → S} : ∀ (xs : List α) (s : S), steps (fun s x => (.nx (g s x) : Ctl S R)) s xs = some (xs.foldl g s)
  | [], s => rfl
  | x :: xs, s => steps_fold xs (g s x)
theorem h_fold {α S' : Type} [Py α] {xs : List α} {M' : S' → List SD} (us : α → List (Nat × SD)) (f : S' → α → S') (s0 : S') (hp : PassesOwn (model X.prog X.w) X.A X.env X.xe) (hc : X.calm = true)
    (hi : PIt X Φ tg iter xs) (hg : ∀ x, PGt X tg x (us x)) (w0 : Wk Φ (M' s0))
    (hb : ∀ n s x, xs[n]? = some x → s = (xs.take n).foldl f s0 → HB X W [body] (setAll (M' s) (us x)) M' T (.nx (f s x)))
    (hr : HB X W (A :: r) (M' (xs.foldl f s0)) M T o) (hs : ∀ x, foldedSetIterable iter X.env x = pure x := by intro _; rfl) :
    HB X W ((.For tg iter body [] pos :: A) :: r) Φ M T o := by
  have h := h_for (W := W) (S := S) (R := R) (M := M) (T := T) (pos := pos) (A := A) (r := r) (k := fun _ => o) us (fun s x => .nx (f s x)) s0 hp hc hi hg w0 (fun n s x hx hst => hb n s x hx (by rw [steps_fold] at hst; exact (Option.some.inj hst).symm)) (fun s hs => by
    rw [forL_fold] at hs
    rw [← Sum.inl.inj hs]; exact hr) hs
  unfold forK at h
  rw [forL_fold] at h
  exact h
/-- a while: I holds at each test, m falls -/
theorem h_while {S' : Type} {M' : S' → List SD} (I : S' → Prop) (m : S' → Nat) (cn : S' → Bool) (f : S' → Ctl S' R) (s0 : S') {k : S' → Ctl S R} (hp : PassesOwn (model X.prog X.w) X.A X.env X.xe) (w0 : Wk Φ (M' s0)) (i0 : I s0)
    (ht : ∀ s, I s → PTv X (M' s) c (cn s)) (hb : ∀ s, I s → cn s = true → HB X W [body] (M' s) M' T (f s))
    (hm : ∀ s s', I s → cn s = true → (f s = .nx s' ∨ f s = .ct s') → I s' ∧ m s' < m s)
    (hr : ∀ s, whileL cn f (m s0 + 1) s0 = .inl s → HB X W (A :: r) (M' s) M T (k s)) :
    HB X W ((.While c body [] pos :: A) :: r) Φ M T (whileK cn f (m s0 + 1) s0 k) := .mk fun F0 H0 D σ F H g sl kp => by
  refine wK_cons (wS_of (ps_while hp ptW pssW) ?_)
  refine ⟨fun n σ' H' => ∃ s F', Gr F0 H0 F' H' ∧ Sl H0 (M' s) σ' F' H' ∧ I s ∧ m s = n ∧ ∃ d, whileL cn f (m s + 1 + d) s = whileL cn f (m s0 + 1) s0, ⟨m s0, s0, F, g, sl.wk w0, i0, rfl, 0, rfl⟩, ?_⟩
  rintro n σ' H' ⟨s, F', gg, sl', hI, rfl, d, hw⟩
  have hw0 : whileL cn f (m s + d + 1) s = whileL cn f (m s0 + 1) s0 := by rw [← hw]; congr 1; omega
  refine ht s hI H0 σ' F' H' _ gg.s sl' fun F2 H2 g2 => ?_
  have fin : ∀ s2, whileL cn f (m s0 + 1) s0 = .inl s2 → ∀ σ3 F3 H3, Gr F0 H0 F3 H3 → Sl H0 (M' s2) σ3 F3 H3 → wK X (A :: r) D σ3 H3 := fun s2 e σ3 F3 H3 g3 sl3 => by
    refine hr s2 e F0 H0 D σ3 F3 H3 g3 sl3 ?_
    have kp' : (whileK cn f (m s0 + 1) s0 k).post F0 H0 D W M T := kp
    unfold whileK at kp'
    rw [e] at kp'
    exact kp'
  cases hc : cn s with
  | false =>
    rw [if_neg (by simp)]
    refine fin s ?_ σ' F2 H2 (gg.trans g2) (sl'.gr g2)
    rw [← hw0]; simp only [whileL, hc]
  | true =>
    rw [if_pos rfl]
    have hw1 := hw0
    obtain ⟨res, hres⟩ : ∃ res, whileL cn f (m s0 + 1) s0 = res := ⟨_, rfl⟩
    rw [hres] at hw1
    simp only [whileL, hc] at hw1
    obtain ⟨N, eN⟩ : ∃ N : L2.St → Hp → Prop, N = fun σ2 H2 => ∃ s2 F2, (f s = .nx s2 ∨ f s = .ct s2) ∧ Gr F0 H0 F2 H2 ∧ Sl H0 (M' s2) σ2 F2 H2 := ⟨_, rfl⟩
    refine ⟨N, fun σ2 H2 hN => ?_, ?_⟩
    · rw [eN] at hN
      obtain ⟨s2, F3, hf, g3, sl3⟩ := hN
      obtain ⟨i2, m2⟩ := hm s s2 hI hc hf
      refine ⟨m s2, m2, s2, F3, g3, sl3, i2, rfl, m s + d - (m s2 + 1), ?_⟩
      rw [show m s2 + 1 + (m s + d - (m s2 + 1)) = m s + d by omega]
      rw [hres]
      rcases hf with hf | hf <;> · simp only [hf] at hw1; exact hw1
    · have post : (f s).post F0 H0 ⟨N, D.rt, fun σ' H' => wK X (A :: r) D σ' H', N⟩ W M' T := by
        cases hf : f s with
        | nx s2 => exact fun σ3 F3 H3 g3 sl3 => by rw [eN]; exact ⟨s2, F3, .inl hf, g3, sl3⟩
        | ct s2 => exact fun σ3 F3 H3 g3 sl3 => by rw [eN]; exact ⟨s2, F3, .inr hf, g3, sl3⟩
        | bk s2 =>
          simp only [hf] at hw1
          exact fun σ3 F3 H3 g3 sl3 => fin s2 (hres.trans hw1.symm) σ3 F3 H3 g3 sl3
        | rt rr =>
          simp only [hf] at hw1
          have kp' : (whileK cn f (m s0 + 1) s0 k).post F0 H0 D W M T := kp
          unfold whileK at kp'
          rw [hres, ← hw1] at kp'
          exact kp'
      exact hb s hI hc F0 H0 ⟨N, D.rt, fun σ' H' => wK X (A :: r) D σ' H', N⟩ σ' F2 H2 (gg.trans g2) (sl'.gr g2) post
/-! ### one's own lists changed -/
theorem few1 {cpos : Pos} (h : nst e = true) : ((backTo cpos (starEach [e] X.env)).all (fun x => !x.1) && (backToKw cpos (keywordEach [] X.env)).all (fun x => x.1.isSome)
      && decide ([e].length + ([] : List Keyword).length + (if ([] : List Keyword).isEmpty then 0 else 1) < 30)) = true := by
  rw [star_cons h]; rfl
theorem Gr.write {F0 H0 F H : Hp} {l : Addr} {o : HO} (g : Gr F0 H0 F H) (h0 : H0 l = none) (hf : F l = none) : Gr F0 H0 F (upd H l o) := ⟨g.f, fun b u z => by rw [upd_ne (ne_of_none z h0)]; exact g.h b u z, fun b u z => by rw [upd_ne (ne_of_none z hf)]; exact g.s b u z, g.n⟩
/-- xs.append(e) -/
theorem h_app {α : Type} [Py α] (n : Nat) {x : Str} {xs : List α} {v : α} {np apos : Pos} (he : PV X Φ e v) (hz : xs.length < sizeLine) (h : HB X W (A :: r) (Φ.set n (sO X.K (xs ++ [v]))) M T o) (ho : Φ[n]? = some (sO X.K xs) := by rfl) (hN : X.N[n]? = some x := by rfl)
    (hv : Vis X.env.scope x := by first | exact Or.inl rfl | exact Or.inr (Or.inl rfl) | exact Or.inr (Or.inr rfl)) (hd : (x == ("__debug__" : Str)) = false := by decide) (hcd : (x == ("__classdict__" : Str)) = false := by decide)
    (hst : nst e = true := by rfl) (hl : (apos.endLine == p.line) = true := by rfl) : HB X W ((.Expr (.Call (.Attribute (.Name x np) "append" apos) [e] [] p) pos :: A) :: r) Φ M T o := .mk fun F0 H0 D σ F H g sl k => by
  obtain ⟨l, vs, h1, h2, h3, h4, h5⟩ := sl.ow ho
  have hlen : vs.length = xs.length := by simpa using h5.1
  refine wK_cons (wS_of (ps_expr (pe_bm PySem.F.plainAttrs_list PySem.F.slot_list_append PySem.F.type_list_append mt_append (pe_var hN hv hd hcd) (pa_cons peW pa_nil (star_cons hst)) rfl (few1 hst) hl (star_cons hst) rfl) rfl)
    ⟨_, h1, .inl ⟨rfl, vs, SqL.of h4⟩, he H0 σ F H _ g.s sl fun u F1 H1 g1 p1 => ⟨l, vs, u, rfl, rfl, g1.h _ _ h4, by omega, ?_⟩⟩)
  have f1 : F1 l = none := g1.n l h3 (ne_none h4)
  refine h F0 H0 D σ F1 _ ((g.trans g1).write h2 f1) (Sl.write (sl.gr g1) ho h1 h2 f1 ?_) k
  rw [List.map_append]; exact (h5.mono g1.f).snoc p1
/-- xs.extend(ys) -/
theorem h_ext {α : Type} [Py α] (n : Nat) {x : Str} {xs ys : List α} {np apos : Pos} (he : PK X Φ e ys) (hz : xs.length + ys.length ≤ sizeLine) (h : HB X W (A :: r) (Φ.set n (sO X.K (xs ++ ys))) M T o) (ho : Φ[n]? = some (sO X.K xs) := by rfl) (hN : X.N[n]? = some x := by rfl)
    (hv : Vis X.env.scope x := by first | exact Or.inl rfl | exact Or.inr (Or.inl rfl) | exact Or.inr (Or.inr rfl)) (hd : (x == ("__debug__" : Str)) = false := by decide) (hcd : (x == ("__classdict__" : Str)) = false := by decide)
    (hst : nst e = true := by rfl) (hl : (apos.endLine == p.line) = true := by rfl) : HB X W ((.Expr (.Call (.Attribute (.Name x np) "extend" apos) [e] [] p) pos :: A) :: r) Φ M T o := .mk fun F0 H0 D σ F H g sl k => by
  obtain ⟨l, vs, h1, h2, h3, h4, h5⟩ := sl.ow ho
  have hlen : vs.length = xs.length := by simpa using h5.1
  refine wK_cons (wS_of (ps_expr (pe_bm PySem.F.plainAttrs_list PySem.F.slot_list_extend PySem.F.type_list_extend mt_extend (pe_var hN hv hd hcd) (pa_cons peW pa_nil (star_cons hst)) rfl (few1 hst) hl (star_cons hst) rfl) rfl)
    ⟨_, h1, .inl ⟨rfl, vs, SqL.of h4⟩, he H0 σ F H _ g.s sl fun b ws F1 H1 g1 hb p1 => ⟨l, b, vs, ws, rfl, rfl, g1.h _ _ h4, hb, by have := p1.1; rw [List.length_map] at this; omega, ?_⟩⟩)
  have f1 : F1 l = none := g1.n l h3 (ne_none h4)
  refine h F0 H0 D σ F1 _ ((g.trans g1).write h2 f1) (Sl.write (sl.gr g1) ho h1 h2 f1 ?_) k
  rw [List.map_append]; exact (h5.mono g1.f).append p1
theorem AllP.setV {Ps : List MP} {F : Hp} {vs : List V} (h : AllP Ps F vs) (n : Nat) {P : MP} {v : V} (hp : P.p F v) : AllP (Ps.set n P) F (vs.set n v) := by
  refine ⟨by simp [h.1], fun i Q u h1 h2 => ?_⟩
  by_cases q : n = i
  · subst q
    rw [List.getElem?_set_self (by simpa using (List.getElem?_eq_some_iff.mp h1).1)] at h1
    rw [List.getElem?_set_self (by simpa using (List.getElem?_eq_some_iff.mp h2).1)] at h2
    cases h1; cases h2; exact hp
  · rw [List.getElem?_set_ne q] at h1 h2
    exact h.2 i Q u h1 h2
/-- xs[i] = e -/
theorem h_put {α : Type} [Py α] (n : Nat) {x : Str} {xs : List α} {v : α} {np sp : Pos} (he : PV X Φ e v) (hb : PV X Φ b i) (hz : 0 ≤ i ∧ i < xs.length) (h : HB X W (A :: r) (Φ.set n (sO X.K (xs.set i.toNat v))) M T o) (ho : Φ[n]? = some (sO X.K xs) := by rfl) (hN : X.N[n]? = some x := by rfl)
    (hv : Vis X.env.scope x := by first | exact Or.inl rfl | exact Or.inr (Or.inl rfl) | exact Or.inr (Or.inr rfl)) (hd : (x == ("__debug__" : Str)) = false := by decide) (hcd : (x == ("__classdict__" : Str)) = false := by decide)
    (ha : ∀ v, assign (.Subscript (.Name x np) b sp) X.env v = (do
      let ov ← holding [v] (eval (.Name x np) X.env)
      let iv ← holding [v, ov] (eval b X.env)
      standAt sp
      holding [v, ov, iv] (setItem ov iv v)
      release [v, ov, iv] []) := by intro _; rfl)
    (hs : swapsWithSole [.Subscript (.Name x np) b sp] e pos.line X.env = pure false := by rfl) (hw : swappedStores [.Subscript (.Name x np) b sp] e X.env = pure none := by rfl) : HB X W ((.Assign [.Subscript (.Name x np) b sp] e pos :: A) :: r) Φ M T o := .mk fun F0 H0 D σ F H g sl k => by
  obtain ⟨l, vs, h1, h2, h3, h4, h5⟩ := sl.ow ho
  have hlen : vs.length = xs.length := by simpa using h5.1
  refine wK_cons (wS_of (ps_asg peW (pg_sub (pe_var hN hv hd hcd) peW set_list ha) hs hw rfl) (he H0 σ F H _ g.s sl fun u F1 H1 g1 p1 => ⟨_, h1, hb H0 σ F1 H1 _ g1.s (sl.gr g1) fun w F2 H2 g2 p2 => ?_⟩))
  cases p2
  have g12 := g1.trans g2
  have f2 : F2 l = none := g12.n l h3 (ne_none h4)
  refine ⟨l, vs, i, i.toNat, rfl, rfl, g12.h _ _ h4, ?_, ?_⟩
  · unfold ixN; rw [if_pos hz.1, if_pos (by omega)]
  · refine h F0 H0 D σ F2 _ ((g.trans g12).write h2 f2) (Sl.write (sl.gr g12) ho h1 h2 f2 ?_) k
    rw [List.map_set]; exact (h5.mono g12.f).setV _ (dq_mono g2.f _ _ p1)
end
/-! ### defs -/
/-- the slots at the entry -/
def enter (Ps : List MP) (n : Nat) : List SD := Ps.map SD.im ++ List.replicate n .un
theorem sl_start {N : List Str} {Ps : List MP} {n : Nat} {F H : Hp} {vs : List V} (h : AllP Ps F vs) (hn : N.length = Ps.length + n) : Sl H (enter Ps n) (L2.start N vs) F H := by
  have hl : vs.length = Ps.length := h.1
  unfold L2.start enter
  refine ⟨by simp [hl]; omega, fun i d o a b => ?_, fun i j d e l hij a b c c' f g => ?_⟩
  · by_cases hi : i < Ps.length
    · rw [List.getElem?_append_left (by simpa using hi), List.getElem?_map] at a
      rw [List.getElem?_append_left (by simpa [hl] using hi), List.getElem?_map] at b
      rw [List.getElem?_eq_getElem hi] at a
      rw [List.getElem?_eq_getElem (by omega : i < vs.length)] at b
      cases a; cases b
      exact ⟨_, rfl, h.2 i _ _ (List.getElem?_eq_getElem hi) (List.getElem?_eq_getElem (by omega))⟩
    · rw [List.getElem?_append_right (by simpa using hi), List.getElem?_replicate] at a
      split at a
      · cases a; trivial
      · cases a
  · by_cases hi : i < Ps.length
    · rw [List.getElem?_append_left (by simpa using hi), List.getElem?_map, List.getElem?_eq_getElem hi] at a
      cases a; cases c
    · rw [List.getElem?_append_right (by simpa using hi), List.getElem?_replicate] at a
      split at a
      · cases a; cases c
      · cases a
section
variable {P : Program} {w : World} {K : Fg} {mg : Str → Option Value} {base : Heap}
theorem run_body {X : Cx} {S R : Type} {ks : List Stmt} {Ps : List MP} {M : S → List SD} {T : R → RS} {o : Ctl S R} {W : XK} {F H : Hp} {vs : List V} {Q : VK} {n : Nat} (s0 : Ex F H) (ha : AllP Ps F vs) (hn : X.N.length = Ps.length + n)
    (h : HB X W [ks] (enter Ps n) M T o) (ho : o.post F H { nx := fun _ H' => Q .non H', rt := Q } W M T) : wSs X ks { nx := fun _ H' => Q .non H', rt := Q } (L2.start X.N vs) H :=
  h F H { nx := fun _ H' => Q .non H', rt := Q } (L2.start X.N vs) F H (Gr.refl s0) (sl_start ha hn) ho
abbrev bx (P : Program) (w : World) (K : Fg) (mg : Str → Option Value) (base : Heap) (N : List Str) (qual : Str) (st : Stmt) (f : Addr) (cdv : Value) (A : Around) (outer : List Env) (s : Shared) (H : Hp) (E : XK) : Cx := (cxOf CX0 P w K mg base N qual (defScope st) f cdv A outer s H E).nox
abbrev bxX (P : Program) (w : World) (K : Fg) (mg : Str → Option Value) (base : Heap) (N : List Str) (qual : Str) (st : Stmt) (f : Addr) (cdv : Value) (A : Around) (outer : List Env) (s : Shared) (H : Hp) (E : XK) : Cx := cxOf (L2.CX P w) P w K mg base N qual (defScope st) f cdv A outer s H E
abbrev DefOf (K : Fg) (x qual : Str) (st : Stmt) (f : Addr) (fd : FuncData) : Prop := FunD K x qual (defArgs st) (defBody st) (defScope st) [] [] f fd
def RS.isErr : RS → Bool
  | .err _ _ => true
  | _ => false
/-- a def that lets nothing out: its body's derivation, for all arguments -/
theorem def_ok {x qual : Str} {st : Stmt} {f : Addr} {fd : FuncData} {N ps : List Str} {k : Nat} {Ar ρ : Type} {argP : Ar → List MP} {pre : Ar → Prop} {T : ρ → RS} {fv : Ar → ρ} (F : DefOf K x qual st f fd) (S : FnScope N ps (defScope st)) (n : Nat) (hlen : ∀ z, (argP z).length = ps.length) (hN : N.length = ps.length + n)
    (hT : ∀ r, (T r).isErr = false)
    (hb : ∀ (cdv : Value) (A : Around) (outer : List Env) (s : Shared) (H : Hp) (E : XK), Room k (A.deeper (envOfC qual (defScope st) s.heap.objs.size f cdv)) → ∀ z, pre z →
      HB (S := Unit) (bx P w K mg base N qual st f cdv A outer s H E) (fun _ _ _ => False) [defBody st] (enter (argP z) n) (fun _ => []) T (.rt (fv z))) : FnOk P w K mg base CX0 (k + 1) f fd ps (spG argP pre fun z => T (fv z)) := by
  refine FunD.ok F S (fun vs H Q E h => ?_) fun cdv A outer s H vs Q E hr h => ?_
  · obtain ⟨z, F, _, ha, _⟩ := h
    rw [ha.1, hlen]
  · obtain ⟨z, G, s0, ha, hp, hs⟩ := h
    refine ⟨_, PSs.nox pssW, run_body (X := bx P w K mg base N qual st f cdv A outer s H E) (W := fun _ _ _ => False) s0 ha (by rw [hlen]; exact hN) (hb cdv A outer s H E hr z hp) ?_⟩
    show (T (fv z)).sat G H Q _
    have ht := hT (fv z)
    have hs2 : (T (fv z)).sat G H Q E := hs
    revert hs2 ht
    cases T (fv z) with
    | val P => exact fun _ h => h
    | new Ps => exact fun _ h => h
    | err C P => exact fun h _ => by cases h
/-- the same for a def without a return -/
theorem def_okN {x qual : Str} {st : Stmt} {f : Addr} {fd : FuncData} {N ps : List Str} {k : Nat} {Ar ρ : Type} {argP : Ar → List MP} {pre : Ar → Prop} {T : ρ → RS} (F : DefOf K x qual st f fd) (S : FnScope N ps (defScope st)) (n : Nat) (hlen : ∀ z, (argP z).length = ps.length) (hN : N.length = ps.length + n)
    (hb : ∀ (cdv : Value) (A : Around) (outer : List Env) (s : Shared) (H : Hp) (E : XK), Room k (A.deeper (envOfC qual (defScope st) s.heap.objs.size f cdv)) → ∀ z, pre z →
      HB (S := Unit) (bx P w K mg base N qual st f cdv A outer s H E) (fun _ _ _ => False) [defBody st] (enter (argP z) n) (fun _ => []) T (.nx ())) : FnOk P w K mg base CX0 (k + 1) f fd ps (spG argP pre fun _ => .val (py K .none)) := by
  refine FunD.ok F S (fun vs H Q E h => ?_) fun cdv A outer s H vs Q E hr h => ?_
  · obtain ⟨z, F, _, ha, _⟩ := h
    rw [ha.1, hlen]
  · obtain ⟨z, G, s0, ha, hp, hs⟩ := h
    refine ⟨_, PSs.nox pssW, run_body (X := bx P w K mg base N qual st f cdv A outer s H E) (W := fun _ _ _ => False) s0 ha (by rw [hlen]; exact hN) (hb cdv A outer s H E hr z hp) ?_⟩
    exact fun σ F' H' g _ => hs .non F' H' g .non
theorem fn_mk {x : Str} {f : Addr} {fd : FuncData} {ps : List Str} {k : Nat} {CX : CXT} {sp : Sp} {qual : Str} {st : Stmt} (F : DefOf K x qual st f fd) (G : FnOk P w K mg base CX k f fd ps sp) (hm : mg x = some (.ref f))
    (hb : ∀ (kV doc pm : Value) (an : Option Addr) (cdv ct : Value) (us : List Value), us.length = ps.length → bindArgs (PySem.W.fnOf x qual (defArgs st) (defBody st) (defScope st) .none kV doc pm an cdv ct) ⟨us, []⟩ = pure (ps.zip us)) : FnG P w K mg base CX k x sp :=
  ⟨f, fd, ps, G, hm, F.kp, FunD.bindsN F hb⟩
end
end GL

set_option Elab.async false
set_option linter.all false
set_option maxRecDepth 100000
set_option maxHeartbeats 4000000
namespace GL
open PySem PySem.Spec PyProof.Rows L2
open Evl (Ex ex_l ex_t)
/-! ### sorted -/
section
variable {X : Cx} {pins : List (Addr × Obj)} {σ : L2.St} {H : Hp} {s : Shared}
theorem eachIs_of {β : Type} {R : V → β → Prop} : ∀ {vs : List V} {bs : List β} {us : List Value}, vs.length = bs.length → (∀ (i : Nat) v b, vs[i]? = some v → bs[i]? = some b → R v b) → Vals vs us → PySem.W.EachIs (fun u b => ∃ v, RelV v u ∧ R v b) us bs
  | [], [], _, _, _, r => by cases r; exact .nil
  | v :: vs, b :: bs, _, hl, h, r => by
    cases r with
    | cons r1 r2 => exact .cons ⟨v, r1, h 0 v b rfl rfl⟩ (eachIs_of (by simpa using hl) (fun i v b h1 h2 => h (i + 1) v b (by simpa using h1) (by simpa using h2)) r2)
  | [], _ :: _, _, hl, _, _ => by simp at hl
  | _ :: _, [], _, hl, _, _ => by simp at hl
theorem of_eachIs {β : Type} {R : V → β → Prop} : ∀ {bs : List β} {us : List Value}, PySem.W.EachIs (fun u b => ∃ v, RelV v u ∧ R v b) us bs → ∃ vs, Vals vs us ∧ vs.length = bs.length ∧ ∀ (i : Nat) v b, vs[i]? = some v → bs[i]? = some b → R v b
  | _, _, .nil => ⟨[], .nil, rfl, fun i v b h => by simp at h⟩
  | _, _, .cons ⟨v, r, h⟩ t => by
    obtain ⟨vs, h1, h2, h3⟩ := of_eachIs t
    refine ⟨v :: vs, .cons r h1, by simp [h2], fun i w b e1 e2 => ?_⟩
    cases i with
    | zero => simp at e1 e2; subst e1; subst e2; exact h
    | succ i => exact h3 i w b (by simpa using e1) (by simpa using e2)
/-- sorted(xs), xs read as data of one make -/
def rSortG (X : Cx) {β : Type} (en : β → PyData) (bs : List β) : List V → Hp → VK → Prop := fun vs H Q => ∃ (a : Addr) (ws : List V), vs = [V.ref a] ∧ SqL X.K H a ws ∧ DpAll X.K H ws (bs.map en) ∧
  ∀ (ys : List V) (p : Addr), H p = none → ys.length = bs.length → (∀ (i : Nat) v b, ys[i]? = some v → (bs.mergeSort (PySem.W.dataLe false en))[i]? = some b → ∃ j : Nat, ws[j]? = some v ∧ bs[j]? = some b) → Q (.ref p) (upd H p (.lst ys))
theorem cr_sortG {β : Type} {en : β → PyData} {bs : List β} (hal : PySem.W.AllAlike (bs.map en)) (hk : PySem.W.Sortable (bs.map en)) (hu : ∀ b, b ∈ bs → X.A.units + 2 + (en b).depth < cLine) : CallR X (.builtin "sorted") (rSortG X en bs) := by
  intro pins s σ H vs us Q I r h
  obtain ⟨a, ws, rfl, hs, hd, q⟩ := h
  obtain ⟨its, rv, hl, hz⟩ := I.list hs
  rw [Vals.ref1 r]
  obtain ⟨as, rd⟩ := Dp.readsAll I (bs.map en) ws its hd rv
  have hlen : ws.length = bs.length := by
    have : ∀ {vs : List V} {ds : List PyData}, DpAll X.K H vs ds → vs.length = ds.length := by
      intro vs ds h
      induction ds generalizing vs with
      | nil => cases h; rfl
      | cons d ds ih => cases h with
        | cons h1 h2 => simp [ih h2]
    simpa using this hd
  have e1 : PySem.W.EachIs (fun u b => ∃ v, RelV v u ∧ ∃ j : Nat, ws[j]? = some v ∧ bs[j]? = some b) its bs := eachIs_of (R := fun v b => ∃ j : Nat, ws[j]? = some v ∧ bs[j]? = some b) hlen (fun i v b h1 h2 => ⟨i, h1, h2⟩) rv
  have zl : bs.length ≤ sizeLine := by rw [← hlen]; exact hz
  refine PySem.W.sorted_data hl.isList e1 (PySem.W.readsAll_each en rd) hal hk zl hu fun out ho eo => ?_
  obtain ⟨ep, he'⟩ := PyProof.Rows.sortedAll_at s.heap its out.toArray
  obtain ⟨ys, k1, k2, k3⟩ := of_eachIs (R := fun v b => ∃ j : Nat, ws[j]? = some v ∧ bs[j]? = some b) eo
  have k2' : ys.length = bs.length := by rw [k2, List.length_mergeSort]
  exact ⟨.ref _, upd H (s.heap.objs.size + 1) (.lst ys), I.laid (t' := s.toks) (fun _ _ => PyProof.Rows.sortedAll_old) (Nat.le_succ _) ⟨by rw [k2']; exact zl, out, ep, k1, he'⟩, rfl, q ys _ (I.hok.fresh (Nat.le_succ _)) k2' k3⟩
end
/-- data of one make -/
class PyS (α : Type) [Py α] : Prop where
  alike : ∀ x y : α, PySem.W.alike (enc x) (enc y) = true
  sort : (∀ x : α, ∃ a r, enc x = .tuple (a :: r)) ∨ ∀ x : α, enc x ≠ .none ∧ ∀ xs, enc x ≠ .tuple xs
def srt {α : Type} [Py α] (xs : List α) : List α := xs.mergeSort (PySem.W.dataLe false enc)
instance : PyS Int := ⟨fun x y => by simp [enc, Py.enc, PySem.W.alike], .inr fun x => ⟨by simp [enc, Py.enc], by simp [enc, Py.enc]⟩⟩
theorem alikeAll_of {α : Type} [Py α] [PyS α] : ∀ xs ys : List α, PySem.W.alikeAll (xs.map enc) (ys.map enc) = true
  | [], [] => by simp [PySem.W.alikeAll]
  | [], y :: ys => by simp [PySem.W.alikeAll]
  | x :: xs, [] => by simp [PySem.W.alikeAll]
  | x :: xs, y :: ys => by
    have h1 := PyS.alike x y
    have h2 := alikeAll_of xs ys
    simp only [List.map_cons, PySem.W.alikeAll, h1, h2, Bool.and_self]
instance {α β : Type} [Py α] [Py β] [PyS α] [PyS β] : PyS (α × β) := ⟨fun x y => by
  have h1 := PyS.alike x.1 y.1
  have h2 := PyS.alike x.2 y.2
  show PySem.W.alike (.tuple [enc x.1, enc x.2]) (.tuple [enc y.1, enc y.2]) = true
  simp only [PySem.W.alike, PySem.W.alikeAll, h1, h2, Bool.and_self], .inl fun x => ⟨_, _, rfl⟩⟩
section
variable {X : Cx} {Φ : List SD} {a b c d e : Expr} {es : List Expr} {pos p p2 : Pos} {P : MP} {Ps Qs : List MP} {i j k : Int}
theorem allP_dpAll2 {α : Type} [Py α] {K : Fg} {F : Hp} {xs : List α} {vs : List V} (h : AllP (xs.map fun x => py K (enc x)) F vs) : DpAll K F vs (xs.map enc) := by
  have h' : AllP ((xs.map enc).map (py K)) F vs := by rw [rps_map]; exact h
  exact dqAll_dp _ _ (allP_dqAll h')
theorem v_sorted {α : Type} [Py α] [PyS α] {xs : List α} (B : Blt X.mg) (hu : X.A.units + 2 + Py.dep α < cLine) (ha : PL X Φ e xs) (hg : Gl X "sorted" := by rfl) (hst : nst e = true := by rfl) : PN X Φ (.Call (.Name "sorted" p) [e] [] pos) (srt xs) := .mk fun H0 σ F H Q s sl q =>
  wE_callB (cr_sortG (en := enc) (bs := xs) (fun d hd d' hd' => by
    obtain ⟨x, _, rfl⟩ := List.mem_map.mp hd
    obtain ⟨y, _, rfl⟩ := List.mem_map.mp hd'
    exact PyS.alike x y) (by
    rcases PyS.sort (α := α) with h | h
    · exact PySem.W.Sortable.tuples h
    · exact PySem.W.Sortable.others h) (fun b _ => by have := Py.deep b; show X.A.units + 2 + (Py.enc b).depth < cLine; omega)) hg B.sorted (by decide +kernel) (by decide +kernel) (by decide +kernel) (by simp [hst]) (wA_one hst (ha H0 σ F H _ s sl fun l vs F1 H1 g1 h1 p1 => ⟨l, vs, rfl, h1, dpAll_mono g1.s _ _ (allP_dpAll2 p1), fun ys t ht hl hy => by
      refine q t ys F1 _ (g1.trans (Gr.own g1.s ht)) (fresh_of g1 ht).2 (fresh_of g1 ht).1 upd_same ⟨by rw [hl]; simp [srt, List.length_mergeSort], fun n P v h2 h3 => ?_⟩
      rw [List.getElem?_map] at h2
      cases hb : (srt xs)[n]? with
      | none => rw [hb] at h2; cases h2
      | some b =>
        rw [hb] at h2; cases h2
        obtain ⟨m, m1, m2⟩ := hy n v b h3 hb
        exact p1.2 m _ v (by rw [List.getElem?_map, m2]; rfl) m1⟩))
/-! ### isinstance -/
/-- the built-in class of a datum -/
def tyN : PyData → String
  | .none => "NoneType"
  | .bool _ => "bool"
  | .int _ => "int"
  | .str _ => "str"
  | .list _ => "list"
  | .tuple _ => "tuple"
  | .dict _ => "dict"
theorem tyX_of {K : Fg} {F H : Hp} {v : V} {d : PyData} (s : Ex F H) (h : Dq K F v d) : TyX K H v (.type (tyN d)) := by
  cases h with
  | non => exact .base .non
  | bl b => exact .base (.bl b)
  | int i => exact .base (.int i)
  | str x => exact .base (.str x)
  | lst h1 h2 => exact .base (.lst (s _ _ h1))
  | tup h1 h2 =>
    rcases h1 with (h1 | ⟨o, h1⟩) | ⟨o, its, n, h1, h3, _⟩
    · exact .base (.tup (s _ _ h1))
    · exact .fTuple (s _ _ h1)
    · exact .kTuple h1 h3
/-- a built-in class's name -/
theorem wE_bty {x : Str} {T : String} {σ : L2.St} {H : Hp} {Q : VK} (hg : Gl X x) (hm : X.mg x = none) (hv : bootBuiltins x = some (.type T)) (hn : x ≠ "__name__") (hd : (x == ("__debug__" : Str)) = false) (h : Q (.ty T) H) : wE X (.Name x p) σ H Q :=
  wE_of (pe_bltn (v := .ty T) hg hm hv rfl hn hd) h
theorem v_isi {x : Str} {T : String} {dd : PyData} {k : Bool} (B : Blt X.mg) (ha : PEv X Φ a (py X.K dd)) (hk : kitB (tyN dd) T = some k) (hmx : X.mg x = none) (hv : bootBuiltins x = some (.type T)) (hgx : Gl X x := by rfl) (hg : Gl X "isinstance" := by rfl) (h1 : nst a = true := by rfl)
    (hn : x ≠ "__name__" := by decide +kernel) (hd : (x == ("__debug__" : Str)) = false := by decide +kernel) : PV X Φ (.Call (.Name "isinstance" p) [a, .Name x p2] [] pos) k := .mk fun H0 σ F H Q s sl q =>
  wE_callB call_isi hg B.isinstance (by decide +kernel) (by decide +kernel) (by decide +kernel) (by rw [List.all_cons, h1]; rfl) (wA_of (pa_cons peW (pa_cons peW pa_nil (star_cons rfl)) (star_cons h1)) (ha H0 σ F H _ s sl fun v F1 H1 g1 p1 => wE_bty hgx hmx hv hn hd
    ⟨v, .ty T, .type (tyN dd), .type T, k, rfl, .ty T, tyX_of g1.s p1, kit_ty hk, q _ F1 H1 g1 (.bl _)⟩))
theorem v_isiInt {dd : PyData} {k : Bool} (B : Blt X.mg) (ha : PEv X Φ a (py X.K dd)) (hk : kitB (tyN dd) "int" = some k := by rfl) (hgx : Gl X "int" := by rfl) (hg : Gl X "isinstance" := by rfl) (h1 : nst a = true := by rfl) : PV X Φ (.Call (.Name "isinstance" p) [a, .Name "int" p2] [] pos) k := v_isi B ha hk B.int (by decide +kernel) hgx hg h1
theorem v_isiBool {dd : PyData} {k : Bool} (B : Blt X.mg) (ha : PEv X Φ a (py X.K dd)) (hk : kitB (tyN dd) "bool" = some k := by rfl) (hgx : Gl X "bool" := by rfl) (hg : Gl X "isinstance" := by rfl) (h1 : nst a = true := by rfl) : PV X Φ (.Call (.Name "isinstance" p) [a, .Name "bool" p2] [] pos) k := v_isi B ha hk B.bool (by decide +kernel) hgx hg h1
theorem v_isiList {dd : PyData} {k : Bool} (B : Blt X.mg) (ha : PEv X Φ a (py X.K dd)) (hk : kitB (tyN dd) "list" = some k := by rfl) (hgx : Gl X "list" := by rfl) (hg : Gl X "isinstance" := by rfl) (h1 : nst a = true := by rfl) : PV X Φ (.Call (.Name "isinstance" p) [a, .Name "list" p2] [] pos) k := v_isi B ha hk B.list (by decide +kernel) hgx hg h1
theorem v_isiTuple {dd : PyData} {k : Bool} (B : Blt X.mg) (ha : PEv X Φ a (py X.K dd)) (hk : kitB (tyN dd) "tuple" = some k := by rfl) (hgx : Gl X "tuple" := by rfl) (hg : Gl X "isinstance" := by rfl) (h1 : nst a = true := by rfl) : PV X Φ (.Call (.Name "isinstance" p) [a, .Name "tuple" p2] [] pos) k := v_isi B ha hk B.tuple (by decide +kernel) hgx hg h1
/-! ### x is True, the script, chains of three -/
theorem v_isB {l m : Bool} (ha : PV X Φ a l) (hb : PV X Φ b m) : PV X Φ (.Compare a [.Is] [b] pos) (decide (l = m)) := .mk fun H0 σ F H Q s sl q =>
  wE_of (pe_cmpR op_is_bl peW peW (nomark _)) (ha H0 σ F H _ s sl fun x F1 H1 g1 p1 => hb H0 σ F1 H1 _ g1.s (sl.gr g1) fun y F2 H2 g2 p2 => by
    cases p1; cases p2
    exact ⟨l, m, rfl, rfl, q _ _ _ (g1.trans g2) (.bl _)⟩)
theorem v_isntB {l m : Bool} (ha : PV X Φ a l) (hb : PV X Φ b m) : PV X Φ (.Compare a [.IsNot] [b] pos) (!decide (l = m)) := .mk fun H0 σ F H Q s sl q =>
  wE_of (pe_cmpR op_isnot_bl peW peW (nomark _)) (ha H0 σ F H _ s sl fun x F1 H1 g1 p1 => hb H0 σ F1 H1 _ g1.s (sl.gr g1) fun y F2 H2 g2 p2 => by
    cases p1; cases p2
    exact ⟨l, m, rfl, rfl, q _ _ _ (g1.trans g2) (.bl _)⟩)
theorem scr_l {ns : List Int} (h : PEv X Φ e (scrP X.K ns)) : PL X Φ e ns := .mk fun H0 σ F H Q s sl q => h H0 σ F H Q s sl fun v F' H' g ⟨a, h1, h2⟩ => by
  subst h1
  exact q a _ F' H' g (ex_l g.s h2) ints_allP
theorem scr_d {ns : List Int} (h : PEv X Φ e (scrP X.K ns)) : PD X Φ e ns := PEv.imp h fun F v ⟨a, h1, h2⟩ => by
  subst h1
  exact .lst h2 (allP_dpAll2 (F := F) (xs := ns) ints_allP)
/-! ### a compare as a test, from its value -/
theorem t_cmpV {op : CmpOp} {r : R2} {k : Bool} (ho : OpR X (compareOp op) r) (hm : behindInMarks op b = false) (h : ∀ (H0 : Hp) (σ : L2.St) (F H : Hp) (Q : VK), Ex F H → Sl H0 Φ σ F H → (∀ v F' H', Gr F H F' H' → (py X.K (enc k)).p F' v → Q v H') → tOp r (wE X a) (wE X b) σ H Q) : PTv X Φ (.Compare a [op] [b] pos) k := .mk fun H0 σ F H Q s sl q =>
  wT_of (pt_cmpR ho peW peW hm) (h H0 σ F H _ s sl fun v F1 H1 g1 p1 => by cases p1; exact ⟨k, rfl, q F1 H1 g1⟩)
theorem t_isN {α : Type} [Py α] {o : Option α} {q1 : Pos} (hn : ∀ y : α, enc y ≠ .none) (ha : PV X Φ a o) : PTv X Φ (.Compare a [.Is] [.Constant .none 0 q1] pos) o.isNone := .mk fun H0 σ F H Q s sl q =>
  wT_of (pt_cmpR op_isN peW pe_non (nomark _)) (ha H0 σ F H _ s sl fun v F1 H1 g1 p1 => ⟨rfl, _, rfl, by rw [non_iff hn p1]; exact q _ _ g1⟩)
theorem t_notN {α : Type} [Py α] {o : Option α} {q1 : Pos} (hn : ∀ y : α, enc y ≠ .none) (ha : PV X Φ a o) : PTv X Φ (.Compare a [.IsNot] [.Constant .none 0 q1] pos) o.isSome := .mk fun H0 σ F H Q s sl q =>
  wT_of (pt_cmpR op_notN peW pe_non (nomark _)) (ha H0 σ F H _ s sl fun v F1 H1 g1 p1 => ⟨rfl, _, rfl, by rw [non_iff hn p1, Option.not_isNone]; exact q _ _ g1⟩)
theorem t_isB {l m : Bool} (ha : PV X Φ a l) (hb : PV X Φ b m) : PTv X Φ (.Compare a [.Is] [b] pos) (decide (l = m)) := .mk fun H0 σ F H Q s sl q =>
  wT_of (pt_cmpR op_is_bl peW peW (nomark _)) (ha H0 σ F H _ s sl fun x F1 H1 g1 p1 => hb H0 σ F1 H1 _ g1.s (sl.gr g1) fun y F2 H2 g2 p2 => by
    cases p1; cases p2
    exact ⟨l, m, rfl, rfl, _, rfl, q _ _ (g1.trans g2)⟩)
theorem t_isntB {l m : Bool} (ha : PV X Φ a l) (hb : PV X Φ b m) : PTv X Φ (.Compare a [.IsNot] [b] pos) (!decide (l = m)) := .mk fun H0 σ F H Q s sl q =>
  wT_of (pt_cmpR op_isnot_bl peW peW (nomark _)) (ha H0 σ F H _ s sl fun x F1 H1 g1 p1 => hb H0 σ F1 H1 _ g1.s (sl.gr g1) fun y F2 H2 g2 p2 => by
    cases p1; cases p2
    exact ⟨l, m, rfl, rfl, _, rfl, q _ _ (g1.trans g2)⟩)
theorem inL_any {α : Type} [Py α] [PyQ α] [DecidableEq α] {y : α} {xs : List α} : ((xs.map enc).any fun z => PyData.eqv z (enc y)) = decide (y ∈ xs) := by
  rw [List.any_map]
  by_cases h : y ∈ xs
  · rw [decide_eq_true h]
    exact List.any_eq_true.mpr ⟨y, h, (PyQ.eqv y y).mpr rfl⟩
  · rw [decide_eq_false h]
    refine List.any_eq_false.mpr fun z hz w => h ?_
    rw [← (PyQ.eqv z y).mp w]; exact hz
theorem t_inL {α : Type} [Py α] [PyQ α] [DecidableEq α] {y : α} {xs : List α} (hu : X.A.units + 65 < cLine) (hd : Py.dep α + 1 ≤ 64) (ha : PD X Φ a y) (hb : PD X Φ b xs) (hm : behindInMarks .In b = false := by rfl) : PTv X Φ (.Compare a [.In] [b] pos) (decide (y ∈ xs)) := .mk fun H0 σ F H Q s sl q =>
  wT_of (pt_cmpR (op_inD hu) peW peW hm) (ha H0 σ F H _ s sl fun v F1 H1 g1 p1 => hb H0 σ F1 H1 _ g1.s (sl.gr g1) fun w F2 H2 g2 p2 =>
    ⟨enc y, xs.map enc, dp_mono (g2.f.trans g2.s) _ _ p1, dp_mono g2.s _ _ p2, shaped_of (by omega) _, shaped_of (α := List α) hd xs, _, rfl, by rw [inL_any]; exact q _ _ (g1.trans g2)⟩)
theorem t_notInL {α : Type} [Py α] [PyQ α] [DecidableEq α] {y : α} {xs : List α} (hu : X.A.units + 65 < cLine) (hd : Py.dep α + 1 ≤ 64) (ha : PD X Φ a y) (hb : PD X Φ b xs) (hm : behindInMarks .NotIn b = false := by rfl) : PTv X Φ (.Compare a [.NotIn] [b] pos) (!decide (y ∈ xs)) := .mk fun H0 σ F H Q s sl q =>
  wT_of (pt_cmpR (op_notInD hu) peW peW hm) (ha H0 σ F H _ s sl fun v F1 H1 g1 p1 => hb H0 σ F1 H1 _ g1.s (sl.gr g1) fun w F2 H2 g2 p2 =>
    ⟨enc y, xs.map enc, dp_mono (g2.f.trans g2.s) _ _ p1, dp_mono g2.s _ _ p2, shaped_of (by omega) _, shaped_of (α := List α) hd xs, _, rfl, by rw [inL_any]; exact q _ _ (g1.trans g2)⟩)
end
end GL

set_option Elab.async false
set_option linter.all false
set_option maxRecDepth 100000
set_option maxHeartbeats 4000000
namespace GL
open PySem PySem.Spec PyProof.Rows L2
open Evl (Ex ex_l ex_t)
/-! ### the printed rules: values named as they come; V: the block hands back a value, C: a loop's turn -/
def bindV {α β : Type} (a : α) (k : α → β) : β := k a
def forR {α S R : Type} (f : S → α → Ctl S R) (s0 : S) (xs : List α) (k : S → R) : R := match forL f s0 xs with
  | .inl s => k s
  | .inr r => r
def whileR {S R : Type} (c : S → Bool) (f : S → Ctl S R) (n : Nat) (s0 : S) (k : S → R) : R := match whileL c f n s0 with
  | .inl s => k s
  | .inr r => r
section
variable {X : Cx} {W : XK} {S R β : Type} {Φ : List SD} {M : S → List SD} {T : R → RS} {a b c e : Expr} {es : List Expr} {pos p p2 : Pos} {P : MP} {Ps Qs : List MP} {i j : Int} {tg iter : Expr} {A A1 A2 body : List Stmt} {r : List (List Stmt)} {st : Stmt}
/-! x = e -/
theorem h_setV {α : Type} [Py α] (n : Nat) {x : Str} {v : α} {k : α → R} (hN : X.N.Nodup) (he : PV X Φ e v) (h : ∀ x, x = v → HB X W (A :: r) (Φ.set n (sI X.K x)) M T (.rt (k x))) (hi : X.N[n]? = some x := by rfl) (hx : Loc X.env.scope x := by first | exact Or.inl rfl | exact Or.inr rfl) (hs : swapsWith e (some (.Name x p)) pos.line X.env = pure false := by rfl)
    (hf : X.fn x = true ∨ X.env.scope.names.lookup x = some .local := by first | exact .inl rfl | exact .inr rfl) : HB X W ((.Assign [.Name x p] e pos :: A) :: r) Φ M T (.rt (bindV v k)) := h_set n hN he (h v rfl) hi hx hs hf
theorem h_setC {α : Type} [Py α] (n : Nat) {x : Str} {v : α} {k : α → Ctl S R} (hN : X.N.Nodup) (he : PV X Φ e v) (h : ∀ x, x = v → HB X W (A :: r) (Φ.set n (sI X.K x)) M T (k x)) (hi : X.N[n]? = some x := by rfl) (hx : Loc X.env.scope x := by first | exact Or.inl rfl | exact Or.inr rfl) (hs : swapsWith e (some (.Name x p)) pos.line X.env = pure false := by rfl)
    (hf : X.fn x = true ∨ X.env.scope.names.lookup x = some .local := by first | exact .inl rfl | exact .inr rfl) : HB X W ((.Assign [.Name x p] e pos :: A) :: r) Φ M T (bindV v k) := h_set n hN he (h v rfl) hi hx hs hf
/-! x = e, a list of one's own -/
theorem h_ownV {α : Type} [Py α] (n : Nat) {x : Str} {v : List α} {k : List α → R} (hN : X.N.Nodup) (he : PN X Φ e v) (h : ∀ x, x = v → HB X W (A :: r) (Φ.set n (sO X.K x)) M T (.rt (k x))) (hi : X.N[n]? = some x := by rfl) (hx : Loc X.env.scope x := by first | exact Or.inl rfl | exact Or.inr rfl) (hs : swapsWith e (some (.Name x p)) pos.line X.env = pure false := by rfl)
    (hf : X.fn x = true ∨ X.env.scope.names.lookup x = some .local := by first | exact .inl rfl | exact .inr rfl) : HB X W ((.Assign [.Name x p] e pos :: A) :: r) Φ M T (.rt (bindV v k)) := h_setN n hN he (h v rfl) hi hx hs hf
theorem h_ownC {α : Type} [Py α] (n : Nat) {x : Str} {v : List α} {k : List α → Ctl S R} (hN : X.N.Nodup) (he : PN X Φ e v) (h : ∀ x, x = v → HB X W (A :: r) (Φ.set n (sO X.K x)) M T (k x)) (hi : X.N[n]? = some x := by rfl) (hx : Loc X.env.scope x := by first | exact Or.inl rfl | exact Or.inr rfl) (hs : swapsWith e (some (.Name x p)) pos.line X.env = pure false := by rfl)
    (hf : X.fn x = true ∨ X.env.scope.names.lookup x = some .local := by first | exact .inl rfl | exact .inr rfl) : HB X W ((.Assign [.Name x p] e pos :: A) :: r) Φ M T (bindV v k) := h_setN n hN he (h v rfl) hi hx hs hf
/-! x = [..] on one line -/
variable {elt : Expr} {scope : Scope}
theorem h_lc {α β : Type} [Py α] [Py β] {xs : List α} {f : α → β} {o : Ctl S R} (n : Nat) {x : Str} {py_ spos : Pos} (own : List (Str × Nat)) (us : α → List (Nat × SD)) (hc : X.calm = true) (hN : X.N.Nodup) (ok : BlkOk X.N X.env.scope scope own) (hi : PIt X Φ tg iter xs) (hz : xs.length ≤ sizeLine)
    (hg : ∀ x, ∀ (s : Shared) (H : Hp) (C : Addr) (cl : List (Str × Addr)) (fp : List Addr), PGt (X.blk s H scope (compEnvC scope cl C X.env) fp) tg x (us x)) (hu : ∀ x, ∀ u ∈ us x, u.1 ∈ own.map (·.2))
    (he : ∀ x, x ∈ xs → ∀ (s : Shared) (H : Hp) (C : Addr) (cl : List (Str × Addr)) (fp : List Addr), PEv (X.blk s H scope (compEnvC scope cl C X.env) fp) (setAll (wipeS Φ (own.map (·.2))) (us x)) elt (py X.K (enc (f x))))
    (h : HB X W (A :: r) (Φ.set n (sO X.K (xs.map f))) M T o)
    (hn : X.N[n]? = some x := by rfl) (hl : X.env.scope.names.lookup x = some .local := by rfl) (hsw : swapsWith (.ListComp elt [⟨tg, iter, [], 0⟩] scope pos) (some (.Name x py_)) spos.line X.env = pure true := by exact sw_true rfl rfl rfl (by decide +kernel)) (hs : ∀ x, foldedSetIterable iter X.env x = pure x := by intro _; rfl) :
    HB X W ((.Assign [.Name x py_] (.ListComp elt [⟨tg, iter, [], 0⟩] scope pos) spos :: A) :: r) Φ M T o := .mk fun F0 H0 D σ F H g sl k =>
  wK_cons (wS_of (ps_setLc (own := own) hc hN hn hl hsw piW ok pgB (fun _ _ _ _ _ => pts_nil) peB hs) (lc_ok (cnd := fun _ => true) g.s sl hi hz hg hu (fun x hx σ' F' H' R s' _ r => r F' H' (Gr.refl s')) (fun x hx _ => he x hx) (by
    rw [filter_true]
    intro l vs F1 H1 g1 h1 h2 h3 h4
    exact h F0 H0 D _ F1 H1 (g.trans g1) (Sl.setOw (sl.gr g1) (by
      cases z : H0 l with
      | none => rfl
      | some u => rw [g.h l u z] at h1; cases h1) h2 h3 h4 (sl.new h1)) k)))
theorem h_lcIf {α β : Type} [Py α] [Py β] {xs : List α} {cnd : α → Bool} {f : α → β} {o : Ctl S R} (n : Nat) {x : Str} {py_ spos : Pos} (own : List (Str × Nat)) (us : α → List (Nat × SD)) (hc : X.calm = true) (hN : X.N.Nodup) (ok : BlkOk X.N X.env.scope scope own) (hi : PIt X Φ tg iter xs) (hz : xs.length ≤ sizeLine)
    (hg : ∀ x, ∀ (s : Shared) (H : Hp) (C : Addr) (cl : List (Str × Addr)) (fp : List Addr), PGt (X.blk s H scope (compEnvC scope cl C X.env) fp) tg x (us x)) (hu : ∀ x, ∀ u ∈ us x, u.1 ∈ own.map (·.2))
    (ht : ∀ x, x ∈ xs → ∀ (s : Shared) (H : Hp) (C : Addr) (cl : List (Str × Addr)) (fp : List Addr), PTv (X.blk s H scope (compEnvC scope cl C X.env) fp) (setAll (wipeS Φ (own.map (·.2))) (us x)) c (cnd x))
    (he : ∀ x, x ∈ xs → cnd x = true → ∀ (s : Shared) (H : Hp) (C : Addr) (cl : List (Str × Addr)) (fp : List Addr), PEv (X.blk s H scope (compEnvC scope cl C X.env) fp) (setAll (wipeS Φ (own.map (·.2))) (us x)) elt (py X.K (enc (f x))))
    (h : HB X W (A :: r) (Φ.set n (sO X.K ((xs.filter cnd).map f))) M T o)
    (hn : X.N[n]? = some x := by rfl) (hl : X.env.scope.names.lookup x = some .local := by rfl) (hsw : swapsWith (.ListComp elt [⟨tg, iter, [c], 0⟩] scope pos) (some (.Name x py_)) spos.line X.env = pure true := by exact sw_true rfl rfl rfl (by decide +kernel)) (hs : ∀ x, foldedSetIterable iter X.env x = pure x := by intro _; rfl) :
    HB X W ((.Assign [.Name x py_] (.ListComp elt [⟨tg, iter, [c], 0⟩] scope pos) spos :: A) :: r) Φ M T o := .mk fun F0 H0 D σ F H g sl k =>
  wK_cons (wS_of (ps_setLc (own := own) hc hN hn hl hsw piW ok pgB (fun s H C cl fp => pts_one (ptB s H C cl fp)) peB hs) (lc_ok g.s sl hi hz hg hu (fun x hx σ' F' H' R s' sl' r s2 Hs C cl fp => ht x hx s2 Hs C cl fp H0 σ' F' H' R s' sl' r) he (by
    intro l vs F1 H1 g1 h1 h2 h3 h4
    exact h F0 H0 D _ F1 H1 (g.trans g1) (Sl.setOw (sl.gr g1) (by
      cases z : H0 l with
      | none => rfl
      | some u => rw [g.h l u z] at h1; cases h1) h2 h3 h4 (sl.new h1)) k)))
/-! tests -/
theorem h_ifV {k : Bool} {v1 v2 : R} (hc : PTv X Φ c k) (h1 : k = true → HB X W (A1 :: A :: r) Φ M T (.rt v1)) (h2 : k = false → HB X W (A2 :: A :: r) Φ M T (.rt v2)) : HB X W ((.If c A1 A2 pos :: A) :: r) Φ M T (.rt (cond k v1 v2)) := by
  have h := h_if (pos := pos) hc h1 h2
  cases k with
  | true => exact h
  | false => exact h
theorem h_ifC {k : Bool} {o1 o2 : Ctl S R} (hc : PTv X Φ c k) (h1 : k = true → HB X W (A1 :: A :: r) Φ M T o1) (h2 : k = false → HB X W (A2 :: A :: r) Φ M T o2) : HB X W ((.If c A1 A2 pos :: A) :: r) Φ M T (cond k o1 o2) := h_if hc h1 h2
theorem h_ifMV {S' : Type} (M' : S' → List SD) {k : Bool} {s1 s2 : S'} {kk : S' → R} (hc : PTv X Φ c k) (h1 : k = true → HB X W [A1] Φ M' T (.nx s1)) (h2 : k = false → HB X W [A2] Φ M' T (.nx s2)) (h : ∀ s, s = cond k s1 s2 → HB X W (A :: r) (M' s) M T (.rt (kk s))) : HB X W ((.If c A1 A2 pos :: A) :: r) Φ M T (.rt (bindV (cond k s1 s2) kk)) :=
  h_ifM (M' := M') hc h1 h2 (h _ rfl)
theorem h_ifMC {S' : Type} (M' : S' → List SD) {k : Bool} {s1 s2 : S'} {kk : S' → Ctl S R} (hc : PTv X Φ c k) (h1 : k = true → HB X W [A1] Φ M' T (.nx s1)) (h2 : k = false → HB X W [A2] Φ M' T (.nx s2)) (h : ∀ s, s = cond k s1 s2 → HB X W (A :: r) (M' s) M T (kk s)) : HB X W ((.If c A1 A2 pos :: A) :: r) Φ M T (bindV (cond k s1 s2) kk) :=
  h_ifM (M' := M') hc h1 h2 (h _ rfl)
/-! loops -/
theorem h_forV {α S' : Type} [Py α] {xs : List α} (M' : S' → List SD) (us : α → List (Nat × SD)) {f : S' → α → Ctl S' R} {s0 : S'} {k : S' → R} (hp : PassesOwn (model X.prog X.w) X.A X.env X.xe) (hc : X.calm = true)
    (hi : PIt X Φ tg iter xs) (hg : ∀ x, PGt X tg x (us x)) (w0 : Wk Φ (M' s0))
    (hb : ∀ n s x, xs[n]? = some x → steps f s0 (xs.take n) = some s → HB X W [body] (setAll (M' s) (us x)) M' T (f s x))
    (hr : ∀ s, forL f s0 xs = .inl s → HB X W (A :: r) (M' s) M T (.rt (k s))) (hs : ∀ x, foldedSetIterable iter X.env x = pure x := by intro _; rfl) :
    HB X W ((.For tg iter body [] pos :: A) :: r) Φ M T (.rt (forR f s0 xs k)) := by
  have h := h_for (k := fun s => .rt (k s)) (pos := pos) us f s0 hp hc hi hg w0 hb hr hs
  unfold forK at h
  unfold forR
  cases q : forL f s0 xs with
  | inl s => rw [q] at h; exact h
  | inr v => rw [q] at h; exact h
theorem h_forC {α S' : Type} [Py α] {xs : List α} (M' : S' → List SD) (us : α → List (Nat × SD)) {f : S' → α → Ctl S' R} {s0 : S'} {k : S' → Ctl S R} (hp : PassesOwn (model X.prog X.w) X.A X.env X.xe) (hc : X.calm = true)
    (hi : PIt X Φ tg iter xs) (hg : ∀ x, PGt X tg x (us x)) (w0 : Wk Φ (M' s0))
    (hb : ∀ n s x, xs[n]? = some x → steps f s0 (xs.take n) = some s → HB X W [body] (setAll (M' s) (us x)) M' T (f s x))
    (hr : ∀ s, forL f s0 xs = .inl s → HB X W (A :: r) (M' s) M T (k s)) (hs : ∀ x, foldedSetIterable iter X.env x = pure x := by intro _; rfl) :
    HB X W ((.For tg iter body [] pos :: A) :: r) Φ M T (forK f s0 xs k) := h_for us f s0 hp hc hi hg w0 hb hr hs
theorem h_foldV {α S' : Type} [Py α] {xs : List α} (M' : S' → List SD) (us : α → List (Nat × SD)) {f : S' → α → S'} {s0 : S'} {k : S' → R} (hp : PassesOwn (model X.prog X.w) X.A X.env X.xe) (hc : X.calm = true)
    (hi : PIt X Φ tg iter xs) (hg : ∀ x, PGt X tg x (us x)) (w0 : Wk Φ (M' s0))
    (hb : ∀ n s x, xs[n]? = some x → s = (xs.take n).foldl f s0 → HB X W [body] (setAll (M' s) (us x)) M' T (.nx (f s x)))
    (hr : ∀ s, s = xs.foldl f s0 → HB X W (A :: r) (M' s) M T (.rt (k s))) (hs : ∀ x, foldedSetIterable iter X.env x = pure x := by intro _; rfl) :
    HB X W ((.For tg iter body [] pos :: A) :: r) Φ M T (.rt (bindV (xs.foldl f s0) k)) := h_fold (M' := M') us f s0 hp hc hi hg w0 hb (hr _ rfl) hs
theorem h_foldC {α S' : Type} [Py α] {xs : List α} (M' : S' → List SD) (us : α → List (Nat × SD)) {f : S' → α → S'} {s0 : S'} {k : S' → Ctl S R} (hp : PassesOwn (model X.prog X.w) X.A X.env X.xe) (hc : X.calm = true)
    (hi : PIt X Φ tg iter xs) (hg : ∀ x, PGt X tg x (us x)) (w0 : Wk Φ (M' s0))
    (hb : ∀ n s x, xs[n]? = some x → s = (xs.take n).foldl f s0 → HB X W [body] (setAll (M' s) (us x)) M' T (.nx (f s x)))
    (hr : ∀ s, s = xs.foldl f s0 → HB X W (A :: r) (M' s) M T (k s)) (hs : ∀ x, foldedSetIterable iter X.env x = pure x := by intro _; rfl) :
    HB X W ((.For tg iter body [] pos :: A) :: r) Φ M T (bindV (xs.foldl f s0) k) := h_fold (M' := M') us f s0 hp hc hi hg w0 hb (hr _ rfl) hs
theorem h_whileV {S' : Type} (M' : S' → List SD) (I : S' → Prop) (m : S' → Nat) {cn : S' → Bool} {f : S' → Ctl S' R} {s0 : S'} {k : S' → R} (hp : PassesOwn (model X.prog X.w) X.A X.env X.xe) (w0 : Wk Φ (M' s0)) (i0 : I s0)
    (ht : ∀ s, I s → PTv X (M' s) c (cn s)) (hb : ∀ s, I s → cn s = true → HB X W [body] (M' s) M' T (f s))
    (hm : ∀ s s', I s → cn s = true → (f s = .nx s' ∨ f s = .ct s') → I s' ∧ m s' < m s)
    (hr : ∀ s, whileL cn f (m s0 + 1) s0 = .inl s → HB X W (A :: r) (M' s) M T (.rt (k s))) :
    HB X W ((.While c body [] pos :: A) :: r) Φ M T (.rt (whileR cn f (m s0 + 1) s0 k)) := by
  have h := h_while (k := fun s => .rt (k s)) (pos := pos) I m cn f s0 hp w0 i0 ht hb hm hr
  unfold whileK at h
  unfold whileR
  cases q : whileL cn f (m s0 + 1) s0 with
  | inl s => rw [q] at h; exact h
  | inr v => rw [q] at h; exact h
theorem h_whileC {S' : Type} (M' : S' → List SD) (I : S' → Prop) (m : S' → Nat) {cn : S' → Bool} {f : S' → Ctl S' R} {s0 : S'} {k : S' → Ctl S R} (hp : PassesOwn (model X.prog X.w) X.A X.env X.xe) (w0 : Wk Φ (M' s0)) (i0 : I s0)
    (ht : ∀ s, I s → PTv X (M' s) c (cn s)) (hb : ∀ s, I s → cn s = true → HB X W [body] (M' s) M' T (f s))
    (hm : ∀ s s', I s → cn s = true → (f s = .nx s' ∨ f s = .ct s') → I s' ∧ m s' < m s)
    (hr : ∀ s, whileL cn f (m s0 + 1) s0 = .inl s → HB X W (A :: r) (M' s) M T (k s)) :
    HB X W ((.While c body [] pos :: A) :: r) Φ M T (whileK cn f (m s0 + 1) s0 k) := h_while I m cn f s0 hp w0 i0 ht hb hm hr
/-! a pair of targets and the like: the parts come as they are -/
theorem v_powC {n : Int} (ha : PV X Φ a i) (hb : PV X Φ b j) (hc : CPow i j := by exact ⟨by decide, by decide, by decide⟩) (hn : i ^ j.toNat = n := by decide) : PV X Φ (.BinOp a .Pow b pos) n := by
  subst hn; exact v_pow ha hb hc
theorem room65 {k : Nat} {A : Around} (r : Room k A) : A.units + 65 < cLine := by have := r.un; omega
theorem roomS {k n : Nat} {A : Around} (r : Room k A) (h : n ≤ 60) : A.units + 2 + n < cLine := by have := r.un; omega
end
end GL

set_option Elab.async false
set_option linter.all false
set_option maxRecDepth 100000
set_option maxHeartbeats 4000000
namespace GL
open PySem PySem.Spec PyProof.Rows L2
open Evl (Ex ex_l ex_t)

theorem AllP.take {Ps : List MP} {F : Hp} {vs : List V} (h : AllP Ps F vs) (n : Nat) : AllP (Ps.take n) F (vs.take n) := by
  refine ⟨by simp [h.1], fun i P v h1 h2 => ?_⟩
  rw [List.getElem?_take] at h1 h2
  split at h1
  · rename_i hi
    rw [if_pos hi] at h2
    exact h.2 _ P v h1 h2
  · cases h1
theorem AllP.drop {Ps : List MP} {F : Hp} {vs : List V} (h : AllP Ps F vs) (n : Nat) : AllP (Ps.drop n) F (vs.drop n) := by
  refine ⟨by simp [h.1], fun i P v h1 h2 => ?_⟩
  rw [List.getElem?_drop] at h1 h2
  exact h.2 _ P v h1 h2

/-! ### None or a value -/
class PyN (α : Type) [Py α] : Prop where
  nn : ∀ x : α, enc x ≠ .none
instance : PyN Int := ⟨fun x h => by simp [enc, Py.enc] at h⟩
instance : PyN Bool := ⟨fun x h => by simp [enc, Py.enc] at h⟩
instance {α : Type} [Py α] : PyN (List α) := ⟨fun x h => by simp [enc, Py.enc] at h⟩
instance {α : Type} [Py α] : PyN (Tup α) := ⟨fun x h => by simp [enc, Py.enc] at h⟩
instance {α β : Type} [Py α] [Py β] : PyN (α × β) := ⟨fun x h => by simp [enc, Py.enc] at h⟩
instance {α β γ : Type} [Py α] [Py β] [Py γ] : PyN (T3 α β γ) := ⟨fun x h => by simp [enc, Py.enc] at h⟩
instance {α β γ δ : Type} [Py α] [Py β] [Py γ] [Py δ] : PyN (T4 α β γ δ) := ⟨fun x h => by simp [enc, Py.enc] at h⟩
instance {α β γ δ ε : Type} [Py α] [Py β] [Py γ] [Py δ] [Py ε] : PyN (T5 α β γ δ ε) := ⟨fun x h => by simp [enc, Py.enc] at h⟩
theorem eqv_none_l {d : PyData} (h : d ≠ .none) : PyData.eqv .none d = false := by
  cases d <;> first | exact absurd rfl h | simp [PyData.eqv]
theorem eqv_none_r {d : PyData} (h : d ≠ .none) : PyData.eqv d .none = false := by
  cases d <;> first | exact absurd rfl h | simp [PyData.eqv]
instance {α : Type} [Py α] [PyQ α] [PyN α] : PyQ (Option α) := ⟨fun x y => by
  cases x with
  | none =>
    cases y with
    | none => simp [enc, Py.enc, PyData.eqv]
    | some y =>
      have h := eqv_none_l (PyN.nn y)
      show PyData.eqv .none (enc y) = true ↔ _
      rw [h]; simp
  | some x =>
    cases y with
    | none =>
      have h := eqv_none_r (PyN.nn x)
      show PyData.eqv (enc x) .none = true ↔ _
      rw [h]; simp
    | some y =>
      have h := PyQ.eqv x y
      show PyData.eqv (enc x) (enc y) = true ↔ _
      rw [h]; simp⟩
/-! ### what leans on no object -/
class Fl (α : Type) [Py α] : Prop where
  fl : ∀ (K : Fg) (F F' : Hp) (v : V) (x : α), Dq K F v (enc x) → Dq K F' v (enc x)
instance : Fl Int := ⟨fun K F F' v x h => by cases h; exact .int _⟩
instance : Fl Bool := ⟨fun K F F' v x h => by cases h; exact .bl _⟩
instance : Fl Unit := ⟨fun K F F' v x h => by cases h; exact .non⟩
instance {α : Type} [Py α] [Fl α] : Fl (Option α) := ⟨fun K F F' v x h => by
  cases x with
  | none => cases h; exact .non
  | some x => exact Fl.fl K F F' v x h⟩
theorem Sl.settleT {α : Type} [Py α] {K : Fg} {H0 F H : Hp} {Φ : List SD} {σ : L2.St} {n : Nat} {xs : List α} {l : Addr} {vs : List V} (sl : Sl H0 Φ σ F H) (s : Ex F H) (ho : Φ[n]? = some (sO K xs)) (h1 : σ[n]? = some (some (.ref l))) (h3 : F l = none) (h4 : H l = some (.lst vs)) (h5 : AllP (xs.map fun x => py K (enc x)) F vs) :
    Sl H0 (Φ.set n (sI K xs)) σ (upd F l (.lst vs)) H := by
  have s1 := sl.settle s ho h1 h3 h4 h5
  refine ⟨by rw [s1.len]; simp, fun m d u a b => ?_, fun m m' d d' l' hm a b c c' f f' => ?_⟩
  · by_cases q : n = m
    · subst q
      have hn := (List.getElem?_eq_some_iff.mp ho).1
      rw [List.getElem?_set_self hn] at a
      cases a
      obtain ⟨v, e1, e2⟩ := s1.at_ n _ u (List.getElem?_set_self hn) b
      exact ⟨v, e1, py_lst.mpr e2⟩
    · rw [List.getElem?_set_ne q] at a
      exact s1.at_ m d u (by rw [List.getElem?_set_ne q]; exact a) b
  · have cv : ∀ (k : Nat) (d : SD), (Φ.set n (sI K xs))[k]? = some d → d.isOw = true → Φ[k]? = some d := fun k d a c => by
      by_cases q : n = k
      · subst q
        rw [List.getElem?_set_self (List.getElem?_eq_some_iff.mp ho).1] at a
        cases a; cases c
      · rw [List.getElem?_set_ne q] at a; exact a
    exact sl.apart m m' d d' l' hm (cv m d a c) (cv m' d' b c') c c' f f'
section
variable {X : Cx} {W : XK} {S R : Type} {Φ : List SD} {M : S → List SD} {T : R → RS} {a b c d e : Expr} {es : List Expr} {pos p p2 : Pos} {P : MP} {Ps Qs : List MP} {i j k : Int} {tg iter : Expr} {A : List Stmt} {r : List (List Stmt)}
theorem PV.flat {α β : Type} [Py α] [Py β] [Fl β] (n : Nat) {xs : List α} {x : β} (h : PV X (Φ.set n (sI X.K xs)) e x) (ho : Φ[n]? = some (sO X.K xs) := by rfl) : PV X Φ e x := .mk fun H0 σ F H Q s sl q => by
  obtain ⟨l, vs, h1, h2, h3, h4, h5⟩ := sl.ow ho
  obtain ⟨x1, x2⟩ := Gr.settle s h3 h4
  exact h H0 σ _ H Q x2 (sl.settleT s ho h1 h3 h4 h5) fun v F' H' g z => q v F H' (Gr.hp s g.h) (Fl.fl _ _ _ _ _ z)
theorem PTv.flat {α : Type} [Py α] (n : Nat) {xs : List α} {k : Bool} (h : PTv X (Φ.set n (sI X.K xs)) e k) (ho : Φ[n]? = some (sO X.K xs) := by rfl) : PTv X Φ e k := .mk fun H0 σ F H Q s sl q => by
  obtain ⟨l, vs, h1, h2, h3, h4, h5⟩ := sl.ow ho
  obtain ⟨x1, x2⟩ := Gr.settle s h3 h4
  exact h H0 σ _ H Q x2 (sl.settleT s ho h1 h3 h4 h5) fun F' H' g => q F H' (Gr.hp s g.h)
/-- the value of a None-or-value that is one -/
theorem v_get {α : Type} [Py α] {o : Option α} (w : α) (ho : o.isSome = true) (h : PV X Φ e o) : PV X Φ e (o.getD w) := by
  cases o with
  | none => cases ho
  | some x => exact h
/-! ### facts of a loop's items -/
theorem rng_memF {lo hi x : Int} (h : x ∈ rng lo hi) : lo ≤ x ∧ x < hi := by
  unfold rng at h
  obtain ⟨n, hn, rfl⟩ := List.mem_map.mp h
  have := List.mem_range.mp hn
  omega
theorem rng_atF {lo hi x : Int} {n : Nat} (h : (rng lo hi)[n]? = some x) : x = lo + (n : Int) ∧ lo ≤ x ∧ x < hi := by
  have hn := (List.getElem?_eq_some_iff.mp h).1
  rw [rng_length] at hn
  rw [rng_at hn] at h
  have := Option.some.inj h
  omega
theorem rev_memF {i x : Int} (h : x ∈ (rng 0 i).reverse) : 0 ≤ x ∧ x < i := rng_memF (List.mem_reverse.mp h)
theorem rev_atF {i x : Int} {n : Nat} (h : (rng 0 i).reverse[n]? = some x) : x = i - 1 - (n : Int) ∧ 0 ≤ x ∧ x < i := by
  have hn := (List.getElem?_eq_some_iff.mp h).1
  rw [List.length_reverse, rng_length] at hn
  rw [List.getElem?_reverse (by rw [rng_length]; exact hn), rng_length] at h
  have := rng_atF h
  omega
theorem enum_atF {α : Type} {xs : List α} {x : Int × α} {n : Nat} (h : (enumL xs)[n]? = some x) : x.1 = (n : Int) ∧ xs[n]? = some x.2 ∧ x.2 ∈ xs ∧ 0 ≤ x.1 ∧ x.1 < xs.length := by
  have hn := (List.getElem?_eq_some_iff.mp h).1
  rw [enumL_length] at hn
  have e := enumL_get (List.getElem?_eq_getElem hn)
  rw [h] at e
  have e2 := Option.some.inj e
  subst e2
  exact ⟨rfl, List.getElem?_eq_getElem hn, List.getElem_mem hn, by show (0 : Int) ≤ (n : Int); omega, by show (n : Int) < _; omega⟩
theorem enum_memF {α : Type} {xs : List α} {x : Int × α} (h : x ∈ enumL xs) : xs[x.1.toNat]? = some x.2 ∧ x.2 ∈ xs ∧ 0 ≤ x.1 ∧ x.1 < xs.length := by
  obtain ⟨n, hn⟩ := List.mem_iff_getElem?.mp h
  obtain ⟨h1, h2, h3, h4, h5⟩ := enum_atF hn
  exact ⟨by rw [h1]; exact h2, h3, h4, h5⟩
theorem zip_atF {α β : Type} {xs : List α} {ys : List β} {x : α × β} {n : Nat} (h : (xs.zip ys)[n]? = some x) : xs[n]? = some x.1 ∧ ys[n]? = some x.2 ∧ x.1 ∈ xs ∧ x.2 ∈ ys := by
  obtain ⟨h1, h2⟩ := List.getElem?_zip_eq_some.mp h
  exact ⟨h1, h2, List.mem_of_getElem? h1, List.mem_of_getElem? h2⟩
theorem zip_memF {α β : Type} {xs : List α} {ys : List β} {x : α × β} (h : x ∈ xs.zip ys) : x.1 ∈ xs ∧ x.2 ∈ ys := by
  obtain ⟨n, hn⟩ := List.mem_iff_getElem?.mp h
  exact (zip_atF hn).2.2
theorem mem_atF {α : Type} {xs : List α} {x : α} {n : Nat} (h : xs[n]? = some x) : x ∈ xs := List.mem_of_getElem? h
/-! ### chains of three -/
theorem pe_chain3 {op op' op2 : CmpOp} {r r' r2 : R2} {ta tb tc td : TE} (ho : OpR X (compareOp op) r) (ho' : OpR X (compareOp op') r') (ho2 : OpR X (compareOp op2) r2) (ha : PE X a ta) (hb : PE X b tb) (hc : PE X c tc) (hd : PE X d td)
    (hm : lastMarks [op, op', op2] [b, c, d] = false := by with_unfolding_all rfl) : PE X (.Compare a [op, op', op2] [b, c, d] pos)
      (fun σ H Q => ta σ H fun x H1 => tb σ H1 fun y H2 => r x y H2 fun z H3 => ∃ k, z = .bl k ∧ (if k = true then tc σ H3 fun w H4 => r' y w H4 fun z' H5 => ∃ k', z' = .bl k' ∧ (if k' = true then td σ H5 fun u H6 => r2 w u H6 Q else Q (.bl false) H5) else Q (.bl false) H3)) := by
  refine ⟨fun pins s σ H Q I h => ?_⟩
  refine Compare_chain (thn (ha.run pins s σ H _ I h) fun v s1 ⟨x, H1, I1, r1, q1⟩ => chain_link (thn (hb.run pins s1 σ H1 _ I1 q1) fun u s2 ⟨y, H2, I2, r2, q2⟩ =>
    thn (ho pins s2 σ H2 x y v u _ I2 r1 r2 q2) fun d s3 ⟨z, H3, I3, r3, k, e, q3⟩ => ?_)) hm
  subst e
  cases r3
  refine wpAny_truthy_bool ?_
  cases k with
  | false => exact ite_ff ⟨.bl false, H3, I3, rfl, q3⟩
  | true =>
    refine ite_tt (chain_link (thn (hc.run pins s3 σ H3 _ I3 q3) fun w' s4 ⟨z', H4, I4, r4, q4⟩ => thn (ho' pins s4 σ H4 y z' u w' _ I4 r2 r4 q4) fun d' s5 ⟨z2, H5, I5, r5, k2, e2, q5⟩ => ?_))
    subst e2
    cases r5
    refine wpAny_truthy_bool ?_
    cases k2 with
    | false => exact ite_ff ⟨.bl false, H5, I5, rfl, q5⟩
    | true => exact ite_tt (chain_last (thn (hd.run pins s5 σ H5 _ I5 q5) fun w2 s6 ⟨z3, H6, I6, r6, q6⟩ => ho2 pins s6 σ H6 z' z3 w' w2 Q I6 r4 r6 q6))
theorem v_chain3 {l : Int} {op op' op2 : CmpOp} {f f' f2 : Int → Int → Bool} (ho : OpR X (compareOp op) (rI0 fun i j => .bl (f i j))) (ho' : OpR X (compareOp op') (rI0 fun i j => .bl (f' i j))) (ho2 : OpR X (compareOp op2) (rI0 fun i j => .bl (f2 i j)))
    (ha : PV X Φ a i) (hb : PV X Φ b j) (hc : f i j = true → PV X Φ c k) (hd : f i j = true → f' j k = true → PV X Φ d l)
    (hm : lastMarks [op, op', op2] [b, c, d] = false := by with_unfolding_all rfl) : PV X Φ (.Compare a [op, op', op2] [b, c, d] pos) (f i j && f' j k && f2 k l) := .mk fun H0 σ F H Q s sl q =>
  wE_of (pe_chain3 ho ho' ho2 peW peW peW peW hm) (ha H0 σ F H _ s sl fun x F1 H1 g1 p1 => hb H0 σ F1 H1 _ g1.s (sl.gr g1) fun y F2 H2 g2 p2 => by
    cases p1; cases p2
    refine ⟨i, j, rfl, rfl, f i j, rfl, ?_⟩
    cases e : f i j with
    | true =>
      refine iteT (hc e H0 σ F2 H2 _ g2.s ((sl.gr g1).gr g2) fun z F3 H3 g3 p3 => ?_)
      cases p3
      refine ⟨j, k, rfl, rfl, f' j k, rfl, ?_⟩
      cases e' : f' j k with
      | true =>
        refine iteT (hd e e' H0 σ F3 H3 _ g3.s (((sl.gr g1).gr g2).gr g3) fun u F4 H4 g4 p4 => ?_)
        cases p4
        exact ⟨k, l, rfl, rfl, by
          have := q (.bl (f2 k l)) F4 H4 (((g1.trans g2).trans g3).trans g4) (by rw [e, e', Bool.true_and, Bool.true_and]; exact .bl _)
          exact this⟩
      | false => exact iteF (by
          have := q (.bl false) F3 H3 ((g1.trans g2).trans g3) (by rw [e, e', Bool.true_and, Bool.false_and]; exact .bl _)
          exact this)
    | false => exact iteF (by
        have := q (.bl false) F2 H2 (g1.trans g2) (by rw [e, Bool.false_and, Bool.false_and]; exact .bl _)
        exact this))
theorem pt_chain3 {op op' op2 : CmpOp} {r r' r2 : R2} {ta tb tc td : TE} (ho : OpR X (compareOp op) r) (ho' : OpR X (compareOp op') r') (ho2 : OpR X (compareOp op2) r2) (ha : PE X a ta) (hb : PE X b tb) (hc : PE X c tc) (hd : PE X d td)
    (hm : lastMarks [op, op', op2] [b, c, d] = false := by with_unfolding_all rfl) : PT X (.Compare a [op, op', op2] [b, c, d] pos)
      (tTest fun σ H Q => ta σ H fun x H1 => tb σ H1 fun y H2 => r x y H2 fun z H3 => ∃ k, z = .bl k ∧ (if k = true then tc σ H3 fun w H4 => r' y w H4 fun z' H5 => ∃ k', z' = .bl k' ∧ (if k' = true then td σ H5 fun u H6 => r2 w u H6 Q else Q (.bl false) H5) else Q (.bl false) H3)) := by
  refine ⟨fun pins s σ H Q I h => ?_⟩
  refine isTrue_chain (thn (ha.run pins s σ H _ I h) fun v s1 ⟨x, H1, I1, r1, q1⟩ => test_link (thn (hb.run pins s1 σ H1 _ I1 q1) fun u s2 ⟨y, H2, I2, r2, q2⟩ =>
    thn (ho pins s2 σ H2 x y v u _ I2 r1 r2 q2) fun d s3 ⟨z, H3, I3, r3, k, e, q3⟩ => ?_)) hm
  subst e
  cases r3
  refine wpAny_truthy_bool ?_
  cases k with
  | false =>
    obtain ⟨k', e', q'⟩ := q3
    cases e'
    exact ite_ff ⟨H3, I3, q'⟩
  | true =>
    refine ite_tt (test_link (thn (hc.run pins s3 σ H3 _ I3 q3) fun w' s4 ⟨z', H4, I4, r4, q4⟩ => thn (ho' pins s4 σ H4 y z' u w' _ I4 r2 r4 q4) fun d' s5 ⟨z2, H5, I5, r5, k2, e2, q5⟩ => ?_))
    subst e2
    cases r5
    refine wpAny_truthy_bool ?_
    cases k2 with
    | false =>
      obtain ⟨k', e', q'⟩ := q5
      cases e'
      exact ite_ff ⟨H5, I5, q'⟩
    | true =>
      refine ite_tt (test_last (thn (hd.run pins s5 σ H5 _ I5 q5) fun w2 s6 ⟨z3, H6, I6, r6, q6⟩ => thn (ho2 pins s6 σ H6 z' z3 w' w2 _ I6 r4 r6 q6) fun d2 s7 ⟨z4, H7, I7, r7, k3, e3, q7⟩ => ?_))
      subst e3
      cases r7
      exact wpAny_truthy_bool ⟨H7, I7, q7⟩
theorem t_chain3 {l : Int} {op op' op2 : CmpOp} {f f' f2 : Int → Int → Bool} (ho : OpR X (compareOp op) (rI0 fun i j => .bl (f i j))) (ho' : OpR X (compareOp op') (rI0 fun i j => .bl (f' i j))) (ho2 : OpR X (compareOp op2) (rI0 fun i j => .bl (f2 i j)))
    (ha : PV X Φ a i) (hb : PV X Φ b j) (hc : f i j = true → PV X Φ c k) (hd : f i j = true → f' j k = true → PV X Φ d l)
    (hm : lastMarks [op, op', op2] [b, c, d] = false := by with_unfolding_all rfl) : PTv X Φ (.Compare a [op, op', op2] [b, c, d] pos) (f i j && f' j k && f2 k l) := .mk fun H0 σ F H Q s sl q =>
  wT_of (pt_chain3 ho ho' ho2 peW peW peW peW hm) (ha H0 σ F H _ s sl fun x F1 H1 g1 p1 => hb H0 σ F1 H1 _ g1.s (sl.gr g1) fun y F2 H2 g2 p2 => by
    cases p1; cases p2
    refine ⟨i, j, rfl, rfl, f i j, rfl, ?_⟩
    cases e : f i j with
    | true =>
      refine iteT (hc e H0 σ F2 H2 _ g2.s ((sl.gr g1).gr g2) fun z F3 H3 g3 p3 => ?_)
      cases p3
      refine ⟨j, k, rfl, rfl, f' j k, rfl, ?_⟩
      cases e' : f' j k with
      | true =>
        refine iteT (hd e e' H0 σ F3 H3 _ g3.s (((sl.gr g1).gr g2).gr g3) fun u F4 H4 g4 p4 => ?_)
        cases p4
        exact ⟨k, l, rfl, rfl, _, rfl, by
          have := q F4 H4 (((g1.trans g2).trans g3).trans g4)
          rw [e, e', Bool.true_and, Bool.true_and] at this
          exact this⟩
      | false => exact iteF (by
          have := q F3 H3 ((g1.trans g2).trans g3)
          rw [e, e', Bool.true_and, Bool.false_and] at this
          exact ⟨_, rfl, this⟩)
    | false => exact iteF (by
        have := q F2 H2 (g1.trans g2)
        rw [e, Bool.false_and, Bool.false_and] at this
        exact ⟨_, rfl, this⟩))
/-! ### list(range(..)), tuples' slices and sums -/
theorem rgV_rng (lo hi : Int) : rgV lo hi = (rng lo hi).map V.int := by simp [rgV, rng]
theorem v_listR1 (B : Blt X.mg) (hc : X.calm = true) (ha : PV X Φ a i) (hi : 0 ≤ i ∧ i ≤ 16777216) (hg : Gl X "range" := by rfl) (hgl : Gl X "list" := by rfl) (h1 : nst a = true := by rfl) : PN X Φ (.Call (.Name "list" p) [.Call (.Name "range" p2) [a] [] pos'] [] pos) (rng 0 i) := .mk fun H0 σ F H Q s sl q =>
  wE_of (pe_listRg hc hgl B.list (prg_1 hg B.range peW (by rw [star_cons h1]))) (ha H0 σ F H _ s sl fun v F1 H1 g1 p1 => by
    cases p1
    exact ⟨i, rfl, RgOk.of_le (by omega) hi.2 (by omega) hi.1, fun t ht => q t _ F1 _ (g1.trans (Gr.own g1.s ht)) (fresh_of g1 ht).2 (fresh_of g1 ht).1 upd_same (by rw [rgV_rng]; exact ints_allP)⟩)
theorem v_listR2 (B : Blt X.mg) (hc : X.calm = true) (ha : PV X Φ a i) (hb : PV X Φ b j) (hi : 0 ≤ i ∧ i ≤ 16777216 ∧ 0 ≤ j ∧ j ≤ 16777216) (hg : Gl X "range" := by rfl) (hgl : Gl X "list" := by rfl) (h1 : nst a = true := by rfl) (h2 : nst b = true := by rfl) : PN X Φ (.Call (.Name "list" p) [.Call (.Name "range" p2) [a, b] [] pos'] [] pos) (rng i j) := .mk fun H0 σ F H Q s sl q =>
  wE_of (pe_listRg hc hgl B.list (prg_2 hg B.range peW peW (by rw [star_cons h1]) (by rw [star_cons h2]) (star_plain (by simp [h2])))) (ha H0 σ F H _ s sl fun v F1 H1 g1 p1 => hb H0 σ F1 H1 _ g1.s (sl.gr g1) fun w F2 H2 g2 p2 => by
    cases p1; cases p2
    exact ⟨i, j, rfl, rfl, RgOk.of_le hi.1 hi.2.2.2 hi.2.1 hi.2.2.1, fun t ht => q t _ F2 _ ((g1.trans g2).trans (Gr.own g2.s ht)) (fresh_of (g1.trans g2) ht).2 (fresh_of (g1.trans g2) ht).1 upd_same (by rw [rgV_rng]; exact ints_allP)⟩)
def slcT {α : Type} (t : Tup α) (lo hi : Option Int) : Tup α := ⟨slc t.l lo hi⟩
theorem slc_all {α : Type} {xs : List α} {lo hi : Option Int} (h : HT.sIx xs.length 0 lo = 0 ∧ HT.sIx xs.length xs.length hi = xs.length) : slc xs lo hi = xs := by
  unfold slc
  rw [h.1, h.2]; simp
theorem v_slT {α : Type} [Py α] {xs : Tup α} {lo hi : Option Expr} {l h : Option Int} (ha : PV X Φ a xs) (h1 : PO' X Φ lo l) (h2 : PO' X Φ hi h) : PV X Φ (.Subscript a (.Slice lo hi none p2) pos) (slcT xs l h) := .mk fun H0 σ F H Q s sl q => by
  have step : ∀ (o : Option Expr) (v : Option Int), PO' X Φ o v → ∃ t : TO, PO X o t ∧ ∀ (F H : Hp) (R : Option Int → Hp → Prop), Ex F H → Sl H0 Φ σ F H → (∀ F' H', Gr F H F' H' → R v H') → t σ H R := fun o v hv => by
    cases o with
    | none =>
      cases v with
      | none => exact ⟨_, po_none, fun F H R s sl r => r F H (Gr.refl s)⟩
      | some i => exact hv.elim
    | some e =>
      cases v with
      | none => exact hv.elim
      | some i => exact ⟨_, po_some peW, fun F H R s sl r => (show PV X Φ e i from hv) H0 σ F H _ s sl fun v F' H' g z => by cases z; exact ⟨i, rfl, r F' H' g⟩⟩
  obtain ⟨t1, k1, r1⟩ := step _ _ h1
  obtain ⟨t2, k2, r2⟩ := step _ _ h2
  refine wE_of (pe_slice sl_tupA peW k1 k2) (ha H0 σ F H _ s sl fun x F1 H1 g1 hx => r1 F1 H1 _ g1.s (sl.gr g1) fun F2 H2 g2 => r2 F2 H2 _ g2.s ((sl.gr g1).gr g2) fun F3 H3 g3 => ?_)
  obtain ⟨t, vs, rfl, ht, p1⟩ := py_tup.mp hx
  have g := (g1.trans g2).trans g3
  have hl : vs.length = xs.l.length := by simpa using p1.1
  refine ⟨t, vs, rfl, ex_t (g1.s.trans (g2.trans g3).h) ht, fun w => ?_, fun w u hu => ?_⟩
  · refine q _ F3 H3 g (py_tup.mpr ⟨t, vs, rfl, ex_t (g2.trans g3).f ht, ?_⟩)
    rw [hl] at w
    show AllP (rps X.K (slc xs.l l h)) F3 vs
    rw [slc_all w]
    exact p1.mono (g2.trans g3).f
  · refine q _ _ _ (g.trans (Gr.new g.s hu)) (py_tup.mpr ⟨u, _, rfl, SqT.of upd_same, ?_⟩)
    have := ((p1.mono (g2.trans g3).f).mono (Gr.new (o := .tup (cutV vs l h)) g.s hu).f).slc l h
    rw [slc_map] at this
    exact this
theorem v_catT {α : Type} [Py α] {xs ys : Tup α} (ha : PV X Φ a xs) (hb : PV X Φ b ys) (hz : xs.l.length + ys.l.length ≤ sizeLine) : PV X Φ (.BinOp a .Add b pos) (Tup.mk (xs.l ++ ys.l)) := .mk fun H0 σ F H Q s sl q =>
  wE_of (pe_op op_catA peW peW) (ha H0 σ F H _ s sl fun v F1 H1 g1 p1 => hb H0 σ F1 H1 _ g1.s (sl.gr g1) fun w F2 H2 g2 p2 => by
    obtain ⟨t, vs, rfl, ht, q1⟩ := py_tup.mp p1
    obtain ⟨u, ws, rfl, hu, q2⟩ := py_tup.mp p2
    have hl : vs.length = xs.l.length := by simpa using q1.1
    have hl2 : ws.length = ys.l.length := by simpa using q2.1
    have g := g1.trans g2
    refine ⟨t, u, vs, ws, rfl, rfl, ex_t (g1.s.trans g2.h) ht, ex_t g2.s hu, by omega, fun e0 => ?_, fun e0 e1 => ?_, fun e0 e1 z hz' => ?_⟩
    · subst e0
      have e2 : xs.l = [] := List.eq_nil_of_length_eq_zero (by rw [← hl]; rfl)
      refine q _ F2 H2 g (py_tup.mpr ⟨u, ws, rfl, hu, ?_⟩)
      show AllP (rps X.K (xs.l ++ ys.l)) F2 ws
      rw [e2]; exact q2
    · subst e1
      have e2 : ys.l = [] := List.eq_nil_of_length_eq_zero (by rw [← hl2]; rfl)
      refine q _ F2 H2 g (py_tup.mpr ⟨t, vs, rfl, ex_t g2.f ht, ?_⟩)
      show AllP (rps X.K (xs.l ++ ys.l)) F2 vs
      rw [e2, List.append_nil]; exact q1.mono g2.f
    · refine q _ _ _ (g.trans (Gr.new g.s hz')) (py_tup.mpr ⟨z, _, rfl, SqT.of upd_same, ?_⟩)
      show AllP (rps X.K (xs.l ++ ys.l)) _ _
      unfold rps
      rw [List.map_append]
      exact ((q1.mono g2.f).append q2).mono (Gr.new (o := .tup (vs ++ ws)) g.s hz').f)

/-! ### more statements -/
/-- xs.insert(i, e) -/
theorem h_ins {α : Type} [Py α] {o : Ctl S R} (n : Nat) {x : Str} {xs : List α} {v : α} {np apos : Pos} (hb : PV X Φ b i) (he : PV X Φ e v) (hi : 0 ≤ i ∧ i < 2 ^ 63) (hz : xs.length < sizeLine) (h : HB X W (A :: r) (Φ.set n (sO X.K (xs.take i.toNat ++ [v] ++ xs.drop i.toNat))) M T o) (ho : Φ[n]? = some (sO X.K xs) := by rfl) (hN : X.N[n]? = some x := by rfl)
    (hv : Vis X.env.scope x := by first | exact Or.inl rfl | exact Or.inr (Or.inl rfl) | exact Or.inr (Or.inr rfl)) (hd : (x == ("__debug__" : Str)) = false := by decide) (hcd : (x == ("__classdict__" : Str)) = false := by decide)
    (hsb : nst b = true := by rfl) (hst : nst e = true := by rfl) (hl : (apos.endLine == p.line) = true := by rfl) (hfew : ((backTo p (starEach [b, e] X.env)).all (fun x => !x.1) && (backToKw p (keywordEach [] X.env)).all (fun x => x.1.isSome)
      && decide ([b, e].length + ([] : List Keyword).length + (if ([] : List Keyword).isEmpty then 0 else 1) < 30)) = true := by rfl) : HB X W ((.Expr (.Call (.Attribute (.Name x np) "insert" apos) [b, e] [] p) pos :: A) :: r) Φ M T o := .mk fun F0 H0 D σ F H g sl k => by
  obtain ⟨l, vs, h1, h2, h3, h4, h5⟩ := sl.ow ho
  have hlen : vs.length = xs.length := by simpa using h5.1
  refine wK_cons (wS_of (ps_expr (pe_bm PySem.F.plainAttrs_list PySem.F.slot_list_insert PySem.F.type_list_insert mt_insert (pe_var hN hv hd hcd) (pa_cons peW (pa_cons peW pa_nil (star_cons hst)) (star_cons hsb)) rfl hfew hl (star_cons hsb) (star_plain (by simp [hst]))) rfl)
    ⟨_, h1, .inl ⟨rfl, vs, SqL.of h4⟩, hb H0 σ F H _ g.s sl fun w F1 H1 g1 p1 => he H0 σ F1 H1 _ g1.s (sl.gr g1) fun u F2 H2 g2 p2 => ?_⟩)
  cases p1
  have g12 := g1.trans g2
  have f1 : F2 l = none := g12.n l h3 (ne_none h4)
  refine ⟨l, vs, i, u, rfl, rfl, g12.h _ _ h4, by omega, hi.1, hi.2, ?_⟩
  refine h F0 H0 D σ F2 _ ((g.trans g12).write h2 f1) (Sl.write (sl.gr g12) ho h1 h2 f1 ?_) k
  have h6 := h5.mono g12.f
  rw [List.map_append, List.map_append, List.map_take, List.map_drop]
  exact ((AllP.take h6 _).append (.cons p2 .nil)).append (AllP.drop h6 _)
/-- xs.clear() -/
theorem h_clr {α : Type} [Py α] {o : Ctl S R} (n : Nat) {x : Str} {xs : List α} {np apos : Pos} (h : HB X W (A :: r) (Φ.set n (sO X.K ([] : List α))) M T o) (ho : Φ[n]? = some (sO X.K xs) := by rfl) (hN : X.N[n]? = some x := by rfl)
    (hv : Vis X.env.scope x := by first | exact Or.inl rfl | exact Or.inr (Or.inl rfl) | exact Or.inr (Or.inr rfl)) (hd : (x == ("__debug__" : Str)) = false := by decide) (hcd : (x == ("__classdict__" : Str)) = false := by decide)
    (hl : (apos.endLine == p.line) = true := by rfl) : HB X W ((.Expr (.Call (.Attribute (.Name x np) "clear" apos) [] [] p) pos :: A) :: r) Φ M T o := .mk fun F0 H0 D σ F H g sl k => by
  obtain ⟨l, vs, h1, h2, h3, h4, h5⟩ := sl.ow ho
  refine wK_cons (wS_of (ps_expr (pe_bm0 PySem.F.plainAttrs_list PySem.F.slot_list_clear PySem.F.type_list_clear mt_clear (pe_var hN hv hd hcd) rfl hl) rfl)
    ⟨_, h1, .inl ⟨rfl, vs, SqL.of h4⟩, l, vs, rfl, rfl, h4, ?_⟩)
  exact h F0 H0 D σ F _ (g.write h2 h3) (Sl.write sl ho h1 h2 h3 .nil) k
theorem AllP.erase {Ps : List MP} {F : Hp} {vs : List V} (h : AllP Ps F vs) (n : Nat) : AllP (Ps.eraseIdx n) F (vs.eraseIdx n) := by
  rw [List.eraseIdx_eq_take_drop_succ, List.eraseIdx_eq_take_drop_succ]
  exact (AllP.take h _).append (AllP.drop h _)
theorem map_erase {α β : Type} (f : α → β) : ∀ (xs : List α) (n : Nat), (xs.eraseIdx n).map f = (xs.map f).eraseIdx n
  | [], n => by simp
  | x :: xs, 0 => by simp
  | x :: xs, n + 1 => by simp [map_erase f xs n]
theorem seqIx {i : Int} {n : Nat} (h : 0 ≤ i ∧ i < n) : seqIndex? i n = some i.toNat := by
  unfold seqIndex?
  have e : (if i < 0 then i + (n : Int) else i) = i := if_neg (by omega)
  simp only [e]
  rw [if_pos (by simp [h.1, h.2])]
theorem ix_map {α : Type} [Py α] [Inhabited α] {K : Fg} {xs : List α} {i : Int} (h : 0 ≤ i ∧ i < xs.length) : (xs.map fun x => py K (enc x))[i.toNat]? = some (py K (enc (ix xs i))) := by
  have hi : i.toNat < xs.length := by omega
  rw [List.getElem?_map, List.getElem?_eq_getElem hi]
  simp [ix, List.getD, List.getElem?_eq_getElem hi]
/-- t = ys.pop(i), ys one's own; t's slots are us -/
theorem h_pop {α : Type} [Py α] [Inhabited α] {o : Ctl S R} {us : List (Nat × SD)} (n : Nat) {x : Str} {xs : List α} {np apos cpos : Pos} (hb : PV X Φ b i) (hi : 0 ≤ i ∧ i < xs.length) (hg : PGv X tg (py X.K (enc (ix xs i))) us)
    (h : HB X W (A :: r) (setAll (Φ.set n (sO X.K (xs.eraseIdx i.toNat))) us) M T o) (hz : xs.length ≤ 2 ^ 62 := by assumption) (ho : Φ[n]? = some (sO X.K xs) := by rfl) (hN : X.N[n]? = some x := by rfl)
    (hv : Vis X.env.scope x := by first | exact Or.inl rfl | exact Or.inr (Or.inl rfl) | exact Or.inr (Or.inr rfl)) (hd : (x == ("__debug__" : Str)) = false := by decide) (hcd : (x == ("__classdict__" : Str)) = false := by decide)
    (hsb : nst b = true := by rfl) (hl : (apos.endLine == cpos.line) = true := by rfl)
    (hs : swapsWithSole [tg] (.Call (.Attribute (.Name x np) "pop" apos) [b] [] cpos) pos.line X.env = pure false := by rfl) (hw : swappedStores [tg] (.Call (.Attribute (.Name x np) "pop" apos) [b] [] cpos) X.env = pure none := by rfl)
    (h1 : (assignEach [tg] X.env).map (·.2) = [assign tg X.env] := by rfl) : HB X W ((.Assign [tg] (.Call (.Attribute (.Name x np) "pop" apos) [b] [] cpos) pos :: A) :: r) Φ M T o := .mk fun F0 H0 D σ F H g sl k => by
  obtain ⟨l, vs, e1, h2, h3, h4, h5⟩ := sl.ow ho
  have hlen : vs.length = xs.length := by simpa using h5.1
  refine wK_cons (wS_of (ps_asg (pe_bm PySem.F.plainAttrs_list PySem.F.slot_list_pop PySem.F.type_list_pop mt_popAt (pe_var hN hv hd hcd) (pa_cons peW pa_nil (star_cons hsb)) rfl (few1 hsb) hl (star_cons hsb) rfl) pgW hs hw h1)
    ⟨_, e1, .inl ⟨rfl, vs, SqL.of h4⟩, hb H0 σ F H _ g.s sl fun w F1 H1 g1 p1 => ?_⟩)
  cases p1
  have f1 : F1 l = none := g1.n l h3 (ne_none h4)
  obtain ⟨y, y1, y2⟩ := allP_at (h5.mono g1.f) (ix_map hi)
  refine ⟨l, vs, i, i.toNat, y, rfl, rfl, g1.h _ _ h4, by omega, by omega, seqIx (by omega), y1, ?_⟩
  have g2 := (g.trans g1).write (o := .lst (vs.eraseIdx i.toNat)) h2 f1
  have s2 := Sl.write (Qs := (xs.eraseIdx i.toNat).map fun x => py X.K (enc x)) (vs := vs.eraseIdx i.toNat) (sl.gr g1) ho e1 h2 f1 (by
    rw [show (xs.eraseIdx i.toNat).map (fun x => py X.K (enc x)) = (xs.map fun x => py X.K (enc x)).eraseIdx i.toNat from map_erase ..]
    exact (h5.mono g1.f).erase _)
  exact hg H0 _ σ F1 _ y _ g2.s s2 y2 fun σ' sl' _ => h F0 H0 D σ' F1 _ g2 sl' k
/-- xs.append(ys.pop(i)), both one's own -/
theorem h_appPop {α : Type} [Py α] [Inhabited α] {o : Ctl S R} (n m : Nat) {x y : Str} {xs ys : List α} {np apos np2 apos2 cpos : Pos} (hnm : n ≠ m) (hb : PV X Φ b i) (hi : 0 ≤ i ∧ i < ys.length) (hz : xs.length < sizeLine) (hy : ys.length ≤ 2 ^ 62)
    (h : HB X W (A :: r) ((Φ.set m (sO X.K (ys.eraseIdx i.toNat))).set n (sO X.K (xs ++ [ix ys i]))) M T o) (ho : Φ[n]? = some (sO X.K xs) := by rfl) (ho2 : Φ[m]? = some (sO X.K ys) := by rfl) (hN : X.N[n]? = some x := by rfl) (hN2 : X.N[m]? = some y := by rfl)
    (hv : Vis X.env.scope x := by first | exact Or.inl rfl | exact Or.inr (Or.inl rfl) | exact Or.inr (Or.inr rfl)) (hd : (x == ("__debug__" : Str)) = false := by decide) (hcd : (x == ("__classdict__" : Str)) = false := by decide)
    (hv2 : Vis X.env.scope y := by first | exact Or.inl rfl | exact Or.inr (Or.inl rfl) | exact Or.inr (Or.inr rfl)) (hd2 : (y == ("__debug__" : Str)) = false := by decide) (hcd2 : (y == ("__classdict__" : Str)) = false := by decide)
    (hsb : nst b = true := by rfl) (hl : (apos.endLine == p.line) = true := by rfl) (hl2 : (apos2.endLine == cpos.line) = true := by rfl) :
    HB X W ((.Expr (.Call (.Attribute (.Name x np) "append" apos) [.Call (.Attribute (.Name y np2) "pop" apos2) [b] [] cpos] [] p) pos :: A) :: r) Φ M T o := .mk fun F0 H0 D σ F H g sl k => by
  obtain ⟨l, vs, e1, h2, h3, h4, h5⟩ := sl.ow ho
  obtain ⟨l2, ws, e1', h2', h3', h4', h5'⟩ := sl.ow ho2
  have hne : l ≠ l2 := fun z => sl.apart n m _ _ l hnm ho ho2 rfl rfl e1 (by rw [z]; exact e1')
  have hlen : vs.length = xs.length := by simpa using h5.1
  have hlen2 : ws.length = ys.length := by simpa using h5'.1
  refine wK_cons (wS_of (ps_expr (pe_bm PySem.F.plainAttrs_list PySem.F.slot_list_append PySem.F.type_list_append mt_append (pe_var hN hv hd hcd) (pa_cons (pe_bm PySem.F.plainAttrs_list PySem.F.slot_list_pop PySem.F.type_list_pop mt_popAt (pe_var hN2 hv2 hd2 hcd2) (pa_cons peW pa_nil (star_cons hsb)) rfl (few1 hsb) hl2 (star_cons hsb) rfl) pa_nil (star_cons rfl)) rfl (few1 rfl) hl (star_cons rfl) rfl) rfl)
    ⟨_, e1, .inl ⟨rfl, vs, SqL.of h4⟩, _, e1', .inl ⟨rfl, ws, SqL.of h4'⟩, hb H0 σ F H _ g.s sl fun w F1 H1 g1 p1 => ?_⟩)
  cases p1
  have f1 : F1 l = none := g1.n l h3 (ne_none h4)
  have f2 : F1 l2 = none := g1.n l2 h3' (ne_none h4')
  obtain ⟨y, y1, y2⟩ := allP_at (h5'.mono g1.f) (ix_map hi)
  refine ⟨l2, ws, i, i.toNat, y, rfl, rfl, g1.h _ _ h4', by omega, by omega, seqIx (by omega), y1, ?_⟩
  have g2 := (g.trans g1).write (o := .lst (ws.eraseIdx i.toNat)) h2' f2
  have s2 := Sl.write (Qs := (ys.eraseIdx i.toNat).map fun x => py X.K (enc x)) (vs := ws.eraseIdx i.toNat) (sl.gr g1) ho2 e1' h2' f2 (by
    rw [show (ys.eraseIdx i.toNat).map (fun x => py X.K (enc x)) = (ys.map fun x => py X.K (enc x)).eraseIdx i.toNat from map_erase ..]
    exact (h5'.mono g1.f).erase _)
  refine ⟨l, vs, y, rfl, rfl, by rw [upd_ne hne]; exact g1.h _ _ h4, by omega, ?_⟩
  have g3 := g2.write (o := .lst (vs ++ [y])) h2 f1
  refine h F0 H0 D σ F1 _ g3 (Sl.write s2 (by rw [List.getElem?_set_ne (fun z => hnm z.symm)]; exact ho) e1 h2 f1 ?_) k
  rw [List.map_append]; exact (h5.mono g1.f).snoc y2
/-- xs[-1] = e -/
theorem h_putL {α : Type} [Py α] {o : Ctl S R} (n : Nat) {x : Str} {xs : List α} {v : α} {np sp q1 q2 : Pos} (he : PV X Φ e v) (hz : 0 < xs.length) (h : HB X W (A :: r) (Φ.set n (sO X.K (xs.set (xs.length - 1) v))) M T o) (ho : Φ[n]? = some (sO X.K xs) := by rfl) (hN : X.N[n]? = some x := by rfl)
    (hv : Vis X.env.scope x := by first | exact Or.inl rfl | exact Or.inr (Or.inl rfl) | exact Or.inr (Or.inr rfl)) (hd : (x == ("__debug__" : Str)) = false := by decide) (hcd : (x == ("__classdict__" : Str)) = false := by decide)
    (ha : ∀ v, assign (.Subscript (.Name x np) (.UnaryOp .USub (.Constant (.int 1) 0 q1) q2) sp) X.env v = (do
      let ov ← holding [v] (eval (.Name x np) X.env)
      let iv ← holding [v, ov] (eval (.UnaryOp .USub (.Constant (.int 1) 0 q1) q2) X.env)
      standAt sp
      holding [v, ov, iv] (setItem ov iv v)
      release [v, ov, iv] []) := by intro _; rfl)
    (hs : swapsWithSole [.Subscript (.Name x np) (.UnaryOp .USub (.Constant (.int 1) 0 q1) q2) sp] e pos.line X.env = pure false := by rfl) (hw : swappedStores [.Subscript (.Name x np) (.UnaryOp .USub (.Constant (.int 1) 0 q1) q2) sp] e X.env = pure none := by rfl) : HB X W ((.Assign [.Subscript (.Name x np) (.UnaryOp .USub (.Constant (.int 1) 0 q1) q2) sp] e pos :: A) :: r) Φ M T o := .mk fun F0 H0 D σ F H g sl k => by
  obtain ⟨l, vs, h1, h2, h3, h4, h5⟩ := sl.ow ho
  have hlen : vs.length = xs.length := by simpa using h5.1
  refine wK_cons (wS_of (ps_asg peW (pg_sub (pe_var hN hv hd hcd) peW set_list ha) hs hw rfl) (he H0 σ F H _ g.s sl fun u F1 H1 g1 p1 => ⟨_, h1, v_neg (X := X) (Φ := Φ) v_int H0 σ F1 H1 _ g1.s (sl.gr g1) fun w F2 H2 g2 p2 => ?_⟩))
  cases p2
  have g12 := g1.trans g2
  have f2 : F2 l = none := g12.n l h3 (ne_none h4)
  refine ⟨l, vs, -1, xs.length - 1, rfl, rfl, g12.h _ _ h4, ?_, ?_⟩
  · unfold ixN
    rw [if_neg (by decide), if_pos (by omega)]
    congr 1; omega
  · refine h F0 H0 D σ F2 _ ((g.trans g12).write h2 f2) (Sl.write (sl.gr g12) ho h1 h2 f2 ?_) k
    rw [List.map_set]; exact (h5.mono g12.f).setV _ (dq_mono g2.f _ _ p1)
/-- x *= e, x += e -/
theorem h_aug {o : Ctl S R} {op : Operator} {v : Int} {ti : TIp} (n : Nat) {x : Str} {u : Int} (hN : X.N.Nodup) (he : PV X Φ e j) (hp : PIp X op ti) (hti : ∀ (H : Hp) (Q : VK), Q (.int v) H → ti (.int u) (.int j) H Q) (h : HB X W (A :: r) (Φ.set n (sI X.K v)) M T o) (ho : Φ[n]? = some (sI X.K u) := by rfl) (hi : X.N[n]? = some x := by rfl) (hx : Loc X.env.scope x := by first | exact Or.inl rfl | exact Or.inr rfl) (hf : X.fn x = true ∨ X.env.scope.names.lookup x = some .local := by first | exact .inl rfl | exact .inr rfl) :
    HB X W ((.AugAssign (.Name x p) op e pos :: A) :: r) Φ M T o := .mk fun F0 H0 D σ F H g sl k => by
  obtain ⟨w, h1, h2⟩ := sl.im ho
  cases h2
  exact wK_cons (wS_of (ps_aug hN hi hx peW hp hf) ⟨_, h1, he H0 σ F H _ g.s sl fun y F1 H1 g1 p1 => by
    cases p1
    exact hti _ _ (h F0 H0 D _ F1 H1 (g.trans g1) ((sl.gr g1).set ⟨_, rfl, .int _⟩ rfl) k)⟩)
theorem h_doc {o : Ctl S R} {x j pos'} (h : HB X W (A :: r) Φ M T o) : HB X W ((.Expr (.Constant (.str x) j pos) pos' :: A) :: r) Φ M T o := .mk fun F0 H0 D σ F H g sl k => wK_cons (wS_of ps_doc (h F0 H0 D σ F H g sl k))
theorem Wk.any0 {Φ : List SD} : Wk Φ (Φ.map fun _ => .un) := by
  induction Φ with
  | nil => exact .nil
  | cons d Φ ih => exact .drop ih
theorem h_appV {α : Type} [Py α] (n : Nat) {x : Str} {xs : List α} {v : α} {np apos : Pos} {k : List α → R} (he : PV X Φ e v) (hz : xs.length < sizeLine) (h : ∀ nm, nm = (xs ++ [v]) → HB X W (A :: r) (Φ.set n (sO X.K nm)) M T (.rt (k nm))) (ho : Φ[n]? = some (sO X.K xs) := by rfl) (hN : X.N[n]? = some x := by rfl) (hv : Vis X.env.scope x := by first | exact Or.inl rfl | exact Or.inr (Or.inl rfl) | exact Or.inr (Or.inr rfl)) (hd : (x == ("__debug__" : Str)) = false := by decide) (hcd : (x == ("__classdict__" : Str)) = false := by decide) (hst : nst e = true := by rfl) (hl : (apos.endLine == p.line) = true := by rfl) : HB X W ((.Expr (.Call (.Attribute (.Name x np) "append" apos) [e] [] p) pos :: A) :: r) Φ M T (.rt (bindV (xs ++ [v]) k)) := h_app n he hz (h _ rfl) ho hN hv hd hcd hst hl
theorem h_appC {α : Type} [Py α] (n : Nat) {x : Str} {xs : List α} {v : α} {np apos : Pos} {k : List α → Ctl S R} (he : PV X Φ e v) (hz : xs.length < sizeLine) (h : ∀ nm, nm = (xs ++ [v]) → HB X W (A :: r) (Φ.set n (sO X.K nm)) M T (k nm)) (ho : Φ[n]? = some (sO X.K xs) := by rfl) (hN : X.N[n]? = some x := by rfl) (hv : Vis X.env.scope x := by first | exact Or.inl rfl | exact Or.inr (Or.inl rfl) | exact Or.inr (Or.inr rfl)) (hd : (x == ("__debug__" : Str)) = false := by decide) (hcd : (x == ("__classdict__" : Str)) = false := by decide) (hst : nst e = true := by rfl) (hl : (apos.endLine == p.line) = true := by rfl) : HB X W ((.Expr (.Call (.Attribute (.Name x np) "append" apos) [e] [] p) pos :: A) :: r) Φ M T (bindV (xs ++ [v]) k) := h_app n he hz (h _ rfl) ho hN hv hd hcd hst hl
theorem h_appS {α : Type} [Py α] (n : Nat) {x : Str} {xs : List α} {v : α} {np apos : Pos} {k : List α → S} (he : PV X Φ e v) (hz : xs.length < sizeLine) (h : ∀ nm, nm = (xs ++ [v]) → HB X W (A :: r) (Φ.set n (sO X.K nm)) M T (.nx (k nm))) (ho : Φ[n]? = some (sO X.K xs) := by rfl) (hN : X.N[n]? = some x := by rfl) (hv : Vis X.env.scope x := by first | exact Or.inl rfl | exact Or.inr (Or.inl rfl) | exact Or.inr (Or.inr rfl)) (hd : (x == ("__debug__" : Str)) = false := by decide) (hcd : (x == ("__classdict__" : Str)) = false := by decide) (hst : nst e = true := by rfl) (hl : (apos.endLine == p.line) = true := by rfl) : HB X W ((.Expr (.Call (.Attribute (.Name x np) "append" apos) [e] [] p) pos :: A) :: r) Φ M T (.nx (bindV (xs ++ [v]) k)) := h_app n he hz (h _ rfl) ho hN hv hd hcd hst hl
theorem h_extV {α : Type} [Py α] (n : Nat) {x : Str} {xs ys : List α} {np apos : Pos} {k : List α → R} (he : PK X Φ e ys) (hz : xs.length + ys.length ≤ sizeLine) (h : ∀ nm, nm = (xs ++ ys) → HB X W (A :: r) (Φ.set n (sO X.K nm)) M T (.rt (k nm))) (ho : Φ[n]? = some (sO X.K xs) := by rfl) (hN : X.N[n]? = some x := by rfl) (hv : Vis X.env.scope x := by first | exact Or.inl rfl | exact Or.inr (Or.inl rfl) | exact Or.inr (Or.inr rfl)) (hd : (x == ("__debug__" : Str)) = false := by decide) (hcd : (x == ("__classdict__" : Str)) = false := by decide) (hst : nst e = true := by rfl) (hl : (apos.endLine == p.line) = true := by rfl) : HB X W ((.Expr (.Call (.Attribute (.Name x np) "extend" apos) [e] [] p) pos :: A) :: r) Φ M T (.rt (bindV (xs ++ ys) k)) := h_ext n he hz (h _ rfl) ho hN hv hd hcd hst hl
theorem h_extC {α : Type} [Py α] (n : Nat) {x : Str} {xs ys : List α} {np apos : Pos} {k : List α → Ctl S R} (he : PK X Φ e ys) (hz : xs.length + ys.length ≤ sizeLine) (h : ∀ nm, nm = (xs ++ ys) → HB X W (A :: r) (Φ.set n (sO X.K nm)) M T (k nm)) (ho : Φ[n]? = some (sO X.K xs) := by rfl) (hN : X.N[n]? = some x := by rfl) (hv : Vis X.env.scope x := by first | exact Or.inl rfl | exact Or.inr (Or.inl rfl) | exact Or.inr (Or.inr rfl)) (hd : (x == ("__debug__" : Str)) = false := by decide) (hcd : (x == ("__classdict__" : Str)) = false := by decide) (hst : nst e = true := by rfl) (hl : (apos.endLine == p.line) = true := by rfl) : HB X W ((.Expr (.Call (.Attribute (.Name x np) "extend" apos) [e] [] p) pos :: A) :: r) Φ M T (bindV (xs ++ ys) k) := h_ext n he hz (h _ rfl) ho hN hv hd hcd hst hl
theorem h_extS {α : Type} [Py α] (n : Nat) {x : Str} {xs ys : List α} {np apos : Pos} {k : List α → S} (he : PK X Φ e ys) (hz : xs.length + ys.length ≤ sizeLine) (h : ∀ nm, nm = (xs ++ ys) → HB X W (A :: r) (Φ.set n (sO X.K nm)) M T (.nx (k nm))) (ho : Φ[n]? = some (sO X.K xs) := by rfl) (hN : X.N[n]? = some x := by rfl) (hv : Vis X.env.scope x := by first | exact Or.inl rfl | exact Or.inr (Or.inl rfl) | exact Or.inr (Or.inr rfl)) (hd : (x == ("__debug__" : Str)) = false := by decide) (hcd : (x == ("__classdict__" : Str)) = false := by decide) (hst : nst e = true := by rfl) (hl : (apos.endLine == p.line) = true := by rfl) : HB X W ((.Expr (.Call (.Attribute (.Name x np) "extend" apos) [e] [] p) pos :: A) :: r) Φ M T (.nx (bindV (xs ++ ys) k)) := h_ext n he hz (h _ rfl) ho hN hv hd hcd hst hl
theorem h_putV {α : Type} [Py α] (n : Nat) {x : Str} {xs : List α} {v : α} {np sp : Pos} {k : List α → R} (he : PV X Φ e v) (hb : PV X Φ b i) (hz : 0 ≤ i ∧ i < xs.length) (h : ∀ nm, nm = (xs.set i.toNat v) → HB X W (A :: r) (Φ.set n (sO X.K nm)) M T (.rt (k nm))) (ho : Φ[n]? = some (sO X.K xs) := by rfl) (hN : X.N[n]? = some x := by rfl) (hv : Vis X.env.scope x := by first | exact Or.inl rfl | exact Or.inr (Or.inl rfl) | exact Or.inr (Or.inr rfl)) (hd : (x == ("__debug__" : Str)) = false := by decide) (hcd : (x == ("__classdict__" : Str)) = false := by decide) (ha : ∀ v, assign (.Subscript (.Name x np) b sp) X.env v = (do
      let ov ← holding [v] (eval (.Name x np) X.env)
      let iv ← holding [v, ov] (eval b X.env)
      standAt sp
      holding [v, ov, iv] (setItem ov iv v)
      release [v, ov, iv] []) := by intro _; rfl)
    (hs : swapsWithSole [.Subscript (.Name x np) b sp] e pos.line X.env = pure false := by rfl) (hw : swappedStores [.Subscript (.Name x np) b sp] e X.env = pure none := by rfl) : HB X W ((.Assign [.Subscript (.Name x np) b sp] e pos :: A) :: r) Φ M T (.rt (bindV (xs.set i.toNat v) k)) := h_put n he hb hz (h _ rfl) ho hN hv hd hcd ha hs hw
theorem h_putC {α : Type} [Py α] (n : Nat) {x : Str} {xs : List α} {v : α} {np sp : Pos} {k : List α → Ctl S R} (he : PV X Φ e v) (hb : PV X Φ b i) (hz : 0 ≤ i ∧ i < xs.length) (h : ∀ nm, nm = (xs.set i.toNat v) → HB X W (A :: r) (Φ.set n (sO X.K nm)) M T (k nm)) (ho : Φ[n]? = some (sO X.K xs) := by rfl) (hN : X.N[n]? = some x := by rfl) (hv : Vis X.env.scope x := by first | exact Or.inl rfl | exact Or.inr (Or.inl rfl) | exact Or.inr (Or.inr rfl)) (hd : (x == ("__debug__" : Str)) = false := by decide) (hcd : (x == ("__classdict__" : Str)) = false := by decide) (ha : ∀ v, assign (.Subscript (.Name x np) b sp) X.env v = (do
      let ov ← holding [v] (eval (.Name x np) X.env)
      let iv ← holding [v, ov] (eval b X.env)
      standAt sp
      holding [v, ov, iv] (setItem ov iv v)
      release [v, ov, iv] []) := by intro _; rfl)
    (hs : swapsWithSole [.Subscript (.Name x np) b sp] e pos.line X.env = pure false := by rfl) (hw : swappedStores [.Subscript (.Name x np) b sp] e X.env = pure none := by rfl) : HB X W ((.Assign [.Subscript (.Name x np) b sp] e pos :: A) :: r) Φ M T (bindV (xs.set i.toNat v) k) := h_put n he hb hz (h _ rfl) ho hN hv hd hcd ha hs hw
theorem h_putS {α : Type} [Py α] (n : Nat) {x : Str} {xs : List α} {v : α} {np sp : Pos} {k : List α → S} (he : PV X Φ e v) (hb : PV X Φ b i) (hz : 0 ≤ i ∧ i < xs.length) (h : ∀ nm, nm = (xs.set i.toNat v) → HB X W (A :: r) (Φ.set n (sO X.K nm)) M T (.nx (k nm))) (ho : Φ[n]? = some (sO X.K xs) := by rfl) (hN : X.N[n]? = some x := by rfl) (hv : Vis X.env.scope x := by first | exact Or.inl rfl | exact Or.inr (Or.inl rfl) | exact Or.inr (Or.inr rfl)) (hd : (x == ("__debug__" : Str)) = false := by decide) (hcd : (x == ("__classdict__" : Str)) = false := by decide) (ha : ∀ v, assign (.Subscript (.Name x np) b sp) X.env v = (do
      let ov ← holding [v] (eval (.Name x np) X.env)
      let iv ← holding [v, ov] (eval b X.env)
      standAt sp
      holding [v, ov, iv] (setItem ov iv v)
      release [v, ov, iv] []) := by intro _; rfl)
    (hs : swapsWithSole [.Subscript (.Name x np) b sp] e pos.line X.env = pure false := by rfl) (hw : swappedStores [.Subscript (.Name x np) b sp] e X.env = pure none := by rfl) : HB X W ((.Assign [.Subscript (.Name x np) b sp] e pos :: A) :: r) Φ M T (.nx (bindV (xs.set i.toNat v) k)) := h_put n he hb hz (h _ rfl) ho hN hv hd hcd ha hs hw
theorem h_putLV {α : Type} [Py α] (n : Nat) {x : Str} {xs : List α} {v : α} {np sp q1 q2 : Pos} {k : List α → R} (he : PV X Φ e v) (hz : 0 < xs.length) (h : ∀ nm, nm = (xs.set (xs.length - 1) v) → HB X W (A :: r) (Φ.set n (sO X.K nm)) M T (.rt (k nm))) (ho : Φ[n]? = some (sO X.K xs) := by rfl) (hN : X.N[n]? = some x := by rfl) (hv : Vis X.env.scope x := by first | exact Or.inl rfl | exact Or.inr (Or.inl rfl) | exact Or.inr (Or.inr rfl)) (hd : (x == ("__debug__" : Str)) = false := by decide) (hcd : (x == ("__classdict__" : Str)) = false := by decide) (ha : ∀ v, assign (.Subscript (.Name x np) (.UnaryOp .USub (.Constant (.int 1) 0 q1) q2) sp) X.env v = (do
      let ov ← holding [v] (eval (.Name x np) X.env)
      let iv ← holding [v, ov] (eval (.UnaryOp .USub (.Constant (.int 1) 0 q1) q2) X.env)
      standAt sp
      holding [v, ov, iv] (setItem ov iv v)
      release [v, ov, iv] []) := by intro _; rfl)
    (hs : swapsWithSole [.Subscript (.Name x np) (.UnaryOp .USub (.Constant (.int 1) 0 q1) q2) sp] e pos.line X.env = pure false := by rfl) (hw : swappedStores [.Subscript (.Name x np) (.UnaryOp .USub (.Constant (.int 1) 0 q1) q2) sp] e X.env = pure none := by rfl) : HB X W ((.Assign [.Subscript (.Name x np) (.UnaryOp .USub (.Constant (.int 1) 0 q1) q2) sp] e pos :: A) :: r) Φ M T (.rt (bindV (xs.set (xs.length - 1) v) k)) := h_putL n he hz (h _ rfl) ho hN hv hd hcd ha hs hw
theorem h_putLC {α : Type} [Py α] (n : Nat) {x : Str} {xs : List α} {v : α} {np sp q1 q2 : Pos} {k : List α → Ctl S R} (he : PV X Φ e v) (hz : 0 < xs.length) (h : ∀ nm, nm = (xs.set (xs.length - 1) v) → HB X W (A :: r) (Φ.set n (sO X.K nm)) M T (k nm)) (ho : Φ[n]? = some (sO X.K xs) := by rfl) (hN : X.N[n]? = some x := by rfl) (hv : Vis X.env.scope x := by first | exact Or.inl rfl | exact Or.inr (Or.inl rfl) | exact Or.inr (Or.inr rfl)) (hd : (x == ("__debug__" : Str)) = false := by decide) (hcd : (x == ("__classdict__" : Str)) = false := by decide) (ha : ∀ v, assign (.Subscript (.Name x np) (.UnaryOp .USub (.Constant (.int 1) 0 q1) q2) sp) X.env v = (do
      let ov ← holding [v] (eval (.Name x np) X.env)
      let iv ← holding [v, ov] (eval (.UnaryOp .USub (.Constant (.int 1) 0 q1) q2) X.env)
      standAt sp
      holding [v, ov, iv] (setItem ov iv v)
      release [v, ov, iv] []) := by intro _; rfl)
    (hs : swapsWithSole [.Subscript (.Name x np) (.UnaryOp .USub (.Constant (.int 1) 0 q1) q2) sp] e pos.line X.env = pure false := by rfl) (hw : swappedStores [.Subscript (.Name x np) (.UnaryOp .USub (.Constant (.int 1) 0 q1) q2) sp] e X.env = pure none := by rfl) : HB X W ((.Assign [.Subscript (.Name x np) (.UnaryOp .USub (.Constant (.int 1) 0 q1) q2) sp] e pos :: A) :: r) Φ M T (bindV (xs.set (xs.length - 1) v) k) := h_putL n he hz (h _ rfl) ho hN hv hd hcd ha hs hw
theorem h_putLS {α : Type} [Py α] (n : Nat) {x : Str} {xs : List α} {v : α} {np sp q1 q2 : Pos} {k : List α → S} (he : PV X Φ e v) (hz : 0 < xs.length) (h : ∀ nm, nm = (xs.set (xs.length - 1) v) → HB X W (A :: r) (Φ.set n (sO X.K nm)) M T (.nx (k nm))) (ho : Φ[n]? = some (sO X.K xs) := by rfl) (hN : X.N[n]? = some x := by rfl) (hv : Vis X.env.scope x := by first | exact Or.inl rfl | exact Or.inr (Or.inl rfl) | exact Or.inr (Or.inr rfl)) (hd : (x == ("__debug__" : Str)) = false := by decide) (hcd : (x == ("__classdict__" : Str)) = false := by decide) (ha : ∀ v, assign (.Subscript (.Name x np) (.UnaryOp .USub (.Constant (.int 1) 0 q1) q2) sp) X.env v = (do
      let ov ← holding [v] (eval (.Name x np) X.env)
      let iv ← holding [v, ov] (eval (.UnaryOp .USub (.Constant (.int 1) 0 q1) q2) X.env)
      standAt sp
      holding [v, ov, iv] (setItem ov iv v)
      release [v, ov, iv] []) := by intro _; rfl)
    (hs : swapsWithSole [.Subscript (.Name x np) (.UnaryOp .USub (.Constant (.int 1) 0 q1) q2) sp] e pos.line X.env = pure false := by rfl) (hw : swappedStores [.Subscript (.Name x np) (.UnaryOp .USub (.Constant (.int 1) 0 q1) q2) sp] e X.env = pure none := by rfl) : HB X W ((.Assign [.Subscript (.Name x np) (.UnaryOp .USub (.Constant (.int 1) 0 q1) q2) sp] e pos :: A) :: r) Φ M T (.nx (bindV (xs.set (xs.length - 1) v) k)) := h_putL n he hz (h _ rfl) ho hN hv hd hcd ha hs hw
theorem h_insV {α : Type} [Py α] (n : Nat) {x : Str} {xs : List α} {v : α} {np apos : Pos} {k : List α → R} (hb : PV X Φ b i) (he : PV X Φ e v) (hi : 0 ≤ i ∧ i < 2 ^ 63) (hz : xs.length < sizeLine) (h : ∀ nm, nm = (xs.take i.toNat ++ [v] ++ xs.drop i.toNat) → HB X W (A :: r) (Φ.set n (sO X.K nm)) M T (.rt (k nm))) (ho : Φ[n]? = some (sO X.K xs) := by rfl) (hN : X.N[n]? = some x := by rfl) (hv : Vis X.env.scope x := by first | exact Or.inl rfl | exact Or.inr (Or.inl rfl) | exact Or.inr (Or.inr rfl)) (hd : (x == ("__debug__" : Str)) = false := by decide) (hcd : (x == ("__classdict__" : Str)) = false := by decide) (hsb : nst b = true := by rfl) (hst : nst e = true := by rfl) (hl : (apos.endLine == p.line) = true := by rfl) (hfew : ((backTo p (starEach [b, e] X.env)).all (fun x => !x.1) && (backToKw p (keywordEach [] X.env)).all (fun x => x.1.isSome)
      && decide ([b, e].length + ([] : List Keyword).length + (if ([] : List Keyword).isEmpty then 0 else 1) < 30)) = true := by rfl) : HB X W ((.Expr (.Call (.Attribute (.Name x np) "insert" apos) [b, e] [] p) pos :: A) :: r) Φ M T (.rt (bindV (xs.take i.toNat ++ [v] ++ xs.drop i.toNat) k)) := h_ins n hb he hi hz (h _ rfl) ho hN hv hd hcd hsb hst hl hfew
theorem h_insC {α : Type} [Py α] (n : Nat) {x : Str} {xs : List α} {v : α} {np apos : Pos} {k : List α → Ctl S R} (hb : PV X Φ b i) (he : PV X Φ e v) (hi : 0 ≤ i ∧ i < 2 ^ 63) (hz : xs.length < sizeLine) (h : ∀ nm, nm = (xs.take i.toNat ++ [v] ++ xs.drop i.toNat) → HB X W (A :: r) (Φ.set n (sO X.K nm)) M T (k nm)) (ho : Φ[n]? = some (sO X.K xs) := by rfl) (hN : X.N[n]? = some x := by rfl) (hv : Vis X.env.scope x := by first | exact Or.inl rfl | exact Or.inr (Or.inl rfl) | exact Or.inr (Or.inr rfl)) (hd : (x == ("__debug__" : Str)) = false := by decide) (hcd : (x == ("__classdict__" : Str)) = false := by decide) (hsb : nst b = true := by rfl) (hst : nst e = true := by rfl) (hl : (apos.endLine == p.line) = true := by rfl) (hfew : ((backTo p (starEach [b, e] X.env)).all (fun x => !x.1) && (backToKw p (keywordEach [] X.env)).all (fun x => x.1.isSome)
      && decide ([b, e].length + ([] : List Keyword).length + (if ([] : List Keyword).isEmpty then 0 else 1) < 30)) = true := by rfl) : HB X W ((.Expr (.Call (.Attribute (.Name x np) "insert" apos) [b, e] [] p) pos :: A) :: r) Φ M T (bindV (xs.take i.toNat ++ [v] ++ xs.drop i.toNat) k) := h_ins n hb he hi hz (h _ rfl) ho hN hv hd hcd hsb hst hl hfew
theorem h_insS {α : Type} [Py α] (n : Nat) {x : Str} {xs : List α} {v : α} {np apos : Pos} {k : List α → S} (hb : PV X Φ b i) (he : PV X Φ e v) (hi : 0 ≤ i ∧ i < 2 ^ 63) (hz : xs.length < sizeLine) (h : ∀ nm, nm = (xs.take i.toNat ++ [v] ++ xs.drop i.toNat) → HB X W (A :: r) (Φ.set n (sO X.K nm)) M T (.nx (k nm))) (ho : Φ[n]? = some (sO X.K xs) := by rfl) (hN : X.N[n]? = some x := by rfl) (hv : Vis X.env.scope x := by first | exact Or.inl rfl | exact Or.inr (Or.inl rfl) | exact Or.inr (Or.inr rfl)) (hd : (x == ("__debug__" : Str)) = false := by decide) (hcd : (x == ("__classdict__" : Str)) = false := by decide) (hsb : nst b = true := by rfl) (hst : nst e = true := by rfl) (hl : (apos.endLine == p.line) = true := by rfl) (hfew : ((backTo p (starEach [b, e] X.env)).all (fun x => !x.1) && (backToKw p (keywordEach [] X.env)).all (fun x => x.1.isSome)
      && decide ([b, e].length + ([] : List Keyword).length + (if ([] : List Keyword).isEmpty then 0 else 1) < 30)) = true := by rfl) : HB X W ((.Expr (.Call (.Attribute (.Name x np) "insert" apos) [b, e] [] p) pos :: A) :: r) Φ M T (.nx (bindV (xs.take i.toNat ++ [v] ++ xs.drop i.toNat) k)) := h_ins n hb he hi hz (h _ rfl) ho hN hv hd hcd hsb hst hl hfew
theorem h_clrV {α : Type} [Py α] (n : Nat) {x : Str} {xs : List α} {np apos : Pos} {k : List α → R}  (h : ∀ nm, nm = ([] : List α) → HB X W (A :: r) (Φ.set n (sO X.K nm)) M T (.rt (k nm))) (ho : Φ[n]? = some (sO X.K xs) := by rfl) (hN : X.N[n]? = some x := by rfl) (hv : Vis X.env.scope x := by first | exact Or.inl rfl | exact Or.inr (Or.inl rfl) | exact Or.inr (Or.inr rfl)) (hd : (x == ("__debug__" : Str)) = false := by decide) (hcd : (x == ("__classdict__" : Str)) = false := by decide) (hl : (apos.endLine == p.line) = true := by rfl) : HB X W ((.Expr (.Call (.Attribute (.Name x np) "clear" apos) [] [] p) pos :: A) :: r) Φ M T (.rt (bindV ([] : List α) k)) := h_clr n (h _ rfl) ho hN hv hd hcd hl
theorem h_clrC {α : Type} [Py α] (n : Nat) {x : Str} {xs : List α} {np apos : Pos} {k : List α → Ctl S R}  (h : ∀ nm, nm = ([] : List α) → HB X W (A :: r) (Φ.set n (sO X.K nm)) M T (k nm)) (ho : Φ[n]? = some (sO X.K xs) := by rfl) (hN : X.N[n]? = some x := by rfl) (hv : Vis X.env.scope x := by first | exact Or.inl rfl | exact Or.inr (Or.inl rfl) | exact Or.inr (Or.inr rfl)) (hd : (x == ("__debug__" : Str)) = false := by decide) (hcd : (x == ("__classdict__" : Str)) = false := by decide) (hl : (apos.endLine == p.line) = true := by rfl) : HB X W ((.Expr (.Call (.Attribute (.Name x np) "clear" apos) [] [] p) pos :: A) :: r) Φ M T (bindV ([] : List α) k) := h_clr n (h _ rfl) ho hN hv hd hcd hl
theorem h_clrS {α : Type} [Py α] (n : Nat) {x : Str} {xs : List α} {np apos : Pos} {k : List α → S}  (h : ∀ nm, nm = ([] : List α) → HB X W (A :: r) (Φ.set n (sO X.K nm)) M T (.nx (k nm))) (ho : Φ[n]? = some (sO X.K xs) := by rfl) (hN : X.N[n]? = some x := by rfl) (hv : Vis X.env.scope x := by first | exact Or.inl rfl | exact Or.inr (Or.inl rfl) | exact Or.inr (Or.inr rfl)) (hd : (x == ("__debug__" : Str)) = false := by decide) (hcd : (x == ("__classdict__" : Str)) = false := by decide) (hl : (apos.endLine == p.line) = true := by rfl) : HB X W ((.Expr (.Call (.Attribute (.Name x np) "clear" apos) [] [] p) pos :: A) :: r) Φ M T (.nx (bindV ([] : List α) k)) := h_clr n (h _ rfl) ho hN hv hd hcd hl
theorem h_augAV (n : Nat) {x : Str} {u : Int} {k : Int → R} (hN : X.N.Nodup) (he : PV X Φ e j) (h : ∀ nm, nm = (u + j) → HB X W (A :: r) (Φ.set n (sI X.K nm)) M T (.rt (k nm))) (ho : Φ[n]? = some (sI X.K u) := by rfl) (hi : X.N[n]? = some x := by rfl) (hx : Loc X.env.scope x := by first | exact Or.inl rfl | exact Or.inr rfl) (hf : X.fn x = true ∨ X.env.scope.names.lookup x = some .local := by first | exact .inl rfl | exact .inr rfl) : HB X W ((.AugAssign (.Name x p) .Add e pos :: A) :: r) Φ M T (.rt (bindV (u + j) k)) := h_aug n hN he ip_add (fun H Q q => ⟨u, j, rfl, rfl, q⟩) (h _ rfl) ho hi hx hf
theorem h_augAC (n : Nat) {x : Str} {u : Int} {k : Int → Ctl S R} (hN : X.N.Nodup) (he : PV X Φ e j) (h : ∀ nm, nm = (u + j) → HB X W (A :: r) (Φ.set n (sI X.K nm)) M T (k nm)) (ho : Φ[n]? = some (sI X.K u) := by rfl) (hi : X.N[n]? = some x := by rfl) (hx : Loc X.env.scope x := by first | exact Or.inl rfl | exact Or.inr rfl) (hf : X.fn x = true ∨ X.env.scope.names.lookup x = some .local := by first | exact .inl rfl | exact .inr rfl) : HB X W ((.AugAssign (.Name x p) .Add e pos :: A) :: r) Φ M T (bindV (u + j) k) := h_aug n hN he ip_add (fun H Q q => ⟨u, j, rfl, rfl, q⟩) (h _ rfl) ho hi hx hf
theorem h_augAS (n : Nat) {x : Str} {u : Int} {k : Int → S} (hN : X.N.Nodup) (he : PV X Φ e j) (h : ∀ nm, nm = (u + j) → HB X W (A :: r) (Φ.set n (sI X.K nm)) M T (.nx (k nm))) (ho : Φ[n]? = some (sI X.K u) := by rfl) (hi : X.N[n]? = some x := by rfl) (hx : Loc X.env.scope x := by first | exact Or.inl rfl | exact Or.inr rfl) (hf : X.fn x = true ∨ X.env.scope.names.lookup x = some .local := by first | exact .inl rfl | exact .inr rfl) : HB X W ((.AugAssign (.Name x p) .Add e pos :: A) :: r) Φ M T (.nx (bindV (u + j) k)) := h_aug n hN he ip_add (fun H Q q => ⟨u, j, rfl, rfl, q⟩) (h _ rfl) ho hi hx hf
theorem h_lcV {α β : Type} [Py α] [Py β] {xs : List α} {f : α → β} {k : List β → R} {elt : Expr} {scope : Scope} (n : Nat) {x : Str} {py_ spos : Pos} (own : List (Str × Nat)) (us : α → List (Nat × SD)) (hc : X.calm = true) (hN : X.N.Nodup) (ok : BlkOk X.N X.env.scope scope own) (hi : PIt X Φ tg iter xs) (hz : xs.length ≤ sizeLine)
    (hg : ∀ x, ∀ (s : Shared) (H : Hp) (C : Addr) (cl : List (Str × Addr)) (fp : List Addr), PGt (X.blk s H scope (compEnvC scope cl C X.env) fp) tg x (us x)) (hu : ∀ x, ∀ u ∈ us x, u.1 ∈ own.map (·.2))
    (he : ∀ x, x ∈ xs → ∀ (s : Shared) (H : Hp) (C : Addr) (cl : List (Str × Addr)) (fp : List Addr), PEv (X.blk s H scope (compEnvC scope cl C X.env) fp) (setAll (wipeS Φ (own.map (·.2))) (us x)) elt (py X.K (enc (f x))))
    (h : ∀ nm, nm = (xs.map f) → HB X W (A :: r) (Φ.set n (sO X.K nm)) M T (.rt (k nm)))
    (hn : X.N[n]? = some x := by rfl) (hl : X.env.scope.names.lookup x = some .local := by rfl) (hsw : swapsWith (.ListComp elt [⟨tg, iter, [], 0⟩] scope pos) (some (.Name x py_)) spos.line X.env = pure true := by exact sw_true rfl rfl rfl (by decide +kernel)) (hs : ∀ x, foldedSetIterable iter X.env x = pure x := by intro _; rfl) :
    HB X W ((.Assign [.Name x py_] (.ListComp elt [⟨tg, iter, [], 0⟩] scope pos) spos :: A) :: r) Φ M T (.rt (bindV (xs.map f) k)) := h_lc n own us hc hN ok hi hz hg hu he (h _ rfl) hn hl hsw hs
theorem h_lcIfV {α β : Type} [Py α] [Py β] {xs : List α} {cnd : α → Bool} {f : α → β} {k : List β → R} {elt : Expr} {scope : Scope} (n : Nat) {x : Str} {py_ spos : Pos} (own : List (Str × Nat)) (us : α → List (Nat × SD)) (hc : X.calm = true) (hN : X.N.Nodup) (ok : BlkOk X.N X.env.scope scope own) (hi : PIt X Φ tg iter xs) (hz : xs.length ≤ sizeLine)
    (hg : ∀ x, ∀ (s : Shared) (H : Hp) (C : Addr) (cl : List (Str × Addr)) (fp : List Addr), PGt (X.blk s H scope (compEnvC scope cl C X.env) fp) tg x (us x)) (hu : ∀ x, ∀ u ∈ us x, u.1 ∈ own.map (·.2))
    (ht : ∀ x, x ∈ xs → ∀ (s : Shared) (H : Hp) (C : Addr) (cl : List (Str × Addr)) (fp : List Addr), PTv (X.blk s H scope (compEnvC scope cl C X.env) fp) (setAll (wipeS Φ (own.map (·.2))) (us x)) c (cnd x))
    (he : ∀ x, x ∈ xs → cnd x = true → ∀ (s : Shared) (H : Hp) (C : Addr) (cl : List (Str × Addr)) (fp : List Addr), PEv (X.blk s H scope (compEnvC scope cl C X.env) fp) (setAll (wipeS Φ (own.map (·.2))) (us x)) elt (py X.K (enc (f x))))
    (h : ∀ nm, nm = ((xs.filter cnd).map f) → HB X W (A :: r) (Φ.set n (sO X.K nm)) M T (.rt (k nm)))
    (hn : X.N[n]? = some x := by rfl) (hl : X.env.scope.names.lookup x = some .local := by rfl) (hsw : swapsWith (.ListComp elt [⟨tg, iter, [c], 0⟩] scope pos) (some (.Name x py_)) spos.line X.env = pure true := by exact sw_true rfl rfl rfl (by decide +kernel)) (hs : ∀ x, foldedSetIterable iter X.env x = pure x := by intro _; rfl) :
    HB X W ((.Assign [.Name x py_] (.ListComp elt [⟨tg, iter, [c], 0⟩] scope pos) spos :: A) :: r) Φ M T (.rt (bindV ((xs.filter cnd).map f) k)) := h_lcIf n own us hc hN ok hi hz hg hu ht he (h _ rfl) hn hl hsw hs
theorem h_popV {α : Type} [Py α] [Inhabited α] {us : α → List (Nat × SD)} {k : α → List α → R} (n : Nat) {x : Str} {xs : List α} {np apos cpos : Pos} (hb : PV X Φ b i) (hi : 0 ≤ i ∧ i < xs.length) (hz : xs.length ≤ 2 ^ 62) (hg : ∀ z, PGv X tg (py X.K (enc z)) (us z))
    (h : ∀ nm, nm = ix xs i → ∀ nm2, nm2 = xs.eraseIdx i.toNat → HB X W (A :: r) (setAll (Φ.set n (sO X.K nm2)) (us nm)) M T (.rt (k nm nm2))) (ho : Φ[n]? = some (sO X.K xs) := by rfl) (hN : X.N[n]? = some x := by rfl)
    (hv : Vis X.env.scope x := by first | exact Or.inl rfl | exact Or.inr (Or.inl rfl) | exact Or.inr (Or.inr rfl)) (hd : (x == ("__debug__" : Str)) = false := by decide) (hcd : (x == ("__classdict__" : Str)) = false := by decide)
    (hsb : nst b = true := by rfl) (hl : (apos.endLine == cpos.line) = true := by rfl)
    (hs : swapsWithSole [tg] (.Call (.Attribute (.Name x np) "pop" apos) [b] [] cpos) pos.line X.env = pure false := by rfl) (hw : swappedStores [tg] (.Call (.Attribute (.Name x np) "pop" apos) [b] [] cpos) X.env = pure none := by rfl)
    (h1 : (assignEach [tg] X.env).map (·.2) = [assign tg X.env] := by rfl) : HB X W ((.Assign [tg] (.Call (.Attribute (.Name x np) "pop" apos) [b] [] cpos) pos :: A) :: r) Φ M T (.rt (bindV (ix xs i) fun nm => bindV (xs.eraseIdx i.toNat) fun nm2 => k nm nm2)) := h_pop n hb hi (hg _) (h _ rfl _ rfl) hz ho hN hv hd hcd hsb hl hs hw h1
theorem h_appPopV {α : Type} [Py α] [Inhabited α] {k : List α → List α → R} (n m : Nat) {x y : Str} {xs ys : List α} {np apos np2 apos2 cpos : Pos} (hnm : n ≠ m) (hb : PV X Φ b i) (hi : 0 ≤ i ∧ i < ys.length) (hz : xs.length < sizeLine) (hy : ys.length ≤ 2 ^ 62)
    (h : ∀ nm, nm = xs ++ [ix ys i] → ∀ nm2, nm2 = ys.eraseIdx i.toNat → HB X W (A :: r) ((Φ.set m (sO X.K nm2)).set n (sO X.K nm)) M T (.rt (k nm nm2))) (ho : Φ[n]? = some (sO X.K xs) := by rfl) (ho2 : Φ[m]? = some (sO X.K ys) := by rfl) (hN : X.N[n]? = some x := by rfl) (hN2 : X.N[m]? = some y := by rfl)
    (hv : Vis X.env.scope x := by first | exact Or.inl rfl | exact Or.inr (Or.inl rfl) | exact Or.inr (Or.inr rfl)) (hd : (x == ("__debug__" : Str)) = false := by decide) (hcd : (x == ("__classdict__" : Str)) = false := by decide)
    (hv2 : Vis X.env.scope y := by first | exact Or.inl rfl | exact Or.inr (Or.inl rfl) | exact Or.inr (Or.inr rfl)) (hd2 : (y == ("__debug__" : Str)) = false := by decide) (hcd2 : (y == ("__classdict__" : Str)) = false := by decide)
    (hsb : nst b = true := by rfl) (hl : (apos.endLine == p.line) = true := by rfl) (hl2 : (apos2.endLine == cpos.line) = true := by rfl) :
    HB X W ((.Expr (.Call (.Attribute (.Name x np) "append" apos) [.Call (.Attribute (.Name y np2) "pop" apos2) [b] [] cpos] [] p) pos :: A) :: r) Φ M T (.rt (bindV (xs ++ [ix ys i]) fun nm => bindV (ys.eraseIdx i.toNat) fun nm2 => k nm nm2)) := h_appPop n m hnm hb hi hz hy (h _ rfl _ rfl) ho ho2 hN hN2 hv hd hcd hv2 hd2 hcd2 hsb hl hl2
theorem h_lcC {α β : Type} [Py α] [Py β] {xs : List α} {f : α → β} {k : List β → Ctl S R} {elt : Expr} {scope : Scope} (n : Nat) {x : Str} {py_ spos : Pos} (own : List (Str × Nat)) (us : α → List (Nat × SD)) (hc : X.calm = true) (hN : X.N.Nodup) (ok : BlkOk X.N X.env.scope scope own) (hi : PIt X Φ tg iter xs) (hz : xs.length ≤ sizeLine)
    (hg : ∀ x, ∀ (s : Shared) (H : Hp) (C : Addr) (cl : List (Str × Addr)) (fp : List Addr), PGt (X.blk s H scope (compEnvC scope cl C X.env) fp) tg x (us x)) (hu : ∀ x, ∀ u ∈ us x, u.1 ∈ own.map (·.2))
    (he : ∀ x, x ∈ xs → ∀ (s : Shared) (H : Hp) (C : Addr) (cl : List (Str × Addr)) (fp : List Addr), PEv (X.blk s H scope (compEnvC scope cl C X.env) fp) (setAll (wipeS Φ (own.map (·.2))) (us x)) elt (py X.K (enc (f x))))
    (h : ∀ nm, nm = (xs.map f) → HB X W (A :: r) (Φ.set n (sO X.K nm)) M T (k nm))
    (hn : X.N[n]? = some x := by rfl) (hl : X.env.scope.names.lookup x = some .local := by rfl) (hsw : swapsWith (.ListComp elt [⟨tg, iter, [], 0⟩] scope pos) (some (.Name x py_)) spos.line X.env = pure true := by exact sw_true rfl rfl rfl (by decide +kernel)) (hs : ∀ x, foldedSetIterable iter X.env x = pure x := by intro _; rfl) :
    HB X W ((.Assign [.Name x py_] (.ListComp elt [⟨tg, iter, [], 0⟩] scope pos) spos :: A) :: r) Φ M T (bindV (xs.map f) k) := h_lc n own us hc hN ok hi hz hg hu he (h _ rfl) hn hl hsw hs
theorem h_lcIfC {α β : Type} [Py α] [Py β] {xs : List α} {cnd : α → Bool} {f : α → β} {k : List β → Ctl S R} {elt : Expr} {scope : Scope} (n : Nat) {x : Str} {py_ spos : Pos} (own : List (Str × Nat)) (us : α → List (Nat × SD)) (hc : X.calm = true) (hN : X.N.Nodup) (ok : BlkOk X.N X.env.scope scope own) (hi : PIt X Φ tg iter xs) (hz : xs.length ≤ sizeLine)
    (hg : ∀ x, ∀ (s : Shared) (H : Hp) (C : Addr) (cl : List (Str × Addr)) (fp : List Addr), PGt (X.blk s H scope (compEnvC scope cl C X.env) fp) tg x (us x)) (hu : ∀ x, ∀ u ∈ us x, u.1 ∈ own.map (·.2))
    (ht : ∀ x, x ∈ xs → ∀ (s : Shared) (H : Hp) (C : Addr) (cl : List (Str × Addr)) (fp : List Addr), PTv (X.blk s H scope (compEnvC scope cl C X.env) fp) (setAll (wipeS Φ (own.map (·.2))) (us x)) c (cnd x))
    (he : ∀ x, x ∈ xs → cnd x = true → ∀ (s : Shared) (H : Hp) (C : Addr) (cl : List (Str × Addr)) (fp : List Addr), PEv (X.blk s H scope (compEnvC scope cl C X.env) fp) (setAll (wipeS Φ (own.map (·.2))) (us x)) elt (py X.K (enc (f x))))
    (h : ∀ nm, nm = ((xs.filter cnd).map f) → HB X W (A :: r) (Φ.set n (sO X.K nm)) M T (k nm))
    (hn : X.N[n]? = some x := by rfl) (hl : X.env.scope.names.lookup x = some .local := by rfl) (hsw : swapsWith (.ListComp elt [⟨tg, iter, [c], 0⟩] scope pos) (some (.Name x py_)) spos.line X.env = pure true := by exact sw_true rfl rfl rfl (by decide +kernel)) (hs : ∀ x, foldedSetIterable iter X.env x = pure x := by intro _; rfl) :
    HB X W ((.Assign [.Name x py_] (.ListComp elt [⟨tg, iter, [c], 0⟩] scope pos) spos :: A) :: r) Φ M T (bindV ((xs.filter cnd).map f) k) := h_lcIf n own us hc hN ok hi hz hg hu ht he (h _ rfl) hn hl hsw hs
theorem h_popC {α : Type} [Py α] [Inhabited α] {us : α → List (Nat × SD)} {k : α → List α → Ctl S R} (n : Nat) {x : Str} {xs : List α} {np apos cpos : Pos} (hb : PV X Φ b i) (hi : 0 ≤ i ∧ i < xs.length) (hz : xs.length ≤ 2 ^ 62) (hg : ∀ z, PGv X tg (py X.K (enc z)) (us z))
    (h : ∀ nm, nm = ix xs i → ∀ nm2, nm2 = xs.eraseIdx i.toNat → HB X W (A :: r) (setAll (Φ.set n (sO X.K nm2)) (us nm)) M T (k nm nm2)) (ho : Φ[n]? = some (sO X.K xs) := by rfl) (hN : X.N[n]? = some x := by rfl)
    (hv : Vis X.env.scope x := by first | exact Or.inl rfl | exact Or.inr (Or.inl rfl) | exact Or.inr (Or.inr rfl)) (hd : (x == ("__debug__" : Str)) = false := by decide) (hcd : (x == ("__classdict__" : Str)) = false := by decide)
    (hsb : nst b = true := by rfl) (hl : (apos.endLine == cpos.line) = true := by rfl)
    (hs : swapsWithSole [tg] (.Call (.Attribute (.Name x np) "pop" apos) [b] [] cpos) pos.line X.env = pure false := by rfl) (hw : swappedStores [tg] (.Call (.Attribute (.Name x np) "pop" apos) [b] [] cpos) X.env = pure none := by rfl)
    (h1 : (assignEach [tg] X.env).map (·.2) = [assign tg X.env] := by rfl) : HB X W ((.Assign [tg] (.Call (.Attribute (.Name x np) "pop" apos) [b] [] cpos) pos :: A) :: r) Φ M T (bindV (ix xs i) fun nm => bindV (xs.eraseIdx i.toNat) fun nm2 => k nm nm2) := h_pop n hb hi (hg _) (h _ rfl _ rfl) hz ho hN hv hd hcd hsb hl hs hw h1
theorem h_appPopC {α : Type} [Py α] [Inhabited α] {k : List α → List α → Ctl S R} (n m : Nat) {x y : Str} {xs ys : List α} {np apos np2 apos2 cpos : Pos} (hnm : n ≠ m) (hb : PV X Φ b i) (hi : 0 ≤ i ∧ i < ys.length) (hz : xs.length < sizeLine) (hy : ys.length ≤ 2 ^ 62)
    (h : ∀ nm, nm = xs ++ [ix ys i] → ∀ nm2, nm2 = ys.eraseIdx i.toNat → HB X W (A :: r) ((Φ.set m (sO X.K nm2)).set n (sO X.K nm)) M T (k nm nm2)) (ho : Φ[n]? = some (sO X.K xs) := by rfl) (ho2 : Φ[m]? = some (sO X.K ys) := by rfl) (hN : X.N[n]? = some x := by rfl) (hN2 : X.N[m]? = some y := by rfl)
    (hv : Vis X.env.scope x := by first | exact Or.inl rfl | exact Or.inr (Or.inl rfl) | exact Or.inr (Or.inr rfl)) (hd : (x == ("__debug__" : Str)) = false := by decide) (hcd : (x == ("__classdict__" : Str)) = false := by decide)
    (hv2 : Vis X.env.scope y := by first | exact Or.inl rfl | exact Or.inr (Or.inl rfl) | exact Or.inr (Or.inr rfl)) (hd2 : (y == ("__debug__" : Str)) = false := by decide) (hcd2 : (y == ("__classdict__" : Str)) = false := by decide)
    (hsb : nst b = true := by rfl) (hl : (apos.endLine == p.line) = true := by rfl) (hl2 : (apos2.endLine == cpos.line) = true := by rfl) :
    HB X W ((.Expr (.Call (.Attribute (.Name x np) "append" apos) [.Call (.Attribute (.Name y np2) "pop" apos2) [b] [] cpos] [] p) pos :: A) :: r) Φ M T (bindV (xs ++ [ix ys i]) fun nm => bindV (ys.eraseIdx i.toNat) fun nm2 => k nm nm2) := h_appPop n m hnm hb hi hz hy (h _ rfl _ rfl) ho ho2 hN hN2 hv hd hcd hv2 hd2 hcd2 hsb hl hl2
theorem h_lcS {α β : Type} [Py α] [Py β] {xs : List α} {f : α → β} {k : List β → S} {elt : Expr} {scope : Scope} (n : Nat) {x : Str} {py_ spos : Pos} (own : List (Str × Nat)) (us : α → List (Nat × SD)) (hc : X.calm = true) (hN : X.N.Nodup) (ok : BlkOk X.N X.env.scope scope own) (hi : PIt X Φ tg iter xs) (hz : xs.length ≤ sizeLine)
    (hg : ∀ x, ∀ (s : Shared) (H : Hp) (C : Addr) (cl : List (Str × Addr)) (fp : List Addr), PGt (X.blk s H scope (compEnvC scope cl C X.env) fp) tg x (us x)) (hu : ∀ x, ∀ u ∈ us x, u.1 ∈ own.map (·.2))
    (he : ∀ x, x ∈ xs → ∀ (s : Shared) (H : Hp) (C : Addr) (cl : List (Str × Addr)) (fp : List Addr), PEv (X.blk s H scope (compEnvC scope cl C X.env) fp) (setAll (wipeS Φ (own.map (·.2))) (us x)) elt (py X.K (enc (f x))))
    (h : ∀ nm, nm = (xs.map f) → HB X W (A :: r) (Φ.set n (sO X.K nm)) M T (.nx (k nm)))
    (hn : X.N[n]? = some x := by rfl) (hl : X.env.scope.names.lookup x = some .local := by rfl) (hsw : swapsWith (.ListComp elt [⟨tg, iter, [], 0⟩] scope pos) (some (.Name x py_)) spos.line X.env = pure true := by exact sw_true rfl rfl rfl (by decide +kernel)) (hs : ∀ x, foldedSetIterable iter X.env x = pure x := by intro _; rfl) :
    HB X W ((.Assign [.Name x py_] (.ListComp elt [⟨tg, iter, [], 0⟩] scope pos) spos :: A) :: r) Φ M T (.nx (bindV (xs.map f) k)) := h_lc n own us hc hN ok hi hz hg hu he (h _ rfl) hn hl hsw hs
theorem h_lcIfS {α β : Type} [Py α] [Py β] {xs : List α} {cnd : α → Bool} {f : α → β} {k : List β → S} {elt : Expr} {scope : Scope} (n : Nat) {x : Str} {py_ spos : Pos} (own : List (Str × Nat)) (us : α → List (Nat × SD)) (hc : X.calm = true) (hN : X.N.Nodup) (ok : BlkOk X.N X.env.scope scope own) (hi : PIt X Φ tg iter xs) (hz : xs.length ≤ sizeLine)
    (hg : ∀ x, ∀ (s : Shared) (H : Hp) (C : Addr) (cl : List (Str × Addr)) (fp : List Addr), PGt (X.blk s H scope (compEnvC scope cl C X.env) fp) tg x (us x)) (hu : ∀ x, ∀ u ∈ us x, u.1 ∈ own.map (·.2))
    (ht : ∀ x, x ∈ xs → ∀ (s : Shared) (H : Hp) (C : Addr) (cl : List (Str × Addr)) (fp : List Addr), PTv (X.blk s H scope (compEnvC scope cl C X.env) fp) (setAll (wipeS Φ (own.map (·.2))) (us x)) c (cnd x))
    (he : ∀ x, x ∈ xs → cnd x = true → ∀ (s : Shared) (H : Hp) (C : Addr) (cl : List (Str × Addr)) (fp : List Addr), PEv (X.blk s H scope (compEnvC scope cl C X.env) fp) (setAll (wipeS Φ (own.map (·.2))) (us x)) elt (py X.K (enc (f x))))
    (h : ∀ nm, nm = ((xs.filter cnd).map f) → HB X W (A :: r) (Φ.set n (sO X.K nm)) M T (.nx (k nm)))
    (hn : X.N[n]? = some x := by rfl) (hl : X.env.scope.names.lookup x = some .local := by rfl) (hsw : swapsWith (.ListComp elt [⟨tg, iter, [c], 0⟩] scope pos) (some (.Name x py_)) spos.line X.env = pure true := by exact sw_true rfl rfl rfl (by decide +kernel)) (hs : ∀ x, foldedSetIterable iter X.env x = pure x := by intro _; rfl) :
    HB X W ((.Assign [.Name x py_] (.ListComp elt [⟨tg, iter, [c], 0⟩] scope pos) spos :: A) :: r) Φ M T (.nx (bindV ((xs.filter cnd).map f) k)) := h_lcIf n own us hc hN ok hi hz hg hu ht he (h _ rfl) hn hl hsw hs
theorem h_popS {α : Type} [Py α] [Inhabited α] {us : α → List (Nat × SD)} {k : α → List α → S} (n : Nat) {x : Str} {xs : List α} {np apos cpos : Pos} (hb : PV X Φ b i) (hi : 0 ≤ i ∧ i < xs.length) (hz : xs.length ≤ 2 ^ 62) (hg : ∀ z, PGv X tg (py X.K (enc z)) (us z))
    (h : ∀ nm, nm = ix xs i → ∀ nm2, nm2 = xs.eraseIdx i.toNat → HB X W (A :: r) (setAll (Φ.set n (sO X.K nm2)) (us nm)) M T (.nx (k nm nm2))) (ho : Φ[n]? = some (sO X.K xs) := by rfl) (hN : X.N[n]? = some x := by rfl)
    (hv : Vis X.env.scope x := by first | exact Or.inl rfl | exact Or.inr (Or.inl rfl) | exact Or.inr (Or.inr rfl)) (hd : (x == ("__debug__" : Str)) = false := by decide) (hcd : (x == ("__classdict__" : Str)) = false := by decide)
    (hsb : nst b = true := by rfl) (hl : (apos.endLine == cpos.line) = true := by rfl)
    (hs : swapsWithSole [tg] (.Call (.Attribute (.Name x np) "pop" apos) [b] [] cpos) pos.line X.env = pure false := by rfl) (hw : swappedStores [tg] (.Call (.Attribute (.Name x np) "pop" apos) [b] [] cpos) X.env = pure none := by rfl)
    (h1 : (assignEach [tg] X.env).map (·.2) = [assign tg X.env] := by rfl) : HB X W ((.Assign [tg] (.Call (.Attribute (.Name x np) "pop" apos) [b] [] cpos) pos :: A) :: r) Φ M T (.nx (bindV (ix xs i) fun nm => bindV (xs.eraseIdx i.toNat) fun nm2 => k nm nm2)) := h_pop n hb hi (hg _) (h _ rfl _ rfl) hz ho hN hv hd hcd hsb hl hs hw h1
theorem h_appPopS {α : Type} [Py α] [Inhabited α] {k : List α → List α → S} (n m : Nat) {x y : Str} {xs ys : List α} {np apos np2 apos2 cpos : Pos} (hnm : n ≠ m) (hb : PV X Φ b i) (hi : 0 ≤ i ∧ i < ys.length) (hz : xs.length < sizeLine) (hy : ys.length ≤ 2 ^ 62)
    (h : ∀ nm, nm = xs ++ [ix ys i] → ∀ nm2, nm2 = ys.eraseIdx i.toNat → HB X W (A :: r) ((Φ.set m (sO X.K nm2)).set n (sO X.K nm)) M T (.nx (k nm nm2))) (ho : Φ[n]? = some (sO X.K xs) := by rfl) (ho2 : Φ[m]? = some (sO X.K ys) := by rfl) (hN : X.N[n]? = some x := by rfl) (hN2 : X.N[m]? = some y := by rfl)
    (hv : Vis X.env.scope x := by first | exact Or.inl rfl | exact Or.inr (Or.inl rfl) | exact Or.inr (Or.inr rfl)) (hd : (x == ("__debug__" : Str)) = false := by decide) (hcd : (x == ("__classdict__" : Str)) = false := by decide)
    (hv2 : Vis X.env.scope y := by first | exact Or.inl rfl | exact Or.inr (Or.inl rfl) | exact Or.inr (Or.inr rfl)) (hd2 : (y == ("__debug__" : Str)) = false := by decide) (hcd2 : (y == ("__classdict__" : Str)) = false := by decide)
    (hsb : nst b = true := by rfl) (hl : (apos.endLine == p.line) = true := by rfl) (hl2 : (apos2.endLine == cpos.line) = true := by rfl) :
    HB X W ((.Expr (.Call (.Attribute (.Name x np) "append" apos) [.Call (.Attribute (.Name y np2) "pop" apos2) [b] [] cpos] [] p) pos :: A) :: r) Φ M T (.nx (bindV (xs ++ [ix ys i]) fun nm => bindV (ys.eraseIdx i.toNat) fun nm2 => k nm nm2)) := h_appPop n m hnm hb hi hz hy (h _ rfl _ rfl) ho ho2 hN hN2 hv hd hcd hv2 hd2 hcd2 hsb hl hl2
theorem h_setS {α : Type} [Py α] (n : Nat) {x : Str} {v : α} {k : α → S} (hN : X.N.Nodup) (he : PV X Φ e v) (h : ∀ x, x = v → HB X W (A :: r) (Φ.set n (sI X.K x)) M T (.nx (k x))) (hi : X.N[n]? = some x := by rfl) (hx : Loc X.env.scope x := by first | exact Or.inl rfl | exact Or.inr rfl) (hs : swapsWith e (some (.Name x p)) pos.line X.env = pure false := by rfl)
    (hf : X.fn x = true ∨ X.env.scope.names.lookup x = some .local := by first | exact .inl rfl | exact .inr rfl) : HB X W ((.Assign [.Name x p] e pos :: A) :: r) Φ M T (.nx (bindV v k)) := h_set n hN he (h v rfl) hi hx hs hf
theorem h_ownS {α : Type} [Py α] (n : Nat) {x : Str} {v : List α} {k : List α → S} (hN : X.N.Nodup) (he : PN X Φ e v) (h : ∀ x, x = v → HB X W (A :: r) (Φ.set n (sO X.K x)) M T (.nx (k x))) (hi : X.N[n]? = some x := by rfl) (hx : Loc X.env.scope x := by first | exact Or.inl rfl | exact Or.inr rfl) (hs : swapsWith e (some (.Name x p)) pos.line X.env = pure false := by rfl)
    (hf : X.fn x = true ∨ X.env.scope.names.lookup x = some .local := by first | exact .inl rfl | exact .inr rfl) : HB X W ((.Assign [.Name x p] e pos :: A) :: r) Φ M T (.nx (bindV v k)) := h_setN n hN he (h v rfl) hi hx hs hf
theorem h_ifS {A1 A2 : List Stmt} {k : Bool} {v1 v2 : S} (hc : PTv X Φ c k) (h1 : k = true → HB X W (A1 :: A :: r) Φ M T (.nx v1)) (h2 : k = false → HB X W (A2 :: A :: r) Φ M T (.nx v2)) : HB X W ((.If c A1 A2 pos :: A) :: r) Φ M T (.nx (cond k v1 v2)) := by
  have h := h_if (pos := pos) hc h1 h2
  cases k with
  | true => exact h
  | false => exact h
theorem h_ifMS {A1 A2 : List Stmt} {S' : Type} (M' : S' → List SD) {k : Bool} {s1 s2 : S'} {kk : S' → S} (hc : PTv X Φ c k) (h1 : k = true → HB X W [A1] Φ M' T (.nx s1)) (h2 : k = false → HB X W [A2] Φ M' T (.nx s2)) (h : ∀ s, s = cond k s1 s2 → HB X W (A :: r) (M' s) M T (.nx (kk s))) : HB X W ((.If c A1 A2 pos :: A) :: r) Φ M T (.nx (bindV (cond k s1 s2) kk)) :=
  h_ifM (M' := M') hc h1 h2 (h _ rfl)
theorem h_foldS {body : List Stmt} {α S' : Type} [Py α] {xs : List α} (M' : S' → List SD) (us : α → List (Nat × SD)) {f : S' → α → S'} {s0 : S'} {k : S' → S} (hp : PassesOwn (model X.prog X.w) X.A X.env X.xe) (hc : X.calm = true)
    (hi : PIt X Φ tg iter xs) (hg : ∀ x, PGt X tg x (us x)) (w0 : Wk Φ (M' s0))
    (hb : ∀ n s x, xs[n]? = some x → s = (xs.take n).foldl f s0 → HB X W [body] (setAll (M' s) (us x)) M' T (.nx (f s x)))
    (hr : ∀ s, s = xs.foldl f s0 → HB X W (A :: r) (M' s) M T (.nx (k s))) (hs : ∀ x, foldedSetIterable iter X.env x = pure x := by intro _; rfl) :
    HB X W ((.For tg iter body [] pos :: A) :: r) Φ M T (.nx (bindV (xs.foldl f s0) k)) := h_fold (M' := M') us f s0 hp hc hi hg w0 hb (hr _ rfl) hs

end
end GL

set_option Elab.async false
set_option linter.all false
set_option maxRecDepth 100000
set_option maxHeartbeats 4000000
namespace GL
open PySem PySem.Spec PyProof.Rows L2
open Evl (Ex ex_l ex_t)
theorem us_in {α : Type} {us : α → List (Nat × SD)} {own : List (Str × Nat)} (h : ∀ x, (us x).all (fun u => (own.map (·.2)).contains u.1) = true) : ∀ x, ∀ u ∈ us x, u.1 ∈ own.map (·.2) := fun x u hu => by
  have := List.all_eq_true.mp (h x) u hu
  exact List.contains_iff_mem.mp this
theorem cdiv_of {i j : Int} (h : 0 < j) (h2 : j < 2 ^ 64) : CDivW i j := ⟨h, by
  have : j.natAbs < 2 ^ 64 := by omega
  have h0 : j.natAbs ≠ 0 := by omega
  have := (Nat.log2_lt h0).mpr this
  omega⟩
theorem room1 {k : Nat} {A : Around} (r : Room k A) : A.units + 1 < cLine := by have := r.un; omega
/-! ### max, min with default= -/
def maxDf (xs : List Int) (d : Int) : Int := if xs.isEmpty then d else maxL xs
def minDf (xs : List Int) (d : Int) : Int := if xs.isEmpty then d else minL xs
theorem foldl_max_imax : ∀ (xs : List Int) (a : Int), xs.foldl max a = xs.foldl imax a
  | [], a => rfl
  | x :: xs, a => by
    have e : max a x = imax a x := by unfold imax; split <;> omega
    show xs.foldl max (max a x) = xs.foldl imax (imax a x)
    rw [e]; exact foldl_max_imax xs _
theorem foldl_min_imin : ∀ (xs : List Int) (a : Int), xs.foldl min a = xs.foldl imin a
  | [], a => rfl
  | x :: xs, a => by
    have e : min a x = imin a x := by unfold imin; split <;> omega
    show xs.foldl min (min a x) = xs.foldl imin (imin a x)
    rw [e]; exact foldl_min_imin xs _
theorem maxL_cons (n : Int) (ns : List Int) : maxL (n :: ns) = ns.foldl imax n := by
  show ns.foldl imax (imax n n) = _
  have : imax n n = n := by unfold imax; split <;> omega
  rw [this]
theorem minL_cons (n : Int) (ns : List Int) : minL (n :: ns) = ns.foldl imin n := by
  show ns.foldl imin (imin n n) = _
  have : imin n n = n := by unfold imin; split <;> omega
  rw [this]
section
variable {X : Cx}
def rDf (X : Cx) (f : List Int → Int → Int) : List V → List V → Hp → VK → Prop := fun vs zs H Q => ∃ (a : Addr) (ns : List Int) (d : Int), vs = [.ref a] ∧ zs = [.int d] ∧ SqL X.K H a (ns.map V.int) ∧ Q (.int (f ns d)) H
theorem int_dps {K : Fg} {H : Hp} : ∀ ns : List Int, DpAll K H (ns.map V.int) (ns.map PyData.int)
  | [] => .nil
  | n :: ns => .cons (.int n) (int_dps ns)
theorem ints_alike (ns : List Int) : PySem.W.AlikeAll (ns.map PyData.int) := ⟨fun x hx y hy => by
  obtain ⟨i, _, rfl⟩ := List.mem_map.mp hx
  obtain ⟨j, _, rfl⟩ := List.mem_map.mp hy
  simp [PySem.W.alike], fun x hx => by
  obtain ⟨i, _, rfl⟩ := List.mem_map.mp hx
  simp⟩
theorem ints_depth : ∀ ns : List Int, PyData.depthAll (ns.map PyData.int) = 0
  | [] => by simp [PyData.depthAll]
  | n :: ns => by simp [PyData.depthAll, PyData.depth, ints_depth ns]
theorem cr_maxDf (hc : X.calm = true) (hu : X.A.units + 1 < cLine) : CallRK X (.builtin "max") ["default"] (rDf X maxDf) := by
  intro pins s σ H xs zs us ws Q I r1 r2 h
  obtain ⟨a, ns, d, rfl, rfl, hs, q⟩ := h
  obtain ⟨its, rv, hl, hz⟩ := I.list hs
  rw [Vals.ref1 r1]
  obtain ⟨u, rfl, t, rfl⟩ := r2.one
  obtain ⟨as, rd⟩ := Dp.readsAll I (ns.map PyData.int) (ns.map V.int) its (int_dps ns) rv
  refine PySem.W.max_list_default (I.ok.hd hc) hl.isList rd (ints_alike ns) (by rw [ints_depth]; exact hu) (fun e h' tk hk => ?_) (fun y ys i v h' tk bs e hi r hk => ?_)
  · have e2 : ns = [] := List.map_eq_nil_iff.mp e
    subst e2
    exact ⟨.int _, H, I.kept hk, ⟨t, rfl⟩, q⟩
  · cases ns with
    | nil => cases e
    | cons n ns =>
      rw [List.map_cons] at e
      injection e with e1 e2
      subst e1; subst e2
      rw [PySem.W.maxD_ints] at r
      cases r with
      | int i t' =>
        refine ⟨.int _, H, I.kept hk, ⟨t', rfl⟩, ?_⟩
        have : maxDf (n :: ns) d = ns.foldl max n := by show maxL (n :: ns) = _; rw [maxL_cons, foldl_max_imax]
        rw [← this]; exact q
theorem cr_minDf (hc : X.calm = true) (hu : X.A.units + 1 < cLine) : CallRK X (.builtin "min") ["default"] (rDf X minDf) := by
  intro pins s σ H xs zs us ws Q I r1 r2 h
  obtain ⟨a, ns, d, rfl, rfl, hs, q⟩ := h
  obtain ⟨its, rv, hl, hz⟩ := I.list hs
  rw [Vals.ref1 r1]
  obtain ⟨u, rfl, t, rfl⟩ := r2.one
  obtain ⟨as, rd⟩ := Dp.readsAll I (ns.map PyData.int) (ns.map V.int) its (int_dps ns) rv
  refine PySem.W.min_list_default (I.ok.hd hc) hl.isList rd (ints_alike ns) (by rw [ints_depth]; exact hu) (fun e h' tk hk => ?_) (fun y ys i v h' tk bs e hi r hk => ?_)
  · have e2 : ns = [] := List.map_eq_nil_iff.mp e
    subst e2
    exact ⟨.int _, H, I.kept hk, ⟨t, rfl⟩, q⟩
  · cases ns with
    | nil => cases e
    | cons n ns =>
      rw [List.map_cons] at e
      injection e with e1 e2
      subst e1; subst e2
      rw [PySem.W.minD_ints] at r
      cases r with
      | int i t' =>
        refine ⟨.int _, H, I.kept hk, ⟨t', rfl⟩, ?_⟩
        have : minDf (n :: ns) d = ns.foldl min n := by show minL (n :: ns) = _; rw [minL_cons, foldl_min_imin]
        rw [← this]; exact q
variable {Φ : List SD} {a b c e : Expr} {pos p kp : Pos} {i j k : Int} {tg : Expr}
theorem v_maxDf {xs : List Int} {d : Int} (B : Blt X.mg) (hc : X.calm = true) (hu : X.A.units + 1 < cLine) (ha : PL X Φ a xs) (hb : PV X Φ b d) (hg : Gl X "max" := by rfl) (h1 : nst a = true := by rfl) : PV X Φ (.Call (.Name "max" p) [a] [⟨some "default", b, kp⟩] pos) (maxDf xs d) := .mk fun H0 σ F H Q s sl q =>
  wE_of (pe_callBK (cr_maxDf hc hu) hg B.max (by decide +kernel) (pa_cons peW pa_nil (star_cons h1)) (pk_cons peW pk_nil) (by decide +kernel) (by decide +kernel) (by rw [star_cons h1]; rfl) (by rw [star_cons h1]; rfl) rfl rfl rfl) (ha H0 σ F H _ s sl fun l vs F1 H1 g1 h1 p1 => hb H0 σ F1 H1 _ g1.s (sl.gr g1) fun v F2 H2 g2 p2 => by
    cases p2
    exact ⟨l, xs, d, rfl, rfl, by rw [← allP_ints p1]; exact ex_l g2.h h1, q _ F2 H2 (g1.trans g2) (.int _)⟩)
theorem v_minDf {xs : List Int} {d : Int} (B : Blt X.mg) (hc : X.calm = true) (hu : X.A.units + 1 < cLine) (ha : PL X Φ a xs) (hb : PV X Φ b d) (hg : Gl X "min" := by rfl) (h1 : nst a = true := by rfl) : PV X Φ (.Call (.Name "min" p) [a] [⟨some "default", b, kp⟩] pos) (minDf xs d) := .mk fun H0 σ F H Q s sl q =>
  wE_of (pe_callBK (cr_minDf hc hu) hg B.min (by decide +kernel) (pa_cons peW pa_nil (star_cons h1)) (pk_cons peW pk_nil) (by decide +kernel) (by decide +kernel) (by rw [star_cons h1]; rfl) (by rw [star_cons h1]; rfl) rfl rfl rfl) (ha H0 σ F H _ s sl fun l vs F1 H1 g1 h1 p1 => hb H0 σ F1 H1 _ g1.s (sl.gr g1) fun v F2 H2 g2 p2 => by
    cases p2
    exact ⟨l, xs, d, rfl, rfl, by rw [← allP_ints p1]; exact ex_l g2.h h1, q _ F2 H2 (g1.trans g2) (.int _)⟩)
/-! ### range(i, j, -1) -/
/-- i, i - 1, .. above j -/
def dwn (i j : Int) : List Int := (List.range (i - j).toNat).map fun (n : Nat) => i - (n : Int)
theorem dwn_length (i j : Int) : (dwn i j).length = (i - j).toNat := by simp [dwn]
theorem dwn_get {K : Fg} {i j : Int} {n : Nat} {P : MP} (h : ((dwn i j).map fun x => py K (enc x))[n]? = some P) : n < (i - j).toNat ∧ P = py K (.int (i - (n : Int))) := by
  have hn := (List.getElem?_eq_some_iff.mp h).1
  rw [List.length_map, dwn_length] at hn
  refine ⟨hn, ?_⟩
  simp only [dwn, List.map_map, List.getElem?_map, List.getElem?_range hn, Option.map_some, Option.some.injEq] at h
  exact h.symm
theorem dwn_memF {i j x : Int} (h : x ∈ dwn i j) : j < x ∧ x ≤ i := by
  unfold dwn at h
  obtain ⟨n, hn, rfl⟩ := List.mem_map.mp h
  have := List.mem_range.mp hn
  omega
theorem dwn_atF {i j x : Int} {n : Nat} (h : (dwn i j)[n]? = some x) : x = i - (n : Int) ∧ j < x ∧ x ≤ i := by
  have hn := (List.getElem?_eq_some_iff.mp h).1
  rw [dwn_length] at hn
  unfold dwn at h
  rw [List.getElem?_map, List.getElem?_range hn] at h
  have : i - (n : Int) = x := Option.some.inj h
  omega
theorem i_down {q1 q2 : Pos} (B : Blt X.mg) (ha : PV X Φ a i) (hb : PV X Φ b j) (hi : small62 i) (hj : small62 j) (hg : Gl X "range" := by rfl) (h1 : nst a = true := by rfl) (h2 : nst b = true := by rfl) : PIt X Φ tg (.Call (.Name "range" p) [a, b, .UnaryOp .USub (.Constant (.int 1) 0 q1) q2] [] pos) (dwn i j) := .mk fun H0 σ F H R s sl q =>
  wI_of (pi_range3 hg B.range paW (star_cons h1) (star_plain (by rw [List.all_cons, h2]; rfl))) (wA_of (pa_cons peW (pa_cons peW (pa_cons peW pa_nil (star_cons rfl)) (star_cons h2)) (star_cons h1)) (ha H0 σ F H _ s sl fun v F1 H1 g1 p1 => hb H0 σ F1 H1 _ g1.s (sl.gr g1) fun w F2 H2 g2 p2 =>
    v_neg (X := X) (Φ := Φ) v_int H0 σ F2 H2 _ g2.s ((sl.gr g1).gr g2) fun y F3 H3 g3 p3 => by
      cases p1; cases p2; cases p3
      refine ⟨i, j, -1, (i - j).toNat, rfl, RgC.neg hi.1 hi.2 hj.1 hj.2, q _ F3 H3 ((g1.trans g2).trans g3) ⟨fun n P F4 H4 hp e1 e2 => ?_, fun F4 H4 e1 e2 => by show (i - j).toNat ≤ _; simp [dwn_length]⟩⟩
      obtain ⟨hn, rfl⟩ := dwn_get hp
      refine ⟨hn, fun v H5 y => ?_⟩
      obtain ⟨rfl, rfl⟩ := y
      refine ⟨F4, Gr.refl e2, ?_⟩
      have ei : i + (n : Int) * (-1) = i - (n : Int) := by omega
      rw [ei]; exact .int _))
end

/-! ### targets of tuples -/
section
variable {X : Cx} {e1 e2 e3 e4 e5 : Expr} {pos : Pos} {kk : Nat} {us u1 u2 u3 u4 u5 : List (Nat × SD)}
theorem g_p2 {α β : Type} [Py α] [Py β] {x : α × β} (hc : X.calm = true) (h1 : PGv X e1 (py X.K (enc x.1)) u1) (h2 : PGv X e2 (py X.K (enc x.2)) u2) (hs : [e1, e2].all ntg = true := by rfl) (s1 : ntg e1 = true := by rfl) (s2 : ntg e2 = true := by rfl) (hu : us = u1 ++ (u2 ++ []) := by rfl) : PGv X (.Tuple [e1, e2] kk pos) (py X.K (enc x)) us := by
  subst hu; exact g_tup (ds := [enc x.1, enc x.2]) hc (gs_cons h1 (gs_cons h2 gs_nil s2) s1) hs rfl
theorem g_p3 {α β γ : Type} [Py α] [Py β] [Py γ] {x : T3 α β γ} (hc : X.calm = true) (h1 : PGv X e1 (py X.K (enc x.a)) u1) (h2 : PGv X e2 (py X.K (enc x.b)) u2) (h3 : PGv X e3 (py X.K (enc x.c)) u3) (hs : [e1, e2, e3].all ntg = true := by rfl) (s1 : ntg e1 = true := by rfl) (s2 : ntg e2 = true := by rfl) (s3 : ntg e3 = true := by rfl) (hu : us = u1 ++ (u2 ++ (u3 ++ [])) := by rfl) : PGv X (.Tuple [e1, e2, e3] kk pos) (py X.K (enc x)) us := by
  subst hu; exact g_tup (ds := [enc x.a, enc x.b, enc x.c]) hc (gs_cons h1 (gs_cons h2 (gs_cons h3 gs_nil s3) s2) s1) hs rfl
theorem g_p4 {α β γ δ : Type} [Py α] [Py β] [Py γ] [Py δ] {x : T4 α β γ δ} (hc : X.calm = true) (h1 : PGv X e1 (py X.K (enc x.a)) u1) (h2 : PGv X e2 (py X.K (enc x.b)) u2) (h3 : PGv X e3 (py X.K (enc x.c)) u3) (h4 : PGv X e4 (py X.K (enc x.d)) u4) (hs : [e1, e2, e3, e4].all ntg = true := by rfl) (s1 : ntg e1 = true := by rfl) (s2 : ntg e2 = true := by rfl) (s3 : ntg e3 = true := by rfl) (s4 : ntg e4 = true := by rfl) (hu : us = u1 ++ (u2 ++ (u3 ++ (u4 ++ []))) := by rfl) : PGv X (.Tuple [e1, e2, e3, e4] kk pos) (py X.K (enc x)) us := by
  subst hu; exact g_tup (ds := [enc x.a, enc x.b, enc x.c, enc x.d]) hc (gs_cons h1 (gs_cons h2 (gs_cons h3 (gs_cons h4 gs_nil s4) s3) s2) s1) hs rfl
theorem g_p5 {α β γ δ ε : Type} [Py α] [Py β] [Py γ] [Py δ] [Py ε] {x : T5 α β γ δ ε} (hc : X.calm = true) (h1 : PGv X e1 (py X.K (enc x.a)) u1) (h2 : PGv X e2 (py X.K (enc x.b)) u2) (h3 : PGv X e3 (py X.K (enc x.c)) u3) (h4 : PGv X e4 (py X.K (enc x.d)) u4) (h5 : PGv X e5 (py X.K (enc x.e)) u5) (hs : [e1, e2, e3, e4, e5].all ntg = true := by rfl) (s1 : ntg e1 = true := by rfl) (s2 : ntg e2 = true := by rfl) (s3 : ntg e3 = true := by rfl) (s4 : ntg e4 = true := by rfl) (s5 : ntg e5 = true := by rfl) (hu : us = u1 ++ (u2 ++ (u3 ++ (u4 ++ (u5 ++ [])))) := by rfl) : PGv X (.Tuple [e1, e2, e3, e4, e5] kk pos) (py X.K (enc x)) us := by
  subst hu; exact g_tup (ds := [enc x.a, enc x.b, enc x.c, enc x.d, enc x.e]) hc (gs_cons h1 (gs_cons h2 (gs_cons h3 (gs_cons h4 (gs_cons h5 gs_nil s5) s4) s3) s2) s1) hs rfl
end
/-! ### an invariant of a fold -/
theorem fold_inv {α S : Type} {f : S → α → S} {s0 : S} {xs : List α} (P : Nat → S → Prop) (h0 : P 0 s0) (hs : ∀ n s x, xs[n]? = some x → P n s → P (n + 1) (f s x)) : ∀ (n : Nat) (s : S), n ≤ xs.length → s = (xs.take n).foldl f s0 → P n s
  | 0, s, _, h => by
    simp at h; subst h; exact h0
  | n + 1, s, hn, h => by
    have hx : xs[n]? = some xs[n] := List.getElem?_eq_getElem (by omega)
    have tk : xs.take (n + 1) = xs.take n ++ [xs[n]] := by rw [List.take_succ, hx]; rfl
    rw [tk, List.foldl_append] at h
    subst h
    exact hs n _ _ hx (fold_inv P h0 hs n _ (by omega) rfl)
theorem fold_end {α S : Type} {f : S → α → S} {s0 : S} {xs : List α} (P : Nat → S → Prop) (h0 : P 0 s0) (hs : ∀ n s x, xs[n]? = some x → P n s → P (n + 1) (f s x)) : P xs.length (xs.foldl f s0) :=
  fold_inv P h0 hs xs.length _ (Nat.le_refl _) (by rw [List.take_length])
/-- of a loop with exits: what holds at its end -/
theorem forL_inv {α S R : Type} {f : S → α → Ctl S R} (P : S → List α → Prop) (B : S → Prop) (Q : R → Prop)
    (hs : ∀ s x xs, P s (x :: xs) → match f s x with | .nx s' => P s' xs | .ct s' => P s' xs | .bk s' => B s' | .rt r => Q r) (he : ∀ s, P s [] → B s) :
    ∀ (xs : List α) (s : S), P s xs → match forL f s xs with | .inl s => B s | .inr r => Q r
  | [], s, h => he s h
  | x :: xs, s, h => by
    have h1 := hs s x xs h
    unfold forL
    cases q : f s x with
    | nx s' => rw [q] at h1; exact forL_inv P B Q hs he xs s' h1
    | ct s' => rw [q] at h1; exact forL_inv P B Q hs he xs s' h1
    | bk s' => rw [q] at h1; exact h1
    | rt r => rw [q] at h1; exact h1

theorem mod_ix {a n : Int} (h : 0 < n) : 0 ≤ a % n ∧ a % n < n := ⟨Int.emod_nonneg _ (by omega), Int.emod_lt_of_pos _ h⟩
theorem pos_len {α : Type} [DecidableEq α] {xs : List α} (h : decide (xs = []) = false) : 0 < (xs.length : Int) := by
  have := List.length_pos_iff.mpr (of_decide_eq_false h)
  omega
theorem imin_eq (i j : Int) : imin i j = min i j := by unfold imin; split <;> omega
theorem imax_eq (i j : Int) : imax i j = max i j := by unfold imax; split <;> omega
theorem iabs_eq (i : Int) : iabs i = (i.natAbs : Int) := by unfold iabs; split <;> omega
theorem lt_of_at {α : Type} {xs : List α} {n : Nat} {x : α} (h : xs[n]? = some x) : n < xs.length := (List.getElem?_eq_some_iff.mp h).1
theorem ix_of_at {α : Type} [Inhabited α] {xs : List α} {n : Nat} {x : α} (h : xs[n]? = some x) : ix xs (n : Int) = x := by
  show xs.getD n default = x
  simp [List.getD, h]
theorem ix_mem {α : Type} [Inhabited α] {xs : List α} {i : Int} (h : 0 ≤ i ∧ i < xs.length) : ix xs i ∈ xs := by
  have hi : i.toNat < xs.length := by omega
  simp only [ix, List.getD, List.getElem?_eq_getElem hi, Option.getD_some]
  exact List.getElem_mem hi
theorem bindV_eq {α β : Type} (a : α) (k : α → β) : bindV a k = k a := rfl

theorem mod_ixle {a m n : Int} (h : 0 < m) (h2 : m ≤ n) : 0 ≤ a % m ∧ a % m < n := by
  have := mod_ix (a := a) h
  omega
/-! ### loops that only look -/
theorem forL_all {α R : Type} {f : Unit → α → Ctl Unit R} : ∀ {xs : List α}, (∀ x ∈ xs, f () x = .nx () ∨ f () x = .ct ()) → forL f () xs = .inl ()
  | [], _ => rfl
  | x :: xs, h => by
    have h2 := forL_all (f := f) (xs := xs) fun y hy => h y (List.mem_cons_of_mem _ hy)
    unfold forL
    rcases h x (List.mem_cons_self ..) with e | e
    · rw [e]; exact h2
    · rw [e]; exact h2
theorem forR_all {α R : Type} {f : Unit → α → Ctl Unit R} {xs : List α} {k : Unit → R} (h : ∀ x ∈ xs, f () x = .nx () ∨ f () x = .ct ()) : forR f () xs k = k () := by
  unfold forR; rw [forL_all h]
theorem forK_all {α S R : Type} {f : Unit → α → Ctl Unit R} {xs : List α} {k : Unit → Ctl S R} (h : ∀ x ∈ xs, f () x = .nx () ∨ f () x = .ct ()) : forK f () xs k = k () := by
  unfold forK; rw [forL_all h]
theorem enumL_eq {α : Type} [Inhabited α] (xs : List α) : enumL xs = (rng 0 xs.length).map fun p => (p, ix xs p) := by
  apply List.ext_getElem?
  intro n
  by_cases h : n < xs.length
  · rw [enumL_get (List.getElem?_eq_getElem h), List.getElem?_map, rng_at (by omega)]
    simp only [Option.map_some, Int.zero_add]
    rw [ix_of_at (List.getElem?_eq_getElem h)]
  · rw [List.getElem?_eq_none (by rw [enumL_length]; omega), List.getElem?_eq_none (by rw [List.length_map, rng_length]; omega)]
theorem maxL_le {xs : List Int} {s : Int} (h : 0 < xs.length) : maxL xs ≤ s ↔ ∀ y ∈ xs, y ≤ s :=
  ⟨fun h1 y hy => Int.le_trans (le_maxL hy) h1, fun h1 => h1 _ (maxL_mem h)⟩
theorem maxDf_le {xs : List Int} {s d : Int} (h : d ≤ s) : maxDf xs d ≤ s ↔ ∀ y ∈ xs, y ≤ s := by
  unfold maxDf
  cases xs with
  | nil => simpa using h
  | cons x xs => exact maxL_le (by simp)
theorem mem_rng {lo hi x : Int} : x ∈ rng lo hi ↔ lo ≤ x ∧ x < hi := ⟨rng_memF, fun h => by
  unfold rng
  exact List.mem_map.mpr ⟨(x - lo).toNat, List.mem_range.mpr (by omega), by omega⟩⟩
theorem ix_at {α : Type} [Inhabited α] {xs : List α} {i : Int} (h : 0 ≤ i ∧ i < xs.length) : xs[i.toNat]? = some (ix xs i) := by
  have hi : i.toNat < xs.length := by omega
  simp [ix, List.getD, List.getElem?_eq_getElem hi]

section
variable {X : Cx} {W : XK} {S R : Type} {Φ : List SD} {M : S → List SD} {T : R → RS} {e : Expr} {pos : Pos} {A : List Stmt} {r : List (List Stmt)}
theorem v_some {α : Type} [Py α] {x : α} (h : PV X Φ e x) : PV X Φ e (some x) := h
theorem v_noneO {α : Type} [Py α] : PV X Φ (.Constant .none 0 pos) (none : Option α) := v_non
theorem h_retT [Py R] {v : R} (he : PV X Φ e v) (hT : T v = .val (py X.K (enc v)) := by rfl) : HB X W ((.Return (some e) pos :: A) :: r) Φ M T (.rt v) := h_ret he hT
end
/-! ### sorted, of numbers and of pairs -/
theorem srt_perm {α : Type} [Py α] (xs : List α) : (srt xs).Perm xs := List.mergeSort_perm ..
theorem mem_srt {α : Type} [Py α] {xs : List α} {x : α} : x ∈ srt xs ↔ x ∈ xs := (srt_perm xs).mem_iff
theorem srt_length {α : Type} [Py α] (xs : List α) : (srt xs).length = xs.length := List.length_mergeSort ..
theorem srt_int (xs : List Int) : (srt xs).Pairwise (· ≤ ·) := by
  have e : PySem.W.dataLe false (enc (α := Int)) = fun a b => decide (a ≤ b) := PySem.W.dataLe_int fun (b : Int) => b
  unfold srt
  rw [e]
  refine (List.pairwise_mergeSort (le := fun (a b : Int) => decide (a ≤ b)) (fun a b c h1 h2 => ?_) (fun a b => ?_) xs).imp fun h => of_decide_eq_true h
  · simp only [decide_eq_true_eq] at *; omega
  · simp only [Bool.or_eq_true, decide_eq_true_eq]; omega
/-- the order of pairs -/
def le2 (p q : Int × Int) : Prop := p.1 < q.1 ∨ (p.1 = q.1 ∧ p.2 ≤ q.2)
theorem srt_pair (xs : List (Int × Int)) : (srt xs).Pairwise le2 := by
  have e : PySem.W.dataLe false (enc (α := Int × Int)) = fun p q => decide (p.1 < q.1 ∨ (p.1 = q.1 ∧ p.2 ≤ q.2)) := PySem.W.dataLe_ii (fun (b : Int × Int) => b.1) fun b => b.2
  unfold srt
  rw [e]
  refine (List.pairwise_mergeSort (le := fun (p q : Int × Int) => decide (p.1 < q.1 ∨ (p.1 = q.1 ∧ p.2 ≤ q.2))) (fun a b c h1 h2 => ?_) (fun a b => ?_) xs).imp fun h => of_decide_eq_true h
  · simp only [decide_eq_true_eq] at *; omega
  · simp only [Bool.or_eq_true, decide_eq_true_eq]; omega

/-! ### slices, counts -/
theorem slc_to {α : Type} (xs : List α) {k : Int} (h : 0 ≤ k) : slc xs none (some k) = xs.take k.toNat := by
  unfold slc HT.sIx
  simp only [if_neg (show ¬ k < 0 by omega), List.drop_zero, Nat.sub_zero]
  by_cases q : k.toNat ≤ xs.length
  · rw [Nat.min_eq_left q]
  · rw [Nat.min_eq_right (by omega), List.take_length, List.take_of_length_le (by omega)]
theorem slc_from {α : Type} (xs : List α) {k : Int} (h : 0 ≤ k) : slc xs (some k) none = xs.drop k.toNat := by
  unfold slc HT.sIx
  simp only [if_neg (show ¬ k < 0 by omega)]
  by_cases q : k.toNat ≤ xs.length
  · rw [Nat.min_eq_left q, List.take_of_length_le (by simp)]
  · rw [Nat.min_eq_right (by omega), List.drop_eq_nil_of_le (Nat.le_refl _), List.drop_eq_nil_of_le (by omega)]; simp
theorem slc_len {α : Type} (xs : List α) (lo hi : Option Int) : (slc xs lo hi).length ≤ xs.length := by
  unfold slc
  rw [List.length_take, List.length_drop]; omega
theorem slc_mem {α : Type} {xs : List α} {lo hi : Option Int} {x : α} (h : x ∈ slc xs lo hi) : x ∈ xs := List.mem_of_mem_drop (List.mem_of_mem_take h)
theorem filter_lt {α : Type} {p q : α → Bool} {xs : List α} (h : ∀ x ∈ xs, p x = true → q x = true) {y : α} (hy : y ∈ xs) (h1 : q y = true) (h2 : p y = false) : (xs.filter p).length < (xs.filter q).length := by
  induction xs with
  | nil => simp at hy
  | cons x xs ih =>
    have mono : ∀ zs : List α, (∀ x ∈ zs, p x = true → q x = true) → (zs.filter p).length ≤ (zs.filter q).length := by
      intro zs
      induction zs with
      | nil => intro _; simp
      | cons z zs ih2 =>
        intro hz
        have h3 := ih2 fun x hx => hz x (List.mem_cons_of_mem _ hx)
        rw [List.filter_cons, List.filter_cons]
        cases hp : p z with
        | true => rw [hz z (by simp) hp]; simp; exact h3
        | false =>
          cases q z with
          | true => simp; omega
          | false => simpa using h3
    rw [List.filter_cons, List.filter_cons]
    have h0 := mono xs fun x hx => h x (List.mem_cons_of_mem _ hx)
    rcases List.mem_cons.mp hy with e | e
    · subst e
      rw [h1, h2]; simp; omega
    · have h3 := ih (fun x hx => h x (List.mem_cons_of_mem _ hx)) e
      cases hp : p x with
      | true => rw [h x (by simp) hp]; simp; exact h3
      | false =>
        cases q x with
        | true => simp; omega
        | false => simpa using h3
/-- a while: what holds at its end -/
theorem whileL_inv {S R : Type} {c : S → Bool} {f : S → Ctl S R} (I : S → Prop) (m : S → Nat) (B : S → Prop) (Q : R → Prop)
    (hf : ∀ s, I s → c s = true → match f s with | .nx s' => I s' ∧ m s' < m s | .ct s' => I s' ∧ m s' < m s | .bk s' => B s' | .rt r => Q r) (hc : ∀ s, I s → c s = false → B s) :
    ∀ (n : Nat) (s : S), I s → m s < n → match whileL c f n s with | .inl s => B s | .inr r => Q r
  | 0, s, _, h => by omega
  | n + 1, s, hI, h => by
    unfold whileL
    cases q : c s with
    | false => exact hc s hI q
    | true =>
      have h1 := hf s hI q
      simp only []
      cases q2 : f s with
      | nx s' => rw [q2] at h1; exact whileL_inv I m B Q hf hc n s' h1.1 (by have := h1.2; omega)
      | ct s' => rw [q2] at h1; exact whileL_inv I m B Q hf hc n s' h1.1 (by have := h1.2; omega)
      | bk s' => rw [q2] at h1; exact h1
      | rt r => rw [q2] at h1; exact h1

/-! ### t[n], typed -/
section
variable {X : Cx} {Φ : List SD} {a : Expr} {pos q1 : Pos}
theorem v_f2_0 {α β : Type} [Py α] [Py β] {x : α × β} (h : PV X Φ a x) : PV X Φ (.Subscript a (.Constant (.int 0) 0 q1) pos) x.1 := v_fld 0 (q2 := pos) (ds := [enc x.1, enc x.2]) h
theorem v_f2_1 {α β : Type} [Py α] [Py β] {x : α × β} (h : PV X Φ a x) : PV X Φ (.Subscript a (.Constant (.int 1) 0 q1) pos) x.2 := v_fld 1 (q2 := pos) (ds := [enc x.1, enc x.2]) h
theorem v_f3_0 {α β γ : Type} [Py α] [Py β] [Py γ] {x : T3 α β γ} (h : PV X Φ a x) : PV X Φ (.Subscript a (.Constant (.int 0) 0 q1) pos) x.a := v_fld 0 (q2 := pos) (ds := [enc x.a, enc x.b, enc x.c]) h
theorem v_f3_1 {α β γ : Type} [Py α] [Py β] [Py γ] {x : T3 α β γ} (h : PV X Φ a x) : PV X Φ (.Subscript a (.Constant (.int 1) 0 q1) pos) x.b := v_fld 1 (q2 := pos) (ds := [enc x.a, enc x.b, enc x.c]) h
theorem v_f3_2 {α β γ : Type} [Py α] [Py β] [Py γ] {x : T3 α β γ} (h : PV X Φ a x) : PV X Φ (.Subscript a (.Constant (.int 2) 0 q1) pos) x.c := v_fld 2 (q2 := pos) (ds := [enc x.a, enc x.b, enc x.c]) h
theorem v_f4_0 {α β γ δ : Type} [Py α] [Py β] [Py γ] [Py δ] {x : T4 α β γ δ} (h : PV X Φ a x) : PV X Φ (.Subscript a (.Constant (.int 0) 0 q1) pos) x.a := v_fld 0 (q2 := pos) (ds := [enc x.a, enc x.b, enc x.c, enc x.d]) h
theorem v_f4_1 {α β γ δ : Type} [Py α] [Py β] [Py γ] [Py δ] {x : T4 α β γ δ} (h : PV X Φ a x) : PV X Φ (.Subscript a (.Constant (.int 1) 0 q1) pos) x.b := v_fld 1 (q2 := pos) (ds := [enc x.a, enc x.b, enc x.c, enc x.d]) h
theorem v_f4_2 {α β γ δ : Type} [Py α] [Py β] [Py γ] [Py δ] {x : T4 α β γ δ} (h : PV X Φ a x) : PV X Φ (.Subscript a (.Constant (.int 2) 0 q1) pos) x.c := v_fld 2 (q2 := pos) (ds := [enc x.a, enc x.b, enc x.c, enc x.d]) h
theorem v_f4_3 {α β γ δ : Type} [Py α] [Py β] [Py γ] [Py δ] {x : T4 α β γ δ} (h : PV X Φ a x) : PV X Φ (.Subscript a (.Constant (.int 3) 0 q1) pos) x.d := v_fld 3 (q2 := pos) (ds := [enc x.a, enc x.b, enc x.c, enc x.d]) h
theorem v_f5_0 {α β γ δ ε : Type} [Py α] [Py β] [Py γ] [Py δ] [Py ε] {x : T5 α β γ δ ε} (h : PV X Φ a x) : PV X Φ (.Subscript a (.Constant (.int 0) 0 q1) pos) x.a := v_fld 0 (q2 := pos) (ds := [enc x.a, enc x.b, enc x.c, enc x.d, enc x.e]) h
theorem v_f5_1 {α β γ δ ε : Type} [Py α] [Py β] [Py γ] [Py δ] [Py ε] {x : T5 α β γ δ ε} (h : PV X Φ a x) : PV X Φ (.Subscript a (.Constant (.int 1) 0 q1) pos) x.b := v_fld 1 (q2 := pos) (ds := [enc x.a, enc x.b, enc x.c, enc x.d, enc x.e]) h
theorem v_f5_2 {α β γ δ ε : Type} [Py α] [Py β] [Py γ] [Py δ] [Py ε] {x : T5 α β γ δ ε} (h : PV X Φ a x) : PV X Φ (.Subscript a (.Constant (.int 2) 0 q1) pos) x.c := v_fld 2 (q2 := pos) (ds := [enc x.a, enc x.b, enc x.c, enc x.d, enc x.e]) h
theorem v_f5_3 {α β γ δ ε : Type} [Py α] [Py β] [Py γ] [Py δ] [Py ε] {x : T5 α β γ δ ε} (h : PV X Φ a x) : PV X Φ (.Subscript a (.Constant (.int 3) 0 q1) pos) x.d := v_fld 3 (q2 := pos) (ds := [enc x.a, enc x.b, enc x.c, enc x.d, enc x.e]) h
theorem v_f5_4 {α β γ δ ε : Type} [Py α] [Py β] [Py γ] [Py δ] [Py ε] {x : T5 α β γ δ ε} (h : PV X Φ a x) : PV X Φ (.Subscript a (.Constant (.int 4) 0 q1) pos) x.e := v_fld 4 (q2 := pos) (ds := [enc x.a, enc x.b, enc x.c, enc x.d, enc x.e]) h
end

theorem slc_toL {α : Type} (xs : List α) (n : Nat) : slc xs none (some (@OfNat.ofNat Int n instOfNat)) = xs.take n := slc_to xs (k := (n : Int)) (by omega)
theorem slc_fromL {α : Type} (xs : List α) (n : Nat) : slc xs (some (@OfNat.ofNat Int n instOfNat)) none = xs.drop n := slc_from xs (k := (n : Int)) (by omega)

section
variable {X : Cx} {W : XK} {S R : Type} {Φ : List SD} {M : S → List SD} {T : R → RS} {o : Ctl S R} {a e : Expr} {pos p : Pos} {r : List (List Stmt)}
theorem v_lenF {ds : List PyData} (B : Blt X.mg) (ha : PEv X Φ e (py X.K (.tuple ds))) (hg : Gl X "len" := by rfl) (hst : nst e = true := by rfl) : PV X Φ (.Call (.Name "len" p) [e] [] pos) (ds.length : Int) := .mk fun H0 σ F H Q s sl q =>
  wE_callB call_len_seq hg B.len PySem.boot_len (by decide +kernel) (by decide +kernel) (by simp [hst]) (wA_one hst (ha H0 σ F H _ s sl fun v F1 H1 g1 p1 => by
    obtain ⟨l, vs, e1, h1, p3⟩ := py_tuple.mp p1
    subst e1
    exact ⟨l, vs, rfl, .inr (ex_t g1.s h1), by rw [p3.1, List.length_map]; exact q _ F1 H1 g1 (.int _)⟩))
theorem v_len2 {α β : Type} [Py α] [Py β] {x : α × β} (B : Blt X.mg) (ha : PV X Φ e x) (hg : Gl X "len" := by rfl) (hst : nst e = true := by rfl) : PV X Φ (.Call (.Name "len" p) [e] [] pos) (2 : Int) := v_lenF (ds := [enc x.1, enc x.2]) B ha hg hst
theorem v_len3 {α β γ : Type} [Py α] [Py β] [Py γ] {x : T3 α β γ} (B : Blt X.mg) (ha : PV X Φ e x) (hg : Gl X "len" := by rfl) (hst : nst e = true := by rfl) : PV X Φ (.Call (.Name "len" p) [e] [] pos) (3 : Int) := v_lenF (ds := [enc x.a, enc x.b, enc x.c]) B ha hg hst
theorem v_len4 {α β γ δ : Type} [Py α] [Py β] [Py γ] [Py δ] {x : T4 α β γ δ} (B : Blt X.mg) (ha : PV X Φ e x) (hg : Gl X "len" := by rfl) (hst : nst e = true := by rfl) : PV X Φ (.Call (.Name "len" p) [e] [] pos) (4 : Int) := v_lenF (ds := [enc x.a, enc x.b, enc x.c, enc x.d]) B ha hg hst
theorem v_len5 {α β γ δ ε : Type} [Py α] [Py β] [Py γ] [Py δ] [Py ε] {x : T5 α β γ δ ε} (B : Blt X.mg) (ha : PV X Φ e x) (hg : Gl X "len" := by rfl) (hst : nst e = true := by rfl) : PV X Φ (.Call (.Name "len" p) [e] [] pos) (5 : Int) := v_lenF (ds := [enc x.a, enc x.b, enc x.c, enc x.d, enc x.e]) B ha hg hst
/-- a slot's datum under another name -/
theorem h_cast {α β : Type} [Py α] [Py β] (n : Nat) {x : α} (y : β) (he : enc x = enc y) (h : HB X W r (Φ.set n (sI X.K y)) M T o) (ho : Φ[n]? = some (sI X.K x) := by rfl) : HB X W r Φ M T o := .mk fun F0 H0 D σ F H g sl k => by
  have e2 : Φ.set n (sI X.K y) = Φ := by
    have : sI X.K x = sI X.K y := congrArg (fun d => SD.im (py X.K d)) he
    rw [← this]
    apply List.ext_getElem?
    intro j
    by_cases q : n = j
    · subst q
      rw [List.getElem?_set_self (List.getElem?_eq_some_iff.mp ho).1, ho]
    · rw [List.getElem?_set_ne q]
  rw [e2] at h
  exact h F0 H0 D σ F H g sl k
end
theorem enc_get {α : Type} [Py α] {o : Option α} (w : α) (h : o.isSome = true) : enc o = enc (o.getD w) := by
  cases o with
  | none => cases h
  | some x => rfl
theorem isSome_of {α : Type} {o : Option α} (h : o.isNone = false) : o.isSome = true := by
  cases o with
  | none => cases h
  | some x => rfl

/-! ### a while without exits -/
def whileP {S : Type} (c : S → Bool) (f : S → S) : Nat → S → S
  | 0, s => s
  | n + 1, s => match c s with
    | false => s
    | true => whileP c f n (f s)
theorem whileL_P {S R : Type} {c : S → Bool} {f : S → S} : ∀ (n : Nat) (s : S), whileL c (fun s => (.nx (f s) : Ctl S R)) n s = .inl (whileP c f n s)
  | 0, s => rfl
  | n + 1, s => by
    unfold whileL whileP
    cases c s with
    | false => rfl
    | true => exact whileL_P n (f s)
theorem whileP_inv {S : Type} {c : S → Bool} {f : S → S} (I : S → Prop) (m : S → Nat) (hf : ∀ s, I s → c s = true → I (f s) ∧ m (f s) < m s) : ∀ (n : Nat) (s : S), I s → m s < n → I (whileP c f n s) ∧ c (whileP c f n s) = false
  | 0, s, _, h => by omega
  | n + 1, s, hI, h => by
    unfold whileP
    cases q : c s with
    | false => exact ⟨hI, q⟩
    | true =>
      have h1 := hf s hI q
      exact whileP_inv I m hf n (f s) h1.1 (by have := h1.2; omega)
section
variable {X : Cx} {W : XK} {S R : Type} {Φ : List SD} {M : S → List SD} {T : R → RS} {c : Expr} {pos : Pos} {A body : List Stmt} {r : List (List Stmt)}
theorem h_whileP {S' : Type} {o : Ctl S R} (M' : S' → List SD) (I : S' → Prop) (m : S' → Nat) {cn : S' → Bool} {f : S' → S'} {s0 : S'} (hp : PassesOwn (model X.prog X.w) X.A X.env X.xe) (w0 : Wk Φ (M' s0)) (i0 : I s0)
    (ht : ∀ s, I s → PTv X (M' s) c (cn s)) (hb : ∀ s, I s → cn s = true → HB X W [body] (M' s) M' T (.nx (f s)))
    (hm : ∀ s, I s → cn s = true → I (f s) ∧ m (f s) < m s)
    (hr : I (whileP cn f (m s0 + 1) s0) → cn (whileP cn f (m s0 + 1) s0) = false → HB X W (A :: r) (M' (whileP cn f (m s0 + 1) s0)) M T o) :
    HB X W ((.While c body [] pos :: A) :: r) Φ M T o := by
  have e := whileP_inv I m hm (m s0 + 1) s0 i0 (Nat.lt_succ_self _)
  have h := h_while (W := W) (S := S) (R := R) (M := M) (T := T) (pos := pos) (A := A) (r := r) (M' := M') (k := fun _ => o) I m cn (fun s => (.nx (f s) : Ctl S' R)) s0 hp w0 i0 ht hb (fun s s' hI hc hf => by
    rcases hf with hf | hf
    · cases hf; exact hm s hI hc
    · cases hf) (fun s hs => by
    rw [whileL_P] at hs
    rw [← Sum.inl.inj hs]; exact hr e.1 e.2)
  unfold whileK at h
  rw [whileL_P] at h
  exact h
theorem h_whilePV {S' : Type} (M' : S' → List SD) (I : S' → Prop) (m : S' → Nat) {cn : S' → Bool} {f : S' → S'} {s0 : S'} {k : S' → R} (hp : PassesOwn (model X.prog X.w) X.A X.env X.xe) (w0 : Wk Φ (M' s0)) (i0 : I s0)
    (ht : ∀ s, I s → PTv X (M' s) c (cn s)) (hb : ∀ s, I s → cn s = true → HB X W [body] (M' s) M' T (.nx (f s)))
    (hm : ∀ s, I s → cn s = true → I (f s) ∧ m (f s) < m s)
    (hr : ∀ s, s = whileP cn f (m s0 + 1) s0 → I s → cn s = false → HB X W (A :: r) (M' s) M T (.rt (k s))) :
    HB X W ((.While c body [] pos :: A) :: r) Φ M T (.rt (bindV (whileP cn f (m s0 + 1) s0) k)) := h_whileP M' I m hp w0 i0 ht hb hm (hr _ rfl)
theorem h_whilePC {S' : Type} (M' : S' → List SD) (I : S' → Prop) (m : S' → Nat) {cn : S' → Bool} {f : S' → S'} {s0 : S'} {k : S' → Ctl S R} (hp : PassesOwn (model X.prog X.w) X.A X.env X.xe) (w0 : Wk Φ (M' s0)) (i0 : I s0)
    (ht : ∀ s, I s → PTv X (M' s) c (cn s)) (hb : ∀ s, I s → cn s = true → HB X W [body] (M' s) M' T (.nx (f s)))
    (hm : ∀ s, I s → cn s = true → I (f s) ∧ m (f s) < m s)
    (hr : ∀ s, s = whileP cn f (m s0 + 1) s0 → I s → cn s = false → HB X W (A :: r) (M' s) M T (k s)) :
    HB X W ((.While c body [] pos :: A) :: r) Φ M T (bindV (whileP cn f (m s0 + 1) s0) k) := h_whileP M' I m hp w0 i0 ht hb hm (hr _ rfl)
theorem h_whilePS {S' : Type} (M' : S' → List SD) (I : S' → Prop) (m : S' → Nat) {cn : S' → Bool} {f : S' → S'} {s0 : S'} {k : S' → S} (hp : PassesOwn (model X.prog X.w) X.A X.env X.xe) (w0 : Wk Φ (M' s0)) (i0 : I s0)
    (ht : ∀ s, I s → PTv X (M' s) c (cn s)) (hb : ∀ s, I s → cn s = true → HB X W [body] (M' s) M' T (.nx (f s)))
    (hm : ∀ s, I s → cn s = true → I (f s) ∧ m (f s) < m s)
    (hr : ∀ s, s = whileP cn f (m s0 + 1) s0 → I s → cn s = false → HB X W (A :: r) (M' s) M T (.nx (k s))) :
    HB X W ((.While c body [] pos :: A) :: r) Φ M T (.nx (bindV (whileP cn f (m s0 + 1) s0) k)) := h_whileP M' I m hp w0 i0 ht hb hm (hr _ rfl)
end
end GL

set_option Elab.async false
set_option linter.all false
set_option maxRecDepth 100000
set_option maxHeartbeats 4000000
namespace GL
open PySem PySem.Spec PyProof.Rows L2
open Evl (Ex ex_l ex_t)
section
variable {X : Cx}
/-! ### x in t -/
def rInTD (K : Fg) : R2 := fun x y H Q => ∃ d ds, Dp K H x d ∧ Dp K H y (.tuple ds) ∧ d.canLay0 = true ∧ PyData.canLayAll0 ds = true ∧ PyData.depth d ≤ 64 ∧ Q (.bl (ds.any fun z => PyData.eqv z d)) H
def rNotInTD (K : Fg) : R2 := fun x y H Q => ∃ d ds, Dp K H x d ∧ Dp K H y (.tuple ds) ∧ d.canLay0 = true ∧ PyData.canLayAll0 ds = true ∧ PyData.depth d ≤ 64 ∧ Q (.bl (!ds.any fun z => PyData.eqv z d)) H
theorem plain_tup {ds : List PyData} (h : PyData.canLayAll0 ds = true) : PyData.plainAll ds = true := by
  have := PyData.plain_of_canLay0 (.tuple ds) (by simpa [PyData.canLay0] using h)
  simpa [PyData.plain] using this
theorem op_inTD (hu : X.A.units + 65 < cLine) : OpR X (compareOp .In) (rInTD X.K) := by
  intro pins s σ H x y v u Q I rx ry h
  obtain ⟨d, ds, hd, he, c1, c2, h64, q⟩ := h
  obtain ⟨as, r1⟩ := Dp.reads I d x v hd rx
  obtain ⟨bs, r2⟩ := Dp.reads I (.tuple ds) y u he ry
  exact SeqAt.in_tuple_data r2 r1 (plain_tup c2) (PyData.plain_of_canLay0 d c1) (by have := Nat.min_le_right (PyData.depthAll ds) d.depth; omega) ⟨.bl _, H, I, rfl, q⟩
theorem op_notInTD (hu : X.A.units + 65 < cLine) : OpR X (compareOp .NotIn) (rNotInTD X.K) := by
  intro pins s σ H x y v u Q I rx ry h
  obtain ⟨d, ds, hd, he, c1, c2, h64, q⟩ := h
  obtain ⟨as, r1⟩ := Dp.reads I d x v hd rx
  obtain ⟨bs, r2⟩ := Dp.reads I (.tuple ds) y u he ry
  exact SeqAt.notIn_tuple_data r2 r1 (plain_tup c2) (PyData.plain_of_canLay0 d c1) (by have := Nat.min_le_right (PyData.depthAll ds) d.depth; omega) ⟨.bl _, H, I, rfl, q⟩
/-! ### order of data of one make -/
def ltD {α : Type} [Py α] (x y : α) : Bool := PySem.W.dataLt (enc x) (enc y)
def rCmpD (K : Fg) (f : PyData → PyData → Bool) : R2 := fun x y H Q => ∃ d e, Dp K H x d ∧ Dp K H y e ∧ PySem.W.alike d e = true ∧ d ≠ .none ∧ PyData.depth d ≤ 64 ∧ Q (.bl (f d e)) H
theorem op_ltD (hu : X.A.units + 64 < cLine) : OpR X (compareOp .Lt) (rCmpD X.K PySem.W.dataLt) := by
  intro pins s σ H x y v u Q I rx ry h
  obtain ⟨d, e, hd, he, ha, hn, h64, q⟩ := h
  obtain ⟨as, r1⟩ := Dp.reads I d x v hd rx
  obtain ⟨bs, r2⟩ := Dp.reads I e y u he ry
  exact PySem.W.lt_data r1 r2 ha hn (by have := Nat.min_le_left d.depth e.depth; omega) ⟨.bl _, H, I, rfl, q⟩
theorem op_gtD (hu : X.A.units + 64 < cLine) : OpR X (compareOp .Gt) (rCmpD X.K fun d e => PySem.W.dataLt e d) := by
  intro pins s σ H x y v u Q I rx ry h
  obtain ⟨d, e, hd, he, ha, hn, h64, q⟩ := h
  obtain ⟨as, r1⟩ := Dp.reads I d x v hd rx
  obtain ⟨bs, r2⟩ := Dp.reads I e y u he ry
  exact PySem.W.gt_data r1 r2 ha hn (by have := Nat.min_le_left d.depth e.depth; omega) ⟨.bl _, H, I, rfl, q⟩
theorem op_leD (hu : X.A.units + 64 < cLine) : OpR X (compareOp .LtE) (rCmpD X.K fun d e => !PySem.W.dataLt e d) := by
  intro pins s σ H x y v u Q I rx ry h
  obtain ⟨d, e, hd, he, ha, hn, h64, q⟩ := h
  obtain ⟨as, r1⟩ := Dp.reads I d x v hd rx
  obtain ⟨bs, r2⟩ := Dp.reads I e y u he ry
  exact PySem.W.le_data r1 r2 ha hn (by have := Nat.min_le_left d.depth e.depth; omega) ⟨.bl _, H, I, rfl, q⟩
theorem op_geD (hu : X.A.units + 64 < cLine) : OpR X (compareOp .GtE) (rCmpD X.K fun d e => !PySem.W.dataLt d e) := by
  intro pins s σ H x y v u Q I rx ry h
  obtain ⟨d, e, hd, he, ha, hn, h64, q⟩ := h
  obtain ⟨as, r1⟩ := Dp.reads I d x v hd rx
  obtain ⟨bs, r2⟩ := Dp.reads I e y u he ry
  exact PySem.W.ge_data r1 r2 ha hn (by have := Nat.min_le_left d.depth e.depth; omega) ⟨.bl _, H, I, rfl, q⟩
end
section
variable {X : Cx} {Φ : List SD} {a b : Expr} {pos p p2 pos' : Pos} {i j : Int}
theorem inT_any {α : Type} [Py α] [PyQ α] [DecidableEq α] {y : α} {xs : Tup α} : ((xs.l.map enc).any fun z => PyData.eqv z (enc y)) = decide (y ∈ xs.l) := inL_any
theorem v_inT {α : Type} [Py α] [PyQ α] [DecidableEq α] {y : α} {xs : Tup α} (hu : X.A.units + 65 < cLine) (hd : Py.dep α ≤ 64) (ha : PD X Φ a y) (hb : PD X Φ b xs) (hm : behindInMarks .In b = false := by rfl) : PV X Φ (.Compare a [.In] [b] pos) (decide (y ∈ xs.l)) := .mk fun H0 σ F H Q s sl q =>
  wE_of (pe_cmpR (op_inTD hu) peW peW hm) (ha H0 σ F H _ s sl fun v F1 H1 g1 p1 => hb H0 σ F1 H1 _ g1.s (sl.gr g1) fun w F2 H2 g2 p2 =>
    ⟨enc y, xs.l.map enc, dp_mono (g2.f.trans g2.s) _ _ p1, dp_mono g2.s _ _ p2, Py.can y, canAll xs.l, Nat.le_trans (Py.deep y) hd, by rw [inT_any]; exact q _ _ _ (g1.trans g2) (.bl _)⟩)
theorem v_notInT {α : Type} [Py α] [PyQ α] [DecidableEq α] {y : α} {xs : Tup α} (hu : X.A.units + 65 < cLine) (hd : Py.dep α ≤ 64) (ha : PD X Φ a y) (hb : PD X Φ b xs) (hm : behindInMarks .NotIn b = false := by rfl) : PV X Φ (.Compare a [.NotIn] [b] pos) (!decide (y ∈ xs.l)) := .mk fun H0 σ F H Q s sl q =>
  wE_of (pe_cmpR (op_notInTD hu) peW peW hm) (ha H0 σ F H _ s sl fun v F1 H1 g1 p1 => hb H0 σ F1 H1 _ g1.s (sl.gr g1) fun w F2 H2 g2 p2 =>
    ⟨enc y, xs.l.map enc, dp_mono (g2.f.trans g2.s) _ _ p1, dp_mono g2.s _ _ p2, Py.can y, canAll xs.l, Nat.le_trans (Py.deep y) hd, by rw [inT_any]; exact q _ _ _ (g1.trans g2) (.bl _)⟩)
theorem t_inT {α : Type} [Py α] [PyQ α] [DecidableEq α] {y : α} {xs : Tup α} (hu : X.A.units + 65 < cLine) (hd : Py.dep α ≤ 64) (ha : PD X Φ a y) (hb : PD X Φ b xs) (hm : behindInMarks .In b = false := by rfl) : PTv X Φ (.Compare a [.In] [b] pos) (decide (y ∈ xs.l)) := .mk fun H0 σ F H Q s sl q =>
  wT_of (pt_cmpR (op_inTD hu) peW peW hm) (ha H0 σ F H _ s sl fun v F1 H1 g1 p1 => hb H0 σ F1 H1 _ g1.s (sl.gr g1) fun w F2 H2 g2 p2 =>
    ⟨enc y, xs.l.map enc, dp_mono (g2.f.trans g2.s) _ _ p1, dp_mono g2.s _ _ p2, Py.can y, canAll xs.l, Nat.le_trans (Py.deep y) hd, _, rfl, by rw [inT_any]; exact q _ _ (g1.trans g2)⟩)
theorem t_notInT {α : Type} [Py α] [PyQ α] [DecidableEq α] {y : α} {xs : Tup α} (hu : X.A.units + 65 < cLine) (hd : Py.dep α ≤ 64) (ha : PD X Φ a y) (hb : PD X Φ b xs) (hm : behindInMarks .NotIn b = false := by rfl) : PTv X Φ (.Compare a [.NotIn] [b] pos) (!decide (y ∈ xs.l)) := .mk fun H0 σ F H Q s sl q =>
  wT_of (pt_cmpR (op_notInTD hu) peW peW hm) (ha H0 σ F H _ s sl fun v F1 H1 g1 p1 => hb H0 σ F1 H1 _ g1.s (sl.gr g1) fun w F2 H2 g2 p2 =>
    ⟨enc y, xs.l.map enc, dp_mono (g2.f.trans g2.s) _ _ p1, dp_mono g2.s _ _ p2, Py.can y, canAll xs.l, Nat.le_trans (Py.deep y) hd, _, rfl, by rw [inT_any]; exact q _ _ (g1.trans g2)⟩)
theorem v_cmpD {α : Type} [Py α] [PyS α] [PyN α] {op : CmpOp} {f : PyData → PyData → Bool} {x y : α} (ho : OpR X (compareOp op) (rCmpD X.K f)) (hd : Py.dep α ≤ 64) (ha : PD X Φ a x) (hb : PD X Φ b y) (hm : behindInMarks op b = false := by first | exact nomark _ | rfl) : PV X Φ (.Compare a [op] [b] pos) (f (enc x) (enc y)) := .mk fun H0 σ F H Q s sl q =>
  wE_of (pe_cmpR ho peW peW hm) (ha H0 σ F H _ s sl fun v F1 H1 g1 p1 => hb H0 σ F1 H1 _ g1.s (sl.gr g1) fun w F2 H2 g2 p2 =>
    ⟨enc x, enc y, dp_mono (g2.f.trans g2.s) _ _ p1, dp_mono g2.s _ _ p2, PyS.alike x y, PyN.nn x, Nat.le_trans (Py.deep x) hd, q _ _ _ (g1.trans g2) (.bl _)⟩)
theorem t_cmpD {α : Type} [Py α] [PyS α] [PyN α] {op : CmpOp} {f : PyData → PyData → Bool} {x y : α} (ho : OpR X (compareOp op) (rCmpD X.K f)) (hd : Py.dep α ≤ 64) (ha : PD X Φ a x) (hb : PD X Φ b y) (hm : behindInMarks op b = false := by first | exact nomark _ | rfl) : PTv X Φ (.Compare a [op] [b] pos) (f (enc x) (enc y)) := .mk fun H0 σ F H Q s sl q =>
  wT_of (pt_cmpR ho peW peW hm) (ha H0 σ F H _ s sl fun v F1 H1 g1 p1 => hb H0 σ F1 H1 _ g1.s (sl.gr g1) fun w F2 H2 g2 p2 =>
    ⟨enc x, enc y, dp_mono (g2.f.trans g2.s) _ _ p1, dp_mono g2.s _ _ p2, PyS.alike x y, PyN.nn x, Nat.le_trans (Py.deep x) hd, _, rfl, q _ _ (g1.trans g2)⟩)
variable {α : Type} [Py α] [PyS α] [PyN α] {x y : α}
theorem v_ltD (hu : X.A.units + 64 < cLine) (hd : Py.dep α ≤ 64) (ha : PD X Φ a x) (hb : PD X Φ b y) : PV X Φ (.Compare a [.Lt] [b] pos) (ltD x y) := v_cmpD (op_ltD hu) hd ha hb (nomark _)
theorem v_gtD (hu : X.A.units + 64 < cLine) (hd : Py.dep α ≤ 64) (ha : PD X Φ a x) (hb : PD X Φ b y) : PV X Φ (.Compare a [.Gt] [b] pos) (ltD y x) := v_cmpD (f := fun d e => PySem.W.dataLt e d) (op_gtD hu) hd ha hb (nomark _)
theorem v_leD (hu : X.A.units + 64 < cLine) (hd : Py.dep α ≤ 64) (ha : PD X Φ a x) (hb : PD X Φ b y) : PV X Φ (.Compare a [.LtE] [b] pos) (!ltD y x) := v_cmpD (op_leD hu) hd ha hb (nomark _)
theorem v_geD (hu : X.A.units + 64 < cLine) (hd : Py.dep α ≤ 64) (ha : PD X Φ a x) (hb : PD X Φ b y) : PV X Φ (.Compare a [.GtE] [b] pos) (!ltD x y) := v_cmpD (op_geD hu) hd ha hb (nomark _)
theorem t_ltD (hu : X.A.units + 64 < cLine) (hd : Py.dep α ≤ 64) (ha : PD X Φ a x) (hb : PD X Φ b y) : PTv X Φ (.Compare a [.Lt] [b] pos) (ltD x y) := t_cmpD (op_ltD hu) hd ha hb (nomark _)
theorem t_gtD (hu : X.A.units + 64 < cLine) (hd : Py.dep α ≤ 64) (ha : PD X Φ a x) (hb : PD X Φ b y) : PTv X Φ (.Compare a [.Gt] [b] pos) (ltD y x) := t_cmpD (f := fun d e => PySem.W.dataLt e d) (op_gtD hu) hd ha hb (nomark _)
theorem t_leD (hu : X.A.units + 64 < cLine) (hd : Py.dep α ≤ 64) (ha : PD X Φ a x) (hb : PD X Φ b y) : PTv X Φ (.Compare a [.LtE] [b] pos) (!ltD y x) := t_cmpD (op_leD hu) hd ha hb (nomark _)
theorem t_geD (hu : X.A.units + 64 < cLine) (hd : Py.dep α ≤ 64) (ha : PD X Φ a x) (hb : PD X Φ b y) : PTv X Φ (.Compare a [.GtE] [b] pos) (!ltD x y) := t_cmpD (op_geD hu) hd ha hb (nomark _)
end
instance : PyS Bool := ⟨fun x y => by simp [enc, Py.enc, PySem.W.alike], .inr fun x => ⟨by simp [enc, Py.enc], by simp [enc, Py.enc]⟩⟩
instance {α : Type} [Py α] [PyS α] : PyS (List α) := ⟨fun x y => by
  show PySem.W.alike (.list (x.map enc)) (.list (y.map enc)) = true
  simp only [PySem.W.alike, alikeAll_of], .inr fun x => ⟨by simp [enc, Py.enc], by simp [enc, Py.enc]⟩⟩
instance {α β γ : Type} [Py α] [Py β] [Py γ] [PyS α] [PyS β] [PyS γ] : PyS (T3 α β γ) := ⟨fun x y => by
  have h1 := PyS.alike x.a y.a
  have h2 := PyS.alike x.b y.b
  have h3 := PyS.alike x.c y.c
  show PySem.W.alike (.tuple [enc x.a, enc x.b, enc x.c]) (.tuple [enc y.a, enc y.b, enc y.c]) = true
  simp only [PySem.W.alike, PySem.W.alikeAll, h1, h2, h3, Bool.and_self], .inl fun x => ⟨_, _, rfl⟩⟩
instance {α β γ δ : Type} [Py α] [Py β] [Py γ] [Py δ] [PyS α] [PyS β] [PyS γ] [PyS δ] : PyS (T4 α β γ δ) := ⟨fun x y => by
  have h1 := PyS.alike x.a y.a
  have h2 := PyS.alike x.b y.b
  have h3 := PyS.alike x.c y.c
  have h4 := PyS.alike x.d y.d
  show PySem.W.alike (.tuple [enc x.a, enc x.b, enc x.c, enc x.d]) (.tuple [enc y.a, enc y.b, enc y.c, enc y.d]) = true
  simp only [PySem.W.alike, PySem.W.alikeAll, h1, h2, h3, h4, Bool.and_self], .inl fun x => ⟨_, _, rfl⟩⟩
instance {α β γ δ ε : Type} [Py α] [Py β] [Py γ] [Py δ] [Py ε] [PyS α] [PyS β] [PyS γ] [PyS δ] [PyS ε] : PyS (T5 α β γ δ ε) := ⟨fun x y => by
  have h1 := PyS.alike x.a y.a
  have h2 := PyS.alike x.b y.b
  have h3 := PyS.alike x.c y.c
  have h4 := PyS.alike x.d y.d
  have h5 := PyS.alike x.e y.e
  show PySem.W.alike (.tuple [enc x.a, enc x.b, enc x.c, enc x.d, enc x.e]) (.tuple [enc y.a, enc y.b, enc y.c, enc y.d, enc y.e]) = true
  simp only [PySem.W.alike, PySem.W.alikeAll, h1, h2, h3, h4, h5, Bool.and_self], .inl fun x => ⟨_, _, rfl⟩⟩
theorem tup_alike {α : Type} [Py α] [PyS α] (x y : Tup α) : PySem.W.alike (enc x) (enc y) = true := by
  show PySem.W.alike (.tuple (x.l.map enc)) (.tuple (y.l.map enc)) = true
  simp only [PySem.W.alike, alikeAll_of]
/-! ### tuple(range(n)) -/
section
variable {X : Cx} {Φ : List SD} {a b : Expr} {pos p p2 pos' : Pos} {i j : Int}
theorem v_tupR1 (B : Blt X.mg) (hc : X.calm = true) (ha : PV X Φ a i) (hi : 0 ≤ i ∧ i ≤ 16777216) (hg : Gl X "range" := by rfl) (hgl : Gl X "tuple" := by rfl) (h1 : nst a = true := by rfl) : PV X Φ (.Call (.Name "tuple" p) [.Call (.Name "range" p2) [a] [] pos'] [] pos) (Tup.mk (rng 0 i)) := .mk fun H0 σ F H Q s sl q =>
  wE_of (pe_tupRg hc hgl B.tuple (prg_1 hg B.range peW (by rw [star_cons h1]))) (ha H0 σ F H _ s sl fun v F1 H1 g1 p1 => by
    cases p1
    exact ⟨i, rfl, RgOk.of_le (by omega) hi.2 (by omega) hi.1, fun t ht => q _ _ _ (g1.trans (Gr.new g1.s ht)) (py_tup.mpr ⟨t, _, rfl, SqT.of upd_same, by rw [rgV_rng]; exact ints_allP⟩)⟩)
end

/-! ### sorted, of tuples of any length: none empty, or one alone -/
theorem sorts_one {prog : Program} {w : World} {A : Around} {s : Shared} {v : Value} {d : PyData} {as : List Addr}
    (r : Reads s.heap v d as) (ha : PySem.W.alike d d = true)
    (hn : d ≠ .none) (hu : A.units + d.depth < cLine) :
    PySem.W.SortsAt prog w A s (PySem.W.dataKind s.heap [d]) [v] := by
  have hal : PySem.W.AllAlike [d] := fun x hx y hy => by
    rw [List.mem_singleton.mp hx, List.mem_singleton.mp hy]; exact ha
  refine ⟨fun x hx => ?_, PyProof.Rows.general', fun E x y a b Q ha hb hq => ?_, fun h2 => absurd h2 (by simp)⟩
  · rw [List.mem_singleton.mp hx]
    exact ⟨_, PySem.W.dataKind_some hal (List.mem_singleton.mpr rfl) r⟩
  · obtain ⟨d1, as1, m1, r1, rfl⟩ := PySem.W.dataKind_inv ha
    obtain ⟨d2, as2, m2, r2, rfl⟩ := PySem.W.dataKind_inv hb
    rw [List.mem_singleton.mp m1] at r1 hq
    rw [List.mem_singleton.mp m2] at r2 hq
    exact PySem.W.oneLt_alike (f := false) (fun z => (by cases z)) r1 r2 (hal _ (List.mem_singleton.mpr rfl) _ (List.mem_singleton.mpr rfl)) hn
      (by have := Nat.min_le_left d.depth d.depth; omega) hq
section
variable {X : Cx} {Φ : List SD} {e : Expr} {pos p : Pos}
theorem cr_sort1 {β : Type} {en : β → PyData} {b : β} (hal : PySem.W.alike (en b) (en b) = true) (hn : en b ≠ .none) (hu : X.A.units + 2 + (en b).depth < cLine) : CallR X (.builtin "sorted") (rSortG X en [b]) := by
  intro pins s σ H vs us Q I r h
  obtain ⟨a, ws, rfl, hs, hd, q⟩ := h
  obtain ⟨its, rv, hl, hz⟩ := I.list hs
  rw [Vals.ref1 r]
  obtain ⟨as, rd⟩ := Dp.readsAll I ([b].map en) ws its hd rv
  cases hd with
  | cons h1 h2 =>
    cases h2
    rename_i v
    cases rv with
    | cons rv1 rv2 =>
      cases rv2
      rename_i u
      have e1 : PySem.W.EachIs (fun u b' => ∃ v', RelV v' u ∧ ∃ j : Nat, [v][j]? = some v' ∧ [b][j]? = some b') [u] [b] := .cons ⟨v, rv1, 0, rfl, rfl⟩ .nil
      have er := PySem.W.readsAll_each en (bs := [b]) rd
      have er2 : PySem.W.EachIs (fun v b => ∃ as, Reads (PySem.W.sortingHeap (PySem.W.copyHeap s.heap [u]) (s.heap.objs.size + 1) [u]) v (en b) as) [u] [b] :=
        er.mono fun _ _ ⟨as, r⟩ => ⟨as, PyProof.Rows.Reads.keeps (fun _ _ => PySem.W.sorting_copy_old) r⟩
      have hal1 : PySem.W.AllAlike ([b].map en) := fun x hx y hy => by
        simp at hx hy
        rw [hx, hy]; exact hal
      have S : PySem.W.SortsAt X.prog X.w X.A.in1.in1 { s with heap := PySem.W.sortingHeap (PySem.W.copyHeap s.heap [u]) (s.heap.objs.size + 1) [u] } (PySem.W.dataKind (PySem.W.sortingHeap (PySem.W.copyHeap s.heap [u]) (s.heap.objs.size + 1) [u]) [en b]) [u] := by
        cases er2 with
        | cons h3 _ =>
          obtain ⟨as3, r3⟩ := h3
          exact sorts_one (s := { s with heap := PySem.W.sortingHeap (PySem.W.copyHeap s.heap [u]) (s.heap.objs.size + 1) [u] }) r3 hal hn (by show X.A.units + 1 + 1 + _ < _; omega)
      refine PySem.W.sorted_vals hl.isList S (by rw [sizeLine_eq, List.length_singleton]; omega) ?_
      have ho := PySem.W.sortVals_length (κ := PySem.W.dataKind (PySem.W.sortingHeap (PySem.W.copyHeap s.heap [u]) (s.heap.objs.size + 1) [u]) [en b]) false (ks := [u]) (vs := [u]) rfl
      have eo := PySem.W.sortVals_data false e1 er2 hal1
      obtain ⟨ep, he'⟩ := PyProof.Rows.sortedAll_at s.heap [u] (PySem.W.sortVals (PySem.W.dataKind (PySem.W.sortingHeap (PySem.W.copyHeap s.heap [u]) (s.heap.objs.size + 1) [u]) [en b]) false [u] [u]).toArray
      obtain ⟨ys, k1, k2, k3⟩ := of_eachIs (R := fun v' b' => ∃ j : Nat, [v][j]? = some v' ∧ [b][j]? = some b') eo
      have k2' : ys.length = 1 := by rw [k2, List.length_mergeSort]; rfl
      exact ⟨.ref _, upd H (s.heap.objs.size + 1) (.lst ys), I.laid (t' := s.toks) (fun _ _ => PyProof.Rows.sortedAll_old) (Nat.le_succ _) ⟨by rw [k2', sizeLine_eq]; omega, _, ep, k1, he'⟩, rfl, q ys _ (I.hok.fresh (Nat.le_succ _)) k2' k3⟩
end

section
variable {X : Cx} {Φ : List SD} {e : Expr} {pos p : Pos}
theorem v_sortG {α : Type} [Py α] {xs : List α} (B : Blt X.mg) (hcr : CallR X (.builtin "sorted") (rSortG X enc xs)) (ha : PL X Φ e xs) (hg : Gl X "sorted" := by rfl) (hst : nst e = true := by rfl) : PN X Φ (.Call (.Name "sorted" p) [e] [] pos) (srt xs) := .mk fun H0 σ F H Q s sl q =>
  wE_callB hcr hg B.sorted (by decide +kernel) (by decide +kernel) (by decide +kernel) (by simp [hst]) (wA_one hst (ha H0 σ F H _ s sl fun l vs F1 H1 g1 h1 p1 => ⟨l, vs, rfl, h1, dpAll_mono g1.s _ _ (allP_dpAll2 p1), fun ys t ht hl hy => by
      refine q t ys F1 _ (g1.trans (Gr.own g1.s ht)) (fresh_of g1 ht).2 (fresh_of g1 ht).1 upd_same ⟨by rw [hl]; simp [srt, List.length_mergeSort], fun n P v h2 h3 => ?_⟩
      rw [List.getElem?_map] at h2
      cases hb : (srt xs)[n]? with
      | none => rw [hb] at h2; cases h2
      | some b =>
        rw [hb] at h2; cases h2
        obtain ⟨m, m1, m2⟩ := hy n v b h3 hb
        exact p1.2 m _ v (by rw [List.getElem?_map, m2]; rfl) m1⟩))
theorem v_sortedT {α : Type} [Py α] [PyS α] {xs : List (Tup α)} (B : Blt X.mg) (hu : X.A.units + 2 + Py.dep (Tup α) < cLine) (ha : PL X Φ e xs) (hs : (∀ x ∈ xs, x.l ≠ []) ∨ xs.length ≤ 1) (hg : Gl X "sorted" := by rfl) (hst : nst e = true := by rfl) : PN X Φ (.Call (.Name "sorted" p) [e] [] pos) (srt xs) := by
  refine v_sortG B ?_ ha hg hst
  have hd : ∀ b : Tup α, X.A.units + 2 + (enc b).depth < cLine := fun b => by have := Py.deep b; show X.A.units + 2 + (Py.enc b).depth < cLine; omega
  have al : PySem.W.AllAlike (xs.map enc) := fun d hd d' hd' => by
    obtain ⟨x, _, rfl⟩ := List.mem_map.mp hd
    obtain ⟨y, _, rfl⟩ := List.mem_map.mp hd'
    exact tup_alike x y
  have ne : (∀ x ∈ xs, x.l ≠ []) → CallR X (.builtin "sorted") (rSortG X enc xs) := fun h =>
    cr_sortG al (.inl fun d hd => by
      obtain ⟨x, hx, rfl⟩ := List.mem_map.mp hd
      have := h x hx
      obtain ⟨l⟩ := x
      cases l with
      | nil => exact absurd rfl this
      | cons a r => exact ⟨enc a, r.map enc, rfl⟩) fun b _ => hd b
  rcases hs with h | h
  · exact ne h
  · match xs, h, ne with
    | [], _, ne => exact ne (by simp)
    | [x], _, _ => exact cr_sort1 (tup_alike x x) (by show enc x ≠ .none; simp [enc, Py.enc]) (hd x)
    | _ :: _ :: _, h, _ => simp at h
end
/-- the order of tuples of numbers -/
theorem ltD_tup (x y : Tup Int) : ltD x y = decide (x.l < y.l) := by
  show PySem.W.dataLt (.tuple (x.l.map enc)) (.tuple (y.l.map enc)) = _
  rw [PySem.W.dataLt_tuple]
  exact PySem.W.dataLt_ints x.l y.l
theorem srt_tup (xs : List (Tup Int)) : (srt xs).Pairwise fun a b => a.l ≤ b.l := by
  have e : PySem.W.dataLe false (enc (α := Tup Int)) = fun a b => decide (a.l ≤ b.l) := by
    funext a b
    show (!PySem.W.dataLt (enc b) (enc a)) = _
    have := ltD_tup b a
    unfold ltD at this
    rw [this]
    by_cases h : b.l < a.l
    · rw [decide_eq_true h, decide_eq_false (by exact fun z => List.not_lt.mpr z h)]; rfl
    · rw [decide_eq_false h, decide_eq_true (List.not_lt.mp h)]; rfl
  unfold srt
  rw [e]
  refine (List.pairwise_mergeSort (le := fun (a b : Tup Int) => decide (a.l ≤ b.l)) (fun a b c h1 h2 => ?_) (fun a b => ?_) xs).imp fun h => of_decide_eq_true h
  · exact decide_eq_true (List.le_trans (of_decide_eq_true h1) (of_decide_eq_true h2))
  · rw [Bool.or_eq_true, decide_eq_true_eq, decide_eq_true_eq]
    exact List.le_total a.l b.l
end GL

set_option Elab.async false
set_option linter.all false
set_option maxRecDepth 100000
set_option maxHeartbeats 4000000
namespace GL
open PySem PySem.Spec PyProof.Rows L2
open Evl (Ex ex_l ex_t)
/-! ### instances, their attributes settled -/
def insP (C : Addr) (fs : List (Str × MP)) : MP where
  p F v := ∃ a dx us, v = .ref a ∧ F a = some (.ins C dx ((fs.map (·.1)).zip us)) ∧ AllP (fs.map (·.2)) F us
  mono := by
    rintro F F' v e ⟨a, dx, us, h1, h2, h3⟩
    exact ⟨a, dx, us, h1, e _ _ h2, h3.mono e⟩
theorem zip_lookup {β : Type} {f : Str} : ∀ {ns : List Str} {us : List β} {n : Nat}, ns.Nodup → ns[n]? = some f → us.length = ns.length → (ns.zip us).lookup f = us[n]?
  | [], _, n, _, h, _ => by simp at h
  | m :: ns, [], _, _, _, h => by simp at h
  | m :: ns, u :: us, 0, hd, h, hl => by
    simp at h
    subst h
    simp [List.zip_cons_cons, List.lookup]
  | m :: ns, u :: us, n + 1, hd, h, hl => by
    rw [List.nodup_cons] at hd
    have hm : (f == m) = false := by
      rw [beq_eq_false_iff_ne]
      intro e
      subst e
      exact hd.1 (List.mem_of_getElem? (by simpa using h))
    simp only [List.zip_cons_cons, List.lookup, hm, List.getElem?_cons_succ]
    exact zip_lookup hd.2 (by simpa using h) (by simpa using hl)
theorem zip_lookup_none {β : Type} {f : Str} : ∀ {ns : List Str} {us : List β}, f ∉ ns → (ns.zip us).lookup f = none
  | [], us, _ => by simp [List.lookup]
  | m :: ns, [], _ => by simp [List.lookup]
  | m :: ns, u :: us, h => by
    have hm : (f == m) = false := by
      rw [beq_eq_false_iff_ne]
      intro e; subst e; exact h (by simp)
    simp only [List.zip_cons_cons, List.lookup, hm]
    exact zip_lookup_none fun z => h (by simp [z])
theorem putF_zip {f : Str} {y : V} : ∀ {ns : List Str} {us : List V}, f ∉ ns → us.length = ns.length → putF f y (ns.zip us) = (ns ++ [f]).zip (us ++ [y])
  | [], [], _, _ => rfl
  | [], _ :: _, _, h => by simp at h
  | _ :: _, [], _, h => by simp at h
  | m :: ns, u :: us, h, hl => by
    have hm : ¬ m = f := fun e => h (by simp [e])
    simp only [List.zip_cons_cons, List.cons_append, putF, if_neg hm]
    rw [putF_zip (fun z => h (by simp [z])) (by simpa using hl)]
section
variable {X : Cx} {Φ : List SD} {o e : Expr} {es : List Expr} {pos apos p : Pos} {P : MP} {Qs : List MP} {C : Addr} {fs : List (Str × MP)}
/-- o.f -/
theorem v_att {f : Str} (n : Nat) (c : Cls X.K C) (na : NoAttr X.K C f) (he : PEv X Φ o (insP C fs)) (hn : fs[n]? = some (f, P) := by rfl) (hd : (fs.map (·.1)).Nodup := by decide +kernel) (hb : attributeBase o f X.env (eval o X.env) = eval o X.env := by rfl) : PEv X Φ (.Attribute o f pos) P := .mk fun H0 σ F H Q s sl q =>
  wE_of (pe_fld peW hb) (he H0 σ F H _ s sl fun v F1 H1 g1 ⟨a, dx, us, e1, h1, p1⟩ => by
    subst e1
    have hp : (fs.map (·.2))[n]? = some P := by rw [List.getElem?_map, hn]; rfl
    obtain ⟨u, hu, pu⟩ := allP_at p1 hp
    exact ⟨a, C, dx, _, u, rfl, g1.s _ _ h1, c, na, by rw [zip_lookup hd (by rw [List.getElem?_map, hn]; rfl) (by rw [p1.1]; simp), hu], q u F1 H1 g1 pu⟩)
/-- a method of a class -/
structure MthG (P : Program) (w : World) (K : Fg) (mg : Str → Option Value) (base : Heap) (CX : CXT) (k : Nat) (C : Addr) (m : Str) (sp : Sp) : Prop where
  ex : ∃ (f : Addr) (fd : FuncData) (ps : List Str), FnOk P w K mg base CX k f fd ps sp ∧ Meth K C m f ∧ Cls K C ∧ Binds K fd ps []
theorem v_meth {A : Type} {argP : A → List MP} {pre : A → Prop} {res : A → RS} {m : Str} {CX : CXT} {n : Nat} {pl : Sem Bool} (G : MthG X.prog X.w X.K X.mg X.base CX n C m (spG argP pre res)) (hr : Room n X.A) (hx : Passes CX X E0) (z : A) (hp : pre z) (hv : res z = .val P)
    (he : PEv X Φ o (insP C fs)) (ha : PAs X Φ (e :: es) Qs) (hz : argP z = insP C fs :: Qs := by rfl) (hm : (fs.map (·.1)).contains m = false := by decide +kernel) (hst : (e :: es).all nst = true := by rfl)
    (ht : eval (.Call (.Attribute o m apos) (e :: es) [] pos) X.env = (do
      let ov ← eval o X.env
      standAt apos.atName
      let (f, first) ← holding [ov] (getMethod ov m pl)
      callWith pos f first (backTo pos (starEach (e :: es) X.env)) (backToKw pos (keywordEach [] X.env))) := by rfl) : PEv X Φ (.Call (.Attribute o m apos) (e :: es) [] pos) P := .mk fun H0 σ F H Q s sl q => by
  obtain ⟨f, fd, ps, h1, h2, h3, h4⟩ := G.ex
  have hst2 := hst
  rw [List.all_cons, Bool.and_eq_true] at hst2
  have hm' : m ∉ fs.map (·.1) := fun z => by rw [List.contains_iff_mem.mpr z] at hm; cases hm
  refine wE_of (pe_meth (pl := pl) peW h3 h2 h1 hr h4 .nil hx paW (star_cons hst2.1) (star_plain hst2.2) ht) (he H0 σ F H _ s sl fun v F1 H1 g1 ⟨a, dx, us, e1, k1, p1⟩ => ?_)
  subst e1
  refine ⟨a, dx, _, rfl, g1.s _ _ k1, zip_lookup_none hm', ha H0 σ F1 H1 _ g1.s (sl.gr g1) fun vs F2 H2 g2 p2 => ⟨z, F2, g2.s, ?_, hp, ?_⟩⟩
  · rw [hz, List.append_nil]
    exact .cons ⟨a, dx, us, rfl, g2.f _ _ k1, p1.mono g2.f⟩ p2
  · rw [hv]
    exact fun v F3 H3 g3 p3 => q v F3 H3 ((g1.trans g2).trans g3) p3
theorem v_meth0 {A : Type} {argP : A → List MP} {pre : A → Prop} {res : A → RS} {m : Str} {CX : CXT} {n : Nat} {pl : Sem Bool} (G : MthG X.prog X.w X.K X.mg X.base CX n C m (spG argP pre res)) (hr : Room n X.A) (hx : Passes CX X E0) (z : A) (hp : pre z) (hv : res z = .val P)
    (he : PEv X Φ o (insP C fs)) (hz : argP z = [insP C fs] := by rfl) (hm : (fs.map (·.1)).contains m = false := by decide +kernel)
    (ht : eval (.Call (.Attribute o m apos) [] [] pos) X.env = (do
      let ov ← eval o X.env
      standAt apos.atName
      let (f, first) ← holding [ov] (getMethod ov m pl)
      callWith pos f first (backTo pos (starEach [] X.env)) (backToKw pos (keywordEach [] X.env))) := by rfl) : PEv X Φ (.Call (.Attribute o m apos) [] [] pos) P := .mk fun H0 σ F H Q s sl q => by
  obtain ⟨f, fd, ps, h1, h2, h3, h4⟩ := G.ex
  have hm' : m ∉ fs.map (·.1) := fun z => by rw [List.contains_iff_mem.mpr z] at hm; cases hm
  refine wE_of (pe_meth0 (pl := pl) peW h3 h2 h1 hr h4 .nil hx ht) (he H0 σ F H _ s sl fun v F1 H1 g1 ⟨a, dx, us, e1, k1, p1⟩ => ?_)
  subst e1
  refine ⟨a, dx, _, rfl, g1.s _ _ k1, zip_lookup_none hm', z, F1, g1.s, ?_, hp, ?_⟩
  · rw [hz]
    exact .cons ⟨a, dx, us, rfl, k1, p1⟩ .nil
  · rw [hv]
    exact fun v F3 H3 g3 p3 => q v F3 H3 (g1.trans g3) p3
theorem v_meth0N {A : Type} {argP : A → List MP} {pre : A → Prop} {res : A → RS} {m : Str} {CX : CXT} {n : Nat} {pl : Sem Bool} {Ps : List MP} (G : MthG X.prog X.w X.K X.mg X.base CX n C m (spG argP pre res)) (hr : Room n X.A) (hx : Passes CX X E0) (z : A) (hp : pre z) (hv : res z = .new Ps)
    (he : PEv X Φ o (insP C fs)) (hz : argP z = [insP C fs] := by rfl) (hm : (fs.map (·.1)).contains m = false := by decide +kernel)
    (ht : eval (.Call (.Attribute o m apos) [] [] pos) X.env = (do
      let ov ← eval o X.env
      standAt apos.atName
      let (f, first) ← holding [ov] (getMethod ov m pl)
      callWith pos f first (backTo pos (starEach [] X.env)) (backToKw pos (keywordEach [] X.env))) := by rfl) : PEn X Φ (.Call (.Attribute o m apos) [] [] pos) Ps := .mk fun H0 σ F H Q s sl q => by
  obtain ⟨f, fd, ps, h1, h2, h3, h4⟩ := G.ex
  have hm' : m ∉ fs.map (·.1) := fun z => by rw [List.contains_iff_mem.mpr z] at hm; cases hm
  refine wE_of (pe_meth0 (pl := pl) peW h3 h2 h1 hr h4 .nil hx ht) (he H0 σ F H _ s sl fun v F1 H1 g1 ⟨a, dx, us, e1, k1, p1⟩ => ?_)
  subst e1
  refine ⟨a, dx, _, rfl, g1.s _ _ k1, zip_lookup_none hm', z, F1, g1.s, ?_, hp, ?_⟩
  · rw [hz]
    exact .cons ⟨a, dx, us, rfl, k1, p1⟩ .nil
  · rw [hv]
    exact fun a vs F3 H3 g3 k1 k2 k3 p3 => q a vs F3 H3 (g1.trans g3) (by
      cases w : H a with
      | none => rfl
      | some u => rw [g1.h a u w] at k1; cases k1) k2 k3 p3
end
/-! ### an object under construction: x's, unsettled -/
structure GrX (x : Addr) (F H F' H' : Hp) : Prop where
  f : Ex F F'
  h : ∀ a o, a ≠ x → H a = some o → H' a = some o
  s : Ex F' H'
  n : ∀ a, F a = none → H a ≠ none → F' a = none
theorem GrX.refl {x : Addr} {F H : Hp} (s : Ex F H) : GrX x F H F H := ⟨Ex.refl F, fun _ _ _ h => h, s, fun _ h _ => h⟩
theorem GrX.gr {x : Addr} {F H F1 H1 F2 H2 : Hp} (a : GrX x F H F1 H1) (b : Gr F1 H1 F2 H2) (hx : F1 x = none) (hx2 : H1 x ≠ none) : GrX x F H F2 H2 :=
  ⟨a.f.trans b.f, fun y o h1 h2 => b.h y o (a.h y o h1 h2), b.s, fun y h1 h2 => by
    by_cases q : y = x
    · subst q; exact b.n y hx hx2
    · refine b.n y (a.n y h1 h2) ?_
      cases e : H y with
      | none => exact absurd e h2
      | some o => rw [a.h y o q e]; exact fun z => nomatch z⟩
theorem GrX.write {x : Addr} {F H F1 H1 : Hp} {o : HO} (a : GrX x F H F1 H1) (hx : F1 x = none) : GrX x F H F1 (upd H1 x o) :=
  ⟨a.f, fun y u h1 h2 => by rw [upd_ne h1]; exact a.h y u h1 h2, fun y u z => by rw [upd_ne (ne_of_none z hx)]; exact a.s y u z, a.n⟩
theorem GrX.trans {x : Addr} {F H F1 H1 F2 H2 : Hp} (a : GrX x F H F1 H1) (b : GrX x F1 H1 F2 H2) (hx : F1 x = none) (hx2 : H1 x ≠ none) : GrX x F H F2 H2 :=
  ⟨a.f.trans b.f, fun y o h1 h2 => b.h y o h1 (a.h y o h1 h2), b.s, fun y h1 h2 => by
    by_cases q : y = x
    · subst q; exact b.n y hx hx2
    · refine b.n y (a.n y h1 h2) ?_
      cases e : H y with
      | none => exact absurd e h2
      | some o => rw [a.h y o q e]; exact fun z => nomatch z⟩
/-- self -/
def selfP (x : Addr) : MP := ⟨fun _ v => v = .ref x, fun _ _ _ _ h => h⟩
/-- what an __init__ does -/
def spI {A : Type} (C : Addr) (argP : A → List MP) (pre : A → Prop) (fs : A → List (Str × MP)) : Sp := fun vs H Q E => ∃ (z : A) (F : Hp) (x dx : Addr) (us : List V), H x = some (.ins C dx []) ∧ F x = none ∧ Ex F H ∧ vs = .ref x :: us ∧ AllP (argP z) F us ∧ pre z ∧
  ∀ F' H' dx' ws, GrX x F H F' H' → H' x = some (.ins C dx' (((fs z).map (·.1)).zip ws)) → F' x = none → AllP ((fs z).map (·.2)) F' ws → Q .non H'
theorem Sl.any {H0 H0' F H H' : Hp} {Φ : List SD} {σ : L2.St} (h : Sl H0 Φ σ F H) (hΦ : Φ.all (fun d => !d.isOw) = true) : Sl H0' Φ σ F H' := by
  have no : ∀ (i : Nat) (d : SD), Φ[i]? = some d → d.isOw = false := fun i d e => by
    have := List.all_eq_true.mp hΦ d (List.mem_of_getElem? e)
    simpa using this
  refine ⟨h.len, fun i d o a b => ?_, fun i j d e l hij a b c => ?_⟩
  · have k := h.at_ i d o a b
    have kn := no i d a
    cases d with
    | un => trivial
    | im P => exact k
    | ow Ps => cases kn
  · rw [no i d a] at c; cases c
structure HI (X : Cx) (ks : List (List Stmt)) (Φ : List SD) (x C : Addr) (fs fin : List (Str × MP)) : Prop where
  run : ∀ (F0 H0 : Hp) (D : Ends) (σ : L2.St) (F H : Hp) (dx : Addr) (us : List V), GrX x F0 H0 F H → Sl H0 Φ σ F H → H x = some (.ins C dx ((fs.map (·.1)).zip us)) → F x = none → AllP (fs.map (·.2)) F us →
    (∀ σ' F' H' dx' ws, GrX x F0 H0 F' H' → H' x = some (.ins C dx' ((fin.map (·.1)).zip ws)) → F' x = none → AllP (fin.map (·.2)) F' ws → D.nx σ' H') → wK X ks D σ H
section
variable {X : Cx} {Φ : List SD} {a b c e : Expr} {es : List Expr} {pos apos p np : Pos} {P : MP} {Ps Qs : List MP} {x C : Addr} {fs fin : List (Str × MP)} {A A1 A2 : List Stmt} {r : List (List Stmt)}
theorem hi_nil : HI X [] Φ x C fs fs := ⟨fun F0 H0 D σ F H dx us g sl hx fx ha k => k σ F H dx us g hx fx ha⟩
theorem hi_end (h : HI X r Φ x C fs fin) : HI X ([] :: r) Φ x C fs fin := ⟨fun F0 H0 D σ F H dx us g sl hx fx ha k => wSs_of pss_nil (h.run F0 H0 D σ F H dx us g sl hx fx ha k)⟩
theorem keep_x {F H F' H' : Hp} (g : Gr F H F' H') {o : HO} (hx : H x = some o) (fx : F x = none) : H' x = some o ∧ F' x = none := ⟨g.h _ _ hx, g.n x fx (ne_none hx)⟩
/-- self.f = e -/
theorem hi_fld {f s0 : Str} (cl : Cls X.K C) (na : NoAttr X.K C f) (he : PEv X Φ e P) (hΦ : Φ.all (fun d => !d.isOw) = true) (h : HI X (A :: r) Φ x C (fs ++ [(f, P)]) fin) (hfr : (fs.map (·.1)).contains f = false := by decide +kernel) (hlen : fs.length < 900 := by decide) (h0 : Φ[0]? = some (.im (selfP x)) := by rfl)
    (hN : X.N[0]? = some s0 := by rfl) (hv : Vis X.env.scope s0 := by first | exact Or.inl rfl | exact Or.inr (Or.inl rfl) | exact Or.inr (Or.inr rfl)) (hd : (s0 == ("__debug__" : Str)) = false := by decide) (hcd : (s0 == ("__classdict__" : Str)) = false := by decide)
    (hs : swapsWith e (some (.Attribute (.Name s0 np) f apos)) pos.line X.env = pure false := by rfl) : HI X ((.Assign [.Attribute (.Name s0 np) f apos] e pos :: A) :: r) Φ x C fs fin := ⟨fun F0 H0 D σ F H dx us g sl hx fx ha k => by
  have hm' : f ∉ fs.map (·.1) := fun z => by rw [List.contains_iff_mem.mpr z] at hfr; cases hfr
  refine wK_cons (wS_of (ps_fld (pe_var hN hv hd hcd) peW hs) (he H0 σ F H _ g.s sl fun u F1 H1 g1 p1 => ?_))
  obtain ⟨kx, kf⟩ := keep_x g1 hx fx
  obtain ⟨w, h1, h2⟩ := (sl.gr g1).im h0
  have h2 : w = .ref x := h2
  subst h2
  refine ⟨_, h1, x, C, dx, _, rfl, kx, cl, na, ?_, ?_⟩
  · have := ha.1
    rw [List.length_zip]; simp at this ⊢; omega
  · have hl : us.length = (fs.map (·.1)).length := by rw [ha.1]; simp
    rw [putF_zip hm' hl]
    have g2 := (g.gr g1 fx (ne_none hx)).write (o := .ins C dx ((fs.map (·.1) ++ [f]).zip (us ++ [u]))) kf
    refine h.run F0 H0 D σ F1 _ dx (us ++ [u]) g2 ((sl.gr g1).any hΦ) (by rw [upd_same, List.map_append]; rfl) kf ?_ k
    rw [List.map_append]
    exact (ha.mono g1.f).snoc p1⟩
/-- an expression, its value dropped -/
theorem hi_drop (he : PEv X Φ e P) (h : HI X (A :: r) Φ x C fs fin) (hs : swapsWith e none pos.line X.env = pure false := by rfl) : HI X ((.Expr e pos :: A) :: r) Φ x C fs fin := ⟨fun F0 H0 D σ F H dx us g sl hx fx ha k =>
  wK_cons (wS_of (ps_expr peW hs) (he H0 σ F H _ g.s sl fun v F1 H1 g1 _ => h.run F0 H0 D σ F1 H1 dx us (g.gr g1 fx (ne_none hx)) (sl.gr g1) (keep_x g1 hx fx).1 (keep_x g1 hx fx).2 (ha.mono g1.f) k))⟩
/-- a test that is false, its road not taken -/
theorem hi_ifno (hc : PTv X Φ c false) (h : HI X (A2 :: A :: r) Φ x C fs fin) : HI X ((.If c A1 A2 pos :: A) :: r) Φ x C fs fin := ⟨fun F0 H0 D σ F H dx us g sl hx fx ha k =>
  wK_cons (wS_of (ps_if ptW pssW pssW) (hc H0 σ F H _ g.s sl fun F1 H1 g1 => iteF (h.run F0 H0 D σ F1 H1 dx us (g.gr g1 fx (ne_none hx)) (sl.gr g1) (keep_x g1 hx fx).1 (keep_x g1 hx fx).2 (ha.mono g1.f) k)))⟩
variable {S R : Type} {M : S → List SD} {T : R → RS} {W : XK} {o : Ctl S R}
theorem h_ifno (hc : PTv X Φ c false) (h : HB X W (A2 :: A :: r) Φ M T o) : HB X W ((.If c A1 A2 pos :: A) :: r) Φ M T o := .mk fun F0 H0 D σ F H g sl kp =>
  wK_cons (wS_of (ps_if ptW pssW pssW) (hc H0 σ F H _ g.s sl fun F1 H1 g1 => iteF (h F0 H0 D σ F1 H1 (g.trans g1) (sl.gr g1) kp)))
end
end GL

set_option Elab.async false
set_option linter.all false
set_option maxRecDepth 100000
set_option maxHeartbeats 4000000
namespace GL
open PySem PySem.Spec PyProof.Rows L2
open Evl (Ex ex_l ex_t)
/-! ### C.m(x, ..): a def read off its class -/
/-- what of the head is wanted for it -/
def cfunB (K : Fg) (C f : Addr) (m : Str) : Bool := PySem.W.readsIn K C (.type "type") && (decide (PySem.W.specialIn K (.ref C) "__getattribute__" = some (some (.builtin "type.__getattribute__"))) && (match PySem.W.findCls K (.ref C) (.type "type") m with
  | some (.val (.ref a)) => decide (a = f)
  | _ => false))
structure CFn (K : Fg) (C f : Addr) (m : Str) : Prop where
  rd : ClX.CRead K C (.type "type")
  vl : ClX.CVal K C (.type "type") m (.ref f) (.ref f)
theorem cfn_of {K : Fg} {C f : Addr} {m : Str} (h : cfunB K C f m = true) : CFn K C f m := by
  unfold cfunB at h
  rw [Bool.and_eq_true, Bool.and_eq_true] at h
  obtain ⟨h1, h2, h3⟩ := h
  refine ⟨⟨h1, of_decide_eq_true h2⟩, ?_, rfl⟩
  cases e : PySem.W.findCls K (.ref C) (.type "type") m with
  | none => rw [e] at h3; cases h3
  | some r =>
    rw [e] at h3
    cases r with
    | get g a o t => cases h3
    | val v =>
      cases v with
      | ref a => rw [of_decide_eq_true h3]
      | _ => cases h3
section
variable {X : Cx} {CX : CXT} {k : Nat} {C f : Addr} {fd : FuncData} {ps : List Str} {sp : Sp} {E : XK} {c m : Str} {p pos apos cp : Pos} {e : Expr} {es : List Expr} {t : TA}
theorem pe_cfun {pl : Sem Bool} (hg : Gl X c) (hm : X.mg c = some (.ref C)) (cf : CFn X.K C f m) (F : FnOk X.prog X.w X.K X.mg X.base CX k f fd ps sp) (hr : Room k X.A) (hb : Binds X.K fd ps []) (hk : PySem.W.keepIn X.K (.ref f) = true) (hx : Passes CX X E) (ha : PA X (e :: es) t)
    (hd : (c == ("__debug__" : Str)) = false) (hst : starEach (e :: es) X.env = (false, eval e X.env) :: starEach es X.env) (hpl : (backTo pos (starEach es X.env)).any (·.1) = false)
    (ht : eval (.Call (.Attribute (.Name c cp) m apos) (e :: es) [] pos) X.env = (do
      let ov ← eval (.Name c cp) X.env
      standAt apos.atName
      let (f, first) ← holding [ov] (getMethod ov m pl)
      callWith pos f first (backTo pos (starEach (e :: es) X.env)) (backToKw pos (keywordEach [] X.env)))) :
    PE X (.Call (.Attribute (.Name c cp) m apos) (e :: es) [] pos) (fun σ H Q => t σ H fun vs H1 => sp vs H1 Q E) := by
  refine ⟨fun pins s σ H Q I h => ?_⟩
  refine PySem.W.methodCall_KW (pl := pl) (ld_glob I hg hm ?_ hd) ht
  refine PySem.W.method_cls I.kIn cf.rd.ga (ClX.getcval_ok I cf.rd cf.vl fun s1 I1 => ?_)
  refine PySem.W.callWith_K (first := []) (h₀ := X.base) I1.ok.mod.kin hk (thn (ha.run pos pins s1 σ H _ I1 h) fun us s2 ⟨vs, H2, I2, r, q2⟩ => ⟨I2.kIn, ?_⟩) hst hpl
  exact run_fn (us := us) (vs := vs) (dvs := []) F hr hb .nil hx I2 r (by rw [List.append_nil]; exact q2)
end
/-! ### a class that is made; its __init__ -/
structure IniG (P : Program) (w : World) (K : Fg) (mg : Str → Option Value) (base : Heap) (CX : CXT) (k : Nat) (f : Addr) (sp : Sp) : Prop where
  ex : ∃ (fd : FuncData) (ps : List Str), FnOk P w K mg base CX k f fd ps sp ∧ Binds K fd ps [] ∧ PySem.W.keepIn K (.ref f) = true
section
variable {X : Cx} {Φ : List SD} {e : Expr} {es : List Expr} {pos apos p np cp : Pos} {C f : Addr} {A : List Stmt} {r : List (List Stmt)}
theorem v_mk {Ar : Type} {argP : Ar → List MP} {pre : Ar → Prop} {fs : Ar → List (Str × MP)} {CX : CXT} {k : Nat} {c : Str} (M : Mk X.K C f) (G : IniG X.prog X.w X.K X.mg X.base CX k f (spI C argP pre fs)) (hr : Room (k + 1) X.A) (hm : X.mg c = some (.ref C)) (hx : Passes CX X E0) (z : Ar) (hp : pre z) (ha : PAs X Φ (e :: es) (argP z))
    (hg : Gl X c := by rfl) (hd : (c == ("__debug__" : Str)) = false := by decide) (hst : (e :: es).all nst = true := by rfl) : PEv X Φ (.Call (.Name c p) (e :: es) [] pos) (insP C (fs z)) := .mk fun H0 σ F H Q s sl q => by
  obtain ⟨fd, ps, h1, h2, _⟩ := G.ex
  have hst2 := hst
  rw [List.all_cons, Bool.and_eq_true] at hst2
  refine wE_of (pe_make M h1 hr hg hm h2 .nil hx paW hd (star_cons hst2.1) (star_plain hst2.2)) (ha H0 σ F H _ s sl fun vs F1 H1 g1 p1 x dx hx0 hdx ne => ?_)
  have fx : F1 x = none := (fresh_of g1 hx0).1
  have fdx : F1 dx = none := (fresh_of g1 hdx).1
  have s1 : Ex F1 (upd (upd H1 dx (.own x)) x (.ins C dx [])) := fun b u z => by
    rw [upd_ne (ne_of_none z fx), upd_ne (ne_of_none z fdx)]; exact g1.s b u z
  refine ⟨z, F1, x, dx, vs, upd_same, fx, s1, by rw [List.append_nil], p1, hp, fun F' H' dx' ws g hx' fx' pw => ⟨rfl, ?_⟩⟩
  obtain ⟨k1, k2⟩ := Gr.settle g.s fx' hx'
  refine q (.ref x) (upd F' x (.ins C dx' (((fs z).map (·.1)).zip ws))) H' ⟨(g1.f.trans g.f).trans k1, fun b u zb => ?_, k2, fun b z1 z2 => ?_⟩ ⟨x, dx', ws, rfl, upd_same, pw.mono k1⟩
  · have hb : H1 b = some u := g1.h b u zb
    have n1 : b ≠ x := ne_of_none hb hx0
    refine g.h b u n1 ?_
    rw [upd_ne n1, upd_ne (ne_of_none hb hdx)]; exact hb
  · have n1 : b ≠ x := fun w => by
      subst w
      cases hb : H b with
      | none => exact z2 hb
      | some u => rw [g1.h b u hb] at hx0; cases hx0
    rw [upd_ne n1]
    refine g.n b (g1.n b z1 z2) ?_
    cases hb : H b with
    | none => exact absurd hb z2
    | some u =>
      have h3 := g1.h b u hb
      rw [upd_ne n1, upd_ne (ne_of_none h3 hdx), h3]; exact fun w => nomatch w
/-- Base.__init__(self, ..) -/
theorem hi_super {Ar : Type} {argP : Ar → List MP} {pre : Ar → Prop} {fs : Ar → List (Str × MP)} {fin : List (Str × MP)} {CX : CXT} {k : Nat} {c s0 : Str} {x D0 : Addr} {pl : Sem Bool} (cf : CFn X.K D0 f "__init__") (G : IniG X.prog X.w X.K X.mg X.base CX k f (spI C argP pre fs)) (hr : Room k X.A) (hm : X.mg c = some (.ref D0)) (hx : Passes CX X E0) (z : Ar) (hp : pre z)
    (ha : PAs X Φ es (argP z)) (hΦ : Φ.all (fun d => !d.isOw) = true) (h : HI X (A :: r) Φ x C (fs z) fin) (hg : Gl X c := by rfl) (hd : (c == ("__debug__" : Str)) = false := by decide) (hst : es.all nst = true := by rfl) (h0 : Φ[0]? = some (.im (selfP x)) := by rfl)
    (hN : X.N[0]? = some s0 := by rfl) (hv : Vis X.env.scope s0 := by first | exact Or.inl rfl | exact Or.inr (Or.inl rfl) | exact Or.inr (Or.inr rfl)) (hd0 : (s0 == ("__debug__" : Str)) = false := by decide) (hcd : (s0 == ("__classdict__" : Str)) = false := by decide)
    (ht : eval (.Call (.Attribute (.Name c cp) "__init__" apos) (.Name s0 np :: es) [] p) X.env = (do
      let ov ← eval (.Name c cp) X.env
      standAt apos.atName
      let (f, first) ← holding [ov] (getMethod ov "__init__" pl)
      callWith p f first (backTo p (starEach (.Name s0 np :: es) X.env)) (backToKw p (keywordEach [] X.env))) := by rfl)
    (hs : swapsWith (.Call (.Attribute (.Name c cp) "__init__" apos) (.Name s0 np :: es) [] p) none pos.line X.env = pure false := by rfl) :
    HI X ((.Expr (.Call (.Attribute (.Name c cp) "__init__" apos) (.Name s0 np :: es) [] p) pos :: A) :: r) Φ x C [] fin := ⟨fun F0 H0 D σ F H dx us g sl hx0 fx hu k => by
  obtain ⟨fd, ps, h1, h2, h3⟩ := G.ex
  obtain ⟨w, w1, w2⟩ := sl.im h0
  have w2 : w = .ref x := w2
  subst w2
  refine wK_cons (wS_of (ps_expr (pe_cfun (pl := pl) hg hm cf h1 hr h2 h3 hx (pa_cons (pe_var hN hv hd0 hcd) paW (star_cons rfl)) hd (star_cons rfl) (star_plain hst) ht) hs) ⟨_, w1, ha H0 σ F H _ g.s sl fun vs F1 H1 g1 p1 => ?_⟩)
  obtain ⟨kx, kf⟩ := keep_x g1 hx0 fx
  have g0 := g.gr g1 fx (ne_none hx0)
  have hus : us = [] := by
    have := hu.1; simp at this; exact this
  subst hus
  refine ⟨z, F1, x, dx, vs, by simpa using kx, kf, g1.s, rfl, p1, hp, fun F' H' dx' ws g2 hx2 fx2 pw => ?_⟩
  have hsl : Sl H0 Φ σ F' H' := by
    have e := (sl.gr g1)
    refine ⟨e.len, fun i d o a b => ?_, fun i j d e2 l hij a b cc => ?_⟩
    · have kk := e.at_ i d o a b
      have kn : d.isOw = false := by
        have := List.all_eq_true.mp hΦ d (List.mem_of_getElem? a)
        simpa using this
      cases d with
      | un => trivial
      | im P => obtain ⟨v, v1, v2⟩ := kk; exact ⟨v, v1, P.mono _ _ _ g2.f v2⟩
      | ow Ps => cases kn
    · have kn : d.isOw = false := by
        have := List.all_eq_true.mp hΦ d (List.mem_of_getElem? a)
        simpa using this
      rw [kn] at cc; cases cc
  exact h.run F0 H0 D σ F' H' dx' ws (g0.trans g2 kf (ne_none kx)) hsl hx2 fx2 pw k⟩
end
section
variable {P : Program} {w : World} {K : Fg} {mg : Str → Option Value} {base : Heap}
theorem def_okI {x qual : Str} {st : Stmt} {f C : Addr} {fd : FuncData} {N ps : List Str} {k : Nat} {Ar : Type} {argP : Ar → List MP} {pre : Ar → Prop} {fs : Ar → List (Str × MP)} (F : DefOf K x qual st f fd) (S : FnScope N ps (defScope st)) (n : Nat) (hlen : ∀ z, (argP z).length + 1 = ps.length) (hN : N.length = ps.length + n)
    (hb : ∀ (cdv : Value) (A : Around) (outer : List Env) (s : Shared) (H : Hp) (E : XK), Room k (A.deeper (envOfC qual (defScope st) s.heap.objs.size f cdv)) → ∀ z, pre z → ∀ o,
      HI (bx P w K mg base N qual st f cdv A outer s H E) [defBody st] (enter (selfP o :: argP z) n) o C [] (fs z)) : FnOk P w K mg base CX0 (k + 1) f fd ps (spI C argP pre fs) := by
  refine FunD.ok F S (fun vs H Q E h => ?_) fun cdv A outer s H vs Q E hr h => ?_
  · obtain ⟨z, F, o, dx, us, _, _, _, rfl, ha, _⟩ := h
    rw [List.length_cons, ha.1, hlen]
  · obtain ⟨z, G, o, dx, us, hx, fx, s0, rfl, ha, hp, hs⟩ := h
    have hall : AllP (selfP o :: argP z) G (.ref o :: us) := .cons rfl ha
    refine ⟨_, PSs.nox pssW, (hb cdv A outer s H E hr z hp o).run G H { nx := fun _ H' => Q .non H', rt := Q } (L2.start N (.ref o :: us)) G H dx [] (GrX.refl s0) (sl_start hall (by rw [hN, List.length_cons, hlen])) (by simpa using hx) fx .nil ?_⟩
    exact fun σ' F' H' dx' ws g1 g2 g3 g4 => hs F' H' dx' ws g1 g2 g3 g4
theorem ini_mk {x : Str} {f : Addr} {fd : FuncData} {ps : List Str} {k : Nat} {CX : CXT} {sp : Sp} {qual : Str} {st : Stmt} (F : DefOf K x qual st f fd) (G : FnOk P w K mg base CX k f fd ps sp)
    (hb : ∀ (kV doc pm : Value) (an : Option Addr) (cdv ct : Value) (us : List Value), us.length = ps.length → bindArgs (PySem.W.fnOf x qual (defArgs st) (defBody st) (defScope st) .none kV doc pm an cdv ct) ⟨us, []⟩ = pure (ps.zip us)) : IniG P w K mg base CX k f sp :=
  ⟨fd, ps, G, FunD.bindsN F hb, F.kp⟩
theorem mth_mk {C : Addr} {x m : Str} {f : Addr} {fd : FuncData} {ps : List Str} {k : Nat} {CX : CXT} {sp : Sp} {qual : Str} {st : Stmt} (c : Cls K C) (hm : Meth K C m f) (F : DefOf K x qual st f fd) (G : FnOk P w K mg base CX k f fd ps sp)
    (hb : ∀ (kV doc pm : Value) (an : Option Addr) (cdv ct : Value) (us : List Value), us.length = ps.length → bindArgs (PySem.W.fnOf x qual (defArgs st) (defBody st) (defScope st) .none kV doc pm an cdv ct) ⟨us, []⟩ = pure (ps.zip us)) : MthG P w K mg base CX k C m sp :=
  ⟨f, fd, ps, G, hm, c, FunD.bindsN F hb⟩
end
end GL

set_option Elab.async false
set_option linter.all false
set_option maxRecDepth 100000
set_option maxHeartbeats 4000000
namespace GL
open PySem PySem.Spec PyProof.Rows L2
open Evl (Ex ex_l ex_t)
section
variable {P : Program} {w : World} {K : Fg} {mg : Str → Option Value} {base : Heap}
/-- a def that ends without a return -/
theorem def_okM {x qual : Str} {st : Stmt} {f : Addr} {fd : FuncData} {N ps : List Str} {k : Nat} {Ar ρ : Type} {argP : Ar → List MP} {pre : Ar → Prop} {T : ρ → RS} (M0 : List SD) (F : DefOf K x qual st f fd) (S : FnScope N ps (defScope st)) (n : Nat) (hlen : ∀ z, (argP z).length = ps.length) (hN : N.length = ps.length + n)
    (hb : ∀ (cdv : Value) (A : Around) (outer : List Env) (s : Shared) (H : Hp) (E : XK), Room k (A.deeper (envOfC qual (defScope st) s.heap.objs.size f cdv)) → ∀ z, pre z →
      HB (S := Unit) (bx P w K mg base N qual st f cdv A outer s H E) (fun _ _ _ => False) [defBody st] (enter (argP z) n) (fun _ => M0) T (.nx ())) : FnOk P w K mg base CX0 (k + 1) f fd ps (spG argP pre fun _ => .val (py K .none)) := by
  refine FunD.ok F S (fun vs H Q E h => ?_) fun cdv A outer s H vs Q E hr h => ?_
  · obtain ⟨z, F, _, ha, _⟩ := h
    rw [ha.1, hlen]
  · obtain ⟨z, G, s0, ha, hp, hs⟩ := h
    refine ⟨_, PSs.nox pssW, run_body (X := bx P w K mg base N qual st f cdv A outer s H E) (W := fun _ _ _ => False) s0 ha (by rw [hlen]; exact hN) (hb cdv A outer s H E hr z hp) ?_⟩
    exact fun σ F' H' g _ => hs .non F' H' g .non
end
/-! ### lists of a written make -/
structure H2 (α β : Type) where
  a : α
  b : β
  deriving DecidableEq, Inhabited
instance {α β : Type} [Py α] [Py β] : Py (H2 α β) := ⟨fun p => .list [enc p.a, enc p.b], fun p => by simp [PyData.canLay0, PyData.canLayAll0, Py.can], max (Py.dep α) (Py.dep β) + 1, fun p => by
  have := Py.deep p.a
  have := Py.deep p.b
  simp only [PyData.depth, PyData.depthAll, enc]; omega⟩
instance {α β : Type} [Py α] [Py β] [PyQ α] [PyQ β] : PyQ (H2 α β) := ⟨fun p q => by
  show PyData.eqv (.list [enc p.a, enc p.b]) (.list [enc q.a, enc q.b]) = true ↔ _
  have h0 := PyQ.eqv p.a q.a
  have h1 := PyQ.eqv p.b q.b
  simp only [PyData.eqv, PyData.eqvAll, Bool.and_true, Bool.and_eq_true, h0, h1]
  cases p; cases q; simp⟩
structure H3 (α β γ : Type) where
  a : α
  b : β
  c : γ
  deriving DecidableEq, Inhabited
instance {α β γ : Type} [Py α] [Py β] [Py γ] : Py (H3 α β γ) := ⟨fun p => .list [enc p.a, enc p.b, enc p.c], fun p => by simp [PyData.canLay0, PyData.canLayAll0, Py.can], max (max (Py.dep α) (Py.dep β)) (Py.dep γ) + 1, fun p => by
  have := Py.deep p.a
  have := Py.deep p.b
  have := Py.deep p.c
  simp only [PyData.depth, PyData.depthAll, enc]; omega⟩
instance {α β γ : Type} [Py α] [Py β] [Py γ] [PyQ α] [PyQ β] [PyQ γ] : PyQ (H3 α β γ) := ⟨fun p q => by
  show PyData.eqv (.list [enc p.a, enc p.b, enc p.c]) (.list [enc q.a, enc q.b, enc q.c]) = true ↔ _
  have h0 := PyQ.eqv p.a q.a
  have h1 := PyQ.eqv p.b q.b
  have h2 := PyQ.eqv p.c q.c
  simp only [PyData.eqv, PyData.eqvAll, Bool.and_true, Bool.and_eq_true, h0, h1, h2]
  cases p; cases q; simp⟩
structure H4 (α β γ δ : Type) where
  a : α
  b : β
  c : γ
  d : δ
  deriving DecidableEq, Inhabited
instance {α β γ δ : Type} [Py α] [Py β] [Py γ] [Py δ] : Py (H4 α β γ δ) := ⟨fun p => .list [enc p.a, enc p.b, enc p.c, enc p.d], fun p => by simp [PyData.canLay0, PyData.canLayAll0, Py.can], max (max (Py.dep α) (Py.dep β)) (max (Py.dep γ) (Py.dep δ)) + 1, fun p => by
  have := Py.deep p.a
  have := Py.deep p.b
  have := Py.deep p.c
  have := Py.deep p.d
  simp only [PyData.depth, PyData.depthAll, enc]; omega⟩
instance {α β γ δ : Type} [Py α] [Py β] [Py γ] [Py δ] [PyQ α] [PyQ β] [PyQ γ] [PyQ δ] : PyQ (H4 α β γ δ) := ⟨fun p q => by
  show PyData.eqv (.list [enc p.a, enc p.b, enc p.c, enc p.d]) (.list [enc q.a, enc q.b, enc q.c, enc q.d]) = true ↔ _
  have h0 := PyQ.eqv p.a q.a
  have h1 := PyQ.eqv p.b q.b
  have h2 := PyQ.eqv p.c q.c
  have h3 := PyQ.eqv p.d q.d
  simp only [PyData.eqv, PyData.eqvAll, Bool.and_true, Bool.and_eq_true, h0, h1, h2, h3]
  cases p; cases q; simp⟩
section
variable {X : Cx} {Φ : List SD} {a b : Expr} {es : List Expr} {pos q1 : Pos}
theorem v_fldLP {n : Nat} {ds : List PyData} {d : PyData} (ha : PEv X Φ a (py X.K (.list ds))) (hd : ds[n]? = some d) : PEv X Φ (.Subscript a (.Constant (.int (n : Int)) 0 q1) pos) (py X.K d) :=
  v_ixP (n := n) (i := (n : Int)) (PEk.l (PEv.xk (ha.imp fun _ _ z => py_list.mp z))) v_int rfl (by rw [List.getElem?_map, hd]; rfl) (fun _ _ => rfl)
theorem v_h2 {α β : Type} [Py α] [Py β] {x : α} {y : β} (h : PAs X Φ es [py X.K (enc x), py X.K (enc y)]) : PV X Φ (.List es pos) (H2.mk x y) := (PEn.v (v_list h)).imp fun _ _ z => py_list.mpr z
theorem v_g2_0 {α β : Type} [Py α] [Py β] {x : H2 α β} (h : PV X Φ a x) : PV X Φ (.Subscript a (.Constant (.int 0) 0 q1) pos) x.a := v_fldLP (n := 0) (ds := [enc x.a, enc x.b]) h rfl
theorem v_g2_1 {α β : Type} [Py α] [Py β] {x : H2 α β} (h : PV X Φ a x) : PV X Φ (.Subscript a (.Constant (.int 1) 0 q1) pos) x.b := v_fldLP (n := 1) (ds := [enc x.a, enc x.b]) h rfl
theorem v_h3 {α β γ : Type} [Py α] [Py β] [Py γ] {x : α} {y : β} {z : γ} (h : PAs X Φ es [py X.K (enc x), py X.K (enc y), py X.K (enc z)]) : PV X Φ (.List es pos) (H3.mk x y z) := (PEn.v (v_list h)).imp fun _ _ z => py_list.mpr z
theorem v_g3_0 {α β γ : Type} [Py α] [Py β] [Py γ] {x : H3 α β γ} (h : PV X Φ a x) : PV X Φ (.Subscript a (.Constant (.int 0) 0 q1) pos) x.a := v_fldLP (n := 0) (ds := [enc x.a, enc x.b, enc x.c]) h rfl
theorem v_g3_1 {α β γ : Type} [Py α] [Py β] [Py γ] {x : H3 α β γ} (h : PV X Φ a x) : PV X Φ (.Subscript a (.Constant (.int 1) 0 q1) pos) x.b := v_fldLP (n := 1) (ds := [enc x.a, enc x.b, enc x.c]) h rfl
theorem v_g3_2 {α β γ : Type} [Py α] [Py β] [Py γ] {x : H3 α β γ} (h : PV X Φ a x) : PV X Φ (.Subscript a (.Constant (.int 2) 0 q1) pos) x.c := v_fldLP (n := 2) (ds := [enc x.a, enc x.b, enc x.c]) h rfl
theorem v_h4 {α β γ δ : Type} [Py α] [Py β] [Py γ] [Py δ] {x : α} {y : β} {z : γ} {u : δ} (h : PAs X Φ es [py X.K (enc x), py X.K (enc y), py X.K (enc z), py X.K (enc u)]) : PV X Φ (.List es pos) (H4.mk x y z u) := (PEn.v (v_list h)).imp fun _ _ z => py_list.mpr z
theorem v_g4_0 {α β γ δ : Type} [Py α] [Py β] [Py γ] [Py δ] {x : H4 α β γ δ} (h : PV X Φ a x) : PV X Φ (.Subscript a (.Constant (.int 0) 0 q1) pos) x.a := v_fldLP (n := 0) (ds := [enc x.a, enc x.b, enc x.c, enc x.d]) h rfl
theorem v_g4_1 {α β γ δ : Type} [Py α] [Py β] [Py γ] [Py δ] {x : H4 α β γ δ} (h : PV X Φ a x) : PV X Φ (.Subscript a (.Constant (.int 1) 0 q1) pos) x.b := v_fldLP (n := 1) (ds := [enc x.a, enc x.b, enc x.c, enc x.d]) h rfl
theorem v_g4_2 {α β γ δ : Type} [Py α] [Py β] [Py γ] [Py δ] {x : H4 α β γ δ} (h : PV X Φ a x) : PV X Φ (.Subscript a (.Constant (.int 2) 0 q1) pos) x.c := v_fldLP (n := 2) (ds := [enc x.a, enc x.b, enc x.c, enc x.d]) h rfl
theorem v_g4_3 {α β γ δ : Type} [Py α] [Py β] [Py γ] [Py δ] {x : H4 α β γ δ} (h : PV X Φ a x) : PV X Φ (.Subscript a (.Constant (.int 3) 0 q1) pos) x.d := v_fldLP (n := 3) (ds := [enc x.a, enc x.b, enc x.c, enc x.d]) h rfl
end
end GL

set_option Elab.async false
set_option linter.all false
set_option maxRecDepth 100000
set_option maxHeartbeats 4000000
namespace GL
open PySem PySem.Spec PyProof.Rows L2
/-! ### the head's hook, one more place of the heap in its part -/
def asY (g : Addr → Option Obj) (n : Nat) : List Addr := PySem.cStatics :: He.asD g n
def obsY (n : Nat) (fa : List He.Fa) (fn : List He.DefD) (ex : Fg → Bool) (g : Addr → Option Obj) : He.AlD × Bool :=
  (He.obsD fa fn (He.frG g (asY g n)), ex (He.frG g (asY g n)))
def hookY (n : Nat) (fa : List He.Fa) (fn : List He.DefD) (ex : Fg → Bool) : PySem.W.Hook where
  α := He.AlD × Bool
  obs := fun s => obsY n fa fn ex s.heap.get?
  val := fun _ => (He.valD fn, true)
  says := fun _ h => ∃ K : Fg, K.In h ∧ He.SaysD fa fn K ∧ ex K = true
  of := fun _ _ e => ⟨_, He.frG_in, congrArg (fun z : He.AlD × Bool => z.1) e, congrArg (fun z : He.AlD × Bool => z.2) e⟩
  keeps := fun _ _ _ ⟨K, hK, c⟩ k => ⟨K, PySem.W.Frag.In.keeps hK k, c⟩
theorem obsY_eq {n : Nat} {fa : List He.Fa} {fn : List He.DefD} {ex : Fg → Bool} {g : Addr → Option Obj} {s : Shared} (h : ∀ a, g a = s.heap.get? a) : obsY n fa fn ex g = (hookY n fa fn ex).obs s := by
  have e : g = s.heap.get? := funext h
  rw [e]; rfl
end GL

set_option Elab.async false
set_option linter.all false
set_option maxRecDepth 100000
set_option maxHeartbeats 4000000
namespace LW
open PySem PySem.Spec PyProof.Rows L2 GL
local macro_rules | `(tactic| walk_at "sc") => `(tactic| first | trivial | omega | (subst_vars; simp +decide only [rng_length, enumL_length, dwn_length, List.length_map, List.length_append, List.length_set, List.length_cons, List.length_nil, List.length_reverse, List.length_zip, List.length_eraseIdx, decide_eq_true_eq, decide_eq_false_iff_not, imin_eq, imax_eq, iabs_eq, Bool.and_eq_true, Bool.or_eq_true, Bool.not_eq_true', srt_length, slc_to, slc_from, List.length_take, List.length_drop, true_and, and_true] at * <;> omega) | (refine mod_ix ?_; first | decide | omega | (subst_vars; simp +decide only [rng_length, enumL_length, dwn_length, List.length_map, List.length_append, List.length_set, List.length_cons, List.length_nil, List.length_reverse, List.length_zip, List.length_eraseIdx, decide_eq_true_eq, decide_eq_false_iff_not, imin_eq, imax_eq, iabs_eq, Bool.and_eq_true, Bool.or_eq_true, Bool.not_eq_true', srt_length, slc_to, slc_from, List.length_take, List.length_drop, true_and, and_true] at * <;> omega) | exact pos_len ‹_›) | exact pos_len ‹_›)
local macro_rules | `(tactic| walk_at "sc mul") => `(tactic| first | exact Or.inr (by decide) | exact Or.inl (by decide) | (unfold CMul; first | omega | (subst_vars; simp +decide only [rng_length, enumL_length, dwn_length, List.length_map, List.length_append, List.length_set, List.length_cons, List.length_nil, List.length_reverse, List.length_zip, List.length_eraseIdx, decide_eq_true_eq, decide_eq_false_iff_not, imin_eq, imax_eq, iabs_eq, Bool.and_eq_true, Bool.or_eq_true, Bool.not_eq_true', srt_length, slc_to, slc_from, List.length_take, List.length_drop, true_and, and_true] at * <;> omega)))
local macro_rules | `(tactic| walk_at "sc div") => `(tactic| first | exact ⟨by decide, by decide⟩ | (refine cdiv_of ?_ ?_ <;> first | omega | (subst_vars; simp +decide only [rng_length, enumL_length, dwn_length, List.length_map, List.length_append, List.length_set, List.length_cons, List.length_nil, List.length_reverse, List.length_zip, List.length_eraseIdx, decide_eq_true_eq, decide_eq_false_iff_not, imin_eq, imax_eq, iabs_eq, Bool.and_eq_true, Bool.or_eq_true, Bool.not_eq_true', srt_length, slc_to, slc_from, List.length_take, List.length_drop, true_and, and_true] at * <;> omega)))
local macro_rules | `(tactic| walk_at "sc size") => `(tactic| first | (rw [sizeLine_eq]; first | omega | (subst_vars; simp +decide only [rng_length, enumL_length, dwn_length, List.length_map, List.length_append, List.length_set, List.length_cons, List.length_nil, List.length_reverse, List.length_zip, List.length_eraseIdx, decide_eq_true_eq, decide_eq_false_iff_not, imin_eq, imax_eq, iabs_eq, Bool.and_eq_true, Bool.or_eq_true, Bool.not_eq_true', srt_length, slc_to, slc_from, List.length_take, List.length_drop, true_and, and_true] at * <;> omega)))
local macro_rules | `(tactic| walk_at "sc small") => `(tactic| first | (unfold small62; first | omega | (subst_vars; simp +decide only [rng_length, enumL_length, dwn_length, List.length_map, List.length_append, List.length_set, List.length_cons, List.length_nil, List.length_reverse, List.length_zip, List.length_eraseIdx, decide_eq_true_eq, decide_eq_false_iff_not, imin_eq, imax_eq, iabs_eq, Bool.and_eq_true, Bool.or_eq_true, Bool.not_eq_true', srt_length, slc_to, slc_from, List.length_take, List.length_drop, true_and, and_true] at * <;> omega)))
def top (i : Nat) : Stmt := PySem.Challenge.pw_wakeorder_k26_costs.main.body.getD i (.Pass ⟨0, 0, 0, 0⟩)
/-! ### the rules, as objects -/
structure Rl where
  own : List (List Int)
  across : Option (List (List Int))
  deriving DecidableEq, Inhabited
def rlP (K : Fg) (r : Rl) : MP := match r.across with
  | none => insP (He.ga K "Rules") [("own", py K (enc r.own))]
  | some b => insP (He.ga K "Pair") [("own", py K (enc r.own)), ("across", py K (enc b))]
/-- what the head tells of the two classes -/
structure RlE (K : Fg) (mg : Str → Option Value) : Prop where
  cR : Cls K (He.ga K "Rules")
  cP : Cls K (He.ga K "Pair")
  nR : NoAttr K (He.ga K "Rules") "own"
  nP : NoAttr K (He.ga K "Pair") "own"
  nA : NoAttr K (He.ga K "Pair") "across"
  gR : mg "Rules" = some (.ref (He.ga K "Rules"))
  gP : mg "Pair" = some (.ref (He.ga K "Pair"))
  mR : Mk K (He.ga K "Rules") (He.ma K (He.ga K "Rules") "__init__")
  mP : Mk K (He.ga K "Pair") (He.ma K (He.ga K "Pair") "__init__")
  sup : CFn K (He.ga K "Rules") (He.ma K (He.ga K "Rules") "__init__") "__init__"
section
variable {X : Cx} {Φ : List SD} {o e : Expr} {es : List Expr} {pos apos p : Pos} {P : MP} {Ps Qs : List MP} {r : Rl}
theorem v_own (E : RlE X.K X.mg) (he : PEv X Φ o (rlP X.K r)) (hb : attributeBase o "own" X.env (eval o X.env) = eval o X.env := by rfl) : PV X Φ (.Attribute o "own" pos) r.own := by
  unfold rlP at he
  cases h : r.across with
  | none => rw [h] at he; exact v_att 0 E.cR E.nR he rfl (show (["own"] : List Str).Nodup by decide +kernel) hb
  | some b => rw [h] at he; exact v_att 0 E.cP E.nP he rfl (show (["own", "across"] : List Str).Nodup by decide +kernel) hb
theorem v_across {b : List (List Int)} (E : RlE X.K X.mg) (h : r.across = some b) (he : PEv X Φ o (rlP X.K r)) (hb : attributeBase o "across" X.env (eval o X.env) = eval o X.env := by rfl) : PV X Φ (.Attribute o "across" pos) b := by
  unfold rlP at he
  rw [h] at he
  exact v_att 1 E.cP E.nA he rfl (show (["own", "across"] : List Str).Nodup by decide +kernel) hb
theorem v_acrossD (E : RlE X.K X.mg) (he : PEv X Φ o (rlP X.K r)) (h : r.across.isSome = true) (hb : attributeBase o "across" X.env (eval o X.env) = eval o X.env := by rfl) : PV X Φ (.Attribute o "across" pos) (r.across.getD []) := by
  cases h2 : r.across with
  | none => rw [h2] at h; cases h
  | some b => exact v_across E h2 he hb
theorem v_rm {A : Type} {argR argP : A → List MP} {preR preP : A → Prop} {resR resP : A → RS} {m : Str} {n : Nat} {CX : CXT} {pl : Sem Bool} (GR : MthG X.prog X.w X.K X.mg X.base CX n (He.ga X.K "Rules") m (spG argR preR resR)) (GP : MthG X.prog X.w X.K X.mg X.base CX n (He.ga X.K "Pair") m (spG argP preP resP))
    (hr : Room n X.A) (hx : Passes CX X E0) (z : A) (hpR : r.across = none → preR z) (hpP : r.across.isSome = true → preP z) (hvR : r.across = none → resR z = .val P) (hvP : r.across.isSome = true → resP z = .val P) (he : PEv X Φ o (rlP X.K r)) (ha : PAs X Φ (e :: es) Qs)
    (hzR : argR z = rlP X.K r :: Qs := by rfl) (hzP : argP z = rlP X.K r :: Qs := by rfl) (hst : (e :: es).all nst = true := by rfl) (hm : (["own", "across"] : List Str).contains m = false := by decide +kernel)
    (ht : eval (.Call (.Attribute o m apos) (e :: es) [] pos) X.env = (do
      let ov ← eval o X.env
      standAt apos.atName
      let (f, first) ← holding [ov] (getMethod ov m pl)
      callWith pos f first (backTo pos (starEach (e :: es) X.env)) (backToKw pos (keywordEach [] X.env))) := by rfl) : PEv X Φ (.Call (.Attribute o m apos) (e :: es) [] pos) P := by
  have h2 : (["own"] : List Str).contains m = false := by
    simp only [List.contains_cons, Bool.or_eq_false_iff] at hm ⊢
    exact ⟨hm.1, rfl⟩
  cases h : r.across with
  | none =>
    have e1 : rlP X.K r = insP (He.ga X.K "Rules") [("own", py X.K (enc r.own))] := by unfold rlP; rw [h]
    rw [e1] at he hzR
    exact v_meth (pl := pl) GR hr hx z (hpR h) (hvR h) he ha hzR h2 hst ht
  | some b =>
    have e1 : rlP X.K r = insP (He.ga X.K "Pair") [("own", py X.K (enc r.own)), ("across", py X.K (enc b))] := by unfold rlP; rw [h]
    rw [e1] at he hzP
    exact v_meth (pl := pl) GP hr hx z (hpP (by rw [h]; rfl)) (hvP (by rw [h]; rfl)) he ha hzP hm hst ht
theorem v_rm0 {A : Type} {argR argP : A → List MP} {preR preP : A → Prop} {resR resP : A → RS} {m : Str} {n : Nat} {CX : CXT} {pl : Sem Bool} (GR : MthG X.prog X.w X.K X.mg X.base CX n (He.ga X.K "Rules") m (spG argR preR resR)) (GP : MthG X.prog X.w X.K X.mg X.base CX n (He.ga X.K "Pair") m (spG argP preP resP))
    (hr : Room n X.A) (hx : Passes CX X E0) (z : A) (hpR : r.across = none → preR z) (hpP : r.across.isSome = true → preP z) (hvR : r.across = none → resR z = .val P) (hvP : r.across.isSome = true → resP z = .val P) (he : PEv X Φ o (rlP X.K r))
    (hzR : argR z = [rlP X.K r] := by rfl) (hzP : argP z = [rlP X.K r] := by rfl) (hm : (["own", "across"] : List Str).contains m = false := by decide +kernel)
    (ht : eval (.Call (.Attribute o m apos) [] [] pos) X.env = (do
      let ov ← eval o X.env
      standAt apos.atName
      let (f, first) ← holding [ov] (getMethod ov m pl)
      callWith pos f first (backTo pos (starEach [] X.env)) (backToKw pos (keywordEach [] X.env))) := by rfl) : PEv X Φ (.Call (.Attribute o m apos) [] [] pos) P := by
  have h2 : (["own"] : List Str).contains m = false := by
    simp only [List.contains_cons, Bool.or_eq_false_iff] at hm ⊢
    exact ⟨hm.1, rfl⟩
  cases h : r.across with
  | none =>
    have e1 : rlP X.K r = insP (He.ga X.K "Rules") [("own", py X.K (enc r.own))] := by unfold rlP; rw [h]
    rw [e1] at he hzR
    exact v_meth0 (pl := pl) GR hr hx z (hpR h) (hvR h) he hzR h2 ht
  | some b =>
    have e1 : rlP X.K r = insP (He.ga X.K "Pair") [("own", py X.K (enc r.own)), ("across", py X.K (enc b))] := by unfold rlP; rw [h]
    rw [e1] at he hzP
    exact v_meth0 (pl := pl) GP hr hx z (hpP (by rw [h]; rfl)) (hvP (by rw [h]; rfl)) he hzP hm ht
theorem v_rm0N {A : Type} {argR argP : A → List MP} {preR preP : A → Prop} {resR resP : A → RS} {m : Str} {n : Nat} {CX : CXT} {pl : Sem Bool} (GR : MthG X.prog X.w X.K X.mg X.base CX n (He.ga X.K "Rules") m (spG argR preR resR)) (GP : MthG X.prog X.w X.K X.mg X.base CX n (He.ga X.K "Pair") m (spG argP preP resP))
    (hr : Room n X.A) (hx : Passes CX X E0) (z : A) (hpR : r.across = none → preR z) (hpP : r.across.isSome = true → preP z) (hvR : r.across = none → resR z = .new Ps) (hvP : r.across.isSome = true → resP z = .new Ps) (he : PEv X Φ o (rlP X.K r))
    (hzR : argR z = [rlP X.K r] := by rfl) (hzP : argP z = [rlP X.K r] := by rfl) (hm : (["own", "across"] : List Str).contains m = false := by decide +kernel)
    (ht : eval (.Call (.Attribute o m apos) [] [] pos) X.env = (do
      let ov ← eval o X.env
      standAt apos.atName
      let (f, first) ← holding [ov] (getMethod ov m pl)
      callWith pos f first (backTo pos (starEach [] X.env)) (backToKw pos (keywordEach [] X.env))) := by rfl) : PEn X Φ (.Call (.Attribute o m apos) [] [] pos) Ps := by
  have h2 : (["own"] : List Str).contains m = false := by
    simp only [List.contains_cons, Bool.or_eq_false_iff] at hm ⊢
    exact ⟨hm.1, rfl⟩
  cases h : r.across with
  | none =>
    have e1 : rlP X.K r = insP (He.ga X.K "Rules") [("own", py X.K (enc r.own))] := by unfold rlP; rw [h]
    rw [e1] at he hzR
    exact v_meth0N (pl := pl) GR hr hx z (hpR h) (hvR h) he hzR h2 ht
  | some b =>
    have e1 : rlP X.K r = insP (He.ga X.K "Pair") [("own", py X.K (enc r.own)), ("across", py X.K (enc b))] := by unfold rlP; rw [h]
    rw [e1] at he hzP
    exact v_meth0N (pl := pl) GP hr hx z (hpP (by rw [h]; rfl)) (hvP (by rw [h]; rfl)) he hzP hm ht
/-- gaps that make rules -/
def Gaps (g : List (List Int)) : Prop := 1 ≤ g.length ∧ g.length ≤ 6 ∧ ∀ row ∈ g, row.length = g.length ∧ ∀ x ∈ row, 0 ≤ x ∧ x ≤ 1000000
def spRules (K : Fg) (C : Addr) : Sp := spI (A := List (List Int)) C (fun g => [py K (enc g)]) Gaps fun g => [("own", py K (enc g))]
def spPair (K : Fg) : Sp := spI (A := List (List Int) × List (List Int)) (He.ga K "Pair") (fun z => [py K (enc z.1), py K (enc z.2)]) (fun z => Gaps z.1 ∧ Gaps z.2 ∧ z.2.length = z.1.length) fun z => [("own", py K (enc z.1)), ("across", py K (enc z.2))]
theorem v_Rules {g : List (List Int)} {n : Nat} (E : RlE X.K X.mg) (G : IniG X.prog X.w X.K X.mg X.base CX0 n (He.ma X.K (He.ga X.K "Rules") "__init__") (spRules X.K (He.ga X.K "Rules"))) (hr : Room (n + 1) X.A) (hp : Gaps g) (ha : PAs X Φ (e :: es) [py X.K (enc g)])
    (hg : Gl X "Rules" := by rfl) (hst : (e :: es).all nst = true := by rfl) : PEv X Φ (.Call (.Name "Rules" p) (e :: es) [] pos) (rlP X.K (Rl.mk g none)) :=
  v_mk E.mR G hr E.gR pass0 g hp ha hg (by decide) hst
theorem v_Pair {g b : List (List Int)} {n : Nat} (E : RlE X.K X.mg) (G : IniG X.prog X.w X.K X.mg X.base CX0 n (He.ma X.K (He.ga X.K "Pair") "__init__") (spPair X.K)) (hr : Room (n + 1) X.A) (hp : Gaps g ∧ Gaps b ∧ b.length = g.length) (ha : PAs X Φ (e :: es) [py X.K (enc g), py X.K (enc b)])
    (hg : Gl X "Pair" := by rfl) (hst : (e :: es).all nst = true := by rfl) : PEv X Φ (.Call (.Name "Pair" p) (e :: es) [] pos) (rlP X.K (Rl.mk g (some b))) :=
  v_mk E.mP G hr E.gP pass0 (g, b) hp ha hg (by decide) hst
theorem t_false {c : Expr} {k : Bool} (h : PTv X Φ c k) (hk : k = false) : PTv X Φ c false := hk ▸ h
/-- a def read off the class Rules -/
structure CfnG (P : Program) (w : World) (K : Fg) (mg : Str → Option Value) (base : Heap) (CX : CXT) (k : Nat) (m : Str) (sp : Sp) : Prop where
  cf : CFn K (He.ga K "Rules") (He.ma K (He.ga K "Rules") m) m
  g : IniG P w K mg base CX k (He.ma K (He.ga K "Rules") m) sp
theorem v_cfun {A : Type} {argP : A → List MP} {pre : A → Prop} {res : A → RS} {m : Str} {n : Nat} {CX : CXT} {pl : Sem Bool} {cp : Pos} (E : RlE X.K X.mg) (G : CfnG X.prog X.w X.K X.mg X.base CX n m (spG argP pre res)) (hr : Room n X.A) (hx : Passes CX X E0) (z : A) (hp : pre z) (hv : res z = .val P) (ha : PAs X Φ (e :: es) (argP z))
    (hg : Gl X "Rules" := by rfl) (hst : (e :: es).all nst = true := by rfl)
    (ht : eval (.Call (.Attribute (.Name "Rules" cp) m apos) (e :: es) [] pos) X.env = (do
      let ov ← eval (.Name "Rules" cp) X.env
      standAt apos.atName
      let (f, first) ← holding [ov] (getMethod ov m pl)
      callWith pos f first (backTo pos (starEach (e :: es) X.env)) (backToKw pos (keywordEach [] X.env))) := by rfl) : PEv X Φ (.Call (.Attribute (.Name "Rules" cp) m apos) (e :: es) [] pos) P := .mk fun H0 σ F H Q s sl q => by
  obtain ⟨fd, ps, h1, h2, h3⟩ := G.g.ex
  have hst2 := hst
  rw [List.all_cons, Bool.and_eq_true] at hst2
  exact wE_of (pe_cfun (pl := pl) hg E.gR G.cf h1 hr h2 h3 hx paW (by decide) (star_cons hst2.1) (star_plain hst2.2) ht) (ha H0 σ F H _ s sl fun vs F1 H1 g1 p1 => ⟨z, F1, g1.s, p1, hp, by rw [hv]; exact fun v F2 H2 g2 p2 => q v F2 H2 (g1.trans g2) p2⟩)
theorem MthG.up {P : Program} {w : World} {K : Fg} {mg : Str → Option Value} {base : Heap} {CX : CXT} {j k : Nat} {C : Addr} {m : Str} {sp : Sp} (G : MthG P w K mg base CX j C m sp) (h : j ≤ k) : MthG P w K mg base CX k C m sp :=
  let ⟨f, fd, ps, a, b, c, d⟩ := G.ex
  ⟨f, fd, ps, a.mono h, b, c, d⟩
end
structure Env0 (K : Fg) (mg : Str → Option Value) : Prop where
  B : Blt mg
  R : RlE K mg
  i_MOST_GAP : ∃ t, mg "MOST_GAP" = some (.int 1000000 t)
  i_MOST_KINDS : ∃ t, mg "MOST_KINDS" = some (.int 6 t)
abbrev s_late_cost : Stmt := top 2
def m_late_cost (flight : T5 Int Int Int Int Int) (time : Int) : Int :=
  (flight.e * (imax ((0 : Int)) ((time - flight.d))))
abbrev pre_late_cost : (T5 Int Int Int Int Int) × Int → Prop := fun z => (fun (flight : T5 Int Int Int Int Int) (time : Int) => -(2 ^ 64) < flight.e ∧ flight.e < 2 ^ 64) z.1 z.2
def sp_late_cost (K : Fg) : Sp := spG (A := (T5 Int Int Int Int Int) × Int) (fun z => [py K (enc (z.1 : T5 Int Int Int Int Int)), py K (enc (z.2 : Int))]) pre_late_cost (fun z => .val (py K (enc (m_late_cost z.1 z.2))))
theorem sc_late_cost : FnScope ["flight", "time", "kind", "first", "last", "due", "price"] ["flight", "time"] (defScope s_late_cost) := ⟨rfl, rfl, rfl, by decide +kernel, rfl, by decide +kernel, by decide +kernel⟩
theorem ok_late_cost {P : Program} {w : World} {K : Fg} {mg : Str → Option Value} {base : Heap} {f : Addr} {fd : FuncData} (F : DefOf K "late_cost" "late_cost" s_late_cost f fd) (hm : mg "late_cost" = some (.ref f)) (E0 : Env0 K mg)  :
    FnG P w K mg base CX0 1 "late_cost" (sp_late_cost K) := by
  have B := E0.B
  exact fn_mk F (def_ok (Ar := (T5 Int Int Int Int Int) × Int) (T := fun (r : Int) => .val (py K (enc r))) (fv := fun z => m_late_cost z.1 z.2) F sc_late_cost 5 (fun _ => rfl) rfl (fun _ => rfl) fun cdv A outer s H E hr z hp => by
    obtain ⟨flight, time⟩ := z
    have hp : -(2 ^ 64) < flight.e ∧ flight.e < 2 ^ 64 := hp
    show HB (S := Unit) (bx P w K mg base ["flight", "time", "kind", "first", "last", "due", "price"] "late_cost" s_late_cost f cdv A outer s H E) _ [defBody s_late_cost] (enter [py K (enc (flight : T5 Int Int Int Int Int)), py K (enc (time : Int))] 5) _ (fun (r : Int) => .val (py K (enc r))) (.rt (m_late_cost flight time))
    exact (h_asg (v_im 0) (g_p5 rfl (g_name 2 sc_late_cost.nd) (g_name 3 sc_late_cost.nd) (g_name 4 sc_late_cost.nd) (g_name 5 sc_late_cost.nd) (g_name 6 sc_late_cost.nd)) (h_retT (v_mul (v_im 6) (v_max B rfl v_int (v_sub (v_im 1) (v_im 5))) (by /-1-/ first | (walk_at "sc mul") | skip))))) hm (fun _ _ _ _ _ _ us hl => match us, hl with | [_, _], _ => rfl)
abbrev s_cost_of : Stmt := top 3
def m_cost_of (flights : List (T5 Int Int Int Int Int)) (plan : List (Int × Int)) (times : List Int) : Int :=
  ((((plan.zip times)).map fun (pair1 : (Int × Int) × Int) => (m_late_cost ((ix flights pair1.1.1)) pair1.2))).sum
abbrev pre_cost_of : (List (T5 Int Int Int Int Int)) × (List (Int × Int)) × (List Int) → Prop := fun z => (fun (flights : List (T5 Int Int Int Int Int)) (plan : List (Int × Int)) (times : List Int) => plan.length ≤ 100 ∧ (∀ p ∈ plan, 0 ≤ p.1 ∧ p.1 < (flights.length : Int)) ∧ ∀ f ∈ flights, -(2 ^ 64) < f.e ∧ f.e < 2 ^ 64) z.1 z.2.1 z.2.2
def sp_cost_of (K : Fg) : Sp := spG (A := (List (T5 Int Int Int Int Int)) × (List (Int × Int)) × (List Int)) (fun z => [py K (enc (z.1 : List (T5 Int Int Int Int Int))), py K (enc (z.2.1 : List (Int × Int))), py K (enc (z.2.2 : List Int))]) pre_cost_of (fun z => .val (py K (enc (m_cost_of z.1 z.2.1 z.2.2))))
theorem sc_cost_of : FnScope ["flights", "plan", "times", "pair", "time"] ["flights", "plan", "times"] (defScope s_cost_of) := ⟨rfl, rfl, rfl, by decide +kernel, rfl, by decide +kernel, by decide +kernel⟩
theorem ok_cost_of {P : Program} {w : World} {K : Fg} {mg : Str → Option Value} {base : Heap} {f : Addr} {fd : FuncData} (F : DefOf K "cost_of" "cost_of" s_cost_of f fd) (hm : mg "cost_of" = some (.ref f)) (E0 : Env0 K mg) (G_late_cost : FnG P w K mg base CX0 1 "late_cost" (sp_late_cost K)) :
    FnG P w K mg base CX0 2 "cost_of" (sp_cost_of K) := by
  have B := E0.B
  exact fn_mk F (def_ok (Ar := (List (T5 Int Int Int Int Int)) × (List (Int × Int)) × (List Int)) (T := fun (r : Int) => .val (py K (enc r))) (fv := fun z => m_cost_of z.1 z.2.1 z.2.2) F sc_cost_of 2 (fun _ => rfl) rfl (fun _ => rfl) fun cdv A outer s H E hr z hp => by
    obtain ⟨flights, plan, times⟩ := z
    have hp : plan.length ≤ 100 ∧ (∀ p ∈ plan, 0 ≤ p.1 ∧ p.1 < (flights.length : Int)) ∧ ∀ f ∈ flights, -(2 ^ 64) < f.e ∧ f.e < 2 ^ 64 := hp
    show HB (S := Unit) (bx P w K mg base ["flights", "plan", "times", "pair", "time"] "cost_of" s_cost_of f cdv A outer s H E) _ [defBody s_cost_of] (enter [py K (enc (flights : List (T5 Int Int Int Int Int))), py K (enc (plan : List (Int × Int))), py K (enc (times : List Int))] 2) _ (fun (r : Int) => .val (py K (enc r))) (.rt (m_cost_of flights plan times))
    exact (h_retT (v_sum B rfl (PK.l (PN.xk (v_lc [("pair", 3), ("time", 4)] (fun (pair1 : (Int × Int) × Int) => [(3, sI K (pair1.1 : Int × Int)), (4, sI K (pair1.2 : Int))]) rfl sc_cost_of.nd (blkOk_by rfl) (i_zip B (v_im 1) (v_im 2)) (by /-1-/ first | (rw [sizeLine_eq, List.length_zip]; have := hp.1; omega) | skip) (fun pair1 _ _ _ _ _ => (g_p2 rfl (g_name 3 sc_cost_of.nd) (g_name 4 sc_cost_of.nd))) (us_in fun _ => rfl) (fun pair1 in_pair1 _ _ _ _ _ => have f_pair1 := zip_memF in_pair1; (v_call G_late_cost (hr.mono (by decide)) pass0 ((ix flights pair1.1.1), pair1.2) (by /-3-/ first | (first | trivial | (unfold pre_late_cost; dsimp only; exact hp.2.2 _ (ix_mem (hp.2.1 _ f_pair1.1)))) | skip) rfl (as_cons (v_ix (PK.l (PV.xk (v_im 0))) (v_f2_0 (v_im 3)) (by /-2-/ first | (exact hp.2.1 _ f_pair1.1) | skip)) (as_cons (v_im 4) as_nil)))))))))) hm (fun _ _ _ _ _ _ us hl => match us, hl with | [_, _, _], _ => rfl)
abbrev s_is_gap : Stmt := top 10
def m_is_gap (thing : Int) : Bool :=
  (true && ((!false) && (decide ((0 : Int) ≤ thing) && decide (thing ≤ (1000000 : Int)))))
abbrev pre_is_gap : Int → Prop := fun z => (fun (thing : Int) => True) z
def sp_is_gap (K : Fg) : Sp := spG (A := Int) (fun z => [py K (enc (z : Int))]) pre_is_gap (fun z => .val (py K (enc (m_is_gap z))))
theorem sc_is_gap : FnScope ["thing"] ["thing"] (defScope s_is_gap) := ⟨rfl, rfl, rfl, by decide +kernel, rfl, by decide +kernel, by decide +kernel⟩
theorem ok_is_gap {P : Program} {w : World} {K : Fg} {mg : Str → Option Value} {base : Heap} {f : Addr} {fd : FuncData} (F : DefOf K "is_gap" "is_gap" s_is_gap f fd) (hm : mg "is_gap" = some (.ref f)) (E0 : Env0 K mg)  :
    FnG P w K mg base CX0 1 "is_gap" (sp_is_gap K) := by
  have B := E0.B
  obtain ⟨t_MOST_GAP, i_MOST_GAP⟩ := E0.i_MOST_GAP
  exact fn_mk F (def_ok (Ar := Int) (T := fun (r : Bool) => .val (py K (enc r))) (fv := fun z => m_is_gap z) F sc_is_gap 0 (fun _ => rfl) rfl (fun _ => rfl) fun cdv A outer s H E hr thing hp => by
    show HB (S := Unit) (bx P w K mg base ["thing"] "is_gap" s_is_gap f cdv A outer s H E) _ [defBody s_is_gap] (enter [py K (enc (thing : Int))] 0) _ (fun (r : Bool) => .val (py K (enc r))) (.rt (m_is_gap thing))
    exact (h_retT (v_and (v_isiInt B (v_im 0)) (fun h1 => (v_and (v_notV (v_isiBool B (v_im 0))) (fun h2 => (v_one (v_chain op_le op_le v_int (v_im 0) (fun h3 => (v_gint rfl i_MOST_GAP)))))))))) hm (fun _ _ _ _ _ _ us hl => match us, hl with | [_], _ => rfl)
abbrev s_check_gaps : Stmt := top 11
def m_check_gaps_l1  (s1 : Unit) (row2 : List Int) : Unit :=
  ()
def m_check_gaps (gaps : List (List Int)) : Unit :=
  bindV (gaps.foldl m_check_gaps_l1 (())) fun (s4 : Unit) =>
  ()
theorem check_many {g : List (List Int)} (h : Gaps g) : (!(decide ((1 : Int) ≤ (g.length : Int)) && decide ((g.length : Int) ≤ (6 : Int)))) = false := by
  have h1 := h.1
  have h2 := h.2.1
  rw [decide_eq_true (by omega), decide_eq_true (by omega)]; rfl
theorem check_row {g : List (List Int)} (h : Gaps g) {row : List Int} (hr : row ∈ g) : ((!decide ((row.length : Int) = (g.length : Int))) || (!((row.map fun (t : Int) => m_is_gap t).all id))) = false := by
  obtain ⟨h1, h2⟩ := h.2.2 row hr
  rw [decide_eq_true (by omega)]
  have : ((row.map fun (t : Int) => m_is_gap t).all id) = true := by
    rw [List.all_map, List.all_eq_true]
    intro x hx
    obtain ⟨a, b⟩ := h2 x hx
    simp [m_is_gap, a, b]
  rw [this]; rfl
abbrev pre_check_gaps : (List (List Int)) → Prop := fun z => (fun (gaps : List (List Int)) => Gaps gaps) z
def sp_check_gaps (K : Fg) : Sp := spG (A := (List (List Int))) (fun z => [py K (enc (z : List (List Int)))]) pre_check_gaps (fun _ => .val (py K .none))
theorem sc_check_gaps : FnScope ["gaps", "row", "thing"] ["gaps"] (defScope s_check_gaps) := ⟨rfl, rfl, rfl, by decide +kernel, rfl, by decide +kernel, by decide +kernel⟩
theorem ok_check_gaps {P : Program} {w : World} {K : Fg} {mg : Str → Option Value} {base : Heap} {f : Addr} {fd : FuncData} (F : DefOf K "check_gaps" "check_gaps" s_check_gaps f fd) (hm : mg "check_gaps" = some (.ref f)) (E0 : Env0 K mg) (G_is_gap : FnG P w K mg base CX0 1 "is_gap" (sp_is_gap K)) :
    FnG P w K mg base CX0 2 "check_gaps" (sp_check_gaps K) := by
  have B := E0.B
  obtain ⟨t_MOST_KINDS, i_MOST_KINDS⟩ := E0.i_MOST_KINDS
  exact fn_mk F (def_okM (Ar := (List (List Int))) (T := fun (r : Unit) => .val (py K (enc r))) [.un, .un, .un] F sc_check_gaps 2 (fun _ => rfl) rfl fun cdv A outer s H E hr gaps hp => by
    have hp : Gaps gaps := hp
    show HB (S := Unit) (bx P w K mg base ["gaps", "row", "thing"] "check_gaps" s_check_gaps f cdv A outer s H E) _ [defBody s_check_gaps] (enter [py K (enc (gaps : List (List Int)))] 2) _ (fun (r : Unit) => .val (py K (enc r))) (.nx (m_check_gaps gaps))
    exact (h_ifno (t_false (v_not (t_chain op_le op_le v_int (v_len B (PK.l (PV.xk (v_im 0)))) (fun h1 => (v_gint rfl i_MOST_KINDS)))) (by /-4-/ first | (exact check_many hp) | skip)) (h_end (h_foldS (fun (s1 : Unit) => [sI K (gaps : List (List Int)), .un, .un]) (fun (row2 : List Int) => [(1, sI K (row2 : List Int))]) PassesOwn.never rfl (i_list (v_im 0)) (fun row2 => (g_name 1 sc_check_gaps.nd)) (.keep (.keep (.keep .nil))) (fun n_row2 s1 row2 at_row2 e_s1 => have nat_row2 := lt_of_at at_row2; have f_row2 := mem_atF at_row2; (h_ifno (t_false (PWv.t (w_or (t_ne hr.units (by decide) (PV.d (v_len B (PK.l (PV.xk (v_im 1))))) (PV.d (v_len B (PK.l (PV.xk (v_im 0)))))) (fun h2 => (w_or1 (v_not (t_val (v_all B rfl (PK.l (PN.xk (v_lc [("thing", 2)] (fun (thing3 : Int) => [(2, sI K (thing3 : Int))]) rfl sc_check_gaps.nd (blkOk_by rfl) (i_list (v_im 1)) (by /-1-/ first | (rw [sizeLine_eq]; have := (hp.2.2 _ f_row2).1; have := hp.2.1; omega) | skip) (fun thing3 _ _ _ _ _ => (g_name 2 sc_check_gaps.nd)) (us_in fun _ => rfl) (fun thing3 in_thing3 _ _ _ _ _ => (v_call G_is_gap (hr.mono (by decide)) pass0 thing3 (by /-2-/ first | (first | trivial | (unfold pre_is_gap; dsimp only; walk_at "sc")) | skip) rfl (as_cons (v_im 2) as_nil))))))))))))) (by /-3-/ first | (exact check_row hp f_row2) | skip)) (h_end (h_end (h_nil (.keep (.drop (.keep .nil)))))))) (fun s4 e_s4 => (h_end (h_nil (.drop (.keep (.keep .nil)))))))))) hm (fun _ _ _ _ _ _ us hl => match us, hl with | [_], _ => rfl)
abbrev s_rows_copied : Stmt := top 12
def m_rows_copied (rows : List (List Int)) : List (List Int) :=
  (rows.map fun (row1 : List Int) => row1)
abbrev pre_rows_copied : (List (List Int)) → Prop := fun z => (fun (rows : List (List Int)) => rows.length ≤ 100) z
def sp_rows_copied (K : Fg) : Sp := spG (A := (List (List Int))) (fun z => [py K (enc (z : List (List Int)))]) pre_rows_copied (fun z => .new (rps K (m_rows_copied z)))
theorem sc_rows_copied : FnScope ["rows", "row"] ["rows"] (defScope s_rows_copied) := ⟨rfl, rfl, rfl, by decide +kernel, rfl, by decide +kernel, by decide +kernel⟩
theorem ok_rows_copied {P : Program} {w : World} {K : Fg} {mg : Str → Option Value} {base : Heap} {f : Addr} {fd : FuncData} (F : DefOf K "rows_copied" "rows_copied" s_rows_copied f fd) (hm : mg "rows_copied" = some (.ref f)) (E0 : Env0 K mg)  :
    FnG P w K mg base CX0 1 "rows_copied" (sp_rows_copied K) := by
  have B := E0.B
  exact fn_mk F (def_ok (Ar := (List (List Int))) (T := fun (r : List (List Int)) => .new (rps K r)) (fv := fun z => m_rows_copied z) F sc_rows_copied 1 (fun _ => rfl) rfl (fun _ => rfl) fun cdv A outer s H E hr rows hp => by
    have hp : rows.length ≤ 100 := hp
    show HB (S := Unit) (bx P w K mg base ["rows", "row"] "rows_copied" s_rows_copied f cdv A outer s H E) _ [defBody s_rows_copied] (enter [py K (enc (rows : List (List Int)))] 1) _ (fun (r : List (List Int)) => .new (rps K r)) (.rt (m_rows_copied rows))
    exact (h_retN (v_lc [("row", 1)] (fun (row1 : List Int) => [(1, sI K (row1 : List Int))]) rfl sc_rows_copied.nd (blkOk_by rfl) (i_list (v_im 0)) (by /-1-/ first | (walk_at "sc size") | skip) (fun row1 _ _ _ _ _ => (g_name 1 sc_rows_copied.nd)) (us_in fun _ => rfl) (fun row1 in_row1 _ _ _ _ _ => (PN.v (v_listOf B (PK.l (PV.xk (v_im 1))))))))) hm (fun _ _ _ _ _ _ us hl => match us, hl with | [_], _ => rfl)
abbrev s_Rules_init : Stmt := inClass (top 13) 0
abbrev s_Pair_init : Stmt := inClass (top 14) 0
theorem sc_Rules_init : FnScope ["self", "gaps"] ["self", "gaps"] (defScope s_Rules_init) := ⟨rfl, rfl, rfl, by decide +kernel, rfl, by decide +kernel, by decide +kernel⟩
theorem sc_Pair_init : FnScope ["self", "gaps", "beside"] ["self", "gaps", "beside"] (defScope s_Pair_init) := ⟨rfl, rfl, rfl, by decide +kernel, rfl, by decide +kernel, by decide +kernel⟩
theorem rows_same (g : List (List Int)) : m_rows_copied g = g := by simp [m_rows_copied]
theorem Gaps.len {g : List (List Int)} (h : Gaps g) : g.length ≤ 100 := Nat.le_trans h.2.1 (by decide)
section
variable {P : Program} {w : World} {K : Fg} {mg : Str → Option Value} {base : Heap} {C f : Addr} {fd : FuncData}
theorem rows_v {X : Cx} {Φ : List SD} {e : Expr} {g : List (List Int)} (h : PN X Φ e (m_rows_copied g)) : PV X Φ e g := by
  rw [rows_same] at h; exact PN.v h
theorem ok_Rules_init (F : DefOf K "__init__" "Rules.__init__" s_Rules_init f fd) (cl : Cls K C) (na : NoAttr K C "own") (G_check_gaps : FnG P w K mg base CX0 2 "check_gaps" (sp_check_gaps K)) (G_rows_copied : FnG P w K mg base CX0 1 "rows_copied" (sp_rows_copied K)) :
    IniG P w K mg base CX0 3 f (spRules K C) :=
  ini_mk F (def_okI F sc_Rules_init 0 (fun _ => rfl) rfl fun cdv A outer s H E hr g hp o =>
    hi_drop (v_call G_check_gaps (hr.mono (by decide)) pass0 g hp rfl (as_cons (v_im 1) as_nil)) (hi_fld cl na (rows_v (v_callN G_rows_copied (hr.mono (by decide)) pass0 g hp.len rfl (as_cons (v_im 1) as_nil))) rfl (hi_end hi_nil)))
    (fun _ _ _ _ _ _ us hl => match us, hl with | [_, _], _ => rfl)
theorem ok_Pair_init (F : DefOf K "__init__" "Pair.__init__" s_Pair_init f fd) (E0 : Env0 K mg) (G_Rules_init : IniG P w K mg base CX0 3 (He.ma K (He.ga K "Rules") "__init__") (spRules K (He.ga K "Pair"))) (G_check_gaps : FnG P w K mg base CX0 2 "check_gaps" (sp_check_gaps K)) (G_rows_copied : FnG P w K mg base CX0 1 "rows_copied" (sp_rows_copied K)) :
    IniG P w K mg base CX0 4 f (spPair K) :=
  ini_mk F (def_okI F sc_Pair_init 0 (fun _ => rfl) rfl fun cdv A outer s H E hr z hp o => by
    have B := E0.B
    obtain ⟨gaps, beside⟩ := z
    obtain ⟨h1, h2, h3⟩ := hp
    exact hi_super E0.R.sup G_Rules_init (hr.mono (by decide)) E0.R.gR pass0 gaps h1 (as_cons (v_im 1) as_nil) rfl
      (hi_drop (v_call G_check_gaps (hr.mono (by decide)) pass0 beside h2 rfl (as_cons (v_im 2) as_nil))
        (hi_ifno (t_false (t_ne hr.units (by decide) (PV.d (v_len B (PK.l (PV.xk (v_im 2))))) (PV.d (v_len B (PK.l (PV.xk (v_im 1)))))) (by simp only [] at h3; simp [h3]))
          (hi_end (hi_fld E0.R.cP E0.R.nA (rows_v (v_callN G_rows_copied (hr.mono (by decide)) pass0 beside h2.len rfl (as_cons (v_im 2) as_nil))) rfl (hi_end hi_nil) (by rfl) (Nat.le_of_ble_eq_true rfl))))))
    (fun _ _ _ _ _ _ us hl => match us, hl with | [_, _, _], _ => rfl)
end
abbrev s_Rules_many_kinds : Stmt := inClass (top 13) 1
def m_Rules_many_kinds (self : Rl) : Int :=
  (self.own.length : Int)
abbrev pre_Rules_many_kinds : Rl → Prop := fun z => (fun (self : Rl) => True) z
def sp_Rules_many_kinds (K : Fg) : Sp := spG (A := Rl) (fun z => [rlP K z]) pre_Rules_many_kinds (fun z => .val (py K (enc (m_Rules_many_kinds z))))
theorem sc_Rules_many_kinds : FnScope ["self"] ["self"] (defScope s_Rules_many_kinds) := ⟨rfl, rfl, rfl, by decide +kernel, rfl, by decide +kernel, by decide +kernel⟩
theorem ok_Rules_many_kinds {P : Program} {w : World} {K : Fg} {mg : Str → Option Value} {base : Heap} {f : Addr} {fd : FuncData} (F : DefOf K "many_kinds" "Rules.many_kinds" s_Rules_many_kinds f fd) (E0 : Env0 K mg)  :
    FnOk P w K mg base CX0 1 f fd ["self"] (sp_Rules_many_kinds K) := by
  have B := E0.B
  exact def_ok (Ar := Rl) (T := fun (r : Int) => .val (py K (enc r))) (fv := fun z => m_Rules_many_kinds z) F sc_Rules_many_kinds 0 (fun _ => rfl) rfl (fun _ => rfl) fun cdv A outer s H E hr self hp => by
    show HB (S := Unit) (bx P w K mg base ["self"] "Rules.many_kinds" s_Rules_many_kinds f cdv A outer s H E) _ [defBody s_Rules_many_kinds] (enter [rlP K self] 0) _ (fun (r : Int) => .val (py K (enc r))) (.rt (m_Rules_many_kinds self))
    exact (h_retT (v_len B (PK.l (PV.xk (v_own E0.R (v_im 0))))))
abbrev s_L_draw : Stmt := top 16
def m_L_draw (script : List Int) (k : Int) : Int :=
  bindV k fun (cell1 : Int) =>
  bindV (cond ((decide ((0 : Int) < (script.length : Int)))) (bindV ((ix script ((k % (script.length : Int))))) fun (cell3 : Int) =>
  cell3) (cell1)) fun (s2 : Int) =>
  bindV (((((s2 + (((7919 : Int) * k) * k)) + k) * (982451653 : Int)) % (2305843009213693951 : Int))) fun (number4 : Int) =>
  (((number4 * (1000003 : Int)) % (1152921504606846883 : Int)) / (8 : Int))
theorem draw_bd (script : List Int) (k : Int) : 0 ≤ m_L_draw script k ∧ m_L_draw script k ≤ 144115188075855860 := by
  simp only [m_L_draw, bindV]
  generalize (bif decide ((0 : Int) < (script.length : Int)) then ix script (k % (script.length : Int)) else k) = c
  omega
abbrev pre_L_draw : (List Int) × Int → Prop := fun z => (fun (script : List Int) (k : Int) => 0 ≤ k ∧ k ≤ 100000) z.1 z.2
def sp_L_draw (K : Fg) : Sp := spG (A := (List Int) × Int) (fun z => [scrP K z.1, py K (enc (z.2 : Int))]) pre_L_draw (fun z => .val (py K (enc (m_L_draw z.1 z.2))))
theorem sc_L_draw : FnScope ["_law_script", "_law_k", "_law_cell", "_law_number"] ["_law_script", "_law_k"] (defScope s_L_draw) := ⟨rfl, rfl, rfl, by decide +kernel, rfl, by decide +kernel, by decide +kernel⟩
theorem ok_L_draw {P : Program} {w : World} {K : Fg} {mg : Str → Option Value} {base : Heap} {f : Addr} {fd : FuncData} (F : DefOf K "_law_draw" "_law_draw" s_L_draw f fd) (hm : mg "_law_draw" = some (.ref f)) (E0 : Env0 K mg)  :
    FnG P w K mg base CX0 1 "_law_draw" (sp_L_draw K) := by
  have B := E0.B
  exact fn_mk F (def_ok (Ar := (List Int) × Int) (T := fun (r : Int) => .val (py K (enc r))) (fv := fun z => m_L_draw z.1 z.2) F sc_L_draw 2 (fun _ => rfl) rfl (fun _ => rfl) fun cdv A outer s H E hr z hp => by
    obtain ⟨script, k⟩ := z
    have hp : 0 ≤ k ∧ k ≤ 100000 := hp
    show HB (S := Unit) (bx P w K mg base ["_law_script", "_law_k", "_law_cell", "_law_number"] "_law_draw" s_L_draw f cdv A outer s H E) _ [defBody s_L_draw] (enter [scrP K script, py K (enc (k : Int))] 2) _ (fun (r : Int) => .val (py K (enc r))) (.rt (m_L_draw script k))
    exact (h_setV 2 sc_L_draw.nd (v_im 1) (fun cell1 e_cell1 => (h_ifMV (fun (s2 : Int) => [.im (scrP K script), sI K (k : Int), sI K (s2 : Int), .un]) (t_gt (v_len B (scr_l (v_im 0))) v_int) (fun h1 => (h_setS 2 sc_L_draw.nd (v_ix (scr_l (v_im 0)) (v_mod (v_im 1) (v_len B (scr_l (v_im 0))) (by /-1-/ first | (first | decide | walk_at "sc") | skip)) (by /-2-/ first | (walk_at "sc") | skip)) (fun cell3 e_cell3 => (h_end (h_nil (.keep (.keep (.keep (.keep .nil))))))))) (fun h1 => (h_end (h_nil (.keep (.keep (.keep (.keep .nil))))))) (fun s2 e_s2 => (h_setV 3 sc_L_draw.nd (v_mod (v_mul (v_add (v_add (v_im 2) (v_mul (v_mul v_int (v_im 1) (by /-3-/ first | (walk_at "sc mul") | skip)) (v_im 1) (by /-4-/ first | (walk_at "sc mul") | skip))) (v_im 1)) v_int (by /-5-/ first | (walk_at "sc mul") | skip)) v_int (by /-6-/ first | (first | decide | walk_at "sc") | skip)) (fun number4 e_number4 => (h_retT (v_div (v_mod (v_mul (v_im 3) v_int (by /-7-/ first | (walk_at "sc mul") | skip)) v_int (by /-8-/ first | (first | decide | walk_at "sc") | skip)) v_int (by /-9-/ first | (walk_at "sc div") | skip)))))))))) hm (fun _ _ _ _ _ _ us hl => match us, hl with | [_, _], _ => rfl)
abbrev s_L_whole : Stmt := top 17
def m_L_whole (found : PyData) : Bool := match found with
  | .int _ => true
  | _ => false
abbrev pre_L_whole : PyData → Prop := fun z => (fun (found : PyData) => True) z
def sp_L_whole (K : Fg) : Sp := spG (A := PyData) (fun z => [py K z]) pre_L_whole (fun z => .val (py K (enc (m_L_whole z))))
theorem sc_L_whole : FnScope ["_law_found"] ["_law_found"] (defScope s_L_whole) := ⟨rfl, rfl, rfl, by decide +kernel, rfl, by decide +kernel, by decide +kernel⟩
theorem ok_L_whole {P : Program} {w : World} {K : Fg} {mg : Str → Option Value} {base : Heap} {f : Addr} {fd : FuncData} (F : DefOf K "_law_whole" "_law_whole" s_L_whole f fd) (hm : mg "_law_whole" = some (.ref f)) (E0 : Env0 K mg)  :
    FnG P w K mg base CX0 1 "_law_whole" (sp_L_whole K) := by
  have B := E0.B
  exact fn_mk F (def_ok (Ar := PyData) (T := fun (r : Bool) => .val (py K (enc r))) (fv := fun z => m_L_whole z) F sc_L_whole 0 (fun _ => rfl) rfl (fun _ => rfl) fun cdv A outer s H E hr found hp => by
    show HB (S := Unit) (bx P w K mg base ["_law_found"] "_law_whole" s_L_whole f cdv A outer s H E) _ [defBody s_L_whole] (enter [py K found] 0) _ (fun (r : Bool) => .val (py K (enc r))) (.rt (m_L_whole found))
    cases found with
    | int i => exact h_ret (v_and (v_isiInt B (v_im 0)) fun _ => v_one (v_notV (v_isiBool B (v_im 0))))
    | none => exact h_ret (v_and (v_isiInt B (v_im 0)) fun _ => v_one (v_notV (v_isiBool B (v_im 0))))
    | bool i => exact h_ret (v_and (v_isiInt B (v_im 0)) fun _ => v_one (v_notV (v_isiBool B (v_im 0))))
    | str i => exact h_ret (v_and (v_isiInt B (v_im 0)) fun _ => v_one (v_notV (v_isiBool B (v_im 0))))
    | list i => exact h_ret (v_and (v_isiInt B (v_im 0)) fun _ => v_one (v_notV (v_isiBool B (v_im 0))))
    | tuple i => exact h_ret (v_and (v_isiInt B (v_im 0)) fun _ => v_one (v_notV (v_isiBool B (v_im 0))))
    | dict i => exact h_ret (v_and (v_isiInt B (v_im 0)) fun _ => v_one (v_notV (v_isiBool B (v_im 0))))) hm (fun _ _ _ _ _ _ us hl => match us, hl with | [_], _ => rfl)
abbrev s_L_gaps : Stmt := top 18
def m_L_gaps_l1 (script : List Int) (by_ : Int) (kinds : Int) (scale_here : Int) (one_here3 : Int) (s5 : (List Int)) (other6 : Int) : (List Int) :=
  bindV ((m_L_draw script (((by_ + (one_here3 * kinds)) + other6)))) fun (number7 : Int) =>
  bindV (s5 ++ [(((number7 % (6 : Int)) * scale_here) + ((number7 / (6 : Int)) % scale_here))]) fun (row8 : List Int) =>
  row8
def m_L_gaps_l2 (script : List Int) (by_ : Int) (kinds : Int) (scale_here : Int) (s2 : (List (List Int))) (one_here3 : Int) : (List (List Int)) :=
  bindV ([]) fun (row4 : List Int) =>
  bindV (((rng 0 kinds)).foldl (m_L_gaps_l1 script by_ kinds scale_here one_here3) row4) fun (s9 : (List Int)) =>
  bindV (s2 ++ [s9]) fun (rows10 : List (List Int)) =>
  rows10
def m_L_gaps (script : List Int) (by_ : Int) (kinds : Int) (scale_here : Int) : List (List Int) :=
  bindV ([]) fun (rows1 : List (List Int)) =>
  bindV (((rng 0 kinds)).foldl (m_L_gaps_l2 script by_ kinds scale_here) rows1) fun (s11 : (List (List Int))) =>
  s11
theorem mul_bd {a b n m : Int} (ha : 0 ≤ a ∧ a ≤ n) (hb : 0 ≤ b ∧ b ≤ m) : 0 ≤ a * b ∧ a * b ≤ n * m :=
  ⟨Int.mul_nonneg ha.1 hb.1, Int.mul_le_mul ha.2 hb.2 hb.1 (by omega)⟩
theorem fold_len1 {α β : Type} {f : List β → α → List β} (h : ∀ s x, (f s x).length ≤ s.length + 1) {s0 : List β} : ∀ {xs : List α} {n : Nat} {s : List β}, s = (xs.take n).foldl f s0 → s.length ≤ s0.length + n := by
  have key : ∀ (ys : List α) (s : List β), (ys.foldl f s).length ≤ s.length + ys.length := by
    intro ys
    induction ys with
    | nil => intro s; simp
    | cons y ys ih =>
      intro s
      have h1 := ih (f s y)
      have h2 := h s y
      simp only [List.foldl_cons, List.length_cons] at *
      omega
  intro xs n s hs
  have := key (xs.take n) s0
  rw [← hs] at this
  have h3 := List.length_take (i := n) (l := xs)
  omega
theorem fold_map1 {α β : Type} {f : List β → α → List β} {g : α → β} (h : ∀ s x, f s x = s ++ [g x]) : ∀ (xs : List α) (s0 : List β), xs.foldl f s0 = s0 ++ xs.map g
  | [], s0 => by simp
  | x :: xs, s0 => by rw [List.foldl_cons, h, fold_map1 h xs]; simp
/-- a cell of the drawn gaps -/
def gapAt (script : List Int) (by_ kinds sc one other : Int) : Int := m_L_draw script (by_ + one * kinds + other) % 6 * sc + m_L_draw script (by_ + one * kinds + other) / 6 % sc
theorem gaps_eq (script : List Int) (by_ kinds sc : Int) : m_L_gaps script by_ kinds sc = (rng 0 kinds).map fun one => (rng 0 kinds).map fun other => gapAt script by_ kinds sc one other := by
  simp only [m_L_gaps, bindV]
  rw [fold_map1 (f := m_L_gaps_l2 script by_ kinds sc) (g := fun one => (rng 0 kinds).map fun other => gapAt script by_ kinds sc one other) (fun s x => ?_)]
  · simp
  · simp only [m_L_gaps_l2, bindV]
    rw [fold_map1 (f := m_L_gaps_l1 script by_ kinds sc x) (g := fun other => gapAt script by_ kinds sc x other) (fun s y => rfl)]
    simp
theorem gaps_ok {script : List Int} {by_ kinds sc : Int} (h : 1 ≤ kinds ∧ kinds ≤ 6) (hs : 1 ≤ sc ∧ sc ≤ 100000) : Gaps (m_L_gaps script by_ kinds sc) ∧ (m_L_gaps script by_ kinds sc).length = kinds.toNat := by
  rw [gaps_eq]
  have hl : ((rng 0 kinds).map fun one => (rng 0 kinds).map fun other => gapAt script by_ kinds sc one other).length = kinds.toNat := by rw [List.length_map, rng_length]; omega
  refine ⟨⟨by omega, by omega, fun row hr => ?_⟩, hl⟩
  obtain ⟨one, _, rfl⟩ := List.mem_map.mp hr
  refine ⟨by rw [hl, List.length_map, rng_length]; omega, fun x hx => ?_⟩
  obtain ⟨other, _, rfl⟩ := List.mem_map.mp hx
  unfold gapAt
  have h1 := mul_bd (a := m_L_draw script (by_ + one * kinds + other) % 6) (b := sc) (n := 5) (m := 100000) ⟨by omega, by omega⟩ ⟨by omega, by omega⟩
  have h2 := mod_ix (a := m_L_draw script (by_ + one * kinds + other) / 6) (n := sc) (by omega)
  omega
abbrev pre_L_gaps : (List Int) × Int × Int × Int → Prop := fun z => (fun (script : List Int) (by_ : Int) (kinds : Int) (scale_here : Int) => 0 ≤ by_ ∧ by_ ≤ 1000 ∧ 1 ≤ kinds ∧ kinds ≤ 6 ∧ 1 ≤ scale_here ∧ scale_here ≤ 100000) z.1 z.2.1 z.2.2.1 z.2.2.2
def sp_L_gaps (K : Fg) : Sp := spG (A := (List Int) × Int × Int × Int) (fun z => [scrP K z.1, py K (enc (z.2.1 : Int)), py K (enc (z.2.2.1 : Int)), py K (enc (z.2.2.2 : Int))]) pre_L_gaps (fun z => .new (rps K (m_L_gaps z.1 z.2.1 z.2.2.1 z.2.2.2)))
theorem sc_L_gaps : FnScope ["_law_script", "_law_by", "_law_kinds", "_law_scale_here", "_law_rows", "_law_one_here", "_law_row", "_law_other", "_law_number"] ["_law_script", "_law_by", "_law_kinds", "_law_scale_here"] (defScope s_L_gaps) := ⟨rfl, rfl, rfl, by decide +kernel, rfl, by decide +kernel, by decide +kernel⟩
theorem ok_L_gaps {P : Program} {w : World} {K : Fg} {mg : Str → Option Value} {base : Heap} {f : Addr} {fd : FuncData} (F : DefOf K "_law_gaps" "_law_gaps" s_L_gaps f fd) (hm : mg "_law_gaps" = some (.ref f)) (E0 : Env0 K mg) (G__law_draw : FnG P w K mg base CX0 1 "_law_draw" (sp_L_draw K)) :
    FnG P w K mg base CX0 2 "_law_gaps" (sp_L_gaps K) := by
  have B := E0.B
  exact fn_mk F (def_ok (Ar := (List Int) × Int × Int × Int) (T := fun (r : List (List Int)) => .new (rps K r)) (fv := fun z => m_L_gaps z.1 z.2.1 z.2.2.1 z.2.2.2) F sc_L_gaps 5 (fun _ => rfl) rfl (fun _ => rfl) fun cdv A outer s H E hr z hp => by
    obtain ⟨script, by_, kinds, scale_here⟩ := z
    have hp : 0 ≤ by_ ∧ by_ ≤ 1000 ∧ 1 ≤ kinds ∧ kinds ≤ 6 ∧ 1 ≤ scale_here ∧ scale_here ≤ 100000 := hp
    show HB (S := Unit) (bx P w K mg base ["_law_script", "_law_by", "_law_kinds", "_law_scale_here", "_law_rows", "_law_one_here", "_law_row", "_law_other", "_law_number"] "_law_gaps" s_L_gaps f cdv A outer s H E) _ [defBody s_L_gaps] (enter [scrP K script, py K (enc (by_ : Int)), py K (enc (kinds : Int)), py K (enc (scale_here : Int))] 5) _ (fun (r : List (List Int)) => .new (rps K r)) (.rt (m_L_gaps script by_ kinds scale_here))
    exact (h_ownV 4 sc_L_gaps.nd (v_list as_nil) (fun rows1 e_rows1 => (h_foldV (fun (s2 : (List (List Int))) => [.im (scrP K script), sI K (by_ : Int), sI K (kinds : Int), sI K (scale_here : Int), sO K (s2 : List (List Int)), .un, .un, .un, .un]) (fun (one_here3 : Int) => [(5, sI K (one_here3 : Int))]) PassesOwn.never rfl (i_range1 B (v_im 2) (by /-1-/ first | (walk_at "sc small") | skip)) (fun one_here3 => (g_name 5 sc_L_gaps.nd)) (.keep (.keep (.keep (.keep (.keep (.keep (.keep (.keep (.keep .nil))))))))) (fun n_one_here3 s2 one_here3 at_one_here3 e_s2 => have nat_one_here3 := lt_of_at at_one_here3; have f_one_here3 := rng_atF at_one_here3; have I_s2 := fold_len1 (fun s x => by simp [m_L_gaps_l2, bindV]) e_s2; (h_ownS 6 sc_L_gaps.nd (v_list as_nil) (fun row4 e_row4 => (h_foldS (fun (s5 : (List Int)) => [.im (scrP K script), sI K (by_ : Int), sI K (kinds : Int), sI K (scale_here : Int), sO K (s2 : List (List Int)), sI K (one_here3 : Int), sO K (s5 : List Int), .un, .un]) (fun (other6 : Int) => [(7, sI K (other6 : Int))]) PassesOwn.never rfl (i_range1 B (v_im 2) (by /-2-/ first | (walk_at "sc small") | skip)) (fun other6 => (g_name 7 sc_L_gaps.nd)) (.keep (.keep (.keep (.keep (.keep (.keep (.keep (.keep (.keep .nil))))))))) (fun n_other6 s5 other6 at_other6 e_s5 => have nat_other6 := lt_of_at at_other6; have f_other6 := rng_atF at_other6; have I_s5 := And.intro (mul_bd (a := one_here3) (b := kinds) (n := 6) (m := 6) ⟨by omega, by omega⟩ ⟨by omega, by omega⟩) (fold_len1 (fun s x => by simp [m_L_gaps_l1, bindV]) e_s5); (h_setS 8 sc_L_gaps.nd (v_call G__law_draw (hr.mono (by decide)) pass0 (script, ((by_ + (one_here3 * kinds)) + other6)) (by /-4-/ first | (first | trivial | (unfold pre_L_draw; dsimp only; walk_at "sc")) | skip) rfl (as_cons (v_im 0) (as_cons (v_add (v_add (v_im 1) (v_mul (v_im 5) (v_im 2) (by /-3-/ first | (walk_at "sc mul") | skip))) (v_im 7)) as_nil))) (fun number7 e_number7 => (h_appS 6 (v_add (v_mul (v_mod (v_im 8) v_int (by /-5-/ first | (first | decide | walk_at "sc") | skip)) (v_im 3) (by /-6-/ first | (walk_at "sc mul") | skip)) (v_mod (v_div (v_im 8) v_int (by /-7-/ first | (walk_at "sc div") | skip)) (v_im 3) (by /-8-/ first | (first | decide | walk_at "sc") | skip))) (by /-9-/ first | (walk_at "sc size") | skip) (fun row8 e_row8 => (h_end (h_nil (.keep (.keep (.keep (.keep (.keep (.keep (.keep (.drop (.drop .nil)))))))))))))))) (fun s9 e_s9 => (h_settle 6 rfl (h_appS 4 (v_im 6) (by /-10-/ first | (walk_at "sc size") | skip) (fun rows10 e_rows10 => (h_end (h_nil (.keep (.keep (.keep (.keep (.keep (.drop (.drop (.keep (.keep .nil))))))))))))))))))) (fun s11 e_s11 => (h_retOw 4)))))) hm (fun _ _ _ _ _ _ us hl => match us, hl with | [_, _, _, _], _ => rfl)
abbrev s_L_rules_of : Stmt := top 19
def m_L_rules_of (script : List Int) (scale_here : Int) : (List (List Int)) × (Option (List (List Int))) :=
  bindV (((1 : Int) + ((m_L_draw script ((0 : Int))) % (6 : Int)))) fun (kinds1 : Int) =>
  bindV (()) fun (beside2 : Unit) =>
  bindV (cond ((decide (((m_L_draw script ((1 : Int))) % (2 : Int)) = (1 : Int)))) (bindV ((m_L_gaps script ((50 : Int)) kinds1 scale_here)) fun (beside4 : List (List Int)) =>
  (some beside4)) (none)) fun (s3 : (Option (List (List Int)))) =>
  ((m_L_gaps script ((4 : Int)) kinds1 scale_here), s3)
theorem rules_ok {script : List Int} {sc : Int} (hs : 1 ≤ sc ∧ sc ≤ 100000) : Gaps (m_L_rules_of script sc).1 ∧ ∀ b, (m_L_rules_of script sc).2 = some b → Gaps b ∧ b.length = (m_L_rules_of script sc).1.length := by
  have hk : 1 ≤ 1 + m_L_draw script 0 % 6 ∧ 1 + m_L_draw script 0 % 6 ≤ 6 := by omega
  have h1 := gaps_ok (script := script) (by_ := 4) hk hs
  have h2 := gaps_ok (script := script) (by_ := 50) hk hs
  simp only [m_L_rules_of, bindV]
  refine ⟨h1.1, fun b hb => ?_⟩
  cases hc : decide (m_L_draw script 1 % 2 = 1) with
  | false => rw [hc] at hb; cases hb
  | true =>
    rw [hc] at hb
    have hb := Option.some.inj hb
    subst hb
    exact ⟨h2.1, by rw [h2.2, h1.2]⟩
abbrev pre_L_rules_of : (List Int) × Int → Prop := fun z => (fun (script : List Int) (scale_here : Int) => 1 ≤ scale_here ∧ scale_here ≤ 100000) z.1 z.2
def sp_L_rules_of (K : Fg) : Sp := spG (A := (List Int) × Int) (fun z => [scrP K z.1, py K (enc (z.2 : Int))]) pre_L_rules_of (fun z => .val (py K (enc (m_L_rules_of z.1 z.2))))
theorem sc_L_rules_of : FnScope ["_law_script", "_law_scale_here", "_law_kinds", "_law_beside"] ["_law_script", "_law_scale_here"] (defScope s_L_rules_of) := ⟨rfl, rfl, rfl, by decide +kernel, rfl, by decide +kernel, by decide +kernel⟩
theorem ok_L_rules_of {P : Program} {w : World} {K : Fg} {mg : Str → Option Value} {base : Heap} {f : Addr} {fd : FuncData} (F : DefOf K "_law_rules_of" "_law_rules_of" s_L_rules_of f fd) (hm : mg "_law_rules_of" = some (.ref f)) (E0 : Env0 K mg) (G__law_draw : FnG P w K mg base CX0 1 "_law_draw" (sp_L_draw K)) (G__law_gaps : FnG P w K mg base CX0 2 "_law_gaps" (sp_L_gaps K)) :
    FnG P w K mg base CX0 3 "_law_rules_of" (sp_L_rules_of K) := by
  have B := E0.B
  exact fn_mk F (def_ok (Ar := (List Int) × Int) (T := fun (r : (List (List Int)) × (Option (List (List Int)))) => .val (py K (enc r))) (fv := fun z => m_L_rules_of z.1 z.2) F sc_L_rules_of 2 (fun _ => rfl) rfl (fun _ => rfl) fun cdv A outer s H E hr z hp => by
    obtain ⟨script, scale_here⟩ := z
    have hp : 1 ≤ scale_here ∧ scale_here ≤ 100000 := hp
    show HB (S := Unit) (bx P w K mg base ["_law_script", "_law_scale_here", "_law_kinds", "_law_beside"] "_law_rules_of" s_L_rules_of f cdv A outer s H E) _ [defBody s_L_rules_of] (enter [scrP K script, py K (enc (scale_here : Int))] 2) _ (fun (r : (List (List Int)) × (Option (List (List Int)))) => .val (py K (enc r))) (.rt (m_L_rules_of script scale_here))
    exact (h_setV 2 sc_L_rules_of.nd (v_add v_int (v_mod (v_call G__law_draw (hr.mono (by decide)) pass0 (script, (0 : Int)) (by /-1-/ first | (first | trivial | (unfold pre_L_draw; dsimp only; walk_at "sc")) | skip) rfl (as_cons (v_im 0) (as_cons v_int as_nil))) v_int (by /-2-/ first | (first | decide | walk_at "sc") | skip))) (fun kinds1 e_kinds1 => (h_setV 3 sc_L_rules_of.nd v_non (fun beside2 e_beside2 => (h_ifMV (fun (s3 : (Option (List (List Int)))) => [.im (scrP K script), sI K (scale_here : Int), sI K (kinds1 : Int), sI K (s3 : Option (List (List Int)))]) (t_eq hr.units (by decide) (PV.d (v_mod (v_call G__law_draw (hr.mono (by decide)) pass0 (script, (1 : Int)) (by /-3-/ first | (first | trivial | (unfold pre_L_draw; dsimp only; walk_at "sc")) | skip) rfl (as_cons (v_im 0) (as_cons v_int as_nil))) v_int (by /-4-/ first | (first | decide | walk_at "sc") | skip))) (PV.d v_int)) (fun h1 => (h_setS 3 sc_L_rules_of.nd (PN.v (v_callN G__law_gaps (hr.mono (by decide)) pass0 (script, (50 : Int), kinds1, scale_here) (by /-5-/ first | (first | trivial | (unfold pre_L_gaps; dsimp only; walk_at "sc")) | skip) rfl (as_cons (v_im 0) (as_cons v_int (as_cons (v_im 2) (as_cons (v_im 1) as_nil)))))) (fun beside4 e_beside4 => (h_cast 3 ((some beside4) : Option (List (List Int))) rfl (h_end (h_nil (.keep (.keep (.keep (.keep .nil)))))))))) (fun h1 => (h_cast 3 (none : Option (List (List Int))) rfl (h_end (h_nil (.keep (.keep (.keep (.keep .nil)))))))) (fun s3 e_s3 => (h_retT (v_t2 (PN.v (v_callN G__law_gaps (hr.mono (by decide)) pass0 (script, (4 : Int), kinds1, scale_here) (by /-6-/ first | (first | trivial | (unfold pre_L_gaps; dsimp only; walk_at "sc")) | skip) rfl (as_cons (v_im 0) (as_cons v_int (as_cons (v_im 2) (as_cons (v_im 1) as_nil)))))) (v_im 3)))))))))) hm (fun _ _ _ _ _ _ us hl => match us, hl with | [_, _], _ => rfl)
abbrev s_L_made : Stmt := top 20
def m_L_made (rules : (List (List Int)) × (Option (List (List Int)))) : Rl :=
  cond rules.2.isNone
  ((Rl.mk rules.1 none))
  ((Rl.mk rules.1 (some ((rules.2.getD default)))))
theorem made_pre {rules : List (List Int) × Option (List (List Int))} (h : Gaps rules.1 ∧ ∀ b, rules.2 = some b → Gaps b ∧ b.length = rules.1.length) (h1 : rules.2.isNone = false) : Gaps rules.1 ∧ Gaps (rules.2.getD default) ∧ (rules.2.getD default).length = rules.1.length := by
  cases e : rules.2 with
  | none => rw [e] at h1; cases h1
  | some b => exact ⟨h.1, (h.2 b e).1, (h.2 b e).2⟩
abbrev pre_L_made : ((List (List Int)) × (Option (List (List Int)))) → Prop := fun z => (fun (rules : (List (List Int)) × (Option (List (List Int)))) => Gaps rules.1 ∧ ∀ b, rules.2 = some b → Gaps b ∧ b.length = rules.1.length) z
def sp_L_made (K : Fg) : Sp := spG (A := ((List (List Int)) × (Option (List (List Int))))) (fun z => [py K (enc (z : (List (List Int)) × (Option (List (List Int)))))]) pre_L_made (fun z => .val (rlP K (m_L_made z)))
theorem sc_L_made : FnScope ["_law_rules"] ["_law_rules"] (defScope s_L_made) := ⟨rfl, rfl, rfl, by decide +kernel, rfl, by decide +kernel, by decide +kernel⟩
theorem ok_L_made {P : Program} {w : World} {K : Fg} {mg : Str → Option Value} {base : Heap} {f : Addr} {fd : FuncData} (F : DefOf K "_law_made" "_law_made" s_L_made f fd) (hm : mg "_law_made" = some (.ref f)) (E0 : Env0 K mg) (G_Rules_init : IniG P w K mg base CX0 3 (He.ma K (He.ga K "Rules") "__init__") (spRules K (He.ga K "Rules"))) (G_Pair_init : IniG P w K mg base CX0 4 (He.ma K (He.ga K "Pair") "__init__") (spPair K)) :
    FnG P w K mg base CX0 6 "_law_made" (sp_L_made K) := by
  have B := E0.B
  exact fn_mk F (def_ok (Ar := ((List (List Int)) × (Option (List (List Int))))) (T := fun (r : Rl) => .val (rlP K r)) (fv := fun z => m_L_made z) F sc_L_made 0 (fun _ => rfl) rfl (fun _ => rfl) fun cdv A outer s H E hr rules hp => by
    have hp : Gaps rules.1 ∧ ∀ b, rules.2 = some b → Gaps b ∧ b.length = rules.1.length := hp
    show HB (S := Unit) (bx P w K mg base ["_law_rules"] "_law_made" s_L_made f cdv A outer s H E) _ [defBody s_L_made] (enter [py K (enc (rules : (List (List Int)) × (Option (List (List Int)))))] 0) _ (fun (r : Rl) => .val (rlP K r)) (.rt (m_L_made rules))
    exact (h_ifV (t_isN PyN.nn (v_f2_1 (v_im 0))) (fun h1 => (h_ret (v_Rules (g := rules.1) E0.R G_Rules_init (hr.mono (by decide)) (by /-1-/ first | (exact hp.1) | skip) (as_cons (v_f2_0 (v_im 0)) as_nil)))) (fun h1 => (h_end (h_ret (v_Pair (g := rules.1) (b := (rules.2.getD default)) E0.R G_Pair_init (hr.mono (by decide)) (by /-3-/ first | (exact made_pre hp h1) | skip) (as_cons (v_f2_0 (v_im 0)) (as_cons (v_get default (by /-2-/ first | (first | assumption | exact isSome_of ‹_› | walk_at "sc") | skip) (v_f2_1 (v_im 0))) as_nil)))))))) hm (fun _ _ _ _ _ _ us hl => match us, hl with | [_], _ => rfl)
abbrev s_L_flights : Stmt := top 21
def m_L_flights_l1 (script : List Int) (rules : (List (List Int)) × (Option (List (List Int)))) (scale_here : Int) (s2 : Int) (s5 : (List (T5 Int Int Int Int Int))) (k6 : Int) : (List (T5 Int Int Int Int Int)) :=
  bindV ((m_L_draw script (((100 : Int) + k6)))) fun (number7 : Int) =>
  bindV (((number7 / (16 : Int)) % (((25 : Int) * scale_here) * (k6 + (1 : Int))))) fun (first8 : Int) =>
  bindV ((ix ([(1000000000 : Int), (((100 : Int) * scale_here) * s2), (((12 : Int) * scale_here) * s2), ((3 : Int) * scale_here)]) (((number7 % (16 : Int)) / (5 : Int))))) fun (wide9 : Int) =>
  bindV ((imin ((1000000000 : Int)) ((first8 + wide9)))) fun (last10 : Int) =>
  bindV ((imin ((1000000000 : Int)) ((first8 + ((number7 / (1000 : Int)) % ((20 : Int) * scale_here)))))) fun (due11 : Int) =>
  bindV ((ix ([((number7 / (7 : Int)) % (10 : Int)), ((number7 / (7 : Int)) % ((1000000000 : Int) + (1 : Int)))]) (((number7 / (3 : Int)) % (2 : Int))))) fun (price12 : Int) =>
  bindV (s5 ++ [(T5.mk (((number7 / (11 : Int)) % (rules.1.length : Int))) first8 last10 due11 price12)]) fun (flights_here13 : List (T5 Int Int Int Int Int)) =>
  flights_here13
def m_L_flights (script : List Int) (rules : (List (List Int)) × (Option (List (List Int)))) (most : Int) (scale_here : Int) : List (T5 Int Int Int Int Int) :=
  bindV (((m_L_draw script ((2 : Int))) % ((most / (4 : Int)) + (1 : Int)))) fun (many1 : Int) =>
  bindV (cond ((decide (((m_L_draw script ((3 : Int))) % (8 : Int)) = (5 : Int)))) (bindV most fun (many3 : Int) =>
  many3) (many1)) fun (s2 : Int) =>
  bindV ([]) fun (flights_here4 : List (T5 Int Int Int Int Int)) =>
  bindV (((rng 0 s2)).foldl (m_L_flights_l1 script rules scale_here s2) flights_here4) fun (s14 : (List (T5 Int Int Int Int Int))) =>
  s14
theorem many_bd {most d : Int} (h : 0 ≤ most) (b : Bool) : 0 ≤ (bif b then (bindV most fun x => x) else d % (most / 4 + 1)) ∧ (bif b then (bindV most fun x => x) else d % (most / 4 + 1)) ≤ most := by
  have := mod_ix (a := d) (n := most / 4 + 1) (by omega)
  cases b with
  | true => exact ⟨h, Int.le_refl _⟩
  | false => simp only [cond_false]; omega
/-- a flight of the kinds -/
def FlOk (kinds : Int) (f : T5 Int Int Int Int Int) : Prop := 0 ≤ f.a ∧ f.a < kinds ∧ 0 ≤ f.b ∧ f.b ≤ f.c ∧ f.c ≤ 1000000000 ∧ 0 ≤ f.d ∧ f.d ≤ 1000000000 ∧ 0 ≤ f.e ∧ f.e ≤ 1000000000
theorem two_mem {a b : Int} (i : Int) : ix [a, b] (i % 2) = a ∨ ix [a, b] (i % 2) = b := by
  have h := ix_mem (xs := [a, b]) (i := i % 2) (mod_ix (by decide))
  simpa using h
theorem four_mem {a b c d : Int} {i : Int} (hi : 0 ≤ i ∧ i < 4) : ix [a, b, c, d] i = a ∨ ix [a, b, c, d] i = b ∨ ix [a, b, c, d] i = c ∨ ix [a, b, c, d] i = d := by
  have h := ix_mem (xs := [a, b, c, d]) (i := i) (by simpa using hi)
  simpa using h
theorem flights_step {script : List Int} {rules : List (List Int) × Option (List (List Int))} {sc many k : Int} (hs : 1 ≤ sc ∧ sc ≤ 100000) (hm : 0 ≤ many ∧ many ≤ 100) (hk : 0 ≤ k ∧ k < many) (hr : 1 ≤ rules.1.length) (s : List (T5 Int Int Int Int Int)) :
    ∃ f, m_L_flights_l1 script rules sc many s k = s ++ [f] ∧ FlOk rules.1.length f := by
  refine ⟨_, rfl, ?_⟩
  have p1 := Int.mul_pos (a := 25 * sc) (b := k + 1) (by omega) (by omega)
  have q1 := Int.mul_le_mul (a := 25 * sc) (b := k + 1) (c := 2500000) (d := 100) (by omega) (by omega) (by omega) (by omega)
  have p2 := Int.mul_pos (a := 100 * sc) (b := many) (by omega) (by omega)
  have p3 := Int.mul_pos (a := 12 * sc) (b := many) (by omega) (by omega)
  have d0 := draw_bd script (100 + k)
  generalize m_L_draw script (100 + k) = n at d0
  have m1 := mod_ix (a := n / 16) p1
  have m2 := mod_ix (a := n / 1000) (n := 20 * sc) (by omega)
  have m3 := mod_ix (a := n / 11) (n := (rules.1.length : Int)) (by omega)
  have w := four_mem (a := 1000000000) (b := 100 * sc * many) (c := 12 * sc * many) (d := 3 * sc) (i := n % 16 / 5) (by omega)
  have e := two_mem (a := n / 7 % 10) (b := n / 7 % (1000000000 + 1)) (n / 3)
  simp only [FlOk, bindV, imin_eq]
  generalize ix [1000000000, 100 * sc * many, 12 * sc * many, 3 * sc] (n % 16 / 5) = wide at w ⊢
  generalize ix [n / 7 % 10, n / 7 % (1000000000 + 1)] (n / 3 % 2) = price at e ⊢
  generalize n / 16 % (25 * sc * (k + 1)) = fi at m1 ⊢
  generalize n / 1000 % (20 * sc) = du at m2 ⊢
  refine ⟨m3.1, m3.2, m1.1, by omega, by omega, by omega, by omega, by omega, by omega⟩
theorem flights_ok {script : List Int} {rules : List (List Int) × Option (List (List Int))} {most sc : Int} (hs : 1 ≤ sc ∧ sc ≤ 100000) (hm : 0 ≤ most ∧ most ≤ 100) (hr : 1 ≤ rules.1.length) :
    ((m_L_flights script rules most sc).length : Int) ≤ most ∧ ∀ f ∈ m_L_flights script rules most sc, FlOk rules.1.length f := by
  simp only [m_L_flights, bindV_eq]
  have hb := many_bd (most := most) (d := m_L_draw script 2) hm.1 (decide (m_L_draw script 3 % 8 = 5))
  simp only [bindV_eq] at hb
  generalize (bif decide (m_L_draw script 3 % 8 = 5) then most else m_L_draw script 2 % (most / 4 + 1)) = many at hb
  have h := fold_end (f := m_L_flights_l1 script rules sc many) (s0 := []) (xs := rng 0 many) (fun n s => s.length = n ∧ ∀ f ∈ s, FlOk rules.1.length f) ⟨rfl, by simp⟩ fun n s k hk hI => by
    have hk := rng_atF hk
    obtain ⟨f, e, hf⟩ := flights_step (script := script) (rules := rules) (many := many) (k := k) hs ⟨hb.1, by omega⟩ ⟨by omega, by omega⟩ hr s
    rw [e]
    refine ⟨by simp [hI.1], fun g hg => ?_⟩
    rcases List.mem_append.mp hg with z | z
    · exact hI.2 g z
    · rw [List.mem_singleton.mp z]; exact hf
  rw [rng_length] at h
  exact ⟨by have := h.1; omega, h.2⟩
abbrev pre_L_flights : (List Int) × ((List (List Int)) × (Option (List (List Int)))) × Int × Int → Prop := fun z => (fun (script : List Int) (rules : (List (List Int)) × (Option (List (List Int)))) (most : Int) (scale_here : Int) => 0 ≤ most ∧ most ≤ 100 ∧ 1 ≤ scale_here ∧ scale_here ≤ 100000 ∧ 1 ≤ rules.1.length ∧ rules.1.length ≤ 6) z.1 z.2.1 z.2.2.1 z.2.2.2
def sp_L_flights (K : Fg) : Sp := spG (A := (List Int) × ((List (List Int)) × (Option (List (List Int)))) × Int × Int) (fun z => [scrP K z.1, py K (enc (z.2.1 : (List (List Int)) × (Option (List (List Int))))), py K (enc (z.2.2.1 : Int)), py K (enc (z.2.2.2 : Int))]) pre_L_flights (fun z => .new (rps K (m_L_flights z.1 z.2.1 z.2.2.1 z.2.2.2)))
theorem sc_L_flights : FnScope ["_law_script", "_law_rules", "_law_most", "_law_scale_here", "_law_many", "_law_flights_here", "_law_k", "_law_number", "_law_first", "_law_wide", "_law_last", "_law_due", "_law_price"] ["_law_script", "_law_rules", "_law_most", "_law_scale_here"] (defScope s_L_flights) := ⟨rfl, rfl, rfl, by decide +kernel, rfl, by decide +kernel, by decide +kernel⟩
theorem ok_L_flights {P : Program} {w : World} {K : Fg} {mg : Str → Option Value} {base : Heap} {f : Addr} {fd : FuncData} (F : DefOf K "_law_flights" "_law_flights" s_L_flights f fd) (hm : mg "_law_flights" = some (.ref f)) (E0 : Env0 K mg) (G__law_draw : FnG P w K mg base CX0 1 "_law_draw" (sp_L_draw K)) :
    FnG P w K mg base CX0 2 "_law_flights" (sp_L_flights K) := by
  have B := E0.B
  exact fn_mk F (def_ok (Ar := (List Int) × ((List (List Int)) × (Option (List (List Int)))) × Int × Int) (T := fun (r : List (T5 Int Int Int Int Int)) => .new (rps K r)) (fv := fun z => m_L_flights z.1 z.2.1 z.2.2.1 z.2.2.2) F sc_L_flights 9 (fun _ => rfl) rfl (fun _ => rfl) fun cdv A outer s H E hr z hp => by
    obtain ⟨script, rules, most, scale_here⟩ := z
    have hp : 0 ≤ most ∧ most ≤ 100 ∧ 1 ≤ scale_here ∧ scale_here ≤ 100000 ∧ 1 ≤ rules.1.length ∧ rules.1.length ≤ 6 := hp
    show HB (S := Unit) (bx P w K mg base ["_law_script", "_law_rules", "_law_most", "_law_scale_here", "_law_many", "_law_flights_here", "_law_k", "_law_number", "_law_first", "_law_wide", "_law_last", "_law_due", "_law_price"] "_law_flights" s_L_flights f cdv A outer s H E) _ [defBody s_L_flights] (enter [scrP K script, py K (enc (rules : (List (List Int)) × (Option (List (List Int))))), py K (enc (most : Int)), py K (enc (scale_here : Int))] 9) _ (fun (r : List (T5 Int Int Int Int Int)) => .new (rps K r)) (.rt (m_L_flights script rules most scale_here))
    exact (h_setV 4 sc_L_flights.nd (v_mod (v_call G__law_draw (hr.mono (by decide)) pass0 (script, (2 : Int)) (by /-1-/ first | (first | trivial | (unfold pre_L_draw; dsimp only; walk_at "sc")) | skip) rfl (as_cons (v_im 0) (as_cons v_int as_nil))) (v_add (v_div (v_im 2) v_int (by /-2-/ first | (walk_at "sc div") | skip)) v_int) (by /-3-/ first | (first | decide | walk_at "sc") | skip)) (fun many1 e_many1 => (h_ifMV (fun (s2 : Int) => [.im (scrP K script), sI K (rules : (List (List Int)) × (Option (List (List Int)))), sI K (most : Int), sI K (scale_here : Int), sI K (s2 : Int), .un, .un, .un, .un, .un, .un, .un, .un]) (t_eq hr.units (by decide) (PV.d (v_mod (v_call G__law_draw (hr.mono (by decide)) pass0 (script, (3 : Int)) (by /-4-/ first | (first | trivial | (unfold pre_L_draw; dsimp only; walk_at "sc")) | skip) rfl (as_cons (v_im 0) (as_cons v_int as_nil))) v_int (by /-5-/ first | (first | decide | walk_at "sc") | skip))) (PV.d v_int)) (fun h1 => (h_setS 4 sc_L_flights.nd (v_im 2) (fun many3 e_many3 => (h_end (h_nil (.keep (.keep (.keep (.keep (.keep (.keep (.keep (.keep (.keep (.keep (.keep (.keep (.keep .nil)))))))))))))))))) (fun h1 => (h_end (h_nil (.keep (.keep (.keep (.keep (.keep (.keep (.keep (.keep (.keep (.keep (.keep (.keep (.keep .nil)))))))))))))))) (fun s2 e_s2 => have z2 : 0 ≤ s2 ∧ s2 ≤ most := (by rw [e_s2, e_many1]; exact many_bd hp.1 _); (h_ownV 5 sc_L_flights.nd (v_list as_nil) (fun flights_here4 e_flights_here4 => (h_foldV (fun (s5 : (List (T5 Int Int Int Int Int))) => [.im (scrP K script), sI K (rules : (List (List Int)) × (Option (List (List Int)))), sI K (most : Int), sI K (scale_here : Int), sI K (s2 : Int), sO K (s5 : List (T5 Int Int Int Int Int)), .un, .un, .un, .un, .un, .un, .un]) (fun (k6 : Int) => [(6, sI K (k6 : Int))]) PassesOwn.never rfl (i_range1 B (v_im 4) (by /-6-/ first | (walk_at "sc small") | skip)) (fun k6 => (g_name 6 sc_L_flights.nd)) (.keep (.keep (.keep (.keep (.keep (.keep (.keep (.keep (.keep (.keep (.keep (.keep (.keep .nil))))))))))))) (fun n_k6 s5 k6 at_k6 e_s5 => have nat_k6 := lt_of_at at_k6; have f_k6 := rng_atF at_k6; have I_s5 := And.intro (Int.mul_pos (a := 25 * scale_here) (b := k6 + 1) (by omega) (by omega)) (fold_len1 (fun s x => by simp [m_L_flights_l1, bindV]) e_s5); (h_setS 7 sc_L_flights.nd (v_call G__law_draw (hr.mono (by decide)) pass0 (script, ((100 : Int) + k6)) (by /-7-/ first | (first | trivial | (unfold pre_L_draw; dsimp only; walk_at "sc")) | skip) rfl (as_cons (v_im 0) (as_cons (v_add v_int (v_im 6)) as_nil))) (fun number7 e_number7 => (h_setS 8 sc_L_flights.nd (v_mod (v_div (v_im 7) v_int (by /-8-/ first | (walk_at "sc div") | skip)) (v_mul (v_mul v_int (v_im 3) (by /-9-/ first | (walk_at "sc mul") | skip)) (v_add (v_im 6) v_int) (by /-10-/ first | (walk_at "sc mul") | skip)) (by /-11-/ first | (first | decide | walk_at "sc") | skip)) (fun first8 e_first8 => (h_setS 9 sc_L_flights.nd (v_ix (PK.l (PN.xk (v_list (as_cons (v_powC v_int v_int) (as_cons (v_mul (v_mul v_int (v_im 3) (by /-12-/ first | (walk_at "sc mul") | skip)) (v_im 4) (by /-13-/ first | (walk_at "sc mul") | skip)) (as_cons (v_mul (v_mul v_int (v_im 3) (by /-14-/ first | (walk_at "sc mul") | skip)) (v_im 4) (by /-15-/ first | (walk_at "sc mul") | skip)) (as_cons (v_mul v_int (v_im 3) (by /-16-/ first | (walk_at "sc mul") | skip)) as_nil))))))) (v_div (v_mod (v_im 7) v_int (by /-17-/ first | (first | decide | walk_at "sc") | skip)) v_int (by /-18-/ first | (walk_at "sc div") | skip)) (by /-19-/ first | (walk_at "sc") | skip)) (fun wide9 e_wide9 => (h_setS 10 sc_L_flights.nd (v_min B rfl (v_powC v_int v_int) (v_add (v_im 8) (v_im 9))) (fun last10 e_last10 => (h_setS 11 sc_L_flights.nd (v_min B rfl (v_powC v_int v_int) (v_add (v_im 8) (v_mod (v_div (v_im 7) v_int (by /-20-/ first | (walk_at "sc div") | skip)) (v_mul v_int (v_im 3) (by /-21-/ first | (walk_at "sc mul") | skip)) (by /-22-/ first | (first | decide | walk_at "sc") | skip)))) (fun due11 e_due11 => (h_setS 12 sc_L_flights.nd (v_ix (PK.l (PN.xk (v_list (as_cons (v_mod (v_div (v_im 7) v_int (by /-23-/ first | (walk_at "sc div") | skip)) v_int (by /-24-/ first | (first | decide | walk_at "sc") | skip)) (as_cons (v_mod (v_div (v_im 7) v_int (by /-25-/ first | (walk_at "sc div") | skip)) (v_add (v_powC v_int v_int) v_int) (by /-26-/ first | (first | decide | walk_at "sc") | skip)) as_nil))))) (v_mod (v_div (v_im 7) v_int (by /-27-/ first | (walk_at "sc div") | skip)) v_int (by /-28-/ first | (first | decide | walk_at "sc") | skip)) (by /-29-/ first | (walk_at "sc") | skip)) (fun price12 e_price12 => (h_appS 5 (v_t5 (as_cons (v_mod (v_div (v_im 7) v_int (by /-30-/ first | (walk_at "sc div") | skip)) (v_len B (PK.l (PV.xk (v_f2_0 (v_im 1))))) (by /-31-/ first | (first | decide | walk_at "sc") | skip)) (as_cons (v_im 8) (as_cons (v_im 10) (as_cons (v_im 11) (as_cons (v_im 12) as_nil)))))) (by /-32-/ first | (walk_at "sc size") | skip) (fun flights_here13 e_flights_here13 => (h_end (h_nil (.keep (.keep (.keep (.keep (.keep (.keep (.drop (.drop (.drop (.drop (.drop (.drop (.drop .nil)))))))))))))))))))))))))))))) (fun s14 e_s14 => (h_retOw 5)))))))))) hm (fun _ _ _ _ _ _ us hl => match us, hl with | [_, _, _, _], _ => rfl)
abbrev s_L_plan : Stmt := top 22
def m_L_plan_c1  (s5 : (List (Int × Int)) × (List (Int × Int))) : Bool :=
  (decide ((0 : Int) < (s5.1.length : Int)))
def m_L_plan_w2 (script : List Int) (strips4 : Int) (s5 : (List (Int × Int)) × (List (Int × Int))) : (List (Int × Int)) × (List (Int × Int)) :=
  bindV ((m_L_draw script (((180 : Int) + (s5.1.length : Int))))) fun (number6 : Int) =>
  bindV ((((number6 / (64 : Int)) % (imin ((s5.1.length : Int)) ((3 : Int)))) * (GL.b2i ((decide ((number6 % (4 : Int)) = (0 : Int))))))) fun (at7 : Int) =>
  bindV (ix s5.1 at7) fun (popped9 : Int × Int) => bindV (s5.1.eraseIdx at7.toNat) fun (left8 : List (Int × Int)) =>
  bindV (s5.2 ++ [(popped9.2, ((number6 / (4096 : Int)) % strips4))]) fun (pairs10 : List (Int × Int)) =>
  (left8, pairs10)
def m_L_plan (script : List Int) (rules : (List (List Int)) × (Option (List (List Int)))) (flights_here : List (T5 Int Int Int Int Int)) : List (Int × Int) :=
  bindV ((srt ((((rng 0 ((flights_here.length : Int)))).map fun (k1 : Int) => (((ix flights_here k1)).b, k1))))) fun (left2 : List (Int × Int)) =>
  bindV ([]) fun (pairs3 : List (Int × Int)) =>
  bindV (((2 : Int) - (GL.b2i rules.2.isNone))) fun (strips4 : Int) =>
  bindV (whileP m_L_plan_c1 (m_L_plan_w2 script strips4) ((left2.length) + 1) ((left2, pairs3))) fun (s11 : (List (Int × Int)) × (List (Int × Int))) =>
  s11.2
theorem b2i_bd (b : Bool) : 0 ≤ GL.b2i b ∧ GL.b2i b ≤ 1 := by cases b <;> simp [GL.b2i]
theorem at_bd {a m n : Int} (b : Bool) (h : 0 < m) (h2 : m ≤ n) : 0 ≤ a % m * GL.b2i b ∧ a % m * GL.b2i b < n := by
  have := mod_ix (a := a) h
  cases b <;> simp [GL.b2i] <;> omega
theorem plan_turn {script : List Int} {st : Int} (s : List (Int × Int) × List (Int × Int)) (hc : m_L_plan_c1 s = true) :
    ∃ (i : Int) (n : Int), 0 ≤ i ∧ i < s.1.length ∧ m_L_plan_w2 script st s = (s.1.eraseIdx i.toNat, s.2 ++ [((ix s.1 i).2, n % st)]) := by
  simp only [m_L_plan_c1, decide_eq_true_eq] at hc
  have h := at_bd (a := m_L_draw script (180 + (s.1.length : Int)) / 64) (m := imin (s.1.length : Int) 3) (n := (s.1.length : Int)) (decide (m_L_draw script (180 + (s.1.length : Int)) % 4 = 0)) (by rw [imin_eq]; omega) (by rw [imin_eq]; omega)
  exact ⟨_, _, h.1, h.2, rfl⟩
theorem perm_erase {α : Type} [Inhabited α] {xs : List α} {i : Int} (h : 0 ≤ i ∧ i < xs.length) : xs.Perm (ix xs i :: xs.eraseIdx i.toNat) := by
  have hi : i.toNat < xs.length := by omega
  have e : ix xs i = xs[i.toNat] := by simp [ix, List.getD, List.getElem?_eq_getElem hi]
  rw [e, List.eraseIdx_eq_take_drop_succ]
  have h1 : xs = xs.take i.toNat ++ xs[i.toNat] :: xs.drop (i.toNat + 1) := by
    rw [← List.drop_eq_getElem_cons hi, List.take_append_drop]
  refine (List.Perm.of_eq h1).trans ?_
  exact List.perm_middle
theorem plan_ok (script : List Int) (rules : List (List Int) × Option (List (List Int))) (fl : List (T5 Int Int Int Int Int)) :
    ((m_L_plan script rules fl).map (·.1)).Perm (rng 0 fl.length) ∧ ∀ p ∈ m_L_plan script rules fl, 0 ≤ p.2 ∧ p.2 < 2 - GL.b2i rules.2.isNone := by
  simp only [m_L_plan, bindV_eq]
  have hb := b2i_bd rules.2.isNone
  generalize hst : 2 - GL.b2i rules.2.isNone = st
  have h := whileP_inv (c := m_L_plan_c1) (f := m_L_plan_w2 script st) (fun s => (s.1.map (·.2) ++ s.2.map (·.1)).Perm (rng 0 fl.length) ∧ ∀ p ∈ s.2, 0 ≤ p.2 ∧ p.2 < st) (fun s => s.1.length) (fun s hI hc => by
    obtain ⟨i, n, h1, h2, e⟩ := plan_turn (script := script) (st := st) s hc
    rw [e]
    refine ⟨⟨?_, fun p hp => ?_⟩, ?_⟩
    · have hp := (perm_erase (xs := s.1) ⟨h1, h2⟩).map (·.2)
      have h3 := (hp.append_right (s.2.map (·.1))).symm.trans hI.1
      refine List.Perm.trans ?_ h3
      simp only [List.map_append, List.map_cons, List.map_nil]
      rw [← List.append_assoc]
      refine (List.perm_append_comm).trans ?_
      exact List.Perm.refl _
    · rcases List.mem_append.mp hp with z | z
      · exact hI.2 p z
      · rw [List.mem_singleton.mp z]; exact mod_ix (by omega)
    · simp only []
      rw [List.length_eraseIdx, if_pos (by omega)]; omega) ((srt ((rng 0 (fl.length : Int)).map fun k => ((ix fl k).b, k))).length + 1) (srt ((rng 0 (fl.length : Int)).map fun k => ((ix fl k).b, k)), []) (by
    refine ⟨?_, by simp⟩
    simp only [List.map_nil, List.append_nil]
    refine ((srt_perm _).map _).trans ?_
    rw [List.map_map]
    simp [Function.comp_def]) (Nat.lt_succ_self _)
  obtain ⟨⟨h1, h2⟩, h3⟩ := h
  generalize whileP m_L_plan_c1 (m_L_plan_w2 script st) ((srt ((rng 0 (fl.length : Int)).map fun k => ((ix fl k).b, k))).length + 1) (srt ((rng 0 (fl.length : Int)).map fun k => ((ix fl k).b, k)), []) = s at h1 h2 h3
  have e : s.1 = [] := by
    simp only [m_L_plan_c1, decide_eq_false_iff_not] at h3
    exact List.eq_nil_of_length_eq_zero (by omega)
  rw [e] at h1
  exact ⟨by simpa using h1, h2⟩
theorem plan_ix {script : List Int} {rules : List (List Int) × Option (List (List Int))} {fl : List (T5 Int Int Int Int Int)} : (m_L_plan script rules fl).length = fl.length ∧ ∀ p ∈ m_L_plan script rules fl, 0 ≤ p.1 ∧ p.1 < (fl.length : Int) := by
  obtain ⟨h1, _⟩ := plan_ok script rules fl
  refine ⟨?_, fun p hp => ?_⟩
  · have := h1.length_eq
    rw [List.length_map, rng_length] at this; omega
  · have := h1.mem_iff.mp (List.mem_map.mpr ⟨p, hp, rfl⟩)
    exact mem_rng.mp this
abbrev pre_L_plan : (List Int) × ((List (List Int)) × (Option (List (List Int)))) × (List (T5 Int Int Int Int Int)) → Prop := fun z => (fun (script : List Int) (rules : (List (List Int)) × (Option (List (List Int)))) (flights_here : List (T5 Int Int Int Int Int)) => flights_here.length ≤ 100) z.1 z.2.1 z.2.2
def sp_L_plan (K : Fg) : Sp := spG (A := (List Int) × ((List (List Int)) × (Option (List (List Int)))) × (List (T5 Int Int Int Int Int))) (fun z => [scrP K z.1, py K (enc (z.2.1 : (List (List Int)) × (Option (List (List Int))))), py K (enc (z.2.2 : List (T5 Int Int Int Int Int)))]) pre_L_plan (fun z => .new (rps K (m_L_plan z.1 z.2.1 z.2.2)))
theorem sc_L_plan : FnScope ["_law_script", "_law_rules", "_law_flights_here", "_law_left", "_law_pairs", "_law_strips", "_law_number", "_law_at", "_law_first", "_law_k"] ["_law_script", "_law_rules", "_law_flights_here"] (defScope s_L_plan) := ⟨rfl, rfl, rfl, by decide +kernel, rfl, by decide +kernel, by decide +kernel⟩
theorem ok_L_plan {P : Program} {w : World} {K : Fg} {mg : Str → Option Value} {base : Heap} {f : Addr} {fd : FuncData} (F : DefOf K "_law_plan" "_law_plan" s_L_plan f fd) (hm : mg "_law_plan" = some (.ref f)) (E0 : Env0 K mg) (G__law_draw : FnG P w K mg base CX0 1 "_law_draw" (sp_L_draw K)) :
    FnG P w K mg base CX0 2 "_law_plan" (sp_L_plan K) := by
  have B := E0.B
  exact fn_mk F (def_ok (Ar := (List Int) × ((List (List Int)) × (Option (List (List Int)))) × (List (T5 Int Int Int Int Int))) (T := fun (r : List (Int × Int)) => .new (rps K r)) (fv := fun z => m_L_plan z.1 z.2.1 z.2.2) F sc_L_plan 7 (fun _ => rfl) rfl (fun _ => rfl) fun cdv A outer s H E hr z hp => by
    obtain ⟨script, rules, flights_here⟩ := z
    have hp : flights_here.length ≤ 100 := hp
    show HB (S := Unit) (bx P w K mg base ["_law_script", "_law_rules", "_law_flights_here", "_law_left", "_law_pairs", "_law_strips", "_law_number", "_law_at", "_law_first", "_law_k"] "_law_plan" s_L_plan f cdv A outer s H E) _ [defBody s_L_plan] (enter [scrP K script, py K (enc (rules : (List (List Int)) × (Option (List (List Int))))), py K (enc (flights_here : List (T5 Int Int Int Int Int)))] 7) _ (fun (r : List (Int × Int)) => .new (rps K r)) (.rt (m_L_plan script rules flights_here))
    exact (h_ownV 3 sc_L_plan.nd (v_sorted B (roomS hr (by decide)) (PK.l (PN.xk (v_lc [("_law_k", 9)] (fun (k1 : Int) => [(9, sI K (k1 : Int))]) rfl sc_L_plan.nd (blkOk_by rfl) (i_range1 B (v_len B (PK.l (PV.xk (v_im 2)))) (by /-1-/ first | (walk_at "sc small") | skip)) (by /-2-/ first | (walk_at "sc size") | skip) (fun k1 _ _ _ _ _ => (g_name 9 sc_L_plan.nd)) (us_in fun _ => rfl) (fun k1 in_k1 _ _ _ _ _ => have f_k1 := rng_memF in_k1; (v_t2 (v_f5_1 (v_ix (PK.l (PV.xk (v_im 2))) (v_im 9) (by /-3-/ first | (walk_at "sc") | skip))) (v_im 9))))))) (fun left2 e_left2 => (h_ownV 4 sc_L_plan.nd (v_list as_nil) (fun pairs3 e_pairs3 => (h_setV 5 sc_L_plan.nd (v_sub v_int (v_intB B (v_isN PyN.nn (v_f2_1 (v_im 1))))) (fun strips4 e_strips4 => have z4 : 1 ≤ strips4 ∧ strips4 ≤ 2 := (by rw [e_strips4]; have := b2i_bd rules.2.isNone; omega); (h_whilePV (s0 := (left2, pairs3)) (fun (s5 : (List (Int × Int)) × (List (Int × Int))) => [.im (scrP K script), sI K (rules : (List (List Int)) × (Option (List (List Int)))), sI K (flights_here : List (T5 Int Int Int Int Int)), sO K (s5.1 : List (Int × Int)), sO K (s5.2 : List (Int × Int)), sI K (strips4 : Int), .un, .un, .un, .un]) (fun (s5 : (List (Int × Int)) × (List (Int × Int))) => s5.1.length + s5.2.length ≤ 100) (fun (s5 : (List (Int × Int)) × (List (Int × Int))) => (s5.1.length)) PassesOwn.never (.keep (.keep (.keep (.keep (.keep (.keep (.keep (.keep (.keep (.keep .nil)))))))))) (by /-14-/ first | (first | (dsimp only; walk_at "sc") | walk_at "sc") | skip) (fun s5 inv_s5 => (t_gt (v_len B (PK.l (v_ow 3))) v_int)) (fun s5 inv_s5 c_s5 => have t_s5 : (decide ((0 : Int) < (s5.1.length : Int))) = true := c_s5; (h_setS 6 sc_L_plan.nd (v_call G__law_draw (hr.mono (by decide)) pass0 (script, ((180 : Int) + (s5.1.length : Int))) (by /-4-/ first | (first | trivial | (unfold pre_L_draw; dsimp only; walk_at "sc")) | skip) rfl (as_cons (v_im 0) (as_cons (v_add v_int (v_len B (PK.l (v_ow 3)))) as_nil))) (fun number6 e_number6 => (h_setS 7 sc_L_plan.nd (v_mul (v_mod (v_div (v_im 6) v_int (by /-5-/ first | (walk_at "sc div") | skip)) (v_min B rfl (v_len B (PK.l (v_ow 3))) v_int) (by /-6-/ first | (first | decide | walk_at "sc") | skip)) (v_intB B (v_eq hr.units (by decide) (PV.d (v_mod (v_im 6) v_int (by /-7-/ first | (first | decide | walk_at "sc") | skip))) (PV.d v_int))) (by /-8-/ first | (exact Or.inr (by have := b2i_bd (decide (number6 % 4 = 0)); omega)) | skip)) (fun at7 e_at7 => (h_popS (us := (fun (popped9 : Int × Int) => [(8, sI K (popped9.1 : Int)), (9, sI K (popped9.2 : Int))])) 3 (v_im 7) (by /-9-/ first | (rw [e_at7]; exact at_bd _ (by walk_at "sc") (by walk_at "sc")) | skip) (by /-10-/ first | (walk_at "sc") | skip) (fun popped9 => (g_p2 rfl (g_name 8 sc_L_plan.nd) (g_name 9 sc_L_plan.nd))) (fun popped9 e_popped9 left8 e_left8 => (h_appS 4 (v_t2 (v_im 9) (v_mod (v_div (v_im 6) v_int (by /-11-/ first | (walk_at "sc div") | skip)) (v_im 5) (by /-12-/ first | (first | decide | walk_at "sc") | skip))) (by /-13-/ first | (walk_at "sc size") | skip) (fun pairs10 e_pairs10 => (h_end (h_nil (.keep (.keep (.keep (.keep (.keep (.keep (.drop (.drop (.drop (.drop .nil))))))))))))))))))))) (by /-15-/ first | (intro s hI hc; obtain ⟨i, n, h1, h2, e⟩ := plan_turn (script := script) (st := strips4) s hc; rw [e]; simp only [List.length_append, List.length_cons, List.length_nil]; rw [List.length_eraseIdx, if_pos (by omega)]; omega) | skip) (fun s11 e_s11 inv_s11 c_s11 => (h_retOw 4)))))))))) hm (fun _ _ _ _ _ _ us hl => match us, hl with | [_, _, _], _ => rfl)
abbrev s_L_scale : Stmt := top 23
def m_L_scale (script : List Int) : Int :=
  (ix ([(1 : Int), (1 : Int), (100 : Int), (100000 : Int)]) (((m_L_draw script ((99 : Int))) % (4 : Int))))
theorem scale_ok (script : List Int) : 1 ≤ m_L_scale script ∧ m_L_scale script ≤ 100000 := by
  have h := ix_mem (xs := [(1 : Int), 1, 100, 100000]) (i := m_L_draw script 99 % 4) (mod_ix (by decide))
  simp only [List.mem_cons, List.not_mem_nil, or_false] at h
  simp only [m_L_scale]
  omega
abbrev pre_L_scale : (List Int) → Prop := fun z => (fun (script : List Int) => True) z
def sp_L_scale (K : Fg) : Sp := spG (A := (List Int)) (fun z => [scrP K z]) pre_L_scale (fun z => .val (py K (enc (m_L_scale z))))
theorem sc_L_scale : FnScope ["_law_script"] ["_law_script"] (defScope s_L_scale) := ⟨rfl, rfl, rfl, by decide +kernel, rfl, by decide +kernel, by decide +kernel⟩
theorem ok_L_scale {P : Program} {w : World} {K : Fg} {mg : Str → Option Value} {base : Heap} {f : Addr} {fd : FuncData} (F : DefOf K "_law_scale" "_law_scale" s_L_scale f fd) (hm : mg "_law_scale" = some (.ref f)) (E0 : Env0 K mg) (G__law_draw : FnG P w K mg base CX0 1 "_law_draw" (sp_L_draw K)) :
    FnG P w K mg base CX0 2 "_law_scale" (sp_L_scale K) := by
  have B := E0.B
  exact fn_mk F (def_ok (Ar := (List Int)) (T := fun (r : Int) => .val (py K (enc r))) (fv := fun z => m_L_scale z) F sc_L_scale 0 (fun _ => rfl) rfl (fun _ => rfl) fun cdv A outer s H E hr script hp => by
    show HB (S := Unit) (bx P w K mg base ["_law_script"] "_law_scale" s_L_scale f cdv A outer s H E) _ [defBody s_L_scale] (enter [scrP K script] 0) _ (fun (r : Int) => .val (py K (enc r))) (.rt (m_L_scale script))
    exact (h_retT (v_ix (PK.l (PN.xk (v_list (as_cons v_int (as_cons v_int (as_cons v_int (as_cons (v_powC v_int v_int) as_nil))))))) (v_mod (v_call G__law_draw (hr.mono (by decide)) pass0 (script, (99 : Int)) (by /-1-/ first | (first | trivial | (unfold pre_L_draw; dsimp only; walk_at "sc")) | skip) rfl (as_cons (v_im 0) (as_cons v_int as_nil))) v_int (by /-2-/ first | (first | decide | walk_at "sc") | skip)) (by /-3-/ first | (walk_at "sc") | skip)))) hm (fun _ _ _ _ _ _ us hl => match us, hl with | [_], _ => rfl)
abbrev s_L_one : Stmt := top 24
def m_L_one (flight : T5 Int Int Int Int Int) (time : Int) : Int :=
  cond ((decide (time ≤ flight.d)))
  ((0 : Int))
  ((flight.e * (time - flight.d)))
abbrev pre_L_one : (T5 Int Int Int Int Int) × Int → Prop := fun z => (fun (flight : T5 Int Int Int Int Int) (time : Int) => -(2 ^ 64) < flight.e ∧ flight.e < 2 ^ 64) z.1 z.2
def sp_L_one (K : Fg) : Sp := spG (A := (T5 Int Int Int Int Int) × Int) (fun z => [py K (enc (z.1 : T5 Int Int Int Int Int)), py K (enc (z.2 : Int))]) pre_L_one (fun z => .val (py K (enc (m_L_one z.1 z.2))))
theorem sc_L_one : FnScope ["_law_flight", "_law_time"] ["_law_flight", "_law_time"] (defScope s_L_one) := ⟨rfl, rfl, rfl, by decide +kernel, rfl, by decide +kernel, by decide +kernel⟩
theorem ok_L_one {P : Program} {w : World} {K : Fg} {mg : Str → Option Value} {base : Heap} {f : Addr} {fd : FuncData} (F : DefOf K "_law_one" "_law_one" s_L_one f fd) (hm : mg "_law_one" = some (.ref f)) (E0 : Env0 K mg)  :
    FnG P w K mg base CX0 1 "_law_one" (sp_L_one K) := by
  have B := E0.B
  exact fn_mk F (def_ok (Ar := (T5 Int Int Int Int Int) × Int) (T := fun (r : Int) => .val (py K (enc r))) (fv := fun z => m_L_one z.1 z.2) F sc_L_one 0 (fun _ => rfl) rfl (fun _ => rfl) fun cdv A outer s H E hr z hp => by
    obtain ⟨flight, time⟩ := z
    have hp : -(2 ^ 64) < flight.e ∧ flight.e < 2 ^ 64 := hp
    show HB (S := Unit) (bx P w K mg base ["_law_flight", "_law_time"] "_law_one" s_L_one f cdv A outer s H E) _ [defBody s_L_one] (enter [py K (enc (flight : T5 Int Int Int Int Int)), py K (enc (time : Int))] 0) _ (fun (r : Int) => .val (py K (enc r))) (.rt (m_L_one flight time))
    exact (h_ifV (t_le (v_im 1) (v_f5_3 (v_im 0))) (fun h1 => (h_retT v_int)) (fun h1 => (h_end (h_retT (v_mul (v_f5_4 (v_im 0)) (v_sub (v_im 1) (v_f5_3 (v_im 0))) (by /-1-/ first | (walk_at "sc mul") | skip))))))) hm (fun _ _ _ _ _ _ us hl => match us, hl with | [_, _], _ => rfl)
abbrev s_law : Stmt := top 25
def m_law_l1 (flights_here3 : List (T5 Int Int Int Int Int)) (plan_here4 : List (Int × Int)) (s15 : (List Int) × Int) (s18 : Unit) (place19 : Int) : Ctl Unit Bool :=
  bindV ((((slc s15.1 none (some place19)) ++ [((ix s15.1 place19) + (1 : Int))]) ++ (slc s15.1 (some ((place19 + (1 : Int)))) none))) fun (later20 : List Int) =>
  cond ((decide ((m_cost_of flights_here3 plan_here4 later20) < s15.2)))
  ((.rt false))
  ((.nx (())))
def m_law_l2 (script : List Int) (flights_here3 : List (T5 Int Int Int Int Int)) (plan_here4 : List (Int × Int)) (s7 : (List Int) × Int) (place8 : Int) : Ctl ((List Int) × Int) Bool :=
  bindV ((m_L_draw script (((250 : Int) + place8)))) fun (number9 : Int) =>
  bindV ((ix flights_here3 (((ix plan_here4 place8)).1))) fun (flight10 : T5 Int Int Int Int Int) =>
  bindV ((ix ([(number9 / (4 : Int)), ((number9 / (4 : Int)) % (3000 : Int)), flight10.d, (flight10.d + ((number9 / (4 : Int)) % (9 : Int)))]) ((number9 % (4 : Int))))) fun (time11 : Int) =>
  bindV ((m_late_cost flight10 time11)) fun (found12 : Int) =>
  cond (((!(m_L_whole ((enc (found12 : Int))))) || (!decide (found12 = (m_L_one flight10 time11)))))
  ((.rt false))
  (bindV (s7.1 ++ [time11]) fun (times13 : List Int) =>
  bindV ((s7.2 + found12)) fun (total14 : Int) =>
  (.nx ((times13, total14))))
def m_law (script : List Int) : Bool :=
  bindV ((m_L_scale script)) fun (scale_here1 : Int) =>
  bindV ((m_L_rules_of script scale_here1)) fun (rules2 : (List (List Int)) × (Option (List (List Int)))) =>
  cond ((!decide ((m_Rules_many_kinds ((m_L_made rules2))) = (rules2.1.length : Int))))
  (false)
  (bindV ((m_L_flights script rules2 ((40 : Int)) scale_here1)) fun (flights_here3 : List (T5 Int Int Int Int Int)) =>
  bindV ((m_L_plan script rules2 flights_here3)) fun (plan_here4 : List (Int × Int)) =>
  bindV ([]) fun (times5 : List Int) =>
  bindV ((0 : Int)) fun (total6 : Int) =>
  forR (S := ((List Int) × Int)) (m_law_l2 script flights_here3 plan_here4) ((times5, total6)) ((rng 0 ((plan_here4.length : Int)))) fun (s15 : (List Int) × Int) =>
  bindV ((H3.mk flights_here3 plan_here4 s15.1)) fun (handed16 : H3 (List (T5 Int Int Int Int Int)) (List (Int × Int)) (List Int)) =>
  bindV ((m_cost_of handed16.a handed16.b handed16.c)) fun (found17 : Int) =>
  cond (((!(m_L_whole ((enc (found17 : Int))))) || ((!decide (found17 = s15.2)) || (!decide (handed16 = (H3.mk flights_here3 plan_here4 s15.1))))))
  (false)
  (forR (S := Unit) (m_law_l1 flights_here3 plan_here4 s15) (()) ((rng 0 ((plan_here4.length : Int)))) fun (s21 : Unit) =>
  (decide ((m_cost_of ([]) ([]) ([])) = (0 : Int)))))
theorem late_one (f : T5 Int Int Int Int Int) (t : Int) : m_late_cost f t = m_L_one f t := by
  simp only [m_late_cost, m_L_one, imax_eq]
  by_cases h : t ≤ f.d
  · rw [decide_eq_true h]
    have : max 0 (t - f.d) = 0 := by omega
    rw [this]; simp
  · rw [decide_eq_false h]
    have : max 0 (t - f.d) = t - f.d := by omega
    rw [this]; rfl
/-- the time drawn for a place -/
def timeAt (script : List Int) (fl : List (T5 Int Int Int Int Int)) (plan : List (Int × Int)) (k : Int) : Int :=
  ix [m_L_draw script (250 + k) / 4, m_L_draw script (250 + k) / 4 % 3000, (ix fl (ix plan k).1).d, (ix fl (ix plan k).1).d + m_L_draw script (250 + k) / 4 % 9] (m_L_draw script (250 + k) % 4)
theorem l2_nx (script : List Int) (fl : List (T5 Int Int Int Int Int)) (plan : List (Int × Int)) (s : List Int × Int) (k : Int) :
    m_law_l2 script fl plan s k = .nx (s.1 ++ [timeAt script fl plan k], s.2 + m_late_cost (ix fl (ix plan k).1) (timeAt script fl plan k)) := by
  simp only [m_law_l2, bindV_eq, late_one, m_L_whole, enc, Py.enc, decide_true, Bool.not_true, Bool.or_self, cond_false]
  rfl
theorem forL_nx {α S R : Type} {f : S → α → Ctl S R} {g : S → α → S} (h : ∀ s x, f s x = .nx (g s x)) : ∀ (xs : List α) (s : S), forL f s xs = .inl (xs.foldl g s) ∧ steps f s xs = some (xs.foldl g s)
  | [], s => ⟨rfl, rfl⟩
  | x :: xs, s => by
    obtain ⟨h1, h2⟩ := forL_nx h xs (g s x)
    simp only [forL, steps, h]
    exact ⟨h1, h2⟩
theorem l2_fold (script : List Int) (fl : List (T5 Int Int Int Int Int)) (plan : List (Int × Int)) : ∀ (xs : List Int) (s : List Int × Int),
    xs.foldl (fun (s : List Int × Int) k => (s.1 ++ [timeAt script fl plan k], s.2 + m_late_cost (ix fl (ix plan k).1) (timeAt script fl plan k))) s = (s.1 ++ xs.map (timeAt script fl plan), s.2 + (xs.map fun k => m_late_cost (ix fl (ix plan k).1) (timeAt script fl plan k)).sum)
  | [], s => by simp
  | x :: xs, s => by
    rw [List.foldl_cons, l2_fold script fl plan xs]
    simp [Int.add_assoc]
theorem l2_end {script : List Int} {fl : List (T5 Int Int Int Int Int)} {plan : List (Int × Int)} (xs : List Int) (s : List Int × Int) :
    forL (m_law_l2 script fl plan) s xs = .inl (s.1 ++ xs.map (timeAt script fl plan), s.2 + (xs.map fun k => m_late_cost (ix fl (ix plan k).1) (timeAt script fl plan k)).sum) := by
  rw [(forL_nx (l2_nx script fl plan) xs s).1, l2_fold]
theorem l2_len {script : List Int} {fl : List (T5 Int Int Int Int Int)} {plan : List (Int × Int)} {xs : List Int} {s s' : List Int × Int} (h : forL (m_law_l2 script fl plan) s xs = .inl s') : s'.1.length = s.1.length + xs.length := by
  rw [l2_end] at h
  rw [← Sum.inl.inj h]; simp
theorem l2_steps {script : List Int} {fl : List (T5 Int Int Int Int Int)} {plan : List (Int × Int)} {xs : List Int} {s s' : List Int × Int} (h : steps (m_law_l2 script fl plan) s xs = some s') : s'.1.length = s.1.length + xs.length := by
  rw [(forL_nx (l2_nx script fl plan) xs s).2, l2_fold] at h
  rw [← Option.some.inj h]; simp
abbrev pre_law : (List Int) → Prop := fun z => (fun (script : List Int) => script.length ≤ 63) z
def sp_law (K : Fg) : Sp := spG (A := (List Int)) (fun z => [scrP K z]) pre_law (fun z => .val (py K (enc (m_law z))))
theorem sc_law : FnScope ["_law_script", "_law_scale_here", "_law_rules", "_law_flights_here", "_law_plan_here", "_law_times", "_law_total", "_law_place", "_law_number", "_law_flight", "_law_time", "_law_found", "_law_handed", "_law_later"] ["_law_script"] (defScope s_law) := ⟨rfl, rfl, rfl, by decide +kernel, rfl, by decide +kernel, by decide +kernel⟩
theorem ok_law {P : Program} {w : World} {K : Fg} {mg : Str → Option Value} {base : Heap} {f : Addr} {fd : FuncData} (F : DefOf K "law" "law" s_law f fd) (hm : mg "law" = some (.ref f)) (E0 : Env0 K mg) (G__law_scale : FnG P w K mg base CX0 2 "_law_scale" (sp_L_scale K)) (G__law_rules_of : FnG P w K mg base CX0 3 "_law_rules_of" (sp_L_rules_of K)) (G__law_made : FnG P w K mg base CX0 6 "_law_made" (sp_L_made K)) (GR_many_kinds : MthG P w K mg base CX0 1 (He.ga K "Rules") "many_kinds" (sp_Rules_many_kinds K)) (GP_many_kinds : MthG P w K mg base CX0 1 (He.ga K "Pair") "many_kinds" (sp_Rules_many_kinds K)) (G__law_flights : FnG P w K mg base CX0 2 "_law_flights" (sp_L_flights K)) (G__law_plan : FnG P w K mg base CX0 2 "_law_plan" (sp_L_plan K)) (G__law_draw : FnG P w K mg base CX0 1 "_law_draw" (sp_L_draw K)) (G_late_cost : FnG P w K mg base CX0 1 "late_cost" (sp_late_cost K)) (G__law_whole : FnG P w K mg base CX0 1 "_law_whole" (sp_L_whole K)) (G__law_one : FnG P w K mg base CX0 1 "_law_one" (sp_L_one K)) (G_cost_of : FnG P w K mg base CX0 2 "cost_of" (sp_cost_of K)) :
    FnOk P w K mg base CX0 7 f fd ["_law_script"] (sp_law K) := by
  have B := E0.B
  exact def_ok (Ar := (List Int)) (T := fun (r : Bool) => .val (py K (enc r))) (fv := fun z => m_law z) F sc_law 13 (fun _ => rfl) rfl (fun _ => rfl) fun cdv A outer s H E hr script hp => by
    have hp : script.length ≤ 63 := hp
    show HB (S := Unit) (bx P w K mg base ["_law_script", "_law_scale_here", "_law_rules", "_law_flights_here", "_law_plan_here", "_law_times", "_law_total", "_law_place", "_law_number", "_law_flight", "_law_time", "_law_found", "_law_handed", "_law_later"] "law" s_law f cdv A outer s H E) _ [defBody s_law] (enter [scrP K script] 13) _ (fun (r : Bool) => .val (py K (enc r))) (.rt (m_law script))
    exact (h_setV 1 sc_law.nd (v_call G__law_scale (hr.mono (by decide)) pass0 script (by /-1-/ first | (first | trivial | (unfold pre_L_scale; dsimp only; walk_at "sc")) | skip) rfl (as_cons (v_im 0) as_nil)) (fun scale_here1 e_scale_here1 => have z1 : 1 ≤ scale_here1 ∧ scale_here1 ≤ 100000 := (by rw [e_scale_here1]; exact scale_ok script); (h_setV 2 sc_law.nd (v_call G__law_rules_of (hr.mono (by decide)) pass0 (script, scale_here1) (by /-2-/ first | (first | trivial | (unfold pre_L_rules_of; dsimp only; walk_at "sc")) | skip) rfl (as_cons (v_im 0) (as_cons (v_im 1) as_nil))) (fun rules2 e_rules2 => have z2 : Gaps rules2.1 ∧ ∀ b, rules2.2 = some b → Gaps b ∧ b.length = rules2.1.length := (by rw [e_rules2]; exact rules_ok z1); have y2 := z2.1.1; have y3 := z2.1.2.1; (h_ifV (t_ne hr.units (by decide) (PV.d (v_rm0 GR_many_kinds GP_many_kinds (hr.mono (by decide)) pass0 (m_L_made rules2) (by /-4-/ first | (intro hac; first | trivial | (unfold pre_Rules_many_kinds; dsimp only; walk_at "sc")) | skip) (by /-5-/ first | (intro hac; first | trivial | (unfold pre_Rules_many_kinds; dsimp only; walk_at "sc")) | skip) (fun h => rfl) (fun h => rfl) (v_call G__law_made (hr.mono (by decide)) pass0 rules2 (by /-3-/ first | (first | trivial | (unfold pre_L_made; dsimp only; exact z2)) | skip) rfl (as_cons (v_im 2) as_nil)))) (PV.d (v_len B (PK.l (PV.xk (v_f2_0 (v_im 2))))))) (fun h1 => (h_retT v_bl)) (fun h1 => (h_end (h_setV 3 sc_law.nd (PN.v (v_callN G__law_flights (hr.mono (by decide)) pass0 (script, rules2, (40 : Int), scale_here1) (by /-6-/ first | (first | trivial | (unfold pre_L_flights; dsimp only; walk_at "sc")) | skip) rfl (as_cons (v_im 0) (as_cons (v_im 2) (as_cons v_int (as_cons (v_im 1) as_nil)))))) (fun flights_here3 e_flights_here3 => have z3 : (flights_here3.length : Int) ≤ 40 ∧ ∀ f ∈ flights_here3, FlOk rules2.1.length f := (by rw [e_flights_here3]; exact flights_ok z1 (by omega) y2); have y4 := z3.1; (h_setV 4 sc_law.nd (PN.v (v_callN G__law_plan (hr.mono (by decide)) pass0 (script, rules2, flights_here3) (by /-7-/ first | (first | trivial | (unfold pre_L_plan; dsimp only; walk_at "sc")) | skip) rfl (as_cons (v_im 0) (as_cons (v_im 2) (as_cons (v_im 3) as_nil))))) (fun plan_here4 e_plan_here4 => have z4 : plan_here4.length = flights_here3.length ∧ ∀ p ∈ plan_here4, 0 ≤ p.1 ∧ p.1 < (flights_here3.length : Int) := (by rw [e_plan_here4]; exact plan_ix); have y5 := z4.1; (h_ownV 5 sc_law.nd (v_list as_nil) (fun times5 e_times5 => (h_setV 6 sc_law.nd v_int (fun total6 e_total6 => (h_forV (fun (s7 : (List Int) × Int) => [.im (scrP K script), sI K (scale_here1 : Int), sI K (rules2 : (List (List Int)) × (Option (List (List Int)))), sI K (flights_here3 : List (T5 Int Int Int Int Int)), sI K (plan_here4 : List (Int × Int)), sO K (s7.1 : List Int), sI K (s7.2 : Int), .un, .un, .un, .un, .un, .un, .un]) (fun (place8 : Int) => [(7, sI K (place8 : Int))]) PassesOwn.never rfl (i_range1 B (v_len B (PK.l (PV.xk (v_im 4)))) (by /-8-/ first | (walk_at "sc small") | skip)) (fun place8 => (g_name 7 sc_law.nd)) (.keep (.keep (.keep (.keep (.keep (.keep (.keep (.keep (.keep (.keep (.keep (.keep (.keep (.keep .nil)))))))))))))) (fun n_place8 s7 place8 at_place8 e_s7 => have nat_place8 := lt_of_at at_place8; have f_place8 := rng_atF at_place8; have I_s7 := l2_steps e_s7; (h_setC 8 sc_law.nd (v_call G__law_draw (hr.mono (by decide)) pass0 (script, ((250 : Int) + place8)) (by /-9-/ first | (first | trivial | (unfold pre_L_draw; dsimp only; walk_at "sc")) | skip) rfl (as_cons (v_im 0) (as_cons (v_add v_int (v_im 7)) as_nil))) (fun number9 e_number9 => (h_setC 9 sc_law.nd (v_ix (PK.l (PV.xk (v_im 3))) (v_f2_0 (v_ix (PK.l (PV.xk (v_im 4))) (v_im 7) (by /-10-/ first | (walk_at "sc") | skip))) (by /-11-/ first | (exact z4.2 _ (ix_mem (by omega))) | skip)) (fun flight10 e_flight10 => have z10 : FlOk rules2.1.length flight10 := (by rw [e_flight10]; exact z3.2 _ (ix_mem (z4.2 _ (ix_mem (by omega))))); have y10 := z10.2.2.2.2.2.2.2; (h_setC 10 sc_law.nd (v_ix (PK.l (PN.xk (v_list (as_cons (v_div (v_im 8) v_int (by /-12-/ first | (walk_at "sc div") | skip)) (as_cons (v_mod (v_div (v_im 8) v_int (by /-13-/ first | (walk_at "sc div") | skip)) v_int (by /-14-/ first | (first | decide | walk_at "sc") | skip)) (as_cons (v_f5_3 (v_im 9)) (as_cons (v_add (v_f5_3 (v_im 9)) (v_mod (v_div (v_im 8) v_int (by /-15-/ first | (walk_at "sc div") | skip)) v_int (by /-16-/ first | (first | decide | walk_at "sc") | skip))) as_nil))))))) (v_mod (v_im 8) v_int (by /-17-/ first | (first | decide | walk_at "sc") | skip)) (by /-18-/ first | (walk_at "sc") | skip)) (fun time11 e_time11 => (h_setC 11 sc_law.nd (v_call G_late_cost (hr.mono (by decide)) pass0 (flight10, time11) (by /-19-/ first | (first | trivial | (unfold pre_late_cost; dsimp only; walk_at "sc")) | skip) rfl (as_cons (v_im 9) (as_cons (v_im 10) as_nil))) (fun found12 e_found12 => (h_ifC (PWv.t (w_or (v_not (t_val (v_call G__law_whole (hr.mono (by decide)) pass0 (enc (found12 : Int)) (by /-20-/ first | (first | trivial | (unfold pre_L_whole; dsimp only; walk_at "sc")) | skip) rfl (as_cons (v_im 11) as_nil)))) (fun h2 => (w_or1 (t_ne hr.units (by decide) (PV.d (v_im 11)) (PV.d (v_call G__law_one (hr.mono (by decide)) pass0 (flight10, time11) (by /-21-/ first | (first | trivial | (unfold pre_L_one; dsimp only; walk_at "sc")) | skip) rfl (as_cons (v_im 9) (as_cons (v_im 10) as_nil))))))))) (fun h3 => (h_retT v_bl)) (fun h3 => (h_end (h_appC 5 (v_im 10) (by /-22-/ first | (rw [sizeLine_eq]; rw [e_times5] at I_s7; have := List.length_take (i := n_place8) (l := rng 0 (plan_here4.length : Int)); simp at I_s7; omega) | skip) (fun times13 e_times13 => (h_setC 6 sc_law.nd (v_add (v_im 6) (v_im 11)) (fun total14 e_total14 => (h_end (h_nil (.keep (.keep (.keep (.keep (.keep (.keep (.keep (.drop (.drop (.drop (.drop (.drop (.keep (.keep .nil)))))))))))))))))))))))))))))))) (fun s15 e_s15 => have z15 : s15.1.length = plan_here4.length := (by have := l2_len e_s15; rw [e_times5, rng_length] at this; simp at this; omega); (h_setV 12 sc_law.nd (v_h3 (as_cons (PN.v (v_listOf B (PK.l (PV.xk (v_im 3))))) (as_cons (PN.v (v_listOf B (PK.l (PV.xk (v_im 4))))) (as_cons (PN.v (v_listOf B (PK.l (v_ow 5)))) as_nil)))) (fun handed16 e_handed16 => have z16 : handed16.a = flights_here3 ∧ handed16.b = plan_here4 := (by rw [e_handed16]; exact ⟨rfl, rfl⟩); (h_setV 11 sc_law.nd (v_call G_cost_of (hr.mono (by decide)) pass0 (handed16.a, handed16.b, handed16.c) (by /-23-/ first | (first | trivial | (unfold pre_cost_of; dsimp only; rw [z16.1, z16.2]; exact ⟨by omega, z4.2, fun f hf => by have := (z3.2 f hf).2.2.2.2.2.2.2; omega⟩)) | skip) rfl (as_cons (v_g3_0 (v_im 12)) (as_cons (v_g3_1 (v_im 12)) (as_cons (v_g3_2 (v_im 12)) as_nil)))) (fun found17 e_found17 => (h_settle 5 rfl (h_ifV (PWv.t (w_or (v_not (t_val (v_call G__law_whole (hr.mono (by decide)) pass0 (enc (found17 : Int)) (by /-24-/ first | (first | trivial | (unfold pre_L_whole; dsimp only; walk_at "sc")) | skip) rfl (as_cons (v_im 11) as_nil)))) (fun h4 => (w_or (t_ne hr.units (by decide) (PV.d (v_im 11)) (PV.d (v_im 6))) (fun h5 => (w_or1 (t_ne hr.units (by decide) (PV.d (v_im 12)) (PV.d (v_h3 (as_cons (v_im 3) (as_cons (v_im 4) (as_cons (v_im 5) as_nil)))))))))))) (fun h6 => (h_retT v_bl)) (fun h6 => (h_end (h_forV (fun (s18 : Unit) => [.im (scrP K script), sI K (scale_here1 : Int), sI K (rules2 : (List (List Int)) × (Option (List (List Int)))), sI K (flights_here3 : List (T5 Int Int Int Int Int)), sI K (plan_here4 : List (Int × Int)), sI K (s15.1 : List Int), sI K (s15.2 : Int), .un, .un, .un, .un, sI K (found17 : Int), sI K (handed16 : H3 (List (T5 Int Int Int Int Int)) (List (Int × Int)) (List Int)), .un]) (fun (place19 : Int) => [(7, sI K (place19 : Int))]) PassesOwn.never rfl (i_range1 B (v_len B (PK.l (PV.xk (v_im 4)))) (by /-25-/ first | (walk_at "sc small") | skip)) (fun place19 => (g_name 7 sc_law.nd)) (.keep (.keep (.keep (.keep (.keep (.keep (.keep (.keep (.keep (.keep (.keep (.keep (.keep (.keep .nil)))))))))))))) (fun n_place19 s18 place19 at_place19 e_s18 => have nat_place19 := lt_of_at at_place19; have f_place19 := rng_atF at_place19; (h_setC 13 sc_law.nd (PN.v (v_cat (PN.xk (v_cat (PN.xk (v_sl (l := none) (h := (some place19)) (PK.l (PV.xk (v_im 5))) trivial (v_im 7))) (PN.xk (v_list (as_cons (v_add (v_ix (PK.l (PV.xk (v_im 5))) (v_im 7) (by /-26-/ first | (walk_at "sc") | skip)) v_int) as_nil))) (by /-27-/ first | (rw [sizeLine_eq]; have := slc_len s15.1 none (some place19); simp only [List.length_cons, List.length_nil]; omega) | skip))) (PN.xk (v_sl (l := (some ((place19 + (1 : Int))))) (h := none) (PK.l (PV.xk (v_im 5))) (v_add (v_im 7) v_int) trivial)) (by /-28-/ first | (rw [sizeLine_eq]; have := slc_len s15.1 none (some place19); have := slc_len s15.1 (some (place19 + 1)) none; simp only [List.length_append, List.length_cons, List.length_nil]; omega) | skip))) (fun later20 e_later20 => (h_ifC (t_lt (v_call G_cost_of (hr.mono (by decide)) pass0 (flights_here3, plan_here4, later20) (by /-29-/ first | (first | trivial | (unfold pre_cost_of; dsimp only; exact ⟨by omega, z4.2, fun f hf => by have := (z3.2 f hf).2.2.2.2.2.2.2; omega⟩)) | skip) rfl (as_cons (v_im 3) (as_cons (v_im 4) (as_cons (v_im 13) as_nil)))) (v_im 6)) (fun h7 => (h_retT v_bl)) (fun h7 => (h_end (h_end (h_nil (.keep (.keep (.keep (.keep (.keep (.keep (.keep (.drop (.keep (.keep (.keep (.keep (.keep (.drop .nil)))))))))))))))))))))) (fun s21 e_s21 => (h_retT (v_eq hr.units (by decide) (PV.d (v_call G_cost_of (hr.mono (by decide)) pass0 ([], [], []) (by /-30-/ first | (first | trivial | (unfold pre_cost_of; dsimp only; exact ⟨by simp, by simp, by simp⟩)) | skip) rfl (as_cons (PN.v (v_list as_nil)) (as_cons (PN.v (v_list as_nil)) (as_cons (PN.v (v_list as_nil)) as_nil))))) (PV.d v_int))))))))))))))))))))))))))))))
end LW

set_option Elab.async false
set_option linter.all false
set_option maxRecDepth 100000
set_option maxHeartbeats 4000000
namespace LW
open PySem PySem.Spec PyProof.Rows L2 GL
theorem list_rng {α : Type} [Inhabited α] (xs : List α) : xs = (rng 0 xs.length).map fun k => ix xs k := by
  apply List.ext_getElem?
  intro n
  by_cases h : n < xs.length
  · rw [List.getElem?_map, rng_at (by omega), List.getElem?_eq_getElem h]
    simp only [Option.map_some, Int.zero_add]
    rw [ix_of_at (List.getElem?_eq_getElem h)]
  · rw [List.getElem?_eq_none (by omega), List.getElem?_eq_none (by rw [List.length_map, rng_length]; omega)]
theorem cost_eq (fl : List (T5 Int Int Int Int Int)) (plan : List (Int × Int)) (ts : List Int) : m_cost_of fl plan ts = ((plan.zip ts).map fun p => m_late_cost (ix fl p.1.1) p.2).sum := rfl
theorem cost_drawn (script : List Int) (fl : List (T5 Int Int Int Int Int)) (plan : List (Int × Int)) :
    m_cost_of fl plan ((rng 0 plan.length).map (timeAt script fl plan)) = ((rng 0 plan.length).map fun k => m_late_cost (ix fl (ix plan k).1) (timeAt script fl plan k)).sum := by
  rw [cost_eq]
  have e : plan.zip ((rng 0 plan.length).map (timeAt script fl plan)) = (rng 0 plan.length).map fun k => (ix plan k, timeAt script fl plan k) := by
    conv => lhs; lhs; rw [list_rng plan]
    rw [List.zip_map']
  rw [e, List.map_map]; rfl
theorem late_mono {f : T5 Int Int Int Int Int} (h : 0 ≤ f.e) {t u : Int} (htu : t ≤ u) : m_late_cost f t ≤ m_late_cost f u := by
  simp only [m_late_cost, imax_eq]
  exact Int.mul_le_mul_of_nonneg_left (by omega) h
theorem cost_mono {fl : List (T5 Int Int Int Int Int)} : ∀ (plan : List (Int × Int)) (ts us : List Int), (∀ p ∈ plan, 0 ≤ (ix fl p.1).e) → us.length = ts.length → (∀ (i : Nat) t u, ts[i]? = some t → us[i]? = some u → t ≤ u) → m_cost_of fl plan ts ≤ m_cost_of fl plan us
  | [], ts, us, _, _, _ => by simp [cost_eq]
  | p :: plan, [], us, _, hl, _ => by
    have : us = [] := List.eq_nil_of_length_eq_zero hl
    subst this; simp [cost_eq]
  | p :: plan, t :: ts, [], _, hl, _ => by simp at hl
  | p :: plan, t :: ts, u :: us, he, hl, h => by
    have h1 := cost_mono (fl := fl) plan ts us (fun q hq => he q (by simp [hq])) (by simpa using hl) fun i a b h1 h2 => h (i + 1) a b (by simpa using h1) (by simpa using h2)
    have h2 := late_mono (he p (by simp)) (h 0 t u rfl rfl)
    rw [cost_eq, cost_eq] at h1 ⊢
    simp only [List.zip_cons_cons, List.map_cons, List.sum_cons]
    omega
theorem later_get {ts : List Int} {k : Int} (hk : 0 ≤ k ∧ k < ts.length) :
    (slc ts none (some k) ++ [ix ts k + 1] ++ slc ts (some (k + 1)) none).length = ts.length ∧ ∀ (i : Nat) t u, ts[i]? = some t → (slc ts none (some k) ++ [ix ts k + 1] ++ slc ts (some (k + 1)) none)[i]? = some u → t ≤ u := by
  have hn : k.toNat < ts.length := by omega
  have e : slc ts none (some k) ++ [ix ts k + 1] ++ slc ts (some (k + 1)) none = ts.set k.toNat (ix ts k + 1) := by
    rw [slc_to ts hk.1, slc_from ts (by omega), List.set_eq_take_append_cons_drop, if_pos hn, List.append_assoc]
    rw [show (k + 1).toNat = k.toNat + 1 by omega]
    rfl
  rw [e]
  refine ⟨by simp, fun i t u h1 h2 => ?_⟩
  by_cases q : k.toNat = i
  · subst q
    rw [List.getElem?_set_self hn] at h2
    have h3 := ix_at hk
    rw [h1] at h3
    have := Option.some.inj h2
    have := Option.some.inj h3
    omega
  · rw [List.getElem?_set_ne q, h1] at h2
    have := Option.some.inj h2
    omega
theorem made_kinds (r : List (List Int) × Option (List (List Int))) : m_Rules_many_kinds (m_L_made r) = (r.1.length : Int) := by
  obtain ⟨a, b⟩ := r
  cases b with
  | none => rfl
  | some b => rfl
theorem law_true (ns : List Int) (hl : ns.length ≤ 63) : m_law ns = true := by
  have z1 := scale_ok ns
  have z2 := rules_ok (script := ns) z1
  have y2 := z2.1.1
  simp only [m_law, bindV_eq, made_kinds]
  generalize m_L_rules_of ns (m_L_scale ns) = rules at z2 y2 ⊢
  have z3 := flights_ok (script := ns) (rules := rules) (most := 40) z1 (by omega) y2
  generalize m_L_flights ns rules 40 (m_L_scale ns) = fl at z3 ⊢
  have z4 := plan_ix (script := ns) (rules := rules) (fl := fl)
  generalize m_L_plan ns rules fl = plan at z4 ⊢
  have he : ∀ p ∈ plan, 0 ≤ (ix fl p.1).e := fun p hp => (z3.2 _ (ix_mem (z4.2 p hp))).2.2.2.2.2.2.2.1
  simp only [forR, l2_end, List.nil_append, Int.zero_add, cost_drawn]
  rw [forL_all]
  · simp [m_L_whole, enc, Py.enc, m_cost_of]
  · intro k hk
    left
    have hk := rng_memF hk
    have h := later_get (ts := (rng 0 plan.length).map (timeAt ns fl plan)) (k := k) ⟨hk.1, by rw [List.length_map, rng_length]; omega⟩
    have h2 := cost_mono plan _ _ he h.1 h.2
    rw [cost_drawn] at h2
    simp only [m_law_l1, bindV_eq]
    rw [decide_eq_false (by omega)]
    rfl
end LW

set_option Elab.async false
set_option linter.all false
set_option maxRecDepth 100000
set_option maxHeartbeats 0
namespace LW
open PySem PySem.Spec PyProof.Rows L2 GL
theorem law_spec {K : Fg} {H : Hp} {a : Addr} {ns : List Int} (hl : ns.length ≤ 63) (hO : L2.Only H) (hS : SqL K H a (ns.map V.int)) : sp_law K [.ref a] H (fun v _ => v = .bl true) fun _ _ _ => False := by
  refine ⟨ns, H, Evl.Ex.refl H, .cons ⟨a, rfl, hS⟩ .nil, hl, fun v F H' g p => ?_⟩
  have e : m_law ns = true := law_true ns hl
  have p' : (py K (enc (m_law ns))).p F v := p
  rw [e] at p'
  cases p'
  rfl
end LW
namespace LW
open PySem PySem.Spec PyProof.Rows L2 GL
def mkD (x : Str) (st : Stmt) : He.DefD := ⟨(x, none), x, x, defArgs st, defBody st, defScope st, [], []⟩
def mkM (c m q : Str) (st : Stmt) : He.DefD := ⟨(c, some m), m, q, defArgs st, defBody st, defScope st, [], []⟩
def fn : List He.DefD := ([mkD "late_cost" s_late_cost, mkD "cost_of" s_cost_of, mkD "is_gap" s_is_gap, mkD "check_gaps" s_check_gaps, mkD "rows_copied" s_rows_copied, mkD "_law_draw" s_L_draw, mkD "_law_whole" s_L_whole, mkD "_law_gaps" s_L_gaps, mkD "_law_rules_of" s_L_rules_of, mkD "_law_made" s_L_made, mkD "_law_flights" s_L_flights, mkD "_law_plan" s_L_plan, mkD "_law_scale" s_L_scale, mkD "_law_one" s_L_one, mkD "law" s_law, mkM "Rules" "__init__" "Rules.__init__" s_Rules_init, mkM "Pair" "__init__" "Pair.__init__" s_Pair_init, mkM "Rules" "many_kinds" "Rules.many_kinds" s_Rules_many_kinds, mkM "Pair" "many_kinds" "Rules.many_kinds" s_Rules_many_kinds] : List He.DefD)
def fa : List He.Fa := ([.glo "late_cost", .glo "cost_of", .glo "is_gap", .glo "check_gaps", .glo "rows_copied", .glo "_law_draw", .glo "_law_whole", .glo "_law_gaps", .glo "_law_rules_of", .glo "_law_made", .glo "_law_flights", .glo "_law_plan", .glo "_law_scale", .glo "_law_one", .glo "law", .int "MOST_GAP" 1000000, .int "MOST_KINDS" 6, .free "len", .free "range", .free "list", .free "tuple", .free "isinstance", .free "int", .free "bool", .free "max", .free "min", .free "sorted", .free "enumerate", .free "zip", .free "sum"] : List He.Fa) ++ ([.free "all", .free "any", .free "set", .free "abs", .free "reversed", .free "str", .free "dict", .free "ValueError", .glo "Rules", .glo "Pair", .cls "Rules", .cls "Pair", .noat "Rules" "own", .noat "Pair" "own", .noat "Pair" "across", .mkr "Rules", .mkr "Pair", .meth "Rules" "many_kinds", .meth "Pair" "many_kinds"] : List He.Fa)
def loose : List Str := (["_wall", "late_cost", "cost_of", "StripError", "NoRules", "MOST_GAP", "MOST_KINDS", "is_gap", "check_gaps", "rows_copied", "Rules", "Pair", "_law_draw", "_law_whole", "_law_gaps", "_law_rules_of", "_law_made", "_law_flights", "_law_plan", "_law_scale", "_law_one"] : List Str)
abbrev R : PySem.W.OpenRow := PySem.W.OpenLaw.row PySem.Challenge.rw_wakeorder_k26_costs
def ex (K : Fg) : Bool := (cfunB K (He.ga K "Rules") (He.ma K (He.ga K "Rules") "__init__") "__init__" && true)
abbrev hk : PySem.W.Hook := hookY 5 fa fn ex
def ob (s : PySem.W.SharedT) : He.AlD × Bool := obsY 5 fa fn ex (HandSHeadRun.getT s)
theorem ob_eq (s : PySem.W.SharedT) : ob s = hk.obs s.abs := obsY_eq (HandSHeadRun.getT_eq s)
theorem run (w : World) : HandSHeadRun.RunEq R (PySem.W.view R.prog [25]) hk ob 30000 loose w := by
  intro os
  kernel_rfl
theorem facts {P : Program} {w : World} {K : Fg} {h : Heap} {mg : Str → Option Value} {f : Addr} (X : K.In h) (G : h.Ns mainGlobals mg) (hfa : mg ("law" : Str) = some (.ref f)) (c : He.SaysD fa fn K) (ce : ex K = true) :
    ∃ fd : FuncData, (∀ (s : Shared) (v : Value), BindsTo s fd ⟨[v], []⟩ [("_law_script", v)]) ∧ ∀ base : Heap, K.In base → base.Ns mainGlobals mg → FnOk P w K mg base CX0 7 f fd ["_law_script"] (sp_law K) := by
  obtain ⟨fd0, F0⟩ := c.def_ 0 (d := mkD "late_cost" s_late_cost) rfl
  obtain ⟨fd1, F1⟩ := c.def_ 1 (d := mkD "cost_of" s_cost_of) rfl
  obtain ⟨fd2, F2⟩ := c.def_ 2 (d := mkD "is_gap" s_is_gap) rfl
  obtain ⟨fd3, F3⟩ := c.def_ 3 (d := mkD "check_gaps" s_check_gaps) rfl
  obtain ⟨fd4, F4⟩ := c.def_ 4 (d := mkD "rows_copied" s_rows_copied) rfl
  obtain ⟨fd5, F5⟩ := c.def_ 5 (d := mkD "_law_draw" s_L_draw) rfl
  obtain ⟨fd6, F6⟩ := c.def_ 6 (d := mkD "_law_whole" s_L_whole) rfl
  obtain ⟨fd7, F7⟩ := c.def_ 7 (d := mkD "_law_gaps" s_L_gaps) rfl
  obtain ⟨fd8, F8⟩ := c.def_ 8 (d := mkD "_law_rules_of" s_L_rules_of) rfl
  obtain ⟨fd9, F9⟩ := c.def_ 9 (d := mkD "_law_made" s_L_made) rfl
  obtain ⟨fd10, F10⟩ := c.def_ 10 (d := mkD "_law_flights" s_L_flights) rfl
  obtain ⟨fd11, F11⟩ := c.def_ 11 (d := mkD "_law_plan" s_L_plan) rfl
  obtain ⟨fd12, F12⟩ := c.def_ 12 (d := mkD "_law_scale" s_L_scale) rfl
  obtain ⟨fd13, F13⟩ := c.def_ 13 (d := mkD "_law_one" s_L_one) rfl
  obtain ⟨fd14, F14⟩ := c.def_ 14 (d := mkD "law" s_law) rfl
  obtain ⟨fd15, F15⟩ := c.def_ 15 (d := mkM "Rules" "__init__" "Rules.__init__" s_Rules_init) rfl
  obtain ⟨fd16, F16⟩ := c.def_ 16 (d := mkM "Pair" "__init__" "Pair.__init__" s_Pair_init) rfl
  obtain ⟨fd17, F17⟩ := c.def_ 17 (d := mkM "Rules" "many_kinds" "Rules.many_kinds" s_Rules_many_kinds) rfl
  obtain ⟨fd18, F18⟩ := c.def_ 18 (d := mkM "Pair" "many_kinds" "Rules.many_kinds" s_Rules_many_kinds) rfl
  have e := hfa.symm.trans (He.glo_ok X G (c.fact 14 (f := .glo "law") rfl))
  cases e
  have b := FunD.bindsA (ps := ["_law_script"]) F14 fun _ _ _ _ _ _ us hl => match us, hl with | [_], _ => rfl
  have B : Blt mg := ⟨He.free_ok X G (c.fact 17 (f := .free "len") rfl), He.free_ok X G (c.fact 18 (f := .free "range") rfl), He.free_ok X G (c.fact 19 (f := .free "list") rfl), He.free_ok X G (c.fact 20 (f := .free "tuple") rfl), He.free_ok X G (c.fact 21 (f := .free "isinstance") rfl), He.free_ok X G (c.fact 22 (f := .free "int") rfl), He.free_ok X G (c.fact 23 (f := .free "bool") rfl), He.free_ok X G (c.fact 24 (f := .free "max") rfl), He.free_ok X G (c.fact 25 (f := .free "min") rfl), He.free_ok X G (c.fact 26 (f := .free "sorted") rfl), He.free_ok X G (c.fact 27 (f := .free "enumerate") rfl), He.free_ok X G (c.fact 28 (f := .free "zip") rfl), He.free_ok X G (c.fact 29 (f := .free "sum") rfl), He.free_ok X G (c.fact 30 (f := .free "all") rfl), He.free_ok X G (c.fact 31 (f := .free "any") rfl), He.free_ok X G (c.fact 32 (f := .free "set") rfl), He.free_ok X G (c.fact 33 (f := .free "abs") rfl), He.free_ok X G (c.fact 34 (f := .free "reversed") rfl), He.free_ok X G (c.fact 35 (f := .free "str") rfl), He.free_ok X G (c.fact 36 (f := .free "dict") rfl), He.free_ok X G (c.fact 37 (f := .free "ValueError") rfl)⟩
  unfold ex at ce
  rw [Bool.and_eq_true] at ce
  obtain ⟨ce0, ce⟩ := ce
  have R : RlE K mg := ⟨He.cls_ok (c.fact 40 (f := .cls "Rules") rfl), He.cls_ok (c.fact 41 (f := .cls "Pair") rfl), He.noat_ok (c.fact 42 (f := .noat "Rules" "own") rfl), He.noat_ok (c.fact 43 (f := .noat "Pair" "own") rfl), He.noat_ok (c.fact 44 (f := .noat "Pair" "across") rfl), He.glo_ok X G (c.fact 38 (f := .glo "Rules") rfl), He.glo_ok X G (c.fact 39 (f := .glo "Pair") rfl), He.mkr_ok (c.fact 45 (f := .mkr "Rules") rfl), He.mkr_ok (c.fact 46 (f := .mkr "Pair") rfl), cfn_of ce0⟩
  have E0 : Env0 K mg := ⟨B, R, He.int_ok X G (c.fact 15 (f := .int "MOST_GAP" 1000000) rfl), He.int_ok X G (c.fact 16 (f := .int "MOST_KINDS" 6) rfl)⟩
  refine ⟨fd14, fun s v => b s [v] rfl, fun base _ _ => ?_⟩
  have G__law_draw : FnG P w K mg base CX0 1 "_law_draw" (sp_L_draw K) := ok_L_draw F5 (He.glo_ok X G (c.fact 5 (f := .glo "_law_draw") rfl)) E0 
  have G__law_scale : FnG P w K mg base CX0 2 "_law_scale" (sp_L_scale K) := ok_L_scale F12 (He.glo_ok X G (c.fact 12 (f := .glo "_law_scale") rfl)) E0 G__law_draw
  have G__law_gaps : FnG P w K mg base CX0 2 "_law_gaps" (sp_L_gaps K) := ok_L_gaps F7 (He.glo_ok X G (c.fact 7 (f := .glo "_law_gaps") rfl)) E0 G__law_draw
  have G__law_rules_of : FnG P w K mg base CX0 3 "_law_rules_of" (sp_L_rules_of K) := ok_L_rules_of F8 (He.glo_ok X G (c.fact 8 (f := .glo "_law_rules_of") rfl)) E0 G__law_draw G__law_gaps
  have G_is_gap : FnG P w K mg base CX0 1 "is_gap" (sp_is_gap K) := ok_is_gap F2 (He.glo_ok X G (c.fact 2 (f := .glo "is_gap") rfl)) E0 
  have G_check_gaps : FnG P w K mg base CX0 2 "check_gaps" (sp_check_gaps K) := ok_check_gaps F3 (He.glo_ok X G (c.fact 3 (f := .glo "check_gaps") rfl)) E0 G_is_gap
  have G_rows_copied : FnG P w K mg base CX0 1 "rows_copied" (sp_rows_copied K) := ok_rows_copied F4 (He.glo_ok X G (c.fact 4 (f := .glo "rows_copied") rfl)) E0 
  have G_Rules_init : IniG P w K mg base CX0 3 (He.ma K (He.ga K "Rules") "__init__") (spRules K (He.ga K "Rules")) := ok_Rules_init F15 E0.R.cR E0.R.nR G_check_gaps G_rows_copied
  have G_Pair_init : IniG P w K mg base CX0 4 (He.ma K (He.ga K "Pair") "__init__") (spPair K) := ok_Pair_init F16 E0 (ok_Rules_init F15 E0.R.cP E0.R.nP G_check_gaps G_rows_copied) G_check_gaps G_rows_copied
  have G__law_made : FnG P w K mg base CX0 6 "_law_made" (sp_L_made K) := ok_L_made F9 (He.glo_ok X G (c.fact 9 (f := .glo "_law_made") rfl)) E0 G_Rules_init G_Pair_init
  have GR_many_kinds : MthG P w K mg base CX0 1 (He.ga K "Rules") "many_kinds" (sp_Rules_many_kinds K) := MthG.up (mth_mk (x := "many_kinds") (qual := "Rules.many_kinds") (st := s_Rules_many_kinds) E0.R.cR (He.meth_ok (c.fact 47 (f := .meth "Rules" "many_kinds") rfl)) F17 (ok_Rules_many_kinds F17 E0 ) (fun _ _ _ _ _ _ us hl => match us, hl with | [_], _ => rfl)) (by decide)
  have GP_many_kinds : MthG P w K mg base CX0 1 (He.ga K "Pair") "many_kinds" (sp_Rules_many_kinds K) := MthG.up (mth_mk (x := "many_kinds") (qual := "Rules.many_kinds") (st := s_Rules_many_kinds) E0.R.cP (He.meth_ok (c.fact 48 (f := .meth "Pair" "many_kinds") rfl)) F18 (ok_Rules_many_kinds F18 E0 ) (fun _ _ _ _ _ _ us hl => match us, hl with | [_], _ => rfl)) (by decide)
  have G__law_flights : FnG P w K mg base CX0 2 "_law_flights" (sp_L_flights K) := ok_L_flights F10 (He.glo_ok X G (c.fact 10 (f := .glo "_law_flights") rfl)) E0 G__law_draw
  have G__law_plan : FnG P w K mg base CX0 2 "_law_plan" (sp_L_plan K) := ok_L_plan F11 (He.glo_ok X G (c.fact 11 (f := .glo "_law_plan") rfl)) E0 G__law_draw
  have G_late_cost : FnG P w K mg base CX0 1 "late_cost" (sp_late_cost K) := ok_late_cost F0 (He.glo_ok X G (c.fact 0 (f := .glo "late_cost") rfl)) E0 
  have G__law_whole : FnG P w K mg base CX0 1 "_law_whole" (sp_L_whole K) := ok_L_whole F6 (He.glo_ok X G (c.fact 6 (f := .glo "_law_whole") rfl)) E0 
  have G__law_one : FnG P w K mg base CX0 1 "_law_one" (sp_L_one K) := ok_L_one F13 (He.glo_ok X G (c.fact 13 (f := .glo "_law_one") rfl)) E0 
  have G_cost_of : FnG P w K mg base CX0 2 "cost_of" (sp_cost_of K) := ok_cost_of F1 (He.glo_ok X G (c.fact 1 (f := .glo "cost_of") rfl)) E0 G_late_cost
  exact ok_law F14 (He.glo_ok X G (c.fact 14 (f := .glo "law") rfl)) E0 G__law_scale G__law_rules_of G__law_made GR_many_kinds GP_many_kinds G__law_flights G__law_plan G__law_draw G_late_cost G__law_whole G__law_one G_cost_of
end LW
open PySem PySem.W PySem.Calls PyProof.Rows
theorem PySem.Challenge.cw_wakeorder_k26_costs_holds : PySem.Challenge.rw_wakeorder_k26_costs.Holds := by
  w_on; o_law
  refine HandSHeadRun.head_any (r := OpenLaw.row PySem.Challenge.rw_wakeorder_k26_costs) (q := view (OpenLaw.row PySem.Challenge.rw_wakeorder_k26_costs).prog [25]) (H := LW.hk) (ob := LW.ob) (M := 30000) (loose := LW.loose) (d := HandSHeadRun.topDef (OpenLaw.row PySem.Challenge.rw_wakeorder_k26_costs).prog 25) (kwd := []) LW.ob_eq
    (by kernel_rfl) (fun s => by kernel_rfl) LW.run (by kernel_rfl) (by kernel_rfl) (by kernel_rfl) (by rfl) (by first | assumption | decide +kernel) (by decide +kernel) ⟨rfl, rfl, rfl, rfl, rfl, by decide +kernel⟩ ?hw ?hc
  case hw => w_witness2
  case hc =>
    refine L2.walk_ofE (l := PySem.Challenge.rw_wakeorder_k26_costs) (n := 63) (k := 7) (x := "_law_script") (CX := L2.CX0) rfl (by decide) (by kernel_rfl) ⟨rfl, by decide, by decide⟩ ?F (fun _ _ _ _ z => z)
    intro w mg fa h Y G hmg0
    obtain ⟨K, KX, c⟩ := Y
    have hmg : mg ("law" : PySem.Str) = some (.ref fa) := by
      have e : (HandSHeadRun.topDef (OpenLaw.row PySem.Challenge.rw_wakeorder_k26_costs).prog 25).name = ("law" : PySem.Str) := by kernel_rfl
      rw [← e]
      exact hmg0
    obtain ⟨fd, hb, hF⟩ := LW.facts (P := (PySem.Challenge.rw_wakeorder_k26_costs).prog) (w := w) KX G hmg c.1 c.2
    exact ⟨K, fd, LW.sp_law K, KX, hb, fun H a ns hl hO hS => LW.law_spec hl hO hS, hF⟩

