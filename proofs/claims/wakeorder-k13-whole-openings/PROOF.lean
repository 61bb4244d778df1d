import PyProof.Rows.All
import Wide.All
import OpenK.AllK
import Wide.FinOn
import KE.KStateDown
import HandS.ForMost
import HandS.Exc
import HandS.WordsExc
import HandS.Flow
import HandS.Style
import HandS.Wide
import HandS.IsInst
import HandS.Deep
import HandS.RevRange
import HandS.TupAny
import HandS.TupLe
import HandS.Conv
import HandS.Evl
import KE.SortData
import HandS.Defaults
import HandS.More
import HandS.SortKw
import KE.DataMinMax
import HandS.Head0
import HandS.Head1
import HandS.Head2
import HandS.HeadEnd
import HandS.HeadHook1
import HandS.HeadHook2
import PySem.Challenge.RW_wakeorder_k13_whole_openings
set_option Elab.async false
set_option linter.all false
set_option maxRecDepth 100000
set_option maxHeartbeats 4000000
namespace GL
open PySem L2
open Evl (Ex ex_l ex_t)
abbrev Fg := PySem.W.Frag

/-! ### growth: F the settled part of the heap H -/
structure Gr (F H F' H' : Hp) : Prop where
  f : Ex F F'
  h : Ex H H'
  s : Ex F' H'
  n : ∀ a, F a = none → H a ≠ none → F' a = none
theorem Gr.refl {F H : Hp} (s : Ex F H) : Gr F H F H := ⟨Ex.refl F, Ex.refl H, s, fun _ h _ => h⟩
theorem Gr.trans {F H F1 H1 F2 H2 : Hp} (a : Gr F H F1 H1) (b : Gr F1 H1 F2 H2) : Gr F H F2 H2 :=
  ⟨a.f.trans b.f, a.h.trans b.h, b.s, fun x h1 h2 => b.n x (a.n x h1 h2) (by
    cases e : H x with
    | none => exact absurd e h2
    | some o => rw [a.h x o e]; exact fun z => nomatch z)⟩
/-- only the heap grew -/
theorem Gr.hp {F H H' : Hp} (s : Ex F H) (h : Ex H H') : Gr F H F H' := ⟨Ex.refl F, h, s.trans h, fun _ z _ => z⟩
/-- a new object, settled -/
theorem Gr.new {F H : Hp} {p : Addr} {o : HO} (s : Ex F H) (hp : H p = none) : Gr F H (upd F p o) (upd H p o) := by
  have fp : F p = none := by
    cases e : F p with
    | none => rfl
    | some u => rw [s p u e] at hp; cases hp
  refine ⟨Ex.new fp, Ex.new hp, fun a u e => ?_, fun a h1 h2 => ?_⟩
  · by_cases q : a = p
    · subst q; rw [upd_same] at e ⊢; exact e
    · rw [upd_ne q] at e ⊢; exact s a u e
  · have q : a ≠ p := fun z => h2 (by rw [z]; exact hp)
    rw [upd_ne q]; exact h1
/-- a new object, one's own -/
theorem Gr.own {F H : Hp} {p : Addr} {o : HO} (s : Ex F H) (hp : H p = none) : Gr F H F (upd H p o) := Gr.hp s (Ex.new hp)
/-- one's own object settled -/
theorem Gr.settle {F H : Hp} {p : Addr} {o : HO} (s : Ex F H) (fp : F p = none) (hp : H p = some o) : Ex F (upd F p o) ∧ Ex (upd F p o) H := by
  refine ⟨Ex.new fp, fun a u e => ?_⟩
  by_cases q : a = p
  · subst q; rw [upd_same] at e; rw [← e]; exact hp
  · rw [upd_ne q] at e; exact s a u e

/-! ### what is said of a value, as long as the settled part grows -/
structure MP where
  p : Hp → V → Prop
  mono : ∀ F F' v, Ex F F' → p F v → p F' v
mutual
/-- a datum at a value: lists tracked, tuples readable -/
inductive Dq (K : Fg) (F : Hp) : V → PyData → Prop
  | non : Dq K F .non .none
  | bl (b : Bool) : Dq K F (.bl b) (.bool b)
  | int (i : Int) : Dq K F (.int i) (.int i)
  | str (x : Str) : Dq K F (.str x) (.str x)
  | lst {a : Addr} {xs : List V} {ds : List PyData} : F a = some (.lst xs) → DqAll K F xs ds → Dq K F (.ref a) (.list ds)
  | tup {a : Addr} {xs : List V} {ds : List PyData} : SqT K F a xs → DqAll K F xs ds → Dq K F (.ref a) (.tuple ds)
inductive DqAll (K : Fg) (F : Hp) : List V → List PyData → Prop
  | nil : DqAll K F [] []
  | cons {v : V} {vs : List V} {d : PyData} {ds : List PyData} : Dq K F v d → DqAll K F vs ds → DqAll K F (v :: vs) (d :: ds)
end
mutual
theorem dq_mono {K : Fg} {F F' : Hp} (e : Ex F F') : ∀ (d : PyData) (v : V), Dq K F v d → Dq K F' v d
  | .none, _, h => by cases h; exact .non
  | .bool b, _, h => by cases h; exact .bl b
  | .int i, _, h => by cases h; exact .int i
  | .str x, _, h => by cases h; exact .str x
  | .list ds, _, h => by
    cases h with
    | lst hs ha => exact .lst (e _ _ hs) (dqAll_mono e ds _ ha)
  | .tuple ds, _, h => by
    cases h with
    | tup hs ha => exact .tup (ex_t e hs) (dqAll_mono e ds _ ha)
  | .dict _, _, h => by cases h
theorem dqAll_mono {K : Fg} {F F' : Hp} (e : Ex F F') : ∀ (ds : List PyData) (vs : List V), DqAll K F vs ds → DqAll K F' vs ds
  | [], _, h => by cases h; exact .nil
  | d :: ds, _, h => by
    cases h with
    | cons h1 h2 => exact .cons (dq_mono e d _ h1) (dqAll_mono e ds _ h2)
end
mutual
theorem dq_dp {K : Fg} {F : Hp} : ∀ (d : PyData) (v : V), Dq K F v d → Dp K F v d
  | .none, _, h => by cases h; exact .non
  | .bool b, _, h => by cases h; exact .bl b
  | .int i, _, h => by cases h; exact .int i
  | .str x, _, h => by cases h; exact .str x
  | .list ds, _, h => by
    cases h with
    | lst hs ha => exact .lst (SqL.of hs) (dqAll_dp ds _ ha)
  | .tuple ds, _, h => by
    cases h with
    | tup hs ha => exact .tup hs (dqAll_dp ds _ ha)
  | .dict _, _, h => by cases h
theorem dqAll_dp {K : Fg} {F : Hp} : ∀ (ds : List PyData) (vs : List V), DqAll K F vs ds → DpAll K F vs ds
  | [], _, h => by cases h; exact .nil
  | d :: ds, _, h => by
    cases h with
    | cons h1 h2 => exact .cons (dq_dp d _ h1) (dqAll_dp ds _ h2)
end
mutual
theorem dp_mono {K : Fg} {F F' : Hp} (e : Ex F F') : ∀ (d : PyData) (v : V), Dp K F v d → Dp K F' v d
  | .none, _, h => by cases h; exact .non
  | .bool b, _, h => by cases h; exact .bl b
  | .int i, _, h => by cases h; exact .int i
  | .str x, _, h => by cases h; exact .str x
  | .list ds, _, h => by
    cases h with
    | lst hs ha => exact .lst (ex_l e hs) (dpAll_mono e ds _ ha)
  | .tuple ds, _, h => by
    cases h with
    | tup hs ha => exact .tup (ex_t e hs) (dpAll_mono e ds _ ha)
  | .dict _, _, h => by cases h
theorem dpAll_mono {K : Fg} {F F' : Hp} (e : Ex F F') : ∀ (ds : List PyData) (vs : List V), DpAll K F vs ds → DpAll K F' vs ds
  | [], _, h => by cases h; exact .nil
  | d :: ds, _, h => by
    cases h with
    | cons h1 h2 => exact .cons (dp_mono e d _ h1) (dpAll_mono e ds _ h2)
end
/-- a datum -/
def py (K : Fg) (d : PyData) : MP := ⟨fun F v => Dq K F v d, fun _ _ v e h => dq_mono e d v h⟩
/-- a datum that is only compared -/
def dp (K : Fg) (d : PyData) : MP := ⟨fun F v => Dp K F v d, fun _ _ v e h => dp_mono e d v h⟩
/-- the script -/
def scrP (K : Fg) (ns : List Int) : MP := ⟨fun F v => ∃ a, v = .ref a ∧ SqL K F a (ns.map V.int), fun _ _ _ e ⟨a, h1, h2⟩ => ⟨a, h1, ex_l e h2⟩⟩
def AllP (Ps : List MP) (F : Hp) (vs : List V) : Prop := vs.length = Ps.length ∧ ∀ (i : Nat) (P : MP) (v : V), Ps[i]? = some P → vs[i]? = some v → P.p F v
theorem AllP.mono {Ps : List MP} {F F' : Hp} {vs : List V} (e : Ex F F') (h : AllP Ps F vs) : AllP Ps F' vs := ⟨h.1, fun i P v h1 h2 => P.mono F F' v e (h.2 i P v h1 h2)⟩
theorem AllP.nil {F : Hp} : AllP [] F [] := ⟨rfl, fun i P v h => by simp at h⟩
theorem AllP.cons {P : MP} {Ps : List MP} {F : Hp} {v : V} {vs : List V} (h : P.p F v) (hs : AllP Ps F vs) : AllP (P :: Ps) F (v :: vs) :=
  ⟨by simp [hs.1], fun i Q u h1 h2 => by
    cases i with
    | zero => simp at h1 h2; subst h1; subst h2; exact h
    | succ i => exact hs.2 i Q u (by simpa using h1) (by simpa using h2)⟩
theorem AllP.inv {P : MP} {Ps : List MP} {F : Hp} {us : List V} (h : AllP (P :: Ps) F us) : ∃ v vs, us = v :: vs ∧ P.p F v ∧ AllP Ps F vs := by
  obtain ⟨h1, h2⟩ := h
  cases us with
  | nil => simp at h1
  | cons v vs => exact ⟨v, vs, rfl, h2 0 P v rfl rfl, by simpa using h1, fun i Q u a b => h2 (i + 1) Q u (by simpa using a) (by simpa using b)⟩
theorem AllP.inv0 {F : Hp} {us : List V} (h : AllP [] F us) : us = [] := by
  cases us with
  | nil => rfl
  | cons v vs => exact absurd h.1 (by simp)
theorem AllP.snoc {Ps : List MP} {P : MP} {F : Hp} {vs : List V} {v : V} (hs : AllP Ps F vs) (h : P.p F v) : AllP (Ps ++ [P]) F (vs ++ [v]) := by
  refine ⟨by simp [hs.1], fun i Q u h1 h2 => ?_⟩
  by_cases hi : i < vs.length
  · rw [List.getElem?_append_left hi] at h2
    rw [List.getElem?_append_left (by rw [← hs.1]; exact hi)] at h1
    exact hs.2 i Q u h1 h2
  · rw [List.getElem?_append_right (by omega)] at h2
    rw [List.getElem?_append_right (by rw [← hs.1]; omega)] at h1
    have e : i - vs.length = 0 := by
      have := (List.getElem?_eq_some_iff.mp h2).1
      simp at this; omega
    rw [← hs.1, e] at h1
    rw [e] at h2
    simp at h1 h2
    subst h1; subst h2; exact h
theorem dqAll_allP {K : Fg} {F : Hp} : ∀ {ds : List PyData} {vs : List V}, DqAll K F vs ds → AllP (ds.map (py K)) F vs
  | [], _, h => by cases h; exact .nil
  | d :: ds, _, h => by
    cases h with
    | cons h1 h2 => exact .cons h1 (dqAll_allP h2)
theorem allP_dqAll {K : Fg} {F : Hp} : ∀ {ds : List PyData} {vs : List V}, AllP (ds.map (py K)) F vs → DqAll K F vs ds
  | [], vs, h => by rw [h.inv0]; exact .nil
  | d :: ds, vs, h => by
    obtain ⟨v, us, rfl, h1, h2⟩ := AllP.inv (P := py K d) (Ps := ds.map (py K)) h
    exact .cons h1 (allP_dqAll h2)
/-- a list, a tuple of such -/
def lstP (Ps : List MP) : MP := ⟨fun F v => ∃ a vs, v = .ref a ∧ F a = some (.lst vs) ∧ AllP Ps F vs, fun _ _ _ e ⟨a, vs, h1, h2, h3⟩ => ⟨a, vs, h1, e _ _ h2, h3.mono e⟩⟩
def tupP (K : Fg) (Ps : List MP) : MP := ⟨fun F v => ∃ a vs, v = .ref a ∧ SqT K F a vs ∧ AllP Ps F vs, fun _ _ _ e ⟨a, vs, h1, h2, h3⟩ => ⟨a, vs, h1, ex_t e h2, h3.mono e⟩⟩
theorem py_list {K : Fg} {F : Hp} {v : V} {ds : List PyData} : (py K (.list ds)).p F v ↔ (lstP (ds.map (py K))).p F v := by
  constructor
  · intro h
    cases h with
    | lst hs ha => exact ⟨_, _, rfl, hs, dqAll_allP ha⟩
  · rintro ⟨a, vs, rfl, hs, ha⟩
    exact .lst hs (allP_dqAll ha)
theorem py_tuple {K : Fg} {F : Hp} {v : V} {ds : List PyData} : (py K (.tuple ds)).p F v ↔ (tupP K (ds.map (py K))).p F v := by
  constructor
  · intro h
    cases h with
    | tup hs ha => exact ⟨_, _, rfl, hs, dqAll_allP ha⟩
  · rintro ⟨a, vs, rfl, hs, ha⟩
    exact .tup hs (allP_dqAll ha)

/-! ### slots -/
inductive SD where
  | un
  | im (P : MP)
  | ow (Ps : List MP)
def SD.ok (H0 F H : Hp) (o : Option V) : SD → Prop
  | .un => True
  | .im P => ∃ v, o = some v ∧ P.p F v
  | .ow Ps => ∃ l vs, o = some (.ref l) ∧ H0 l = none ∧ F l = none ∧ H l = some (.lst vs) ∧ AllP Ps F vs
def SD.isOw : SD → Bool
  | .ow _ => true
  | _ => false
structure Sl (H0 : Hp) (Φ : List SD) (σ : St) (F H : Hp) : Prop where
  len : σ.length = Φ.length
  at_ : ∀ (i : Nat) (d : SD) (o : Option V), Φ[i]? = some d → σ[i]? = some o → d.ok H0 F H o
  apart : ∀ (i j : Nat) (d e : SD) (l : Addr), i ≠ j → Φ[i]? = some d → Φ[j]? = some e → d.isOw = true → e.isOw = true → σ[i]? = some (some (.ref l)) → σ[j]? = some (some (.ref l)) → False
section
variable {H0 F H F' H' : Hp} {Φ : List SD} {σ : St}
theorem ne_none {o : HO} {a : Addr} (e : H a = some o) : H a ≠ none := fun z => by rw [z] at e; cases e
theorem SD.ok_gr {d : SD} {o : Option V} (g : Gr F H F' H') (h : d.ok H0 F H o) : d.ok H0 F' H' o := by
  cases d with
  | un => trivial
  | im P => obtain ⟨v, h1, h2⟩ := h; exact ⟨v, h1, P.mono _ _ _ g.f h2⟩
  | ow Ps => obtain ⟨l, vs, h1, h2, h3, h4, h5⟩ := h; exact ⟨l, vs, h1, h2, g.n l h3 (ne_none h4), g.h l _ h4, h5.mono g.f⟩
theorem Sl.gr (g : Gr F H F' H') (h : Sl H0 Φ σ F H) : Sl H0 Φ σ F' H' := ⟨h.len, fun i d o a b => SD.ok_gr g (h.at_ i d o a b), h.apart⟩
theorem Sl.get {i : Nat} {d : SD} (h : Sl H0 Φ σ F H) (e : Φ[i]? = some d) : ∃ o, σ[i]? = some o ∧ d.ok H0 F H o := by
  have hi : i < σ.length := by rw [h.len]; exact (List.getElem?_eq_some_iff.mp e).1
  exact ⟨σ[i], List.getElem?_eq_getElem hi, h.at_ i d _ e (List.getElem?_eq_getElem hi)⟩
theorem Sl.im {i : Nat} {P : MP} (h : Sl H0 Φ σ F H) (e : Φ[i]? = some (.im P)) : ∃ v, σ[i]? = some (some v) ∧ P.p F v := by
  obtain ⟨o, h1, v, rfl, h2⟩ := h.get e
  exact ⟨v, h1, h2⟩
theorem Sl.ow {i : Nat} {Ps : List MP} (h : Sl H0 Φ σ F H) (e : Φ[i]? = some (.ow Ps)) : ∃ l vs, σ[i]? = some (some (.ref l)) ∧ H0 l = none ∧ F l = none ∧ H l = some (.lst vs) ∧ AllP Ps F vs := by
  obtain ⟨o, h1, l, vs, rfl, h2⟩ := h.get e
  exact ⟨l, vs, h1, h2⟩
/-- a slot set to a settled value (or forgotten) -/
theorem Sl.set {i : Nat} {d : SD} {o : Option V} (h : Sl H0 Φ σ F H) (hd : d.ok H0 F H o) (ho : d.isOw = false) : Sl H0 (Φ.set i d) (σ.set i o) F H := by
  refine ⟨by simp [h.len], fun j e u a b => ?_, fun j k e e' l hjk a b c c' f g => ?_⟩
  · by_cases q : i = j
    · subst q
      have ha := (List.getElem?_eq_some_iff.mp a).1
      have hb := (List.getElem?_eq_some_iff.mp b).1
      rw [List.getElem?_set_self (by simpa using ha)] at a
      rw [List.getElem?_set_self (by simpa using hb)] at b
      cases a; cases b; exact hd
    · rw [List.getElem?_set_ne q] at a b
      exact h.at_ j e u a b
  · by_cases q : i = j
    · subst q
      rw [List.getElem?_set_self (by simpa using (List.getElem?_eq_some_iff.mp a).1)] at a
      cases a; rw [ho] at c; cases c
    · by_cases q' : i = k
      · subst q'
        rw [List.getElem?_set_self (by simpa using (List.getElem?_eq_some_iff.mp b).1)] at b
        cases b; rw [ho] at c'; cases c'
      · rw [List.getElem?_set_ne q] at a f
        rw [List.getElem?_set_ne q'] at b g
        exact h.apart j k e e' l hjk a b c c' f g
/-- a slot set to a new list of one's own -/
theorem Sl.setOw {i : Nat} {Ps : List MP} {l : Addr} {vs : List V} (h : Sl H0 Φ σ F H) (hl0 : H0 l = none) (hF : F l = none) (hH : H l = some (.lst vs)) (hP : AllP Ps F vs)
    (new : ∀ j e, Φ[j]? = some e → e.isOw = true → j ≠ i → σ[j]? ≠ some (some (.ref l))) : Sl H0 (Φ.set i (.ow Ps)) (σ.set i (some (.ref l))) F H := by
  refine ⟨by simp [h.len], fun j e u a b => ?_, fun j k e e' l' hjk a b c c' f g => ?_⟩
  · by_cases q : i = j
    · subst q
      rw [List.getElem?_set_self (by simpa using (List.getElem?_eq_some_iff.mp a).1)] at a
      rw [List.getElem?_set_self (by simpa using (List.getElem?_eq_some_iff.mp b).1)] at b
      cases a; cases b; exact ⟨l, vs, rfl, hl0, hF, hH, hP⟩
    · rw [List.getElem?_set_ne q] at a b
      exact h.at_ j e u a b
  · by_cases q : i = j
    · subst q
      rw [List.getElem?_set_self (by simpa using (List.getElem?_eq_some_iff.mp f).1)] at f
      rw [List.getElem?_set_ne (fun z => hjk z)] at b g
      cases f
      exact new k e' b c' (fun z => hjk z.symm) g
    · by_cases q' : i = k
      · subst q'
        rw [List.getElem?_set_self (by simpa using (List.getElem?_eq_some_iff.mp g).1)] at g
        rw [List.getElem?_set_ne q] at a f
        cases g
        exact new j e a c hjk f
      · rw [List.getElem?_set_ne q] at a f
        rw [List.getElem?_set_ne q'] at b g
        exact h.apart j k e e' l' hjk a b c c' f g
/-- new lists are nobody's -/
theorem Sl.new {l : Addr} {i : Nat} (h : Sl H0 Φ σ F H) (hl : H l = none) : ∀ j e, Φ[j]? = some e → e.isOw = true → j ≠ i → σ[j]? ≠ some (some (.ref l)) := fun j e a c _ b => by
  have q := h.at_ j e _ a b
  cases e with
  | ow Ps => obtain ⟨m, vs, e1, _, _, e2, _⟩ := q; cases e1; rw [hl] at e2; cases e2
  | un => cases c
  | im P => cases c
/-- one's own list at slot i written -/
theorem Sl.write {i : Nat} {Ps Qs : List MP} {l : Addr} {vs : List V} (h : Sl H0 Φ σ F H) (e : Φ[i]? = some (.ow Ps)) (hσ : σ[i]? = some (some (.ref l))) (hl0 : H0 l = none) (hF : F l = none) (hP : AllP Qs F vs) :
    Sl H0 (Φ.set i (.ow Qs)) σ F (upd H l (.lst vs)) := by
  refine ⟨by simp [h.len], fun j d u a b => ?_, fun j k d d' l' hjk a b c c' f g => ?_⟩
  · by_cases q : i = j
    · subst q
      rw [List.getElem?_set_self (by simpa using (List.getElem?_eq_some_iff.mp a).1)] at a
      rw [hσ] at b
      cases a; cases b; exact ⟨l, vs, rfl, hl0, hF, upd_same, hP⟩
    · rw [List.getElem?_set_ne q] at a
      have z := h.at_ j d u a b
      cases d with
      | un => trivial
      | im P => exact z
      | ow Rs =>
        obtain ⟨m, ws, rfl, h1, h2, h3, h4⟩ := z
        have hm : m ≠ l := fun w => h.apart j i _ _ m (fun w => q w.symm) a e rfl rfl b (by rw [w]; exact hσ)
        exact ⟨m, ws, rfl, h1, h2, by rw [upd_ne hm]; exact h3, h4⟩
  · have cv : ∀ (k : Nat) (d : SD), (Φ.set i (.ow Qs))[k]? = some d → d.isOw = true → ∃ d0, Φ[k]? = some d0 ∧ d0.isOw = true := fun k d a c => by
      by_cases q : i = k
      · subst q; exact ⟨_, e, rfl⟩
      · rw [List.getElem?_set_ne q] at a; exact ⟨d, a, c⟩
    obtain ⟨d0, a0, c0⟩ := cv j d a c
    obtain ⟨d1, a1, c1⟩ := cv k d' b c'
    exact h.apart j k d0 d1 l' hjk a0 a1 c0 c1 f g
/-- one's own list at slot i settled -/
theorem Sl.settle {i : Nat} {Ps : List MP} {l : Addr} {vs : List V} (h : Sl H0 Φ σ F H) (s : Ex F H) (e : Φ[i]? = some (.ow Ps)) (hσ : σ[i]? = some (some (.ref l))) (hF : F l = none) (hH : H l = some (.lst vs)) (hP : AllP Ps F vs) :
    Sl H0 (Φ.set i (.im (lstP Ps))) σ (upd F l (.lst vs)) H := by
  obtain ⟨x1, x2⟩ := Gr.settle s hF hH
  refine ⟨by simp [h.len], fun j d u a b => ?_, fun j k d d' l' hjk a b c c' f g => ?_⟩
  · by_cases q : i = j
    · subst q
      rw [List.getElem?_set_self (by simpa using (List.getElem?_eq_some_iff.mp a).1)] at a
      rw [hσ] at b
      cases a; cases b; exact ⟨_, rfl, l, vs, rfl, upd_same, hP.mono x1⟩
    · rw [List.getElem?_set_ne q] at a
      have z := h.at_ j d u a b
      cases d with
      | un => trivial
      | im P => obtain ⟨v, h1, h2⟩ := z; exact ⟨v, h1, P.mono _ _ _ x1 h2⟩
      | ow Rs =>
        obtain ⟨m, ws, rfl, h1, h2, h3, h4⟩ := z
        have hm : m ≠ l := fun w => h.apart j i _ _ m (fun w => q w.symm) a e rfl rfl b (by rw [w]; exact hσ)
        exact ⟨m, ws, rfl, h1, by rw [upd_ne hm]; exact h2, h3, h4.mono x1⟩
  · have cv : ∀ (k : Nat) (d : SD), (Φ.set i (.im (lstP Ps)))[k]? = some d → d.isOw = true → Φ[k]? = some d := fun k d a c => by
      by_cases q : i = k
      · subst q
        rw [List.getElem?_set_self (by simpa using (List.getElem?_eq_some_iff.mp a).1)] at a
        cases a; cases c
      · rw [List.getElem?_set_ne q] at a; exact a
    exact h.apart j k d d' l' hjk (cv j d a c) (cv k d' b c') c c' f g
end
end GL

set_option Elab.async false
set_option linter.all false
set_option maxRecDepth 100000
set_option maxHeartbeats 4000000
namespace GL
open PySem L2
open Evl (Ex ex_l ex_t)

/-! ### data of a type -/
class Py (α : Type) where
  enc : α → PyData
  can : ∀ x : α, (enc x).canLay0 = true
  dep : Nat
  deep : ∀ x : α, (enc x).depth ≤ dep
abbrev enc {α : Type} [Py α] (x : α) : PyData := Py.enc x
/-- == is = -/
class PyQ (α : Type) [Py α] where
  eqv : ∀ x y : α, PyData.eqv (enc x) (enc y) = true ↔ x = y
theorem eqv_dec {α : Type} [Py α] [PyQ α] [DecidableEq α] (x y : α) : PyData.eqv (enc x) (enc y) = decide (x = y) := by
  by_cases h : x = y
  · rw [(PyQ.eqv x y).mpr h, decide_eq_true h]
  · rw [decide_eq_false h]
    cases q : PyData.eqv (enc x) (enc y) with
    | false => rfl
    | true => exact absurd ((PyQ.eqv x y).mp q) h
theorem shaped_of {α : Type} [Py α] (h : Py.dep α ≤ 64) (x : α) : SeqAt.shaped (enc x) = true := by
  unfold SeqAt.shaped
  rw [Py.can x, Bool.true_and]
  exact decide_eq_true (Nat.le_trans (Py.deep x) h)

instance : Py Int := ⟨.int, fun _ => by simp [PyData.canLay0], 0, fun _ => by simp [PyData.depth]⟩
instance : PyQ Int := ⟨fun x y => by simp [enc, Py.enc, PyData.eqv]⟩
instance : Py Bool := ⟨.bool, fun _ => by simp [PyData.canLay0], 0, fun _ => by simp [PyData.depth]⟩
instance : PyQ Bool := ⟨fun x y => by simp [enc, Py.enc, PyData.eqv]⟩
instance : Py Unit := ⟨fun _ => .none, fun _ => by simp [PyData.canLay0], 0, fun _ => by simp [PyData.depth]⟩
instance : PyQ Unit := ⟨fun x y => by simp [enc, Py.enc, PyData.eqv]⟩
theorem canAll {α : Type} [Py α] : ∀ xs : List α, PyData.canLayAll0 (xs.map enc) = true
  | [] => by simp [PyData.canLayAll0]
  | x :: xs => by simp [PyData.canLayAll0, canAll xs, enc, Py.can x]
theorem depAll {α : Type} [Py α] : ∀ xs : List α, PyData.depthAll (xs.map enc) ≤ Py.dep α
  | [] => by simp [PyData.depthAll]
  | x :: xs => by
    have h1 := Py.deep x
    have h2 := depAll xs
    simp only [List.map_cons, PyData.depthAll, enc] at *
    omega
theorem eqvAll_iff {α : Type} [Py α] [PyQ α] : ∀ xs ys : List α, PyData.eqvAll (xs.map enc) (ys.map enc) = true ↔ xs = ys
  | [], [] => by simp [PyData.eqvAll]
  | [], y :: ys => by simp [PyData.eqvAll]
  | x :: xs, [] => by simp [PyData.eqvAll]
  | x :: xs, y :: ys => by
    have h1 := PyQ.eqv x y
    have h2 := eqvAll_iff xs ys
    simp only [List.map_cons, PyData.eqvAll, Bool.and_eq_true, h1, h2, List.cons.injEq]
instance {α : Type} [Py α] : Py (List α) := ⟨fun xs => .list (xs.map enc), fun xs => by simpa [PyData.canLay0] using canAll xs, Py.dep α + 1, fun xs => by
  have := depAll xs
  simp only [PyData.depth]; omega⟩
instance {α : Type} [Py α] [PyQ α] : PyQ (List α) := ⟨fun xs ys => by
  show PyData.eqv (.list (xs.map enc)) (.list (ys.map enc)) = true ↔ _
  rw [PyData.eqv]; exact eqvAll_iff xs ys⟩
/-- a tuple of any length -/
structure Tup (α : Type) where
  l : List α
  deriving DecidableEq, Inhabited
instance {α : Type} [Py α] : Py (Tup α) := ⟨fun xs => .tuple (xs.l.map enc), fun xs => by simpa [PyData.canLay0] using canAll xs.l, Py.dep α + 1, fun xs => by
  have := depAll xs.l
  simp only [PyData.depth]; omega⟩
instance {α : Type} [Py α] [PyQ α] : PyQ (Tup α) := ⟨fun xs ys => by
  show PyData.eqv (.tuple (xs.l.map enc)) (.tuple (ys.l.map enc)) = true ↔ _
  rw [PyData.eqv, eqvAll_iff]
  cases xs; cases ys; simp⟩
instance {α β : Type} [Py α] [Py β] : Py (α × β) := ⟨fun p => .tuple [enc p.1, enc p.2], fun p => by simp [PyData.canLay0, PyData.canLayAll0, Py.can], max (Py.dep α) (Py.dep β) + 1, fun p => by
  have := Py.deep p.1
  have := Py.deep p.2
  simp only [PyData.depth, PyData.depthAll, enc]; omega⟩
instance {α β : Type} [Py α] [Py β] [PyQ α] [PyQ β] : PyQ (α × β) := ⟨fun p q => by
  show PyData.eqv (.tuple [enc p.1, enc p.2]) (.tuple [enc q.1, enc q.2]) = true ↔ _
  have h1 := PyQ.eqv p.1 q.1
  have h2 := PyQ.eqv p.2 q.2
  simp only [PyData.eqv, PyData.eqvAll, Bool.and_true, Bool.and_eq_true, h1, h2]
  cases p; cases q; simp⟩
structure T3 (α β γ : Type) where
  a : α
  b : β
  c : γ
  deriving DecidableEq, Inhabited
structure T4 (α β γ δ : Type) where
  a : α
  b : β
  c : γ
  d : δ
  deriving DecidableEq, Inhabited
structure T5 (α β γ δ ε : Type) where
  a : α
  b : β
  c : γ
  d : δ
  e : ε
  deriving DecidableEq, Inhabited
instance {α β γ : Type} [Py α] [Py β] [Py γ] : Py (T3 α β γ) := ⟨fun p => .tuple [enc p.a, enc p.b, enc p.c], fun p => by simp [PyData.canLay0, PyData.canLayAll0, Py.can], max (max (Py.dep α) (Py.dep β)) (Py.dep γ) + 1, fun p => by
  have := Py.deep p.a
  have := Py.deep p.b
  have := Py.deep p.c
  simp only [PyData.depth, PyData.depthAll, enc]; omega⟩
instance {α β γ : Type} [Py α] [Py β] [Py γ] [PyQ α] [PyQ β] [PyQ γ] : PyQ (T3 α β γ) := ⟨fun p q => by
  show PyData.eqv (.tuple [enc p.a, enc p.b, enc p.c]) (.tuple [enc q.a, enc q.b, enc q.c]) = true ↔ _
  have h1 := PyQ.eqv p.a q.a
  have h2 := PyQ.eqv p.b q.b
  have h3 := PyQ.eqv p.c q.c
  simp only [PyData.eqv, PyData.eqvAll, Bool.and_true, Bool.and_eq_true, h1, h2, h3]
  cases p; cases q; simp⟩
instance {α β γ δ : Type} [Py α] [Py β] [Py γ] [Py δ] : Py (T4 α β γ δ) := ⟨fun p => .tuple [enc p.a, enc p.b, enc p.c, enc p.d], fun p => by simp [PyData.canLay0, PyData.canLayAll0, Py.can], max (max (Py.dep α) (Py.dep β)) (max (Py.dep γ) (Py.dep δ)) + 1, fun p => by
  have := Py.deep p.a
  have := Py.deep p.b
  have := Py.deep p.c
  have := Py.deep p.d
  simp only [PyData.depth, PyData.depthAll, enc]; omega⟩
instance {α β γ δ : Type} [Py α] [Py β] [Py γ] [Py δ] [PyQ α] [PyQ β] [PyQ γ] [PyQ δ] : PyQ (T4 α β γ δ) := ⟨fun p q => by
  show PyData.eqv (.tuple [enc p.a, enc p.b, enc p.c, enc p.d]) (.tuple [enc q.a, enc q.b, enc q.c, enc q.d]) = true ↔ _
  have h1 := PyQ.eqv p.a q.a
  have h2 := PyQ.eqv p.b q.b
  have h3 := PyQ.eqv p.c q.c
  have h4 := PyQ.eqv p.d q.d
  simp only [PyData.eqv, PyData.eqvAll, Bool.and_true, Bool.and_eq_true, h1, h2, h3, h4]
  cases p; cases q; simp⟩
instance {α β γ δ ε : Type} [Py α] [Py β] [Py γ] [Py δ] [Py ε] : Py (T5 α β γ δ ε) := ⟨fun p => .tuple [enc p.a, enc p.b, enc p.c, enc p.d, enc p.e], fun p => by simp [PyData.canLay0, PyData.canLayAll0, Py.can], max (max (max (Py.dep α) (Py.dep β)) (max (Py.dep γ) (Py.dep δ))) (Py.dep ε) + 1, fun p => by
  have := Py.deep p.a
  have := Py.deep p.b
  have := Py.deep p.c
  have := Py.deep p.d
  have := Py.deep p.e
  simp only [PyData.depth, PyData.depthAll, enc]; omega⟩
instance {α β γ δ ε : Type} [Py α] [Py β] [Py γ] [Py δ] [Py ε] [PyQ α] [PyQ β] [PyQ γ] [PyQ δ] [PyQ ε] : PyQ (T5 α β γ δ ε) := ⟨fun p q => by
  show PyData.eqv (.tuple [enc p.a, enc p.b, enc p.c, enc p.d, enc p.e]) (.tuple [enc q.a, enc q.b, enc q.c, enc q.d, enc q.e]) = true ↔ _
  have h1 := PyQ.eqv p.a q.a
  have h2 := PyQ.eqv p.b q.b
  have h3 := PyQ.eqv p.c q.c
  have h4 := PyQ.eqv p.d q.d
  have h5 := PyQ.eqv p.e q.e
  simp only [PyData.eqv, PyData.eqvAll, Bool.and_true, Bool.and_eq_true, h1, h2, h3, h4, h5]
  cases p; cases q; simp⟩
/-- x or None -/
instance {α : Type} [Py α] : Py (Option α) := ⟨fun o => match o with | none => .none | some x => enc x, fun o => by cases o <;> simp [PyData.canLay0, Py.can], Py.dep α, fun o => by
  cases o with
  | none => simp [PyData.depth]
  | some x => exact Py.deep x⟩

abbrev rp (K : Fg) {α : Type} [Py α] (x : α) : MP := py K (enc x)
abbrev rps (K : Fg) {α : Type} [Py α] (xs : List α) : List MP := xs.map fun x => py K (enc x)
abbrev sI (K : Fg) {α : Type} [Py α] (x : α) : SD := .im (py K (enc x))
abbrev sO (K : Fg) {α : Type} [Py α] (xs : List α) : SD := .ow (xs.map fun x => py K (enc x))
theorem rps_map {K : Fg} {α : Type} [Py α] (xs : List α) : (xs.map enc).map (py K) = rps K xs := by simp [rps]
theorem py_lst {K : Fg} {F : Hp} {v : V} {α : Type} [Py α] {xs : List α} : (py K (enc xs)).p F v ↔ (lstP (rps K xs)).p F v := by
  rw [← rps_map]; exact py_list
theorem py_tup {K : Fg} {F : Hp} {v : V} {α : Type} [Py α] {xs : Tup α} : (py K (enc xs)).p F v ↔ (tupP K (rps K xs.l)).p F v := by
  rw [← rps_map]; exact py_tuple

/-! ### the judgements -/
section
variable (X : Cx)
def wE (e : Expr) : TE := fun σ H Q => ∀ pins s, Inv X pins σ H s → wpAny (model X.prog X.w) X.A (eval e X.env) (EP X pins σ Q) X.xe s
def wT (e : Expr) : TT := fun σ H Q => ∀ pins s, Inv X pins σ H s → wpAny (model X.prog X.w) X.A (isTrue e X.env (eval e X.env)) (TP X pins σ Q) X.xe s
def wW (e : Expr) : TT := fun σ H Q => ∀ (whole : Sem Value) pins s, Inv X pins σ H s → wpAny (model X.prog X.w) X.A (isTrue e X.env whole) (TP X pins σ Q) X.xe s
def wA (es : List Expr) : TA := fun σ H Q => ∀ (pos : Pos) pins s, Inv X pins σ H s → wpAny (model X.prog X.w) X.A (spliced (backTo pos (starEach es X.env))) (AP X pins σ Q) X.xe s
def wS (st : Stmt) : TS := fun D σ H => ∀ pins s, Inv X pins σ H s → wpAny (model X.prog X.w) X.A (exec st X.env) (SP X pins D) X.xe s
def wSs (st : List Stmt) : TS := fun D σ H => ∀ pins s, Inv X pins σ H s → wpAny (model X.prog X.w) X.A (execs st X.env) (SP X pins D) X.xe s
def wG (tg : Expr) : TG := fun v σ H Q => ∀ pins s u, Inv X pins σ H s → RelV v u → wpAny (model X.prog X.w) X.A (assign tg X.env u) (fun _ s' => ∃ σ' H', Inv X pins σ' H' s' ∧ Q σ' H') X.xe s
def wI (tg iter : Expr) : TI := fun σ H R => ∀ pins s, Inv X pins σ H s → wpAny (model X.prog X.w) X.A (eval iter X.env) (fun v s1 => wpAny (model X.prog X.w) X.A (pyIter v) (PIE X pins σ tg R) X.xe s1) X.xe s
variable {X}
theorem peW {e : Expr} : PE X e (wE X e) := ⟨fun pins s _ _ _ I h => h pins s I⟩
theorem ptW {e : Expr} : PT X e (wT X e) := ⟨fun pins s _ _ _ I h => h pins s I⟩
theorem pwW {e : Expr} : PW X e (wW X e) := ⟨fun whole pins s _ _ _ I h => h whole pins s I⟩
theorem paW {es : List Expr} : PA X es (wA X es) := ⟨fun pos pins s _ _ _ I h => h pos pins s I⟩
theorem psW {st : Stmt} : PS X st (wS X st) := ⟨fun pins s _ _ _ I h => h pins s I⟩
theorem pssW {st : List Stmt} : PSs X st (wSs X st) := ⟨fun pins s _ _ _ I h => h pins s I⟩
theorem pgW {tg : Expr} : PG X tg (wG X tg) := ⟨fun pins s _ _ _ u _ I r h => h pins s u I r⟩
theorem piW {tg iter : Expr} : PI X tg iter (wI X tg iter) := ⟨fun pins s _ _ _ I h => h pins s I⟩
theorem wE_of {e : Expr} {t : TE} {σ : St} {H : Hp} {Q : VK} (p : PE X e t) (h : t σ H Q) : wE X e σ H Q := fun pins s I => p.run pins s σ H Q I h
theorem wT_of {e : Expr} {t : TT} {σ : St} {H : Hp} {Q : Bool → Hp → Prop} (p : PT X e t) (h : t σ H Q) : wT X e σ H Q := fun pins s I => p.run pins s σ H Q I h
theorem wW_of {e : Expr} {t : TT} {σ : St} {H : Hp} {Q : Bool → Hp → Prop} (p : PW X e t) (h : t σ H Q) : wW X e σ H Q := fun whole pins s I => p.run whole pins s σ H Q I h
theorem wA_of {es : List Expr} {t : TA} {σ : St} {H : Hp} {Q : List V → Hp → Prop} (p : PA X es t) (h : t σ H Q) : wA X es σ H Q := fun pos pins s I => p.run pos pins s σ H Q I h
theorem wS_of {st : Stmt} {t : TS} {σ : St} {H : Hp} {D : Ends} (p : PS X st t) (h : t D σ H) : wS X st D σ H := fun pins s I => p.run pins s σ H D I h
theorem wSs_of {st : List Stmt} {t : TS} {σ : St} {H : Hp} {D : Ends} (p : PSs X st t) (h : t D σ H) : wSs X st D σ H := fun pins s I => p.run pins s σ H D I h
theorem wG_of {tg : Expr} {t : TG} {v : V} {σ : St} {H : Hp} {Q : St → Hp → Prop} (p : PG X tg t) (h : t v σ H Q) : wG X tg v σ H Q := fun pins s u I r => p.run pins s σ H v u Q I r h
theorem wI_of {tg iter : Expr} {t : TI} {σ : St} {H : Hp} {R : It → Hp → Prop} (p : PI X tg iter t) (h : t σ H R) : wI X tg iter σ H R := fun pins s I => p.run pins s σ H R I h
variable (X)
/-- e gives a settled value | a new list of one's own | a list that may be read | arguments | a truth -/
structure PEv (Φ : List SD) (e : Expr) (P : MP) : Prop where
  run : ∀ (H0 : Hp) (σ : St) (F H : Hp) (Q : VK), Ex F H → Sl H0 Φ σ F H → (∀ v F' H', Gr F H F' H' → P.p F' v → Q v H') → wE X e σ H Q
instance {Φ : List SD} {e : Expr} {P : MP} : CoeFun (PEv X Φ e P) (fun _ => ∀ (H0 : Hp) (σ : St) (F H : Hp) (Q : VK), Ex F H → Sl H0 Φ σ F H → (∀ v F' H', Gr F H F' H' → P.p F' v → Q v H') → wE X e σ H Q) := ⟨PEv.run⟩
structure PEn (Φ : List SD) (e : Expr) (Ps : List MP) : Prop where
  run : ∀ (H0 : Hp) (σ : St) (F H : Hp) (Q : VK), Ex F H → Sl H0 Φ σ F H → (∀ a vs F' H', Gr F H F' H' → H a = none → F' a = none → H' a = some (.lst vs) → AllP Ps F' vs → Q (.ref a) H') → wE X e σ H Q
instance {Φ : List SD} {e : Expr} {Ps : List MP} : CoeFun (PEn X Φ e Ps) (fun _ => ∀ (H0 : Hp) (σ : St) (F H : Hp) (Q : VK), Ex F H → Sl H0 Φ σ F H → (∀ a vs F' H', Gr F H F' H' → H a = none → F' a = none → H' a = some (.lst vs) → AllP Ps F' vs → Q (.ref a) H') → wE X e σ H Q) := ⟨PEn.run⟩
structure PEl (Φ : List SD) (e : Expr) (Ps : List MP) : Prop where
  run : ∀ (H0 : Hp) (σ : St) (F H : Hp) (Q : VK), Ex F H → Sl H0 Φ σ F H → (∀ a vs F' H', Gr F H F' H' → SqL X.K H' a vs → AllP Ps F' vs → Q (.ref a) H') → wE X e σ H Q
instance {Φ : List SD} {e : Expr} {Ps : List MP} : CoeFun (PEl X Φ e Ps) (fun _ => ∀ (H0 : Hp) (σ : St) (F H : Hp) (Q : VK), Ex F H → Sl H0 Φ σ F H → (∀ a vs F' H', Gr F H F' H' → SqL X.K H' a vs → AllP Ps F' vs → Q (.ref a) H') → wE X e σ H Q) := ⟨PEl.run⟩
structure PEk (Φ : List SD) (e : Expr) (Ps : List MP) : Prop where
  run : ∀ (H0 : Hp) (σ : St) (F H : Hp) (Q : VK), Ex F H → Sl H0 Φ σ F H → (∀ a vs F' H', Gr F H F' H' → H' a = some (.lst vs) → AllP Ps F' vs → Q (.ref a) H') → wE X e σ H Q
instance {Φ : List SD} {e : Expr} {Ps : List MP} : CoeFun (PEk X Φ e Ps) (fun _ => ∀ (H0 : Hp) (σ : St) (F H : Hp) (Q : VK), Ex F H → Sl H0 Φ σ F H → (∀ a vs F' H', Gr F H F' H' → H' a = some (.lst vs) → AllP Ps F' vs → Q (.ref a) H') → wE X e σ H Q) := ⟨PEk.run⟩
structure PAs (Φ : List SD) (es : List Expr) (Ps : List MP) : Prop where
  run : ∀ (H0 : Hp) (σ : St) (F H : Hp) (Q : List V → Hp → Prop), Ex F H → Sl H0 Φ σ F H → (∀ vs F' H', Gr F H F' H' → AllP Ps F' vs → Q vs H') → wA X es σ H Q
instance {Φ : List SD} {es : List Expr} {Ps : List MP} : CoeFun (PAs X Φ es Ps) (fun _ => ∀ (H0 : Hp) (σ : St) (F H : Hp) (Q : List V → Hp → Prop), Ex F H → Sl H0 Φ σ F H → (∀ vs F' H', Gr F H F' H' → AllP Ps F' vs → Q vs H') → wA X es σ H Q) := ⟨PAs.run⟩
structure PTv (Φ : List SD) (e : Expr) (b : Bool) : Prop where
  run : ∀ (H0 : Hp) (σ : St) (F H : Hp) (Q : Bool → Hp → Prop), Ex F H → Sl H0 Φ σ F H → (∀ F' H', Gr F H F' H' → Q b H') → wT X e σ H Q
instance {Φ : List SD} {e : Expr} {b : Bool} : CoeFun (PTv X Φ e b) (fun _ => ∀ (H0 : Hp) (σ : St) (F H : Hp) (Q : Bool → Hp → Prop), Ex F H → Sl H0 Φ σ F H → (∀ F' H', Gr F H F' H' → Q b H') → wT X e σ H Q) := ⟨PTv.run⟩
structure PWv (Φ : List SD) (e : Expr) (b : Bool) : Prop where
  run : ∀ (H0 : Hp) (σ : St) (F H : Hp) (Q : Bool → Hp → Prop), Ex F H → Sl H0 Φ σ F H → (∀ F' H', Gr F H F' H' → Q b H') → wW X e σ H Q
instance {Φ : List SD} {e : Expr} {b : Bool} : CoeFun (PWv X Φ e b) (fun _ => ∀ (H0 : Hp) (σ : St) (F H : Hp) (Q : Bool → Hp → Prop), Ex F H → Sl H0 Φ σ F H → (∀ F' H', Gr F H F' H' → Q b H') → wW X e σ H Q) := ⟨PWv.run⟩
abbrev PV (Φ : List SD) (e : Expr) {α : Type} [Py α] (x : α) : Prop := PEv X Φ e (py X.K (enc x))
abbrev PN (Φ : List SD) (e : Expr) {α : Type} [Py α] (xs : List α) : Prop := PEn X Φ e (xs.map fun x => py X.K (enc x))
abbrev PK (Φ : List SD) (e : Expr) {α : Type} [Py α] (xs : List α) : Prop := PEk X Φ e (xs.map fun x => py X.K (enc x))
abbrev PD (Φ : List SD) (e : Expr) {α : Type} [Py α] (x : α) : Prop := PEv X Φ e (dp X.K (enc x))
abbrev PL (Φ : List SD) (e : Expr) {α : Type} [Py α] (xs : List α) : Prop := PEl X Φ e (xs.map fun x => py X.K (enc x))
end

section
variable {X : Cx} {Φ : List SD} {a b c e : Expr} {es : List Expr} {pos p p2 : Pos} {P : MP} {Ps : List MP} {i j k : Int}
/-! ### from one to the other -/
theorem PEn.xk (h : PEn X Φ e Ps) : PEk X Φ e Ps := .mk fun H0 σ F H Q s sl q => h H0 σ F H Q s sl fun a vs F' H' g _ _ h2 h3 => q a vs F' H' g h2 h3
theorem PEk.l (h : PEk X Φ e Ps) : PEl X Φ e Ps := .mk fun H0 σ F H Q s sl q => h H0 σ F H Q s sl fun a vs F' H' g h2 h3 => q a vs F' H' g (SqL.of h2) h3
theorem PEn.v (h : PEn X Φ e Ps) : PEv X Φ e (lstP Ps) := .mk fun H0 σ F H Q s sl q => h H0 σ F H Q s sl fun a vs F' H' g h1 h2 h3 h4 => by
  obtain ⟨x1, x2⟩ := Gr.settle g.s h2 h3
  refine q (.ref a) _ H' ⟨g.f.trans x1, g.h, x2, fun b z1 z2 => ?_⟩ ⟨a, vs, rfl, upd_same, h4.mono x1⟩
  have hb : b ≠ a := fun w => z2 (by rw [w]; exact h1)
  rw [upd_ne hb]; exact g.n b z1 z2
theorem PEv.xk (h : PEv X Φ e (lstP Ps)) : PEk X Φ e Ps := .mk fun H0 σ F H Q s sl q => h H0 σ F H Q s sl fun v F' H' g ⟨a, vs, h1, h2, h3⟩ => by
  subst h1; exact q a vs F' H' g (g.s _ _ h2) h3
theorem PN.xk {α : Type} [Py α] {xs : List α} (h : PN X Φ e xs) : PK X Φ e xs := PEn.xk h
theorem PK.l {α : Type} [Py α] {xs : List α} (h : PK X Φ e xs) : PL X Φ e xs := PEk.l h
theorem PEv.imp {P' : MP} (h : PEv X Φ e P) (w : ∀ F v, P.p F v → P'.p F v) : PEv X Φ e P' := .mk fun H0 σ F H Q s sl q => h H0 σ F H Q s sl fun v F' H' g z => q v F' H' g (w _ _ z)
theorem PN.v {α : Type} [Py α] {xs : List α} (h : PN X Φ e xs) : PV X Φ e xs := (PEn.v h).imp fun _ _ z => py_lst.mpr z
theorem PV.xk {α : Type} [Py α] {xs : List α} (h : PV X Φ e xs) : PK X Φ e xs := PEv.xk (PEv.imp h fun _ _ z => py_lst.mp z)
theorem PV.d {α : Type} [Py α] {x : α} (h : PV X Φ e x) : PD X Φ e x := PEv.imp h fun _ _ z => dq_dp _ _ z
/-! ### leaves -/
theorem v_im (n : Nat) {x : Str} (h : Φ[n]? = some (.im P) := by rfl) (hN : X.N[n]? = some x := by rfl) (hv : Vis X.env.scope x := by first | exact Or.inl rfl | exact Or.inr (Or.inl rfl) | exact Or.inr (Or.inr rfl)) (hd : (x == ("__debug__" : Str)) = false := by decide)
    (hcd : (x == ("__classdict__" : Str)) = false := by decide) : PEv X Φ (.Name x pos) P := .mk fun H0 σ F H Q s sl q => by
  obtain ⟨v, h1, h2⟩ := sl.im h
  exact wE_of (pe_var hN hv hd hcd) ⟨v, h1, q v F H (Gr.refl s) h2⟩
theorem v_ow (n : Nat) {x : Str} (h : Φ[n]? = some (.ow Ps) := by rfl) (hN : X.N[n]? = some x := by rfl) (hv : Vis X.env.scope x := by first | exact Or.inl rfl | exact Or.inr (Or.inl rfl) | exact Or.inr (Or.inr rfl)) (hd : (x == ("__debug__" : Str)) = false := by decide)
    (hcd : (x == ("__classdict__" : Str)) = false := by decide) : PEk X Φ (.Name x pos) Ps := .mk fun H0 σ F H Q s sl q => by
  obtain ⟨l, vs, h1, h2, h3, h4, h5⟩ := sl.ow h
  exact wE_of (pe_var hN hv hd hcd) ⟨_, h1, q l vs F H (Gr.refl s) h4 h5⟩
theorem v_int : PV X Φ (.Constant (.int i) 0 pos) i := .mk fun H0 σ F H Q s sl q => wE_of pe_int (q _ _ _ (Gr.refl s) (.int i))
theorem v_bl {k : Bool} : PV X Φ (.Constant (.bool k) 0 pos) k := .mk fun H0 σ F H Q s sl q => wE_of pe_bl (q _ _ _ (Gr.refl s) (.bl k))
theorem v_non : PV X Φ (.Constant .none 0 pos) () := .mk fun H0 σ F H Q s sl q => wE_of pe_non (q _ _ _ (Gr.refl s) .non)
theorem v_gint {x : Str} {t : Tok} (hg : Gl X x) (hm : X.mg x = some (.int i t)) (hd : (x == ("__debug__" : Str)) = false := by decide) : PV X Φ (.Name x pos) i := .mk fun H0 σ F H Q s sl q =>
  wE_of (pe_glob (v := .int i) hg hm ⟨t, rfl⟩ hd) (q _ _ _ (Gr.refl s) (.int i))
/-! ### ints -/
theorem v_op2 {op : Operator} {C : Int → Int → Prop} {f : Int → Int → Int} (ho : OpR X (binaryOp op) (rI C fun i j => .int (f i j))) (ha : PV X Φ a i) (hb : PV X Φ b j) (hc : C i j) : PV X Φ (.BinOp a op b pos) (f i j) := .mk fun H0 σ F H Q s sl q =>
  wE_of (pe_op ho peW peW) (ha H0 σ F H _ s sl fun x F1 H1 g1 p1 => hb H0 σ F1 H1 _ g1.s (sl.gr g1) fun y F2 H2 g2 p2 => by
    cases p1; cases p2
    exact ⟨i, j, rfl, rfl, hc, q _ _ _ (g1.trans g2) (.int _)⟩)
theorem v_op0 {op : Operator} {f : Int → Int → Int} (ho : OpR X (binaryOp op) (rI0 fun i j => .int (f i j))) (ha : PV X Φ a i) (hb : PV X Φ b j) : PV X Φ (.BinOp a op b pos) (f i j) := .mk fun H0 σ F H Q s sl q =>
  wE_of (pe_op ho peW peW) (ha H0 σ F H _ s sl fun x F1 H1 g1 p1 => hb H0 σ F1 H1 _ g1.s (sl.gr g1) fun y F2 H2 g2 p2 => by
    cases p1; cases p2
    exact ⟨i, j, rfl, rfl, q _ _ _ (g1.trans g2) (.int _)⟩)
theorem v_add (ha : PV X Φ a i) (hb : PV X Φ b j) : PV X Φ (.BinOp a .Add b pos) (i + j) := v_op0 op_add ha hb
theorem v_sub (ha : PV X Φ a i) (hb : PV X Φ b j) : PV X Φ (.BinOp a .Sub b pos) (i - j) := v_op0 op_sub ha hb
theorem v_mul (ha : PV X Φ a i) (hb : PV X Φ b j) (hc : CMul i j) : PV X Φ (.BinOp a .Mult b pos) (i * j) := v_op2 op_mul ha hb hc
theorem v_mulW (ha : PV X Φ a i) (hb : PV X Φ b j) (hc : CMulW i j) : PV X Φ (.BinOp a .Mult b pos) (i * j) := v_op2 op_mulW ha hb hc
theorem v_div (ha : PV X Φ a i) (hb : PV X Φ b j) (hc : CDivW i j) : PV X Φ (.BinOp a .FloorDiv b pos) (i / j) := v_op2 op_fdivW ha hb hc
theorem v_mod (ha : PV X Φ a i) (hb : PV X Φ b j) (hc : 0 < j) : PV X Φ (.BinOp a .Mod b pos) (i % j) := v_op2 (C := fun _ j => 0 < j) op_mod ha hb hc
theorem v_pow (ha : PV X Φ a i) (hb : PV X Φ b j) (hc : CPow i j) : PV X Φ (.BinOp a .Pow b pos) (i ^ j.toNat) := v_op2 op_pow ha hb hc
theorem v_neg (ha : PV X Φ a i) : PV X Φ (.UnaryOp .USub a pos) (-i) := .mk fun H0 σ F H Q s sl q =>
  wE_of (pe_un un_neg peW) (ha H0 σ F H _ s sl fun x F1 H1 g1 p1 => by cases p1; exact ⟨i, rfl, q _ _ _ g1 (.int _)⟩)
/-! ### comparisons, tests -/
theorem v_cmp {op : CmpOp} {f : Int → Int → Bool} (ho : OpR X (compareOp op) (rI0 fun i j => .bl (f i j))) (ha : PV X Φ a i) (hb : PV X Φ b j) (hm : behindInMarks op b = false := by first | exact nomark _ | rfl) : PV X Φ (.Compare a [op] [b] pos) (f i j) := .mk fun H0 σ F H Q s sl q =>
  wE_of (pe_cmpR ho peW peW hm) (ha H0 σ F H _ s sl fun x F1 H1 g1 p1 => hb H0 σ F1 H1 _ g1.s (sl.gr g1) fun y F2 H2 g2 p2 => by
    cases p1; cases p2
    exact ⟨i, j, rfl, rfl, q _ _ _ (g1.trans g2) (.bl _)⟩)
theorem v_lt (ha : PV X Φ a i) (hb : PV X Φ b j) : PV X Φ (.Compare a [.Lt] [b] pos) (decide (i < j)) := v_cmp op_lt ha hb (nomark _)
theorem v_le (ha : PV X Φ a i) (hb : PV X Φ b j) : PV X Φ (.Compare a [.LtE] [b] pos) (decide (i ≤ j)) := v_cmp op_le ha hb (nomark _)
theorem v_gt (ha : PV X Φ a i) (hb : PV X Φ b j) : PV X Φ (.Compare a [.Gt] [b] pos) (decide (j < i)) := v_cmp op_gt ha hb (nomark _)
theorem v_ge (ha : PV X Φ a i) (hb : PV X Φ b j) : PV X Φ (.Compare a [.GtE] [b] pos) (decide (j ≤ i)) := v_cmp op_ge ha hb (nomark _)
/-- a <= b < c and the like -/
theorem v_chain {op op' : CmpOp} {f f' : Int → Int → Bool} (ho : OpR X (compareOp op) (rI0 fun i j => .bl (f i j))) (ho' : OpR X (compareOp op') (rI0 fun i j => .bl (f' i j))) (ha : PV X Φ a i) (hb : PV X Φ b j) (hc : f i j = true → PV X Φ c k)
    (hm : lastMarks [op, op'] [b, c] = false := by with_unfolding_all rfl) : PV X Φ (.Compare a [op, op'] [b, c] pos) (f i j && f' j k) := .mk fun H0 σ F H Q s sl q =>
  wE_of (pe_chain ho ho' peW peW peW hm) (ha H0 σ F H _ s sl fun x F1 H1 g1 p1 => hb H0 σ F1 H1 _ g1.s (sl.gr g1) fun y F2 H2 g2 p2 => by
    cases p1; cases p2
    refine ⟨i, j, rfl, rfl, f i j, rfl, ?_⟩
    cases e : f i j with
    | true =>
      refine iteT (hc e H0 σ F2 H2 _ g2.s ((sl.gr g1).gr g2) fun z F3 H3 g3 p3 => ?_)
      cases p3
      exact ⟨j, k, rfl, rfl, by
        have := q (.bl (f' j k)) F3 H3 ((g1.trans g2).trans g3) (by rw [e, Bool.true_and]; exact .bl _)
        exact this⟩
    | false => exact iteF (by
        have := q (.bl false) F2 H2 (g1.trans g2) (by rw [e, Bool.false_and]; exact .bl _)
        exact this))
theorem v_eq {α : Type} [Py α] [PyQ α] [DecidableEq α] {x y : α} (hu : X.A.units + 64 < cLine) (hd : Py.dep α ≤ 64) (ha : PD X Φ a x) (hb : PD X Φ b y) : PV X Φ (.Compare a [.Eq] [b] pos) (decide (x = y)) := .mk fun H0 σ F H Q s sl q =>
  wE_of (pe_cmpR (op_eqD hu) peW peW (nomark _)) (ha H0 σ F H _ s sl fun x F1 H1 g1 p1 => hb H0 σ F1 H1 _ g1.s (sl.gr g1) fun y F2 H2 g2 p2 =>
    ⟨_, _, dp_mono (g2.f.trans g2.s) _ _ p1, dp_mono g2.s _ _ p2, shaped_of hd _, shaped_of hd _, q _ _ _ (g1.trans g2) (by rw [eqv_dec]; exact .bl _)⟩)
theorem v_ne {α : Type} [Py α] [PyQ α] [DecidableEq α] {x y : α} (hu : X.A.units + 64 < cLine) (hd : Py.dep α ≤ 64) (ha : PD X Φ a x) (hb : PD X Φ b y) : PV X Φ (.Compare a [.NotEq] [b] pos) (!decide (x = y)) := .mk fun H0 σ F H Q s sl q =>
  wE_of (pe_cmpR (op_neD hu) peW peW (nomark _)) (ha H0 σ F H _ s sl fun x F1 H1 g1 p1 => hb H0 σ F1 H1 _ g1.s (sl.gr g1) fun y F2 H2 g2 p2 =>
    ⟨_, _, dp_mono (g2.f.trans g2.s) _ _ p1, dp_mono g2.s _ _ p2, shaped_of hd _, shaped_of hd _, q _ _ _ (g1.trans g2) (by rw [eqv_dec]; exact .bl _)⟩)
theorem v_not {k : Bool} (ha : PTv X Φ a k) : PTv X Φ (.UnaryOp .Not a pos) (!k) := .mk fun H0 σ F H Q s sl q =>
  wT_of (pt_not ptW) (ha H0 σ F H _ s sl fun F1 H1 g1 => q _ _ g1)
theorem v_notV {k : Bool} (ha : PV X Φ a k) : PV X Φ (.UnaryOp .Not a pos) (!k) := .mk fun H0 σ F H Q s sl q =>
  wE_of (pe_not peW) (ha H0 σ F H _ s sl fun x F1 H1 g1 p1 => by cases p1; exact ⟨k, rfl, q _ _ _ g1 (.bl _)⟩)
theorem t_val {k : Bool} (ha : PV X Φ e k) (he : ∀ whole, isTrue e X.env whole = (do let v ← whole; standAt e.pos; holding [v] (truthy v)) := by intro _; rfl) : PTv X Φ e k := .mk fun H0 σ F H Q s sl q =>
  wT_of (pt_val peW he) (ha H0 σ F H _ s sl fun x F1 H1 g1 p1 => by cases p1; exact ⟨k, rfl, q _ _ g1⟩)
theorem t_cmp {op : CmpOp} {f : Int → Int → Bool} (ho : OpR X (compareOp op) (rI0 fun i j => .bl (f i j))) (ha : PV X Φ a i) (hb : PV X Φ b j) (hm : behindInMarks op b = false := by first | exact nomark _ | rfl) : PTv X Φ (.Compare a [op] [b] pos) (f i j) := .mk fun H0 σ F H Q s sl q =>
  wT_of (pt_cmpR ho peW peW hm) (ha H0 σ F H _ s sl fun x F1 H1 g1 p1 => hb H0 σ F1 H1 _ g1.s (sl.gr g1) fun y F2 H2 g2 p2 => by
    cases p1; cases p2
    exact ⟨i, j, rfl, rfl, _, rfl, q _ _ (g1.trans g2)⟩)
theorem t_lt (ha : PV X Φ a i) (hb : PV X Φ b j) : PTv X Φ (.Compare a [.Lt] [b] pos) (decide (i < j)) := t_cmp op_lt ha hb (nomark _)
theorem t_le (ha : PV X Φ a i) (hb : PV X Φ b j) : PTv X Φ (.Compare a [.LtE] [b] pos) (decide (i ≤ j)) := t_cmp op_le ha hb (nomark _)
theorem t_gt (ha : PV X Φ a i) (hb : PV X Φ b j) : PTv X Φ (.Compare a [.Gt] [b] pos) (decide (j < i)) := t_cmp op_gt ha hb (nomark _)
theorem t_ge (ha : PV X Φ a i) (hb : PV X Φ b j) : PTv X Φ (.Compare a [.GtE] [b] pos) (decide (j ≤ i)) := t_cmp op_ge ha hb (nomark _)
theorem t_chain {op op' : CmpOp} {f f' : Int → Int → Bool} (ho : OpR X (compareOp op) (rI0 fun i j => .bl (f i j))) (ho' : OpR X (compareOp op') (rI0 fun i j => .bl (f' i j))) (ha : PV X Φ a i) (hb : PV X Φ b j) (hc : f i j = true → PV X Φ c k)
    (hm : lastMarks [op, op'] [b, c] = false := by with_unfolding_all rfl) : PTv X Φ (.Compare a [op, op'] [b, c] pos) (f i j && f' j k) := .mk fun H0 σ F H Q s sl q =>
  wT_of (pt_chain ho ho' peW peW peW hm) (ha H0 σ F H _ s sl fun x F1 H1 g1 p1 => hb H0 σ F1 H1 _ g1.s (sl.gr g1) fun y F2 H2 g2 p2 => by
    cases p1; cases p2
    refine ⟨i, j, rfl, rfl, f i j, rfl, ?_⟩
    cases e : f i j with
    | true =>
      refine iteT (hc e H0 σ F2 H2 _ g2.s ((sl.gr g1).gr g2) fun z F3 H3 g3 p3 => ?_)
      cases p3
      exact ⟨j, k, rfl, rfl, _, rfl, by
        have := q F3 H3 ((g1.trans g2).trans g3)
        rw [e, Bool.true_and] at this
        exact this⟩
    | false => exact iteF (by
        have := q F2 H2 (g1.trans g2)
        rw [e, Bool.false_and] at this
        exact ⟨_, rfl, this⟩))
theorem t_eq {α : Type} [Py α] [PyQ α] [DecidableEq α] {x y : α} (hu : X.A.units + 64 < cLine) (hd : Py.dep α ≤ 64) (ha : PD X Φ a x) (hb : PD X Φ b y) : PTv X Φ (.Compare a [.Eq] [b] pos) (decide (x = y)) := .mk fun H0 σ F H Q s sl q =>
  wT_of (pt_cmpR (op_eqD hu) peW peW (nomark _)) (ha H0 σ F H _ s sl fun x F1 H1 g1 p1 => hb H0 σ F1 H1 _ g1.s (sl.gr g1) fun y F2 H2 g2 p2 =>
    ⟨_, _, dp_mono (g2.f.trans g2.s) _ _ p1, dp_mono g2.s _ _ p2, shaped_of hd _, shaped_of hd _, _, rfl, by rw [eqv_dec]; exact q _ _ (g1.trans g2)⟩)
theorem t_ne {α : Type} [Py α] [PyQ α] [DecidableEq α] {x y : α} (hu : X.A.units + 64 < cLine) (hd : Py.dep α ≤ 64) (ha : PD X Φ a x) (hb : PD X Φ b y) : PTv X Φ (.Compare a [.NotEq] [b] pos) (!decide (x = y)) := .mk fun H0 σ F H Q s sl q =>
  wT_of (pt_cmpR (op_neD hu) peW peW (nomark _)) (ha H0 σ F H _ s sl fun x F1 H1 g1 p1 => hb H0 σ F1 H1 _ g1.s (sl.gr g1) fun y F2 H2 g2 p2 =>
    ⟨_, _, dp_mono (g2.f.trans g2.s) _ _ p1, dp_mono g2.s _ _ p2, shaped_of hd _, shaped_of hd _, _, rfl, by rw [eqv_dec]; exact q _ _ (g1.trans g2)⟩)
theorem v_and {l m : Bool} (ha : PV X Φ a l) (hb : l = true → PV X Φ (.BoolOp .And (b :: es) pos) m) : PV X Φ (.BoolOp .And (a :: b :: es) pos) (l && m) := .mk fun H0 σ F H Q s sl q =>
  wE_of (pe_and peW peW) (ha H0 σ F H _ s sl fun x F1 H1 g1 p1 => by
    cases p1
    refine ⟨l, rfl, ?_⟩
    cases l with
    | true => exact iteT (hb rfl H0 σ F1 H1 _ g1.s (sl.gr g1) fun y F2 H2 g2 p2 => q y F2 H2 (g1.trans g2) p2)
    | false => exact iteF (q _ _ _ g1 (.bl false)))
theorem v_or {l m : Bool} (ha : PV X Φ a l) (hb : l = false → PV X Φ (.BoolOp .Or (b :: es) pos) m) : PV X Φ (.BoolOp .Or (a :: b :: es) pos) (l || m) := .mk fun H0 σ F H Q s sl q =>
  wE_of (pe_or peW peW) (ha H0 σ F H _ s sl fun x F1 H1 g1 p1 => by
    cases p1
    refine ⟨l, rfl, ?_⟩
    cases l with
    | true => exact iteT (q _ _ _ g1 (.bl true))
    | false => exact iteF (hb rfl H0 σ F1 H1 _ g1.s (sl.gr g1) fun y F2 H2 g2 p2 => q y F2 H2 (g1.trans g2) p2))
theorem v_one {op : BoolOp} {l : Bool} (ha : PV X Φ a l) : PV X Φ (.BoolOp op [a] pos) l := .mk fun H0 σ F H Q s sl q => wE_of (pe_one peW) (ha H0 σ F H Q s sl q)
theorem w_and1 {l : Bool} (ha : PTv X Φ a l) : PWv X Φ (.BoolOp .And [a] pos) l := .mk fun H0 σ F H Q s sl q => wW_of (pw_and1 ptW) (ha H0 σ F H Q s sl q)
theorem w_or1 {l : Bool} (ha : PTv X Φ a l) : PWv X Φ (.BoolOp .Or [a] pos) l := .mk fun H0 σ F H Q s sl q => wW_of (pw_or1 ptW) (ha H0 σ F H Q s sl q)
theorem w_and {l m : Bool} (ha : PTv X Φ a l) (hb : l = true → PWv X Φ (.BoolOp .And (b :: es) pos) m) : PWv X Φ (.BoolOp .And (a :: b :: es) pos) (l && m) := .mk fun H0 σ F H Q s sl q =>
  wW_of (pw_and ptW pwW) (ha H0 σ F H _ s sl fun F1 H1 g1 => by
    cases l with
    | true => exact iteT (hb rfl H0 σ F1 H1 _ g1.s (sl.gr g1) fun F2 H2 g2 => q F2 H2 (g1.trans g2))
    | false => exact iteF (q _ _ g1))
theorem w_or {l m : Bool} (ha : PTv X Φ a l) (hb : l = false → PWv X Φ (.BoolOp .Or (b :: es) pos) m) : PWv X Φ (.BoolOp .Or (a :: b :: es) pos) (l || m) := .mk fun H0 σ F H Q s sl q =>
  wW_of (pw_or ptW pwW) (ha H0 σ F H _ s sl fun F1 H1 g1 => by
    cases l with
    | true => exact iteT (q _ _ g1)
    | false => exact iteF (hb rfl H0 σ F1 H1 _ g1.s (sl.gr g1) fun F2 H2 g2 => q F2 H2 (g1.trans g2)))
theorem PWv.t {l : Bool} (h : PWv X Φ e l) : PTv X Φ e l := .mk fun H0 σ F H Q s sl q => wT_of (PW.pt pwW) (h H0 σ F H Q s sl q)
/-- an expression whose answer leans on no object, by what is one's own being read alone -/
theorem PEv.flat {n : Nat} (hs : ∀ F F' v, P.p F v → P.p F' v) (ho : Φ[n]? = some (.ow Ps)) (h : PEv X (Φ.set n (.im (lstP Ps))) e P) : PEv X Φ e P := .mk fun H0 σ F H Q s sl q => by
  obtain ⟨l, vs, h1, h2, h3, h4, h5⟩ := sl.ow ho
  obtain ⟨x1, x2⟩ := Gr.settle s h3 h4
  exact h H0 σ _ H Q x2 (sl.settle s ho h1 h3 h4 h5) fun v F' H' g z => q v F H' (Gr.hp s g.h) (hs _ _ _ z)
end
end GL

set_option Elab.async false
set_option linter.all false
set_option maxRecDepth 100000
set_option maxHeartbeats 4000000
namespace GL
open PySem L2
open Evl (Ex ex_l ex_t)
section
variable {X : Cx} {Φ : List SD} {a b c e : Expr} {es : List Expr} {pos p p2 : Pos} {P : MP} {Ps Qs : List MP} {i j k : Int}
/-! ### arguments, displays -/
def nst : Expr → Bool
  | .Starred .. => false
  | _ => true
theorem star_cons {env : Env} (h : nst e = true) : starEach (e :: es) env = (false, eval e env) :: starEach es env := by
  cases e with
  | Starred => cases h
  | _ => rfl
theorem star_plain {env : Env} {pos : Pos} : ∀ {es : List Expr}, es.all nst = true → (backTo pos (starEach es env)).any (·.1) = false
  | [], _ => rfl
  | e :: es, h => by
    rw [List.all_cons, Bool.and_eq_true] at h
    rw [star_cons h.1]
    show (false || (backTo pos (starEach es env)).any (·.1)) = false
    rw [star_plain h.2]; rfl
theorem as_nil : PAs X Φ [] [] := .mk fun H0 σ F H Q s sl q => wA_of pa_nil (q [] F H (Gr.refl s) .nil)
theorem as_cons (ha : PEv X Φ e P) (hs : PAs X Φ es Ps) (hst : nst e = true := by rfl) : PAs X Φ (e :: es) (P :: Ps) := .mk fun H0 σ F H Q s sl q =>
  wA_of (pa_cons peW paW (star_cons hst)) (ha H0 σ F H _ s sl fun v F1 H1 g1 p1 => hs H0 σ F1 H1 _ g1.s (sl.gr g1) fun vs F2 H2 g2 p2 => q _ F2 H2 (g1.trans g2) (.cons (P.mono _ _ _ g2.f p1) p2))
theorem v_tuple {x1} (h : PAs X Φ es Ps) (hl : Ps.length ≤ sizeLine := by exact Nat.le_of_ble_eq_true rfl) : PEv X Φ (.Tuple es x1 pos) (tupP X.K Ps) := .mk fun H0 σ F H Q s sl q =>
  wE_of (pe_tup paW) (h H0 σ F H _ s sl fun vs F1 H1 g1 p1 => ⟨by rw [p1.1]; exact hl, fun t ht => q _ _ _ (g1.trans (Gr.new g1.s ht)) ⟨t, vs, rfl, SqT.of upd_same, p1.mono (Gr.new (o := .tup vs) g1.s ht).f⟩⟩)
theorem v_list (h : PAs X Φ es Ps) (hl : Ps.length ≤ sizeLine := by exact Nat.le_of_ble_eq_true rfl) : PEn X Φ (.List es pos) Ps := .mk fun H0 σ F H Q s sl q =>
  wE_of (pe_lst paW) (h H0 σ F H _ s sl fun vs F1 H1 g1 p1 => ⟨by rw [p1.1]; exact hl, fun t ht => by
    have ft : F1 t = none := by
      cases z : F1 t with
      | none => rfl
      | some u => rw [g1.s t u z] at ht; cases ht
    have h0 : H t = none := by
      cases z : H t with
      | none => rfl
      | some u => rw [g1.h t u z] at ht; cases ht
    exact q t vs F1 _ (g1.trans (Gr.own g1.s ht)) h0 ft upd_same p1⟩)
theorem v_t2 {α β : Type} [Py α] [Py β] {x1} {x : α} {y : β} (ha : PV X Φ a x) (hb : PV X Φ b y)
    (h1 : nst a = true := by rfl) (h2 : nst b = true := by rfl) : PV X Φ (.Tuple [a, b] x1 pos) (x, y) :=
  (v_tuple (as_cons ha (as_cons hb as_nil h2) h1)).imp fun _ _ z => py_tuple.mpr z
theorem v_t3 {α β γ : Type} [Py α] [Py β] [Py γ] {x1} {x : α} {y : β} {z : γ} (h : PAs X Φ es [py X.K (enc x), py X.K (enc y), py X.K (enc z)]) : PV X Φ (.Tuple es x1 pos) (T3.mk x y z) :=
  (v_tuple h).imp fun _ _ z => py_tuple.mpr z
theorem v_t4 {α β γ δ : Type} [Py α] [Py β] [Py γ] [Py δ] {x1} {x : α} {y : β} {z : γ} {u : δ} (h : PAs X Φ es [py X.K (enc x), py X.K (enc y), py X.K (enc z), py X.K (enc u)]) : PV X Φ (.Tuple es x1 pos) (T4.mk x y z u) :=
  (v_tuple h).imp fun _ _ z => py_tuple.mpr z
theorem v_t5 {α β γ δ ε : Type} [Py α] [Py β] [Py γ] [Py δ] [Py ε] {x1} {x : α} {y : β} {z : γ} {u : δ} {w : ε} (h : PAs X Φ es [py X.K (enc x), py X.K (enc y), py X.K (enc z), py X.K (enc u), py X.K (enc w)]) : PV X Φ (.Tuple es x1 pos) (T5.mk x y z u w) :=
  (v_tuple h).imp fun _ _ z => py_tuple.mpr z
theorem v_tup {α : Type} [Py α] {x1} {xs : List α} (h : PAs X Φ es (xs.map fun x => py X.K (enc x))) (hl : xs.length ≤ sizeLine := by exact Nat.le_of_ble_eq_true rfl) : PV X Φ (.Tuple es x1 pos) (Tup.mk xs) :=
  (v_tuple h (by simpa using hl)).imp fun _ _ z => py_tup.mpr z
/-! ### items -/
def ix {α : Type} [Inhabited α] (xs : List α) (i : Int) : α := xs.getD i.toNat default
theorem ix_nat {α : Type} [Inhabited α] (xs : List α) (n : Nat) : ix xs (n : Int) = xs.getD n default := rfl
theorem allP_at {Ps : List MP} {F : Hp} {vs : List V} {n : Nat} {P : MP} (h : AllP Ps F vs) (hp : Ps[n]? = some P) : ∃ v, vs[n]? = some v ∧ P.p F v := by
  have hn : n < vs.length := by rw [h.1]; exact (List.getElem?_eq_some_iff.mp hp).1
  exact ⟨vs[n], List.getElem?_eq_getElem hn, h.2 n P _ hp (List.getElem?_eq_getElem hn)⟩
theorem v_ixP {n : Nat} (ha : PEl X Φ a Ps) (hb : PV X Φ b i) (hn : i = (n : Int)) (hp : Ps[n]? = some P) (hs : PlainIx b := by exact fun _ _ => rfl) : PEv X Φ (.Subscript a b pos) P := .mk fun H0 σ F H Q s sl q =>
  wE_of (pe_ix ix_list peW peW hs) (ha H0 σ F H _ s sl fun l vs F1 H1 g1 h1 p1 => hb H0 σ F1 H1 _ g1.s (sl.gr g1) fun y F2 H2 g2 p2 => by
    cases p2
    obtain ⟨v, hv, pv⟩ := allP_at p1 hp
    exact ⟨l, vs, i, v, rfl, rfl, ex_l g2.h h1, by rw [hn]; exact atI_nat hv, q v F2 H2 (g1.trans g2) (P.mono _ _ _ g2.f pv)⟩)
theorem v_ix {α : Type} [Py α] [Inhabited α] {xs : List α} (ha : PL X Φ a xs) (hb : PV X Φ b i) (h : 0 ≤ i ∧ i < xs.length) (hs : PlainIx b := by exact fun _ _ => rfl) : PV X Φ (.Subscript a b pos) (ix xs i) :=
  v_ixP (n := i.toNat) ha hb (by omega) (by
    have hi : i.toNat < xs.length := by omega
    rw [List.getElem?_map, List.getElem?_eq_getElem hi]
    simp [ix, List.getD, List.getElem?_eq_getElem hi]) hs
theorem v_ixTP {n : Nat} (ha : PEv X Φ a (tupP X.K Ps)) (hb : PV X Φ b i) (hn : i = (n : Int)) (hp : Ps[n]? = some P) (hs : PlainIx b := by exact fun _ _ => rfl) : PEv X Φ (.Subscript a b pos) P := .mk fun H0 σ F H Q s sl q =>
  wE_of (pe_ix ix_tup peW peW hs) (ha H0 σ F H _ s sl fun u F1 H1 g1 ⟨l, vs, e1, h1, p1⟩ => hb H0 σ F1 H1 _ g1.s (sl.gr g1) fun y F2 H2 g2 p2 => by
    cases p2
    subst e1
    obtain ⟨v, hv, pv⟩ := allP_at p1 hp
    exact ⟨l, vs, i, v, rfl, rfl, ex_t (g1.s.trans g2.h) h1, by rw [hn]; exact atI_nat hv, q v F2 H2 (g1.trans g2) (P.mono _ _ _ g2.f pv)⟩)
/-- t[n] of a tuple of known make, n written -/
theorem v_fld (n : Nat) {ds : List PyData} {d : PyData} {q1 q2 : Pos} (ha : PEv X Φ a (py X.K (.tuple ds))) (hd : ds[n]? = some d := by rfl) : PEv X Φ (.Subscript a (.Constant (.int (n : Int)) 0 q1) pos) (py X.K d) :=
  v_ixTP (n := n) (i := (n : Int)) (ha.imp fun _ _ z => py_tuple.mp z) v_int rfl (by rw [List.getElem?_map, hd]; rfl) (fun _ _ => rfl)
theorem v_ixT {α : Type} [Py α] [Inhabited α] {xs : Tup α} (ha : PV X Φ a xs) (hb : PV X Φ b i) (h : 0 ≤ i ∧ i < xs.l.length) (hs : PlainIx b := by exact fun _ _ => rfl) : PV X Φ (.Subscript a b pos) (ix xs.l i) :=
  v_ixTP (n := i.toNat) (ha.imp fun _ _ z => py_tup.mp z) hb (by omega) (by
    have hi : i.toNat < xs.l.length := by omega
    rw [List.getElem?_map, List.getElem?_eq_getElem hi]
    simp [ix, List.getD, List.getElem?_eq_getElem hi]) hs
/-- xs[-1] -/
def lastD {α : Type} [Inhabited α] (xs : List α) : α := xs.getD (xs.length - 1) default
theorem v_last {α : Type} [Py α] [Inhabited α] {xs : List α} {q1 q2 : Pos} (ha : PL X Φ a xs) (h : 0 < xs.length) : PV X Φ (.Subscript a (.UnaryOp .USub (.Constant (.int 1) 0 q1) q2) pos) (lastD xs) := .mk fun H0 σ F H Q s sl q =>
  wE_of (pe_ix ix_list peW peW (fun _ _ => rfl)) (ha H0 σ F H _ s sl fun l vs F1 H1 g1 h1 p1 => v_neg (X := X) (Φ := Φ) v_int H0 σ F1 H1 _ g1.s (sl.gr g1) fun y F2 H2 g2 p2 => by
    cases p2
    have hp : (xs.map fun x => py X.K (enc x))[xs.length - 1]? = some (py X.K (enc (lastD xs))) := by
      have hi : xs.length - 1 < xs.length := by omega
      rw [List.getElem?_map, List.getElem?_eq_getElem hi]
      simp [lastD, List.getD, List.getElem?_eq_getElem hi]
    obtain ⟨v, hv, pv⟩ := allP_at p1 hp
    have hl : vs.length = xs.length := by simpa using p1.1
    refine ⟨l, vs, -1, v, rfl, rfl, ex_l g2.h h1, ?_, q v F2 H2 (g1.trans g2) (dq_mono g2.f _ _ pv)⟩
    unfold atI ixN
    rw [if_neg (by decide), if_pos (by omega)]
    show vs[(-1 + (vs.length : Int)).toNat]? = some v
    rw [← hv]; congr 1; omega)
/-! ### slices -/
def slc {α : Type} (xs : List α) (lo hi : Option Int) : List α := (xs.drop (HT.sIx xs.length 0 lo)).take (HT.sIx xs.length xs.length hi - HT.sIx xs.length 0 lo)
theorem AllP.slc {Ps : List MP} {F : Hp} {vs : List V} (h : AllP Ps F vs) (lo hi : Option Int) : AllP (slc Ps lo hi) F (cutV vs lo hi) := by
  unfold GL.slc cutV
  rw [h.1]
  generalize HT.sIx Ps.length 0 lo = m
  generalize HT.sIx Ps.length Ps.length hi - m = n
  refine ⟨by simp [h.1], fun i P v h1 h2 => ?_⟩
  rw [List.getElem?_take] at h1 h2
  split at h1
  · rename_i hi
    rw [if_pos hi, List.getElem?_drop] at h2
    rw [List.getElem?_drop] at h1
    exact h.2 _ P v h1 h2
  · cases h1
theorem slc_map {α β : Type} (f : α → β) (xs : List α) (lo hi : Option Int) : slc (xs.map f) lo hi = (slc xs lo hi).map f := by
  unfold slc
  rw [List.length_map, List.map_take, List.map_drop]
/-- a slice's ends -/
def PO' (X : Cx) (Φ : List SD) (o : Option Expr) (v : Option Int) : Prop := match o, v with
  | none, none => True
  | some e, some i => PV X Φ e i
  | _, _ => False
theorem v_slP {lo hi : Option Expr} {l h : Option Int} (ha : PEl X Φ a Ps) (h1 : PO' X Φ lo l) (h2 : PO' X Φ hi h) : PEn X Φ (.Subscript a (.Slice lo hi none p2) pos) (slc Ps l h) := .mk fun H0 σ F H Q s sl q => by
  have step : ∀ (o : Option Expr) (v : Option Int), PO' X Φ o v → ∃ t : TO, PO X o t ∧ ∀ (F H : Hp) (R : Option Int → Hp → Prop), Ex F H → Sl H0 Φ σ F H → (∀ F' H', Gr F H F' H' → R v H') → t σ H R := fun o v hv => by
    cases o with
    | none =>
      cases v with
      | none => exact ⟨_, po_none, fun F H R s sl r => r F H (Gr.refl s)⟩
      | some i => exact hv.elim
    | some e =>
      cases v with
      | none => exact hv.elim
      | some i => exact ⟨_, po_some peW, fun F H R s sl r => (show PV X Φ e i from hv) H0 σ F H _ s sl fun v F' H' g z => by cases z; exact ⟨i, rfl, r F' H' g⟩⟩
  obtain ⟨t1, k1, r1⟩ := step _ _ h1
  obtain ⟨t2, k2, r2⟩ := step _ _ h2
  refine wE_of (pe_slice sl_list peW k1 k2) (ha H0 σ F H _ s sl fun x vs F1 H1 g1 hx p1 => r1 F1 H1 _ g1.s (sl.gr g1) fun F2 H2 g2 => r2 F2 H2 _ g2.s ((sl.gr g1).gr g2) fun F3 H3 g3 => ⟨x, vs, rfl, ex_l (g2.trans g3).h hx, fun t ht => ?_⟩)
  have g := (g1.trans g2).trans g3
  have ft : F3 t = none := by
    cases z : F3 t with
    | none => rfl
    | some u => rw [g.s t u z] at ht; cases ht
  have h0 : H t = none := by
    cases z : H t with
    | none => rfl
    | some u => rw [g.h t u z] at ht; cases ht
  exact q t _ F3 _ (g.trans (Gr.own g.s ht)) h0 ft upd_same ((p1.mono (g2.trans g3).f).slc l h)
theorem v_sl {α : Type} [Py α] {xs : List α} {lo hi : Option Expr} {l h : Option Int} (ha : PL X Φ a xs) (h1 : PO' X Φ lo l) (h2 : PO' X Φ hi h) : PN X Φ (.Subscript a (.Slice lo hi none p2) pos) (slc xs l h) := by
  have := v_slP (pos := pos) (p2 := p2) ha h1 h2
  rw [slc_map] at this
  exact this
theorem AllP.reverse {Ps : List MP} {F : Hp} {vs : List V} (h : AllP Ps F vs) : AllP Ps.reverse F vs.reverse := by
  refine ⟨by simp [h.1], fun i P v h1 h2 => ?_⟩
  have hi : i < vs.length := by
    have := (List.getElem?_eq_some_iff.mp h2).1
    simpa using this
  rw [List.getElem?_reverse (by rw [← h.1]; exact hi)] at h1
  rw [List.getElem?_reverse hi] at h2
  rw [← h.1] at h1
  exact h.2 _ P v h1 h2
theorem fresh_of {F H F' H' : Hp} (g : Gr F H F' H') {t : Addr} (ht : H' t = none) : F' t = none ∧ H t = none := by
  constructor
  · cases z : F' t with
    | none => rfl
    | some u => rw [g.s t u z] at ht; cases ht
  · cases z : H t with
    | none => rfl
    | some u => rw [g.h t u z] at ht; cases ht
theorem v_rev {α : Type} [Py α] {xs : List α} {kk : Nat} {p1 p3 : Pos} (ha : PL X Φ a xs) : PN X Φ (.Subscript a (.Slice none none (some (.UnaryOp .USub (.Constant (.int 1) kk p1) p2)) p3) pos) xs.reverse := .mk fun H0 σ F H Q s sl q =>
  wE_of (pe_revL peW) (ha H0 σ F H _ s sl fun l vs F1 H1 g1 h1 p1 => ⟨l, vs, rfl, h1, fun t ht => q t _ F1 _ (g1.trans (Gr.own g1.s ht)) (fresh_of g1 ht).2 (fresh_of g1 ht).1 upd_same (by rw [List.map_reverse]; exact p1.reverse)⟩)
/-! ### list + list, list * int -/
theorem AllP.append : ∀ {Ps Qs : List MP} {F : Hp} {vs ws : List V}, AllP Ps F vs → AllP Qs F ws → AllP (Ps ++ Qs) F (vs ++ ws)
  | [], _, _, vs, _, h, h' => by rw [h.inv0]; exact h'
  | P :: Ps, _, _, vs, _, h, h' => by
    obtain ⟨v, us, rfl, h1, h2⟩ := h.inv
    exact .cons h1 (AllP.append h2 h')
theorem v_cat {α : Type} [Py α] {xs ys : List α} (ha : PK X Φ a xs) (hb : PK X Φ b ys) (hz : xs.length + ys.length ≤ sizeLine) : PN X Φ (.BinOp a .Add b pos) (xs ++ ys) := .mk fun H0 σ F H Q s sl q =>
  wE_of (pe_op op_cat peW peW) (ha H0 σ F H _ s sl fun l vs F1 H1 g1 h1 p1 => hb H0 σ F1 H1 _ g1.s (sl.gr g1) fun m ws F2 H2 g2 h2 p2 => by
    have e1 : vs.length = xs.length := by simpa using p1.1
    have e2 : ws.length = ys.length := by simpa using p2.1
    have g := g1.trans g2
    exact ⟨l, m, vs, ws, rfl, rfl, g2.h _ _ h1, h2, by omega, fun t ht => q t _ F2 _ (g.trans (Gr.own g.s ht)) (fresh_of g ht).2 (fresh_of g ht).1 upd_same (by rw [List.map_append]; exact (p1.mono g2.f).append p2)⟩)
theorem AllP.rep {Ps : List MP} {F : Hp} {vs : List V} (h : AllP Ps F vs) : ∀ n : Nat, AllP (List.replicate n Ps).flatten F (List.replicate n vs).flatten
  | 0 => by simpa using AllP.nil
  | n + 1 => by
    rw [List.replicate_succ, List.replicate_succ, List.flatten_cons, List.flatten_cons]
    exact h.append (AllP.rep h n)
def lrep {α : Type} (xs : List α) (k : Int) : List α := (List.replicate k.toNat xs).flatten
theorem map_flat_rep {α β : Type} (f : α → β) (xs : List α) : ∀ n : Nat, (List.replicate n (xs.map f)).flatten = ((List.replicate n xs).flatten).map f
  | 0 => rfl
  | n + 1 => by rw [List.replicate_succ, List.replicate_succ, List.flatten_cons, List.flatten_cons, List.map_append, map_flat_rep f xs n]
theorem v_rep {α : Type} [Py α] {xs : List α} (ha : PK X Φ a xs) (hb : PV X Φ b k) (h0 : -(2 ^ 63) ≤ k ∧ k < 2 ^ 63) (hz : xs.length * k.toNat ≤ sizeLine) : PN X Φ (.BinOp a .Mult b pos) (lrep xs k) := .mk fun H0 σ F H Q s sl q =>
  wE_of (pe_op op_rep peW peW) (ha H0 σ F H _ s sl fun l vs F1 H1 g1 h1 p1 => hb H0 σ F1 H1 _ g1.s (sl.gr g1) fun y F2 H2 g2 p2 => by
    cases p2
    have e1 : vs.length = xs.length := by simpa using p1.1
    have g := g1.trans g2
    exact ⟨l, k, vs, rfl, rfl, g2.h _ _ h1, h0.1, h0.2, by rw [e1]; exact hz, fun t ht => q t _ F2 _ (g.trans (Gr.own g.s ht)) (fresh_of g ht).2 (fresh_of g ht).1 upd_same (by
      show AllP (((List.replicate k.toNat xs).flatten).map _) _ _
      rw [← map_flat_rep]; exact (p1.mono g2.f).rep _)⟩)
/-! ### built-ins -/
/-- the built-in names are nobody else's -/
structure Blt (mg : Str → Option Value) : Prop where
  len : mg "len" = none
  range : mg "range" = none
  list : mg "list" = none
  tuple : mg "tuple" = none
  isinstance : mg "isinstance" = none
  int : mg "int" = none
  bool : mg "bool" = none
  max : mg "max" = none
  min : mg "min" = none
  sorted : mg "sorted" = none
  enumerate : mg "enumerate" = none
  zip : mg "zip" = none
  sum : mg "sum" = none
  all : mg "all" = none
  any : mg "any" = none
  set : mg "set" = none
  abs : mg "abs" = none
  reversed : mg "reversed" = none
  str : mg "str" = none
  dict : mg "dict" = none
  ve : mg "ValueError" = none
theorem wA_one {σ : St} {H : Hp} {Q : List V → Hp → Prop} (hst : nst e = true) (h : wE X e σ H fun v H1 => Q [v] H1) : wA X [e] σ H Q := wA_of (pa_cons peW pa_nil (star_cons hst)) h
section
variable {x : Str} {id T : String} {r : List V → Hp → VK → Prop}
theorem wE_callB (hc : CallR X (.builtin id) r) (hg : Gl X x) (hm : X.mg x = none) (hv : bootBuiltins x = some (.builtin id)) (hn : x ≠ "__name__") (hd : (x == ("__debug__" : Str)) = false) (hst : (e :: es).all nst = true)
    {σ : St} {H : Hp} {Q : VK} (h : wA X (e :: es) σ H fun vs H1 => r vs H1 Q) : wE X (.Call (.Name x p) (e :: es) [] pos) σ H Q := by
  have h2 := hst
  rw [List.all_cons, Bool.and_eq_true] at h2
  exact wE_of (pe_callB hc hg hm hv paW hn hd (star_cons h2.1) (star_plain h2.2)) h
theorem wE_callT (hc : CallR X (.type T) r) (hg : Gl X x) (hm : X.mg x = none) (hv : bootBuiltins x = some (.type T)) (hn : x ≠ "__name__") (hd : (x == ("__debug__" : Str)) = false) (hst : (e :: es).all nst = true)
    {σ : St} {H : Hp} {Q : VK} (h : wA X (e :: es) σ H fun vs H1 => r vs H1 Q) : wE X (.Call (.Name x p) (e :: es) [] pos) σ H Q := by
  have h2 := hst
  rw [List.all_cons, Bool.and_eq_true] at h2
  exact wE_of (pe_callTy hc hg hm hv paW hn hd (star_cons h2.1) (star_plain h2.2)) h
end
theorem v_lenP (B : Blt X.mg) (ha : PEl X Φ e Ps) (hg : Gl X "len" := by rfl) (hst : nst e = true := by rfl) : PV X Φ (.Call (.Name "len" p) [e] [] pos) (Ps.length : Int) := .mk fun H0 σ F H Q s sl q =>
  wE_callB call_len_seq hg B.len PySem.boot_len (by decide +kernel) (by decide +kernel) (by simp [hst]) (wA_one hst (ha H0 σ F H _ s sl fun l vs F1 H1 g1 h1 p1 => ⟨l, vs, rfl, .inl h1, by rw [p1.1]; exact q _ F1 H1 g1 (.int _)⟩))
theorem v_len {α : Type} [Py α] {xs : List α} (B : Blt X.mg) (ha : PL X Φ e xs) (hg : Gl X "len" := by rfl) (hst : nst e = true := by rfl) : PV X Φ (.Call (.Name "len" p) [e] [] pos) (xs.length : Int) := by
  have := v_lenP (p := p) (pos := pos) B ha hg hst
  rw [List.length_map] at this
  exact this
theorem v_lenT {α : Type} [Py α] {xs : Tup α} (B : Blt X.mg) (ha : PV X Φ e xs) (hg : Gl X "len" := by rfl) (hst : nst e = true := by rfl) : PV X Φ (.Call (.Name "len" p) [e] [] pos) (xs.l.length : Int) := .mk fun H0 σ F H Q s sl q =>
  wE_callB call_len_seq hg B.len PySem.boot_len (by decide +kernel) (by decide +kernel) (by simp [hst]) (wA_one hst (ha H0 σ F H _ s sl fun v F1 H1 g1 p1 => by
    obtain ⟨l, vs, e1, h1, p3⟩ := py_tup.mp p1
    subst e1
    exact ⟨l, vs, rfl, .inr (ex_t g1.s h1), by rw [p3.1, List.length_map]; exact q _ F1 H1 g1 (.int _)⟩))
def iabs (i : Int) : Int := if i < 0 then -i else i
def imax (i j : Int) : Int := if j > i then j else i
def imin (i j : Int) : Int := if j < i then j else i
theorem v_abs (B : Blt X.mg) (ha : PV X Φ e i) (hg : Gl X "abs" := by rfl) (hst : nst e = true := by rfl) : PV X Φ (.Call (.Name "abs" p) [e] [] pos) (iabs i) := .mk fun H0 σ F H Q s sl q =>
  wE_callB call_abs hg B.abs (by decide +kernel) (by decide +kernel) (by decide +kernel) (by simp [hst]) (wA_one hst (ha H0 σ F H _ s sl fun v F1 H1 g1 p1 => by cases p1; exact ⟨i, rfl, q _ F1 H1 g1 (.int _)⟩))
theorem wA_two {H0 : Hp} {σ : St} {F H : Hp} {Q : List V → Hp → Prop} (s : Ex F H) (sl : Sl H0 Φ σ F H) (ha : PV X Φ a i) (hb : PV X Φ b j) (h1 : nst a = true) (h2 : nst b = true) (q : ∀ F' H', Gr F H F' H' → Q [.int i, .int j] H') : wA X [a, b] σ H Q :=
  wA_of (pa_cons peW (pa_cons peW pa_nil (star_cons h2)) (star_cons h1)) (ha H0 σ F H _ s sl fun v F1 H1 g1 p1 => hb H0 σ F1 H1 _ g1.s (sl.gr g1) fun w F2 H2 g2 p2 => by
    cases p1; cases p2; exact q F2 H2 (g1.trans g2))
theorem v_max (B : Blt X.mg) (hc : X.calm = true) (ha : PV X Φ a i) (hb : PV X Φ b j) (hg : Gl X "max" := by rfl) (h1 : nst a = true := by rfl) (h2 : nst b = true := by rfl) : PV X Φ (.Call (.Name "max" p) [a, b] [] pos) (imax i j) := .mk fun H0 σ F H Q s sl q =>
  wE_callB (call_max2 hc) hg B.max (by decide +kernel) (by decide +kernel) (by decide +kernel) (by simp [h1, h2]) (wA_two s sl ha hb h1 h2 fun F1 H1 g => ⟨i, j, rfl, q _ F1 H1 g (.int _)⟩)
theorem v_min (B : Blt X.mg) (hc : X.calm = true) (ha : PV X Φ a i) (hb : PV X Φ b j) (hg : Gl X "min" := by rfl) (h1 : nst a = true := by rfl) (h2 : nst b = true := by rfl) : PV X Φ (.Call (.Name "min" p) [a, b] [] pos) (imin i j) := .mk fun H0 σ F H Q s sl q =>
  wE_callB (call_min2 hc) hg B.min (by decide +kernel) (by decide +kernel) (by decide +kernel) (by simp [h1, h2]) (wA_two s sl ha hb h1 h2 fun F1 H1 g => ⟨i, j, rfl, q _ F1 H1 g (.int _)⟩)
def b2i (k : Bool) : Int := if k then 1 else 0
theorem v_intB {k : Bool} (B : Blt X.mg) (ha : PV X Φ e k) (hg : Gl X "int" := by rfl) (hst : nst e = true := by rfl) : PV X Φ (.Call (.Name "int" p) [e] [] pos) (b2i k) := .mk fun H0 σ F H Q s sl q =>
  wE_callT call_int1 hg B.int (by decide +kernel) (by decide +kernel) (by decide +kernel) (by simp [hst]) (wA_one hst (ha H0 σ F H _ s sl fun v F1 H1 g1 p1 => by cases p1; exact .inr ⟨k, rfl, q _ F1 H1 g1 (.int _)⟩))
/-- list(xs) -/
theorem v_listOfP (B : Blt X.mg) (ha : PEl X Φ e Ps) (hg : Gl X "list" := by rfl) (hst : nst e = true := by rfl) : PEn X Φ (.Call (.Name "list" p) [e] [] pos) Ps := .mk fun H0 σ F H Q s sl q =>
  wE_callT call_list_of hg B.list (by decide +kernel) (by decide +kernel) (by decide +kernel) (by simp [hst]) (wA_one hst (ha H0 σ F H _ s sl fun l vs F1 H1 g1 h1 p1 => ⟨l, vs, rfl, .inl h1, fun t ht => q t vs F1 _ (g1.trans (Gr.own g1.s ht)) (fresh_of g1 ht).2 (fresh_of g1 ht).1 upd_same p1⟩))
theorem v_listOf {α : Type} [Py α] {xs : List α} (B : Blt X.mg) (ha : PL X Φ e xs) (hg : Gl X "list" := by rfl) (hst : nst e = true := by rfl) : PN X Φ (.Call (.Name "list" p) [e] [] pos) xs := v_listOfP B ha hg hst
theorem v_listOfT {α : Type} [Py α] {xs : Tup α} (B : Blt X.mg) (ha : PV X Φ e xs) (hg : Gl X "list" := by rfl) (hst : nst e = true := by rfl) : PN X Φ (.Call (.Name "list" p) [e] [] pos) xs.l := .mk fun H0 σ F H Q s sl q =>
  wE_callT call_list_of hg B.list (by decide +kernel) (by decide +kernel) (by decide +kernel) (by simp [hst]) (wA_one hst (ha H0 σ F H _ s sl fun v F1 H1 g1 p1 => by
    obtain ⟨l, vs, e1, h1, p3⟩ := py_tup.mp p1
    subst e1
    exact ⟨l, vs, rfl, .inr (ex_t g1.s h1), fun t ht => q t vs F1 _ (g1.trans (Gr.own g1.s ht)) (fresh_of g1 ht).2 (fresh_of g1 ht).1 upd_same p3⟩))
/-- tuple(xs) -/
theorem v_tupOf {α : Type} [Py α] {xs : List α} (B : Blt X.mg) (ha : PL X Φ e xs) (hg : Gl X "tuple" := by rfl) (hst : nst e = true := by rfl) : PV X Φ (.Call (.Name "tuple" p) [e] [] pos) (Tup.mk xs) := .mk fun H0 σ F H Q s sl q =>
  wE_callT call_tuple_of hg B.tuple (by decide +kernel) (by decide +kernel) (by decide +kernel) (by simp [hst]) (wA_one hst (ha H0 σ F H _ s sl fun l vs F1 H1 g1 h1 p1 =>
    ⟨l, vs, rfl, .inl ⟨h1, fun t ht => q _ _ _ (g1.trans (Gr.new g1.s ht)) (py_tup.mpr ⟨t, vs, rfl, SqT.of upd_same, p1.mono (Gr.new (o := .tup vs) g1.s ht).f⟩)⟩⟩))
/-- sum, all, any of a list -/
theorem allP_vals {α : Type} [Py α] (f : α → V) (hf : ∀ (K : Fg) (F : Hp) (v : V) (x : α), Dq K F v (enc x) → v = f x) {K : Fg} {F : Hp} : ∀ {xs : List α} {vs : List V}, AllP (xs.map fun x => py K (enc x)) F vs → vs = xs.map f
  | [], vs, h => h.inv0
  | x :: xs, vs, h => by
    obtain ⟨v, us, rfl, h1, h2⟩ := AllP.inv (P := py K (enc x)) (Ps := xs.map fun x => py K (enc x)) h
    rw [hf K F v x h1, allP_vals f hf h2]; rfl
theorem allP_ints {K : Fg} {F : Hp} {xs : List Int} {vs : List V} (h : AllP (xs.map fun x => py K (enc x)) F vs) : vs = xs.map V.int := allP_vals V.int (fun _ _ _ _ h => by cases h; rfl) h
theorem allP_bools {K : Fg} {F : Hp} {xs : List Bool} {vs : List V} (h : AllP (xs.map fun x => py K (enc x)) F vs) : vs = xs.map V.bl := allP_vals V.bl (fun _ _ _ _ h => by cases h; rfl) h
theorem ints_allP {K : Fg} {F : Hp} : ∀ {xs : List Int}, AllP (xs.map fun x => py K (enc x)) F (xs.map V.int)
  | [] => .nil
  | x :: xs => .cons (.int x) ints_allP
theorem v_sum {xs : List Int} (B : Blt X.mg) (hc : X.calm = true) (ha : PL X Φ e xs) (hg : Gl X "sum" := by rfl) (hst : nst e = true := by rfl) : PV X Φ (.Call (.Name "sum" p) [e] [] pos) xs.sum := .mk fun H0 σ F H Q s sl q =>
  wE_callB (cr_sum hc) hg B.sum (by decide +kernel) (by decide +kernel) (by decide +kernel) (by simp [hst]) (wA_one hst (ha H0 σ F H _ s sl fun l vs F1 H1 g1 h1 p1 => ⟨l, xs, rfl, by rw [← allP_ints p1]; exact h1, q _ F1 H1 g1 (.int _)⟩))
theorem v_all {xs : List Bool} (B : Blt X.mg) (hc : X.calm = true) (ha : PL X Φ e xs) (hg : Gl X "all" := by rfl) (hst : nst e = true := by rfl) : PV X Φ (.Call (.Name "all" p) [e] [] pos) (xs.all id) := .mk fun H0 σ F H Q s sl q =>
  wE_callB (cr_all hc) hg B.all (by decide +kernel) (by decide +kernel) (by decide +kernel) (by simp [hst]) (wA_one hst (ha H0 σ F H _ s sl fun l vs F1 H1 g1 h1 p1 => ⟨l, xs, rfl, by rw [← allP_bools p1]; exact h1, q _ F1 H1 g1 (.bl _)⟩))
theorem v_any {xs : List Bool} (B : Blt X.mg) (hc : X.calm = true) (ha : PL X Φ e xs) (hg : Gl X "any" := by rfl) (hst : nst e = true := by rfl) : PV X Φ (.Call (.Name "any" p) [e] [] pos) (xs.any id) := .mk fun H0 σ F H Q s sl q =>
  wE_callB (cr_any hc) hg B.any (by decide +kernel) (by decide +kernel) (by decide +kernel) (by simp [hst]) (wA_one hst (ha H0 σ F H _ s sl fun l vs F1 H1 g1 h1 p1 => ⟨l, xs, rfl, by rw [← allP_bools p1]; exact h1, q _ F1 H1 g1 (.bl _)⟩))
def maxL (xs : List Int) : Int := xs.foldl imax (xs.getD 0 0)
def minL (xs : List Int) : Int := xs.foldl imin (xs.getD 0 0)
theorem foldl_imax_le : ∀ (xs : List Int) (a : Int), a ≤ xs.foldl imax a ∧ ∀ y ∈ xs, y ≤ xs.foldl imax a
  | [], a => by simp
  | x :: xs, a => by
    obtain ⟨h1, h2⟩ := foldl_imax_le xs (imax a x)
    have h3 : a ≤ imax a x ∧ x ≤ imax a x := by unfold imax; split <;> omega
    refine ⟨by show a ≤ xs.foldl imax (imax a x); omega, fun y hy => ?_⟩
    show y ≤ xs.foldl imax (imax a x)
    rcases List.mem_cons.mp hy with e | e
    · subst e; omega
    · exact h2 y e
theorem foldl_imax_mem : ∀ (xs : List Int) (a : Int), xs.foldl imax a = a ∨ xs.foldl imax a ∈ xs
  | [], a => .inl rfl
  | x :: xs, a => by
    show xs.foldl imax (imax a x) = a ∨ xs.foldl imax (imax a x) ∈ x :: xs
    rcases foldl_imax_mem xs (imax a x) with h | h
    · rw [h]; unfold imax; split
      · exact .inr (by simp)
      · exact .inl rfl
    · exact .inr (List.mem_cons_of_mem _ h)
theorem maxL_mem {xs : List Int} (h : 0 < xs.length) : maxL xs ∈ xs := by
  cases xs with
  | nil => simp at h
  | cons x xs =>
    show (x :: xs).foldl imax x ∈ x :: xs
    rcases foldl_imax_mem (x :: xs) x with e | e
    · rw [e]; simp
    · exact e
theorem le_maxL {xs : List Int} {y : Int} (h : y ∈ xs) : y ≤ maxL xs := (foldl_imax_le xs _).2 y h
theorem foldl_imin_le : ∀ (xs : List Int) (a : Int), xs.foldl imin a ≤ a ∧ ∀ y ∈ xs, xs.foldl imin a ≤ y
  | [], a => by simp
  | x :: xs, a => by
    obtain ⟨h1, h2⟩ := foldl_imin_le xs (imin a x)
    have h3 : imin a x ≤ a ∧ imin a x ≤ x := by unfold imin; split <;> omega
    refine ⟨by show xs.foldl imin (imin a x) ≤ a; omega, fun y hy => ?_⟩
    show xs.foldl imin (imin a x) ≤ y
    rcases List.mem_cons.mp hy with e | e
    · subst e; omega
    · exact h2 y e
theorem foldl_imin_mem : ∀ (xs : List Int) (a : Int), xs.foldl imin a = a ∨ xs.foldl imin a ∈ xs
  | [], a => .inl rfl
  | x :: xs, a => by
    show xs.foldl imin (imin a x) = a ∨ xs.foldl imin (imin a x) ∈ x :: xs
    rcases foldl_imin_mem xs (imin a x) with h | h
    · rw [h]; unfold imin; split
      · exact .inr (by simp)
      · exact .inl rfl
    · exact .inr (List.mem_cons_of_mem _ h)
theorem minL_mem {xs : List Int} (h : 0 < xs.length) : minL xs ∈ xs := by
  cases xs with
  | nil => simp at h
  | cons x xs =>
    show (x :: xs).foldl imin x ∈ x :: xs
    rcases foldl_imin_mem (x :: xs) x with e | e
    · rw [e]; simp
    · exact e
theorem minL_le {xs : List Int} {y : Int} (h : y ∈ xs) : minL xs ≤ y := (foldl_imin_le xs _).2 y h
theorem v_maxL {xs : List Int} (B : Blt X.mg) (hc : X.calm = true) (ha : PL X Φ e xs) (h : 0 < xs.length) (hg : Gl X "max" := by rfl) (hst : nst e = true := by rfl) : PV X Φ (.Call (.Name "max" p) [e] [] pos) (maxL xs) := .mk fun H0 σ F H Q s sl q =>
  wE_callB (cr_max hc) hg B.max (by decide +kernel) (by decide +kernel) (by decide +kernel) (by simp [hst]) (wA_one hst (ha H0 σ F H _ s sl fun l vs F1 H1 g1 h1 p1 => ⟨l, xs, rfl, by rw [← allP_ints p1]; exact h1, h, fun m h2 h3 => by
    have e : m = maxL xs := Int.le_antisymm (le_maxL h2) (h3 _ (maxL_mem h))
    subst e; exact q _ F1 H1 g1 (.int _)⟩))
theorem v_minL {xs : List Int} (B : Blt X.mg) (hc : X.calm = true) (ha : PL X Φ e xs) (h : 0 < xs.length) (hg : Gl X "min" := by rfl) (hst : nst e = true := by rfl) : PV X Φ (.Call (.Name "min" p) [e] [] pos) (minL xs) := .mk fun H0 σ F H Q s sl q =>
  wE_callB (cr_min hc) hg B.min (by decide +kernel) (by decide +kernel) (by decide +kernel) (by simp [hst]) (wA_one hst (ha H0 σ F H _ s sl fun l vs F1 H1 g1 h1 p1 => ⟨l, xs, rfl, by rw [← allP_ints p1]; exact h1, h, fun m h2 h3 => by
    have e : m = minL xs := Int.le_antisymm (h3 _ (minL_mem h)) (minL_le h2)
    subst e; exact q _ F1 H1 g1 (.int _)⟩))
/-- x in xs -/
theorem v_inL {α : Type} [Py α] [PyQ α] [DecidableEq α] {y : α} {xs : List α} (hu : X.A.units + 65 < cLine) (hd : Py.dep α + 1 ≤ 64) (ha : PD X Φ a y) (hb : PD X Φ b xs) (hm : behindInMarks .In b = false := by rfl) : PV X Φ (.Compare a [.In] [b] pos) (decide (y ∈ xs)) := .mk fun H0 σ F H Q s sl q =>
  wE_of (pe_cmpR (op_inD hu) peW peW hm) (ha H0 σ F H _ s sl fun v F1 H1 g1 p1 => hb H0 σ F1 H1 _ g1.s (sl.gr g1) fun w F2 H2 g2 p2 =>
    ⟨enc y, xs.map enc, dp_mono (g2.f.trans g2.s) _ _ p1, dp_mono g2.s _ _ p2, shaped_of (by omega) _, shaped_of (α := List α) hd xs, by
      have e : ((xs.map enc).any fun z => PyData.eqv z (enc y)) = decide (y ∈ xs) := by
        rw [List.any_map]
        by_cases h : y ∈ xs
        · rw [decide_eq_true h]
          exact List.any_eq_true.mpr ⟨y, h, (PyQ.eqv y y).mpr rfl⟩
        · rw [decide_eq_false h]
          refine List.any_eq_false.mpr fun z hz w => h ?_
          rw [← (PyQ.eqv z y).mp w]; exact hz
      rw [e]; exact q _ _ _ (g1.trans g2) (.bl _)⟩)
theorem v_notInL {α : Type} [Py α] [PyQ α] [DecidableEq α] {y : α} {xs : List α} (hu : X.A.units + 65 < cLine) (hd : Py.dep α + 1 ≤ 64) (ha : PD X Φ a y) (hb : PD X Φ b xs) (hm : behindInMarks .NotIn b = false := by rfl) : PV X Φ (.Compare a [.NotIn] [b] pos) (!decide (y ∈ xs)) := .mk fun H0 σ F H Q s sl q =>
  wE_of (pe_cmpR (op_notInD hu) peW peW hm) (ha H0 σ F H _ s sl fun v F1 H1 g1 p1 => hb H0 σ F1 H1 _ g1.s (sl.gr g1) fun w F2 H2 g2 p2 =>
    ⟨enc y, xs.map enc, dp_mono (g2.f.trans g2.s) _ _ p1, dp_mono g2.s _ _ p2, shaped_of (by omega) _, shaped_of (α := List α) hd xs, by
      have e : ((xs.map enc).any fun z => PyData.eqv z (enc y)) = decide (y ∈ xs) := by
        rw [List.any_map]
        by_cases h : y ∈ xs
        · rw [decide_eq_true h]
          exact List.any_eq_true.mpr ⟨y, h, (PyQ.eqv y y).mpr rfl⟩
        · rw [decide_eq_false h]
          refine List.any_eq_false.mpr fun z hz w => h ?_
          rw [← (PyQ.eqv z y).mp w]; exact hz
      rw [e]; exact q _ _ _ (g1.trans g2) (.bl _)⟩)
/-- x is None, x is not None -/
theorem non_iff {α : Type} [Py α] (hn : ∀ y : α, enc y ≠ .none) {K : Fg} {F : Hp} {v : V} {o : Option α} (h : Dq K F v (enc o)) : decide (v = .non) = o.isNone := by
  cases o with
  | none => cases h; rfl
  | some y =>
    have h' : Dq K F v (enc y) := h
    refine decide_eq_false fun z => ?_
    subst z
    have : enc y = .none := by
      generalize enc y = d at h'
      cases h'; rfl
    exact hn y this
theorem v_isN {α : Type} [Py α] {o : Option α} {q1 : Pos} (hn : ∀ y : α, enc y ≠ .none) (ha : PV X Φ a o) : PV X Φ (.Compare a [.Is] [.Constant .none 0 q1] pos) o.isNone := .mk fun H0 σ F H Q s sl q =>
  wE_of (pe_cmpR op_isN peW pe_non (nomark _)) (ha H0 σ F H _ s sl fun v F1 H1 g1 p1 => ⟨rfl, by rw [non_iff hn p1]; exact q _ _ _ g1 (.bl _)⟩)
theorem v_notN {α : Type} [Py α] {o : Option α} {q1 : Pos} (hn : ∀ y : α, enc y ≠ .none) (ha : PV X Φ a o) : PV X Φ (.Compare a [.IsNot] [.Constant .none 0 q1] pos) o.isSome := .mk fun H0 σ F H Q s sl q =>
  wE_of (pe_cmpR op_notN peW pe_non (nomark _)) (ha H0 σ F H _ s sl fun v F1 H1 g1 p1 => ⟨rfl, by rw [non_iff hn p1, Option.not_isNone]; exact q _ _ _ g1 (.bl _)⟩)
end
end GL

set_option Elab.async false
set_option linter.all false
set_option maxRecDepth 100000
set_option maxHeartbeats 4000000
namespace GL
open PySem L2
open Evl (Ex ex_l ex_t)
/-! ### what a def hands back -/
inductive RS where
  | val (P : MP)
  | new (Ps : List MP)
  | err (C : Value) (P : Option Addr → Hp → Prop)
/-- W: what is wanted of an error -/
def RS.sat (F0 H0 : Hp) (Q : VK) (W : XK) : RS → Prop
  | .val P => ∀ v F H, Gr F0 H0 F H → P.p F v → Q v H
  | .new Ps => ∀ a vs F H, Gr F0 H0 F H → H0 a = none → F a = none → H a = some (.lst vs) → AllP Ps F vs → Q (.ref a) H
  | .err C P => ∀ d F H, Gr F0 H0 F H → P d H → W C d H
def spG {A : Type} (argP : A → List MP) (pre : A → Prop) (res : A → RS) : Sp := fun vs H Q E => ∃ (x : A) (F : Hp), Ex F H ∧ AllP (argP x) F vs ∧ pre x ∧ (res x).sat F H Q E
structure FnG (P : Program) (w : World) (K : Fg) (mg : Str → Option Value) (base : Heap) (CX : CXT) (k : Nat) (x : Str) (sp : Sp) : Prop where
  ex : ∃ (f : Addr) (fd : FuncData) (ps : List Str), FnOk P w K mg base CX k f fd ps sp ∧ mg x = some (.ref f) ∧ PySem.W.keepIn K (.ref f) = true ∧ Binds K fd ps []
theorem FnG.mono {P : Program} {w : World} {K : Fg} {mg : Str → Option Value} {base : Heap} {CX : CXT} {j k : Nat} {x : Str} {sp : Sp} (G : FnG P w K mg base CX j x sp) (h : j ≤ k) : FnG P w K mg base CX k x sp :=
  let ⟨f, fd, ps, a, b, c, d⟩ := G.ex
  ⟨f, fd, ps, a.mono h, b, c, d⟩
/-! ### what a loop takes -/
/-- J gives, from any settled part F on, the items of which Ps says -/
structure Src (J : It) (F : Hp) (Ps : List MP) : Prop where
  go : ∀ (i : Nat) (P : MP) (F' H' : Hp), Ps[i]? = some P → Ex F F' → Ex F' H' → J.go i H' ∧ ∀ v H'', J.yld i H' v H'' → ∃ F'', Gr F' H' F'' H'' ∧ P.p F'' v
  stop : ∀ (F' H' : Hp), Ex F F' → Ex F' H' → J.stop Ps.length H'
structure PIv (X : Cx) (Φ : List SD) (tg iter : Expr) (Ps : List MP) : Prop where
  run : ∀ (H0 : Hp) (σ : St) (F H : Hp) (R : It → Hp → Prop), Ex F H → Sl H0 Φ σ F H → (∀ J F' H', Gr F H F' H' → Src J F' Ps → R J H') → wI X tg iter σ H R
instance {X : Cx} {Φ : List SD} {tg iter : Expr} {Ps : List MP} : CoeFun (PIv X Φ tg iter Ps) (fun _ => ∀ (H0 : Hp) (σ : St) (F H : Hp) (R : It → Hp → Prop), Ex F H → Sl H0 Φ σ F H → (∀ J F' H', Gr F H F' H' → Src J F' Ps → R J H') → wI X tg iter σ H R) := ⟨PIv.run⟩
abbrev PIt (X : Cx) (Φ : List SD) (tg iter : Expr) {α : Type} [Py α] (xs : List α) : Prop := PIv X Φ tg iter (xs.map fun x => py X.K (enc x))
def setAll (Φ : List SD) : List (Nat × SD) → List SD
  | [] => Φ
  | (i, d) :: r => setAll (Φ.set i d) r
/-- a target: of a value of P its slots are us -/
structure PGv (X : Cx) (tg : Expr) (P : MP) (us : List (Nat × SD)) : Prop where
  run : ∀ (H0 : Hp) (Φ : List SD) (σ : St) (F H : Hp) (v : V) (Q : St → Hp → Prop), Ex F H → Sl H0 Φ σ F H → P.p F v → (∀ σ', Sl H0 (setAll Φ us) σ' F H → (∀ (j : Nat), (∀ u ∈ us, u.1 ≠ j) → σ'[j]? = σ[j]?) → Q σ' H) → wG X tg v σ H Q
instance {X : Cx} {tg : Expr} {P : MP} {us : List (Nat × SD)} : CoeFun (PGv X tg P us) (fun _ => ∀ (H0 : Hp) (Φ : List SD) (σ : St) (F H : Hp) (v : V) (Q : St → Hp → Prop), Ex F H → Sl H0 Φ σ F H → P.p F v → (∀ σ', Sl H0 (setAll Φ us) σ' F H → (∀ (j : Nat), (∀ u ∈ us, u.1 ≠ j) → σ'[j]? = σ[j]?) → Q σ' H) → wG X tg v σ H Q) := ⟨PGv.run⟩
abbrev PGt (X : Cx) (tg : Expr) {α : Type} [Py α] (x : α) (us : List (Nat × SD)) : Prop := PGv X tg (py X.K (enc x)) us
section
variable {X : Cx} {Φ : List SD} {a b c e : Expr} {es : List Expr} {pos p p2 : Pos} {P : MP} {Ps Qs : List MP} {i j k : Int} {tg : Expr}
/-! ### a def called -/
theorem wE_call {x : Str} {CX : CXT} {n : Nat} {sp : Sp} (G : FnG X.prog X.w X.K X.mg X.base CX n x sp) (hr : Room n X.A) (hx : Passes CX X E0) (hg : Gl X x) (hd : (x == ("__debug__" : Str)) = false) (hst : (e :: es).all nst = true)
    {σ : St} {H : Hp} {Q : VK} (h : wA X (e :: es) σ H fun vs H1 => sp vs H1 Q E0) : wE X (.Call (.Name x p) (e :: es) [] pos) σ H Q := by
  obtain ⟨f, fd, ps, h1, h2, h3, h4⟩ := G.ex
  have h2' := hst
  rw [List.all_cons, Bool.and_eq_true] at h2'
  refine wE_of (pe_call h1 hr hg h2 h3 h4 .nil hx paW hd (star_cons h2'.1) (star_plain h2'.2)) ?_
  show wA X (e :: es) σ H fun vs H1 => sp (vs ++ []) H1 Q E0
  have ee : (fun (vs : List V) (H1 : Hp) => sp (vs ++ []) H1 Q E0) = fun vs H1 => sp vs H1 Q E0 := by funext vs H1; rw [List.append_nil]
  rw [ee]; exact h
theorem wE_call0 {x : Str} {CX : CXT} {n : Nat} {sp : Sp} (G : FnG X.prog X.w X.K X.mg X.base CX n x sp) (hr : Room n X.A) (hx : Passes CX X E0) (hg : Gl X x) (hd : (x == ("__debug__" : Str)) = false)
    {σ : St} {H : Hp} {Q : VK} (h : sp [] H Q E0) : wE X (.Call (.Name x p) [] [] pos) σ H Q := by
  obtain ⟨f, fd, ps, h1, h2, h3, h4⟩ := G.ex
  exact wE_of (pe_call0 h1 hr hg h2 h3 h4 .nil hx hd) h
theorem v_call {A : Type} {argP : A → List MP} {pre : A → Prop} {res : A → RS} {x : Str} {CX : CXT} {n : Nat} (G : FnG X.prog X.w X.K X.mg X.base CX n x (spG argP pre res)) (hr : Room n X.A) (hx : Passes CX X E0) (z : A) (hp : pre z) (hv : res z = .val P)
    (ha : PAs X Φ (e :: es) (argP z)) (hg : Gl X x := by rfl) (hd : (x == ("__debug__" : Str)) = false := by decide) (hst : (e :: es).all nst = true := by rfl) : PEv X Φ (.Call (.Name x p) (e :: es) [] pos) P := .mk fun H0 σ F H Q s sl q =>
  wE_call G hr hx hg hd hst (ha H0 σ F H _ s sl fun vs F1 H1 g1 p1 => ⟨z, F1, g1.s, p1, hp, by rw [hv]; exact fun v F2 H2 g2 p2 => q v F2 H2 (g1.trans g2) p2⟩)
theorem v_callN {A : Type} {argP : A → List MP} {pre : A → Prop} {res : A → RS} {x : Str} {CX : CXT} {n : Nat} (G : FnG X.prog X.w X.K X.mg X.base CX n x (spG argP pre res)) (hr : Room n X.A) (hx : Passes CX X E0) (z : A) (hp : pre z) (hv : res z = .new Ps)
    (ha : PAs X Φ (e :: es) (argP z)) (hg : Gl X x := by rfl) (hd : (x == ("__debug__" : Str)) = false := by decide) (hst : (e :: es).all nst = true := by rfl) : PEn X Φ (.Call (.Name x p) (e :: es) [] pos) Ps := .mk fun H0 σ F H Q s sl q =>
  wE_call G hr hx hg hd hst (ha H0 σ F H _ s sl fun vs F1 H1 g1 p1 => ⟨z, F1, g1.s, p1, hp, by
    rw [hv]
    exact fun a vs F2 H2 g2 h1 h2 h3 p2 => q a vs F2 H2 (g1.trans g2) (by
      cases w : H a with
      | none => rfl
      | some u => rw [g1.h a u w] at h1; cases h1) h2 h3 p2⟩)
/-! ### sources -/
theorem i_list {α : Type} [Py α] {xs : List α} (ha : PV X Φ e xs) : PIt X Φ tg e xs := .mk fun H0 σ F H R s sl q =>
  wI_of (pi_list peW) (ha H0 σ F H _ s sl fun v F1 H1 g1 p1 => by
    obtain ⟨l, vs, rfl, h1, p2⟩ := py_lst.mp p1
    refine ⟨l, rfl, ⟨vs, SqL.of (g1.s _ _ h1)⟩, q _ F1 H1 g1 ⟨fun n P F2 H2 hp e1 e2 => ?_, fun F2 H2 e1 e2 => ⟨vs, SqL.of (e2 _ _ (e1 _ _ h1)), by rw [p2.1]; exact Nat.le_refl _⟩⟩⟩
    obtain ⟨v, hv, pv⟩ := allP_at p2 hp
    refine ⟨⟨vs, v, SqL.of (e2 _ _ (e1 _ _ h1)), hv⟩, fun u H3 y => ?_⟩
    obtain ⟨rfl, z⟩ := y
    have z2 := z vs (SqL.of (e2 _ _ (e1 _ _ h1)))
    rw [hv] at z2; cases z2
    exact ⟨F2, Gr.refl e2, P.mono _ _ _ e1 pv⟩)
theorem i_scr {ns : List Int} (ha : PEv X Φ e (scrP X.K ns)) : PIt X Φ tg e ns := .mk fun H0 σ F H R s sl q =>
  wI_of (pi_list peW) (ha H0 σ F H _ s sl fun v F1 H1 g1 p1 => by
    obtain ⟨l, rfl, h1⟩ := p1
    have p2 : AllP (ns.map fun x => py X.K (enc x)) F1 (ns.map V.int) := ints_allP
    refine ⟨l, rfl, ⟨_, ex_l g1.s h1⟩, q _ F1 H1 g1 ⟨fun n P F2 H2 hp e1 e2 => ?_, fun F2 H2 e1 e2 => ⟨_, ex_l (e1.trans e2) h1, by simp⟩⟩⟩
    obtain ⟨v, hv, pv⟩ := allP_at p2 hp
    refine ⟨⟨_, v, ex_l (e1.trans e2) h1, hv⟩, fun u H3 y => ?_⟩
    obtain ⟨rfl, z⟩ := y
    have z2 := z _ (ex_l (e1.trans e2) h1)
    rw [hv] at z2; cases z2
    exact ⟨F2, Gr.refl e2, P.mono _ _ _ e1 pv⟩)
theorem i_tup {α : Type} [Py α] {xs : Tup α} (ha : PV X Φ e xs) : PIt X Φ tg e xs.l := .mk fun H0 σ F H R s sl q =>
  wI_of (pi_tup peW) (ha H0 σ F H _ s sl fun v F1 H1 g1 p1 => by
    obtain ⟨l, vs, rfl, h1, p2⟩ := py_tup.mp p1
    refine ⟨l, rfl, ⟨vs, ex_t g1.s h1⟩, q _ F1 H1 g1 ⟨fun n P F2 H2 hp e1 e2 => ?_, fun F2 H2 e1 e2 => ⟨vs, ex_t (e1.trans e2) h1, by rw [p2.1]; exact Nat.le_refl _⟩⟩⟩
    obtain ⟨v, hv, pv⟩ := allP_at p2 hp
    refine ⟨⟨vs, v, ex_t (e1.trans e2) h1, hv⟩, fun u H3 y => ?_⟩
    obtain ⟨rfl, z⟩ := y
    have z2 := z vs (ex_t (e1.trans e2) h1)
    rw [hv] at z2; cases z2
    exact ⟨F2, Gr.refl e2, P.mono _ _ _ e1 pv⟩)
/-- lo, lo + 1, .. below hi -/
def rng (lo hi : Int) : List Int := (List.range (hi - lo).toNat).map fun (n : Nat) => lo + (n : Int)
theorem rng_length (lo hi : Int) : (rng lo hi).length = (hi - lo).toNat := by simp [rng]
theorem rng_get {K : Fg} {lo hi : Int} {n : Nat} {P : MP} (h : ((rng lo hi).map fun x => py K (enc x))[n]? = some P) : n < (hi - lo).toNat ∧ P = py K (.int (lo + (n : Int))) := by
  have hn := (List.getElem?_eq_some_iff.mp h).1
  rw [List.length_map, rng_length] at hn
  refine ⟨hn, ?_⟩
  simp only [rng, List.map_map, List.getElem?_map, List.getElem?_range hn, Option.map_some, Option.some.injEq] at h
  exact h.symm
theorem src_range {K : Fg} {F : Hp} {lo hi : Int} : Src (Itr lo (hi - lo).toNat) F ((rng lo hi).map fun x => py K (enc x)) := by
  refine ⟨fun n P F2 H2 hp e1 e2 => ?_, fun F2 H2 _ _ => ?_⟩
  · obtain ⟨hn, rfl⟩ := rng_get hp
    refine ⟨hn, fun v H3 y => ?_⟩
    obtain ⟨rfl, rfl⟩ := y
    exact ⟨F2, Gr.refl e2, .int _⟩
  · show (hi - lo).toNat ≤ _
    rw [List.length_map, rng_length]; exact Nat.le_refl _
def small62 (i : Int) : Prop := -(2 ^ 62) ≤ i ∧ i < 2 ^ 62
theorem i_range1 (B : Blt X.mg) (ha : PV X Φ a i) (hi : small62 i) (hg : Gl X "range" := by rfl) (h1 : nst a = true := by rfl) : PIt X Φ tg (.Call (.Name "range" p) [a] [] pos) (rng 0 i) := .mk fun H0 σ F H R s sl q =>
  wI_of (pi_range1 hg B.range paW (by rw [star_cons h1]; rfl)) (wA_one h1 (ha H0 σ F H _ s sl fun v F1 H1 g1 p1 => by
    cases p1
    refine ⟨i, rfl, hi.1, hi.2, q _ F1 H1 g1 ?_⟩
    have := src_range (K := X.K) (F := F1) (lo := 0) (hi := i)
    rw [Int.sub_zero] at this
    exact this))
theorem i_range2 (B : Blt X.mg) (ha : PV X Φ a i) (hb : PV X Φ b j) (hi : small62 i) (hj : small62 j) (hg : Gl X "range" := by rfl) (h1 : nst a = true := by rfl) (h2 : nst b = true := by rfl) : PIt X Φ tg (.Call (.Name "range" p) [a, b] [] pos) (rng i j) := .mk fun H0 σ F H R s sl q =>
  wI_of (pi_range2 hg B.range paW (by rw [star_cons h1, star_cons h2]; rfl) (by rw [star_cons h2]; rfl)) (wA_two s sl ha hb h1 h2 fun F1 H1 g1 => ⟨i, j, rfl, ⟨hi.1, hi.2, hj.1, hj.2⟩, q _ F1 H1 g1 src_range⟩)
/-- the pairs of enumerate, of zip -/
def enumL {α : Type} (xs : List α) : List (Int × α) := (rng 0 xs.length).zip xs
theorem rng_at {lo hi : Int} {n : Nat} (h : n < (hi - lo).toNat) : (rng lo hi)[n]? = some (lo + (n : Int)) := by
  unfold rng
  rw [List.getElem?_map, List.getElem?_range h]; rfl
theorem enumL_get {α : Type} {xs : List α} {n : Nat} {x : α} (h : xs[n]? = some x) : (enumL xs)[n]? = some ((n : Int), x) := by
  have hn := (List.getElem?_eq_some_iff.mp h).1
  unfold enumL
  refine List.getElem?_zip_eq_some.mpr ⟨?_, h⟩
  rw [rng_at (by omega), Int.zero_add]
theorem enumL_length {α : Type} (xs : List α) : (enumL xs).length = xs.length := by
  unfold enumL
  rw [List.length_zip, rng_length]; omega
theorem i_enum {α : Type} [Py α] {xs : List α} {elts : List Expr} {kk : Nat} {tpos : Pos} (B : Blt X.mg) (ha : PV X Φ e xs) (hg : Gl X "enumerate" := by rfl) (h1 : nst e = true := by rfl) : PIt X Φ (.Tuple elts kk tpos) (.Call (.Name "enumerate" p) [e] [] pos) (enumL xs) := .mk fun H0 σ F H R s sl q =>
  wI_of (pi_enum hg B.enumerate paW (by rw [star_cons h1]; rfl)) (wA_one h1 (ha H0 σ F H _ s sl fun v F1 H1 g1 p1 => by
    obtain ⟨l, vs, rfl, hl, p2⟩ := py_lst.mp p1
    have e3 : vs.length = xs.length := by simpa using p2.1
    refine ⟨l, vs, rfl, SqL.of (g1.s _ _ hl), q _ F1 H1 g1 ⟨fun n P F2 H2 hp e1 e2 => ?_, fun F2 H2 e1 e2 => ⟨vs, SqL.of (e2 _ _ (e1 _ _ hl)), by simp [enumL_length, e3]⟩⟩⟩
    have hn := (List.getElem?_eq_some_iff.mp hp).1
    rw [List.length_map, enumL_length] at hn
    obtain ⟨v, hv, pv⟩ := allP_at (n := n) p2 (by rw [List.getElem?_map, List.getElem?_eq_getElem hn]; rfl)
    have eP : P = py X.K (enc ((n : Int), xs[n])) := by
      rw [List.getElem?_map, enumL_get (List.getElem?_eq_getElem hn)] at hp
      exact (Option.some.inj hp).symm
    subst eP
    refine ⟨⟨vs, v, SqL.of (e2 _ _ (e1 _ _ hl)), hv⟩, fun u H3 y => ?_⟩
    obtain ⟨T, x, rfl, hT, rfl, z⟩ := y
    have z2 := z vs (SqL.of (e2 _ _ (e1 _ _ hl)))
    rw [hv] at z2; cases z2
    exact ⟨_, Gr.new e2 hT, .tup (SqT.of upd_same) (.cons (.int _) (.cons (dq_mono (e1.trans (Gr.new (o := .tup [.int (n : Nat), v]) e2 hT).f) _ _ pv) .nil))⟩))
theorem i_zip {α β : Type} [Py α] [Py β] {xs : List α} {ys : List β} {elts : List Expr} {kk : Nat} {tpos : Pos} (B : Blt X.mg) (ha : PV X Φ a xs) (hb : PV X Φ b ys) (hg : Gl X "zip" := by rfl) (h1 : nst a = true := by rfl) (h2 : nst b = true := by rfl) :
    PIt X Φ (.Tuple elts kk tpos) (.Call (.Name "zip" p) [a, b] [] pos) (xs.zip ys) := .mk fun H0 σ F H R s sl q =>
  wI_of (pi_zip hg B.zip paW (star_cons h1) (star_plain (by simp [h2]))) (wA_of (pa_cons peW (pa_cons peW pa_nil (star_cons h2)) (star_cons h1)) (ha H0 σ F H _ s sl fun v F1 H1 g1 p1 => hb H0 σ F1 H1 _ g1.s (sl.gr g1) fun w F2 H2 g2 q1 => by
    obtain ⟨l, vs, rfl, hl, p2⟩ := py_lst.mp p1
    obtain ⟨m, ws, rfl, hm, q2⟩ := py_lst.mp q1
    have e3 : vs.length = xs.length := by simpa using p2.1
    have e4 : ws.length = ys.length := by simpa using q2.1
    have hl2 := g2.f _ _ hl
    have p3 := p2.mono g2.f
    refine ⟨l, m, vs, ws, rfl, SqL.of (g2.s _ _ hl2), SqL.of (g2.s _ _ hm), q _ F2 H2 (g1.trans g2) ⟨fun n P F3 H3 hp e1 e2 => ?_, fun F3 H3 e1 e2 => ⟨vs, ws, SqL.of (e2 _ _ (e1 _ _ hl2)), SqL.of (e2 _ _ (e1 _ _ hm)), by rw [List.length_map, List.length_zip]; omega⟩⟩⟩
    have hn := (List.getElem?_eq_some_iff.mp hp).1
    rw [List.length_map, List.length_zip] at hn
    obtain ⟨v, hv, pv⟩ := allP_at (n := n) p3 (by rw [List.getElem?_map, List.getElem?_eq_getElem (show n < xs.length by omega)]; rfl)
    obtain ⟨w, hw, pw⟩ := allP_at (n := n) q2 (by rw [List.getElem?_map, List.getElem?_eq_getElem (show n < ys.length by omega)]; rfl)
    have eP : P = py X.K (enc (xs[n]'(by omega), ys[n]'(by omega))) := by
      rw [List.getElem?_map, (List.getElem?_zip_eq_some (z := (xs[n]'(by omega), ys[n]'(by omega)))).mpr ⟨List.getElem?_eq_getElem (show n < xs.length by omega), List.getElem?_eq_getElem (show n < ys.length by omega)⟩] at hp
      exact (Option.some.inj hp).symm
    subst eP
    refine ⟨⟨vs, ws, v, w, SqL.of (e2 _ _ (e1 _ _ hl2)), SqL.of (e2 _ _ (e1 _ _ hm)), hv, hw⟩, fun u H4 y => ?_⟩
    obtain ⟨T, x, x', rfl, hT, rfl, z, z'⟩ := y
    have z2 := z vs (SqL.of (e2 _ _ (e1 _ _ hl2)))
    have z3 := z' ws (SqL.of (e2 _ _ (e1 _ _ hm)))
    rw [hv] at z2; cases z2
    rw [hw] at z3; cases z3
    have ee := e1.trans (Gr.new (o := .tup [v, w]) e2 hT).f
    exact ⟨_, Gr.new e2 hT, .tup (SqT.of upd_same) (.cons (dq_mono ee _ _ pv) (.cons (dq_mono ee _ _ pw) .nil))⟩))
theorem i_rev {α : Type} [Py α] {xs : List α} (B : Blt X.mg) (ha : PV X Φ e xs) (hg : Gl X "reversed" := by rfl) (h1 : nst e = true := by rfl) : PIt X Φ tg (.Call (.Name "reversed" p) [e] [] pos) xs.reverse := .mk fun H0 σ F H R s sl q =>
  wI_of (pi_reversed hg B.reversed paW (by rw [star_cons h1]; rfl)) (wA_one h1 (ha H0 σ F H _ s sl fun v F1 H1 g1 p1 => by
    obtain ⟨l, vs, rfl, hl, p2⟩ := py_lst.mp p1
    have e3 : vs.length = xs.length := by simpa using p2.1
    refine ⟨l, vs, rfl, SqL.of (g1.s _ _ hl), q _ F1 H1 g1 ⟨fun n P F2 H2 hp e1 e2 => ?_, fun F2 H2 e1 e2 => by show vs.length ≤ _; simp [e3]⟩⟩
    rw [List.map_reverse] at hp
    have hn := (List.getElem?_eq_some_iff.mp hp).1
    simp only [List.length_reverse, List.length_map] at hn
    rw [List.getElem?_reverse (by simpa using hn), List.length_map, ← e3] at hp
    obtain ⟨v, hv, pv⟩ := allP_at p2 hp
    refine ⟨⟨by omega, vs, v, SqL.of (e2 _ _ (e1 _ _ hl)), hv⟩, fun u H3 y => ?_⟩
    obtain ⟨rfl, z⟩ := y
    have z2 := z vs (SqL.of (e2 _ _ (e1 _ _ hl)))
    rw [hv] at z2; cases z2
    exact ⟨F2, Gr.refl e2, P.mono _ _ _ e1 pv⟩))
theorem i_revR (B : Blt X.mg) (ha : PV X Φ a i) (hi : small62 i) (hg : Gl X "range" := by rfl) (hg2 : Gl X "reversed" := by rfl) (h1 : nst a = true := by rfl) : PIt X Φ tg (.Call (.Name "reversed" p) [.Call (.Name "range" p2) [a] [] pos] [] pos') (rng 0 i).reverse := .mk fun H0 σ F H R s sl q =>
  wI_of (pi_revR hg2 B.reversed (prg_1 hg B.range peW (by rw [star_cons h1])) (star_cons rfl)) (ha H0 σ F H _ s sl fun v F1 H1 g1 p1 => by
    cases p1
    refine ⟨i, rfl, by decide, by decide, hi.1, hi.2, q _ F1 H1 g1 ⟨fun n P F2 H2 hp e1 e2 => ?_, fun F2 H2 e1 e2 => by show (i - 0).toNat ≤ _; simp [rng_length]⟩⟩
    rw [List.map_reverse] at hp
    have hn := (List.getElem?_eq_some_iff.mp hp).1
    simp only [List.length_reverse, List.length_map, rng_length] at hn
    rw [List.getElem?_reverse (by simpa [rng_length] using hn), List.length_map, rng_length] at hp
    obtain ⟨_, rfl⟩ := rng_get hp
    refine ⟨hn, fun v H3 y => ?_⟩
    obtain ⟨rfl, rfl⟩ := y
    refine ⟨F2, Gr.refl e2, ?_⟩
    have ei : (0 : Int) + ((((i - 0).toNat : Nat) : Int)) - 1 + ((n : Nat) : Int) * (-1) = 0 + (((i - 0).toNat - 1 - n : Nat) : Int) := by omega
    rw [ei]; exact .int _)
/-! ### targets -/
theorem g_name (n : Nat) {x : Str} (hN : X.N.Nodup) (hi : X.N[n]? = some x := by rfl) (hx : Loc X.env.scope x := by first | exact Or.inl rfl | exact Or.inr rfl) (hf : X.fn x = true ∨ X.env.scope.names.lookup x = some .local := by first | exact .inl rfl | exact .inr rfl) : PGv X (.Name x pos) P [(n, .im P)] :=
  .mk fun H0 Φ σ F H v Q s sl hp q => wG_of (pg_name hN hi hx hf) (q _ (sl.set ⟨v, rfl, hp⟩ rfl) fun j hj => List.getElem?_set_ne (hj _ (List.mem_singleton.mpr rfl)))
/-- several targets, one after another -/
def wGs (X : Cx) (ts : List Expr) : TGs := fun vs σ H Q => ∀ pins s us, Inv X pins σ H s → Vals vs us → wpAny (model X.prog X.w) X.A (assignInOrder ((assignEach ts X.env).map (·.2)) us) (fun _ s' => ∃ σ' H', Inv X pins σ' H' s' ∧ Q σ' H') X.xe s
theorem pgsW {ts : List Expr} : PGs X ts (wGs X ts) := ⟨fun pins s _ _ _ us _ I r h => h pins s us I r⟩
theorem wGs_of {ts : List Expr} {t : TGs} {vs : List V} {σ : St} {H : Hp} {Q : St → Hp → Prop} (p : PGs X ts t) (h : t vs σ H Q) : wGs X ts vs σ H Q := fun pins s us I r => p.run pins s σ H vs us Q I r h
structure PGsv (X : Cx) (ts : List Expr) (Ps : List MP) (us : List (Nat × SD)) : Prop where
  run : ∀ (H0 : Hp) (Φ : List SD) (σ : St) (F H : Hp) (vs : List V) (Q : St → Hp → Prop), Ex F H → Sl H0 Φ σ F H → AllP Ps F vs → (∀ σ', Sl H0 (setAll Φ us) σ' F H → (∀ (j : Nat), (∀ u ∈ us, u.1 ≠ j) → σ'[j]? = σ[j]?) → Q σ' H) → wGs X ts vs σ H Q
instance {X : Cx} {ts : List Expr} {Ps : List MP} {us : List (Nat × SD)} : CoeFun (PGsv X ts Ps us) (fun _ => ∀ (H0 : Hp) (Φ : List SD) (σ : St) (F H : Hp) (vs : List V) (Q : St → Hp → Prop), Ex F H → Sl H0 Φ σ F H → AllP Ps F vs → (∀ σ', Sl H0 (setAll Φ us) σ' F H → (∀ (j : Nat), (∀ u ∈ us, u.1 ≠ j) → σ'[j]? = σ[j]?) → Q σ' H) → wGs X ts vs σ H Q) := ⟨PGsv.run⟩
def ntg : Expr → Bool
  | .Starred .. => false
  | _ => true
theorem each_cons {e : Expr} {es : List Expr} {env : Env} (h : ntg e = true) : (assignEach (e :: es) env).map (·.2) = assign e env :: (assignEach es env).map (·.2) := by
  cases e with
  | Starred => cases h
  | _ => rfl
theorem each_len {env : Env} : ∀ {es : List Expr}, es.all ntg = true → (assignEach es env).length = es.length ∧ (assignEach es env).findIdx? (·.1) = none
  | [], _ => ⟨rfl, rfl⟩
  | e :: es, h => by
    rw [List.all_cons, Bool.and_eq_true] at h
    obtain ⟨h1, h2⟩ := each_len (env := env) h.2
    have e3 : assignEach (e :: es) env = (false, assign e env) :: assignEach es env := by
      cases e with
      | Starred => cases h.1
      | _ => rfl
    rw [e3]
    refine ⟨by simp [h1], ?_⟩
    rw [List.findIdx?_cons]
    simp [h2]
theorem gs_nil : PGsv X [] [] [] := .mk fun H0 Φ σ F H vs Q s sl hp q => wGs_of pgs_nil ⟨hp.inv0, q σ sl fun _ _ => rfl⟩
theorem gs_cons {us ws : List (Nat × SD)} (h1 : PGv X e P us) (h2 : PGsv X es Ps ws) (hs : ntg e = true := by rfl) (hu : us.map (·.1) = us.map (·.1) := by rfl) : PGsv X (e :: es) (P :: Ps) (us ++ ws) := .mk fun H0 Φ σ F H vs Q s sl hp q => by
  obtain ⟨v, ws', rfl, h3, h4⟩ := hp.inv
  refine wGs_of (pgs_cons pgW pgsW (each_cons hs)) ⟨v, ws', rfl, h1 H0 Φ σ F H v _ s sl h3 fun σ1 sl1 k1 => h2 H0 (setAll Φ us) σ1 F H ws' _ s sl1 h4 fun σ2 sl2 k2 => q σ2 ?_ fun j hj => ?_⟩
  · have e3 : ∀ (us ws : List (Nat × SD)) (Φ : List SD), setAll Φ (us ++ ws) = setAll (setAll Φ us) ws := by
      intro us
      induction us with
      | nil => intro ws Φ; rfl
      | cons u us ih => intro ws Φ; exact ih ws (Φ.set u.1 u.2)
    rw [e3]; exact sl2
  · rw [k2 j fun u hu => hj u (List.mem_append_right _ hu), k1 j fun u hu => hj u (List.mem_append_left _ hu)]
theorem g_tupP {us : List (Nat × SD)} {kk : Nat} (hc : X.calm = true) (h : PGsv X es Ps us) (hs : es.all ntg = true := by rfl) (hl : Ps.length = es.length := by rfl) : PGv X (.Tuple es kk pos) (tupP X.K Ps) us := .mk fun H0 Φ σ F H v Q s sl hp q => by
  obtain ⟨l, vs, rfl, h1, h2⟩ := hp
  obtain ⟨h3, h4⟩ := each_len (env := X.env) hs
  exact wG_of (pg_tup hc pgsW h3 h4) ⟨l, vs, rfl, ex_t s h1, by rw [h2.1, hl], h H0 Φ σ F H vs Q s sl h2 q⟩
theorem g_tup {us : List (Nat × SD)} {kk : Nat} {ds : List PyData} (hc : X.calm = true) (h : PGsv X es (ds.map (py X.K)) us) (hs : es.all ntg = true := by rfl) (hl : (ds.map (py X.K)).length = es.length := by rfl) : PGv X (.Tuple es kk pos) (py X.K (.tuple ds)) us := .mk fun H0 Φ σ F H v Q s sl hp q =>
  g_tupP hc h hs hl H0 Φ σ F H v Q s sl (py_tuple.mp hp) q
end
end GL

set_option Elab.async false
set_option linter.all false
set_option maxRecDepth 100000
set_option maxHeartbeats 4000000
namespace GL
open PySem L2
open Evl (Ex ex_l ex_t)
/-! ### comprehensions -/
def wipeS (Φ : List SD) : List Nat → List SD
  | [] => Φ
  | v :: vs => (wipeS Φ vs).set v .un
theorem Sl.wipe {H0 F H : Hp} {Φ : List SD} {σ : St} (h : Sl H0 Φ σ F H) : ∀ vs : List Nat, Sl H0 (wipeS Φ vs) (wipe σ vs) F H
  | [] => h
  | v :: vs => by
    have := (Sl.wipe h vs).set (i := v) (d := .un) (o := none) trivial rfl
    exact this
theorem wipe_out {σ : St} {j : Nat} : ∀ {vs : List Nat}, j ∉ vs → (wipe σ vs)[j]? = σ[j]?
  | [], _ => rfl
  | v :: vs, h => by
    unfold L2.wipe
    rw [List.getElem?_set_ne (fun z => h (by simp [z]))]
    exact wipe_out fun z => h (by simp [z])
theorem wipe_in {σ : St} {j : Nat} : ∀ {vs : List Nat}, j ∈ vs → j < σ.length → (wipe σ vs)[j]? = some none
  | [], h, _ => by simp at h
  | v :: vs, h, hl => by
    unfold L2.wipe
    by_cases q : v = j
    · subst q
      rw [List.getElem?_set_self (by rw [wipe_length]; exact hl)]
    · rw [List.getElem?_set_ne q]
      exact wipe_in (by
        rcases List.mem_cons.mp h with z | z
        · exact absurd z.symm q
        · exact z) hl
theorem wipe_eq {σ σ2 : St} {vs : List Nat} (hl : σ2.length = σ.length) (h : ∀ j, j ∉ vs → σ2[j]? = (wipe σ vs)[j]?) : wipe σ2 vs = wipe σ vs := by
  apply List.ext_getElem?
  intro j
  by_cases q : j ∈ vs
  · by_cases hj : j < σ.length
    · rw [wipe_in q hj, wipe_in q (by omega)]
    · rw [List.getElem?_eq_none (by rw [wipe_length]; omega), List.getElem?_eq_none (by rw [wipe_length]; omega)]
  · rw [wipe_out q, h j q]
section
variable {X : Cx} {Φ : List SD} {a b c e : Expr} {es : List Expr} {pos p p2 : Pos} {P : MP} {Ps Qs : List MP} {i j k : Int} {tg iter elt : Expr} {scope : Scope} {own : List (Str × Nat)}
def Blk (X : Cx) (scope : Scope) (Y : Cx) : Prop := ∃ (s : Shared) (H : Hp) (C : Addr) (cl : List (Str × Addr)) (fp : List Addr), Y = X.blk s H scope (compEnvC scope cl C X.env) fp
/-- the block's readings -/
def gB (X : Cx) (scope : Scope) (tg : Expr) : TG := fun v σ H Q => ∀ (s : Shared) (H' : Hp) (C : Addr) (cl : List (Str × Addr)) (fp : List Addr), wG (X.blk s H' scope (compEnvC scope cl C X.env) fp) tg v σ H Q
def eB (X : Cx) (scope : Scope) (e : Expr) : TE := fun σ H Q => ∀ (s : Shared) (H' : Hp) (C : Addr) (cl : List (Str × Addr)) (fp : List Addr), wE (X.blk s H' scope (compEnvC scope cl C X.env) fp) e σ H Q
def tB' (X : Cx) (scope : Scope) (e : Expr) : TT := fun σ H Q => ∀ (s : Shared) (H' : Hp) (C : Addr) (cl : List (Str × Addr)) (fp : List Addr), wT (X.blk s H' scope (compEnvC scope cl C X.env) fp) e σ H Q
theorem pgB (s : Shared) (H : Hp) (C : Addr) (cl : List (Str × Addr)) (fp : List Addr) : PG (X.blk s H scope (compEnvC scope cl C X.env) fp) tg (gB X scope tg) := ⟨fun pins s' _ _ _ u _ I r h => h s H C cl fp pins s' u I r⟩
theorem peB (s : Shared) (H : Hp) (C : Addr) (cl : List (Str × Addr)) (fp : List Addr) : PE (X.blk s H scope (compEnvC scope cl C X.env) fp) e (eB X scope e) := ⟨fun pins s' _ _ _ I h => h s H C cl fp pins s' I⟩
theorem ptB (s : Shared) (H : Hp) (C : Addr) (cl : List (Str × Addr)) (fp : List Addr) : PT (X.blk s H scope (compEnvC scope cl C X.env) fp) e (tB' X scope e) := ⟨fun pins s' _ _ _ I h => h s H C cl fp pins s' I⟩
/-- a comprehension's reading, its test at tt -/
theorem lc_ok {α β : Type} [Py α] [Py β] {xs : List α} {cnd : α → Bool} {f : α → β} {us : α → List (Nat × SD)} {tt : TT} {vs : List Nat} {H0 : Hp} {σ : St} {F H : Hp} {Q : VK} (s : Ex F H) (sl : Sl H0 Φ σ F H)
    (hi : PIt X Φ tg iter xs) (hz : xs.length ≤ sizeLine)
    (hg : ∀ x, ∀ (s : Shared) (H : Hp) (C : Addr) (cl : List (Str × Addr)) (fp : List Addr), PGt (X.blk s H scope (compEnvC scope cl C X.env) fp) tg x (us x))
    (hu : ∀ x, ∀ u ∈ us x, u.1 ∈ vs)
    (ht : ∀ x, x ∈ xs → ∀ (σ' : St) (F' H' : Hp) (R : Bool → Hp → Prop), Ex F' H' → Sl H0 (setAll (wipeS Φ vs) (us x)) σ' F' H' → (∀ F'' H'', Gr F' H' F'' H'' → R (cnd x) H'') → tt σ' H' R)
    (he : ∀ x, x ∈ xs → cnd x = true → ∀ (s : Shared) (H : Hp) (C : Addr) (cl : List (Str × Addr)) (fp : List Addr), PEv (X.blk s H scope (compEnvC scope cl C X.env) fp) (setAll (wipeS Φ vs) (us x)) elt (py X.K (enc (f x))))
    (q : ∀ a vs F' H', Gr F H F' H' → H a = none → F' a = none → H' a = some (.lst vs) → AllP (((xs.filter cnd).map f).map fun x => py X.K (enc x)) F' vs → Q (.ref a) H') :
    tLc (wI X tg iter) (gB X scope tg) tt (eB X scope elt) vs σ H Q := by
  refine hi H0 σ F H _ s sl fun J F1 H1 g1 src D hD => ?_
  have fD := (fresh_of g1 hD)
  have hlen : (xs.map fun x => py X.K (enc x)).length = xs.length := List.length_map _
  refine ⟨fun n m H' => m = xs.length - n ∧ n ≤ xs.length ∧ ∃ F' acc, Gr F1 H1 F' H' ∧ F' D = none ∧ H' D = some (.lst acc) ∧ acc.length ≤ n ∧ AllP ((((xs.take n).filter cnd).map f).map fun x => py X.K (enc x)) F' acc,
    ⟨xs.length, by simp, Nat.zero_le _, F1, [], Gr.own g1.s hD, fD.1, upd_same, Nat.le_refl _, by simpa using AllP.nil⟩, ?_⟩
  rintro n m H' ⟨rfl, hn, F', acc, g, fd, hd, hal, hacc⟩
  by_cases hlt : n < xs.length
  · have hx : xs[n]? = some xs[n] := List.getElem?_eq_getElem hlt
    obtain ⟨go, yl⟩ := src.go n _ F' H' (by rw [List.getElem?_map, hx]; rfl) g.f g.s
    refine .inr ⟨go, fun H2 => (fun n m H' => m = xs.length - n ∧ n ≤ xs.length ∧ ∃ F' acc, Gr F1 H1 F' H' ∧ F' D = none ∧ H' D = some (.lst acc) ∧ acc.length ≤ n ∧ AllP ((((xs.take n).filter cnd).map f).map fun x => py X.K (enc x)) F' acc) (n + 1) (xs.length - (n + 1)) H2, fun H2 h => ⟨_, by omega, h⟩, fun v H2 y => ?_⟩
    obtain ⟨F2, g2, pv⟩ := yl v H2 y
    have hmem : xs[n] ∈ xs := List.getElem_mem hlt
    have tk : xs.take (n + 1) = xs.take n ++ [xs[n]] := by rw [List.take_succ, hx]; rfl
    have sl2 : Sl H0 (wipeS Φ vs) (wipe σ vs) F2 H2 := ((sl.gr g1).gr (g.trans g2)).wipe vs
    intro s' Hs C cl fp
    refine hg xs[n] s' Hs C cl fp H0 (wipeS Φ vs) (wipe σ vs) F2 H2 v _ g2.s sl2 pv fun σ2 sl3 keep => ⟨wipe_eq ?_ fun j hj => keep j fun u hu' z => hj (by rw [← z]; exact hu _ u hu'), ?_⟩
    · have l1 := sl3.len
      have l2 : ∀ (us : List (Nat × SD)) (Φ : List SD), (setAll Φ us).length = Φ.length := by
        intro us
        induction us with
        | nil => intro Φ; rfl
        | cons u us ih => intro Φ; exact (ih _).trans (List.length_set)
      rw [l2] at l1
      have l3 := sl2.len
      rw [wipe_length] at l3
      omega
    · refine ht xs[n] hmem σ2 F2 H2 _ g2.s sl3 fun F3 H3 g3 => ?_
      have fd3 : F3 D = none := g3.n D (g2.n D fd (ne_none hd)) (ne_none (g2.h _ _ hd))
      have hd3 : H3 D = some (.lst acc) := g3.h _ _ (g2.h _ _ hd)
      cases hc : cnd xs[n] with
      | false =>
        rw [if_neg (by simp)]
        refine ⟨rfl, by omega, F3, acc, (g.trans g2).trans g3, fd3, hd3, by omega, ?_⟩
        rw [tk, List.filter_append, List.filter_cons, hc]
        simpa using hacc.mono (g2.f.trans g3.f)
      | true =>
        rw [if_pos rfl]
        intro s'' Hs' C' cl' fp'
        refine he xs[n] hmem hc s'' Hs' C' cl' fp' H0 σ2 F3 H3 _ g3.s (sl3.gr g3) fun y F4 H4 g4 py4 => ?_
        have fd4 : F4 D = none := g4.n D fd3 (ne_none hd3)
        have hd4 : H4 D = some (.lst acc) := g4.h _ _ hd3
        have gg := ((g.trans g2).trans g3).trans g4
        refine ⟨acc, hd4, by omega, rfl, by omega, F4, acc ++ [y], ⟨gg.f, fun b o z => ?_, fun b o z => ?_, fun b z1 z2 => gg.n b z1 z2⟩, fd4, upd_same, by simp; omega, ?_⟩
        · rw [upd_ne (ne_of_none z hD)]; exact gg.h b o z
        · rw [upd_ne (ne_of_none z fd4)]; exact gg.s b o z
        · rw [tk, List.filter_append, List.filter_cons, hc]
          simp only [List.filter_nil, if_true, List.map_append, List.map_cons, List.map_nil]
          exact (hacc.mono ((g2.f.trans g3.f).trans g4.f)).snoc py4
  · have e : n = xs.length := by omega
    subst e
    refine .inl ⟨by have := src.stop F' H' g.f g.s; rw [hlen] at this; exact this, ?_⟩
    rw [List.take_length] at hacc
    exact q D acc F' H' (g1.trans g) fD.2 fd hd hacc
variable {x1 : Nat}
theorem filter_true {α : Type} (xs : List α) : xs.filter (fun _ => true) = xs := by simp
theorem v_lc {α β : Type} [Py α] [Py β] {xs : List α} {f : α → β} (own : List (Str × Nat)) (us : α → List (Nat × SD)) (hc : X.calm = true) (hN : X.N.Nodup) (ok : BlkOk X.N X.env.scope scope own) (hi : PIt X Φ tg iter xs) (hz : xs.length ≤ sizeLine)
    (hg : ∀ x, ∀ (s : Shared) (H : Hp) (C : Addr) (cl : List (Str × Addr)) (fp : List Addr), PGt (X.blk s H scope (compEnvC scope cl C X.env) fp) tg x (us x)) (hu : ∀ x, ∀ u ∈ us x, u.1 ∈ own.map (·.2))
    (he : ∀ x, x ∈ xs → ∀ (s : Shared) (H : Hp) (C : Addr) (cl : List (Str × Addr)) (fp : List Addr), PEv (X.blk s H scope (compEnvC scope cl C X.env) fp) (setAll (wipeS Φ (own.map (·.2))) (us x)) elt (py X.K (enc (f x))))
    (hs : ∀ x, foldedSetIterable iter X.env x = pure x := by intro _; rfl) : PN X Φ (.ListComp elt [⟨tg, iter, [], 0⟩] scope pos) (xs.map f) := .mk fun H0 σ F H Q s sl q =>
  wE_of (pe_lc (own := own) hc hN piW ok pgB (fun _ _ _ _ _ => pts_nil) peB hs) (lc_ok (cnd := fun _ => true) s sl hi hz hg hu (fun x hx σ' F' H' R s' _ r => r F' H' (Gr.refl s')) (fun x hx _ => he x hx) (by rw [filter_true]; exact q))
theorem v_lcIf {α β : Type} [Py α] [Py β] {xs : List α} {cnd : α → Bool} {f : α → β} (own : List (Str × Nat)) (us : α → List (Nat × SD)) (hc : X.calm = true) (hN : X.N.Nodup) (ok : BlkOk X.N X.env.scope scope own) (hi : PIt X Φ tg iter xs) (hz : xs.length ≤ sizeLine)
    (hg : ∀ x, ∀ (s : Shared) (H : Hp) (C : Addr) (cl : List (Str × Addr)) (fp : List Addr), PGt (X.blk s H scope (compEnvC scope cl C X.env) fp) tg x (us x)) (hu : ∀ x, ∀ u ∈ us x, u.1 ∈ own.map (·.2))
    (ht : ∀ x, x ∈ xs → ∀ (s : Shared) (H : Hp) (C : Addr) (cl : List (Str × Addr)) (fp : List Addr), PTv (X.blk s H scope (compEnvC scope cl C X.env) fp) (setAll (wipeS Φ (own.map (·.2))) (us x)) c (cnd x))
    (he : ∀ x, x ∈ xs → cnd x = true → ∀ (s : Shared) (H : Hp) (C : Addr) (cl : List (Str × Addr)) (fp : List Addr), PEv (X.blk s H scope (compEnvC scope cl C X.env) fp) (setAll (wipeS Φ (own.map (·.2))) (us x)) elt (py X.K (enc (f x))))
    (hs : ∀ x, foldedSetIterable iter X.env x = pure x := by intro _; rfl) : PN X Φ (.ListComp elt [⟨tg, iter, [c], 0⟩] scope pos) ((xs.filter cnd).map f) := .mk fun H0 σ F H Q s sl q =>
  wE_of (pe_lc (own := own) hc hN piW ok pgB (fun s H C cl fp => pts_one (ptB s H C cl fp)) peB hs) (lc_ok s sl hi hz hg hu (fun x hx σ' F' H' R s' sl' r s2 Hs C cl fp => ht x hx s2 Hs C cl fp H0 σ' F' H' R s' sl' r) he q)
end

/-! ### statements -/
inductive Ctl (S R : Type) where
  | nx (s : S)
  | ct (s : S)
  | bk (s : S)
  | rt (r : R)
/-- blocks, one behind another -/
def wK (X : Cx) : List (List Stmt) → TS
  | [] => fun D σ H => D.nx σ H
  | A :: r => fun D σ H => wSs X A { D with nx := fun σ' H' => wK X r D σ' H' } σ H
def Ctl.post {S R : Type} (F0 H0 : Hp) (D : Ends) (W : XK) (M : S → List SD) (T : R → RS) : Ctl S R → Prop
  | .nx s => ∀ σ F H, Gr F0 H0 F H → Sl H0 (M s) σ F H → D.nx σ H
  | .ct s => ∀ σ F H, Gr F0 H0 F H → Sl H0 (M s) σ F H → D.ct σ H
  | .bk s => ∀ σ F H, Gr F0 H0 F H → Sl H0 (M s) σ F H → D.bk σ H
  | .rt r => (T r).sat F0 H0 D.rt W
structure HB (X : Cx) (W : XK) {S R : Type} (ks : List (List Stmt)) (Φ : List SD) (M : S → List SD) (T : R → RS) (o : Ctl S R) : Prop where
  run : ∀ (F0 H0 : Hp) (D : Ends) (σ : St) (F H : Hp), Gr F0 H0 F H → Sl H0 Φ σ F H → o.post F0 H0 D W M T → wK X ks D σ H
instance {X : Cx} {W : XK} {S R : Type} {ks : List (List Stmt)} {Φ : List SD} {M : S → List SD} {T : R → RS} {o : Ctl S R} : CoeFun (HB X W ks Φ M T o) (fun _ => ∀ (F0 H0 : Hp) (D : Ends) (σ : St) (F H : Hp), Gr F0 H0 F H → Sl H0 Φ σ F H → o.post F0 H0 D W M T → wK X ks D σ H) := ⟨HB.run⟩
/-- fewer slots known -/
inductive Wk : List SD → List SD → Prop
  | nil : Wk [] []
  | keep {d : SD} {Φ Ψ : List SD} (h : Wk Φ Ψ) : Wk (d :: Φ) (d :: Ψ)
  | drop {d : SD} {Φ Ψ : List SD} (h : Wk Φ Ψ) : Wk (d :: Φ) (.un :: Ψ)
theorem Wk.get : ∀ {Φ Ψ : List SD}, Wk Φ Ψ → Φ.length = Ψ.length ∧ ∀ (i : Nat) (d : SD), Ψ[i]? = some d → d = .un ∨ Φ[i]? = some d
  | _, _, .nil => ⟨rfl, fun i d h => by simp at h⟩
  | _, _, .keep h => by
    obtain ⟨h1, h2⟩ := h.get
    refine ⟨by simp [h1], fun i d e => ?_⟩
    cases i with
    | zero => exact .inr e
    | succ i => exact h2 i d (by simpa using e)
  | _, _, .drop h => by
    obtain ⟨h1, h2⟩ := h.get
    refine ⟨by simp [h1], fun i d e => ?_⟩
    cases i with
    | zero => left; simpa using e.symm
    | succ i => exact h2 i d (by simpa using e)
theorem Sl.wk {H0 F H : Hp} {Φ Ψ : List SD} {σ : St} (h : Sl H0 Φ σ F H) (w : Wk Φ Ψ) : Sl H0 Ψ σ F H := by
  obtain ⟨w1, w2⟩ := w.get
  refine ⟨by rw [h.len, w1], fun i d o a b => ?_, fun i j d e l hij a b c c' f g => ?_⟩
  · rcases w2 i d a with z | z
    · subst z; trivial
    · exact h.at_ i d o z b
  · rcases w2 i d a with z | z
    · subst z; cases c
    · rcases w2 j e b with z' | z'
      · subst z'; cases c'
      · exact h.apart i j d e l hij z z' c c' f g
section
variable {X : Cx} {W : XK} {S R : Type} {Φ : List SD} {M : S → List SD} {T : R → RS} {o o1 o2 : Ctl S R} {a b c e : Expr} {es : List Expr} {pos p p2 : Pos} {P : MP} {Ps Qs : List MP} {i j : Int} {tg iter : Expr} {A A1 A2 : List Stmt} {r : List (List Stmt)} {st : Stmt}
theorem wK_cons {D : Ends} {σ : St} {H : Hp} (h : wS X st { D with nx := fun σ' H' => wK X (A :: r) D σ' H' } σ H) : wK X ((st :: A) :: r) D σ H := wSs_of (pss_cons psW pssW) h
theorem h_nil {s : S} (w : Wk Φ (M s)) : HB X W [] Φ M T (.nx s) := .mk fun F0 H0 D σ F H g sl k => k σ F H g (sl.wk w)
theorem h_end (h : HB X W r Φ M T o) : HB X W ([] :: r) Φ M T o := .mk fun F0 H0 D σ F H g sl k => wSs_of pss_nil (h F0 H0 D σ F H g sl k)
theorem h_wk {Ψ : List SD} (w : Wk Φ Ψ) (h : HB X W r Ψ M T o) : HB X W r Φ M T o := .mk fun F0 H0 D σ F H g sl k => h F0 H0 D σ F H g (sl.wk w) k
theorem h_set (n : Nat) {x : Str} (hN : X.N.Nodup) (he : PEv X Φ e P) (h : HB X W (A :: r) (Φ.set n (.im P)) M T o) (hi : X.N[n]? = some x := by rfl) (hx : Loc X.env.scope x := by first | exact Or.inl rfl | exact Or.inr rfl) (hs : swapsWith e (some (.Name x p)) pos.line X.env = pure false := by rfl)
    (hf : X.fn x = true ∨ X.env.scope.names.lookup x = some .local := by first | exact .inl rfl | exact .inr rfl) : HB X W ((.Assign [.Name x p] e pos :: A) :: r) Φ M T o := .mk fun F0 H0 D σ F H g sl k =>
  wK_cons (wS_of (ps_set hN hi hx peW hs hf) (he H0 σ F H _ g.s sl fun v F1 H1 g1 p1 => h F0 H0 D _ F1 H1 (g.trans g1) ((sl.gr g1).set ⟨v, rfl, p1⟩ rfl) k))
theorem h_setN (n : Nat) {x : Str} (hN : X.N.Nodup) (he : PEn X Φ e Ps) (h : HB X W (A :: r) (Φ.set n (.ow Ps)) M T o) (hi : X.N[n]? = some x := by rfl) (hx : Loc X.env.scope x := by first | exact Or.inl rfl | exact Or.inr rfl) (hs : swapsWith e (some (.Name x p)) pos.line X.env = pure false := by rfl)
    (hf : X.fn x = true ∨ X.env.scope.names.lookup x = some .local := by first | exact .inl rfl | exact .inr rfl) : HB X W ((.Assign [.Name x p] e pos :: A) :: r) Φ M T o := .mk fun F0 H0 D σ F H g sl k =>
  wK_cons (wS_of (ps_set hN hi hx peW hs hf) (he H0 σ F H _ g.s sl fun l vs F1 H1 g1 h1 h2 h3 h4 => h F0 H0 D _ F1 H1 (g.trans g1) (Sl.setOw (sl.gr g1) (by
      cases z : H0 l with
      | none => rfl
      | some u => rw [g.h l u z] at h1; cases h1) h2 h3 h4 (sl.new h1)) k))
theorem h_settle {α : Type} [Py α] (n : Nat) {xs : List α} (ho : Φ[n]? = some (sO X.K xs) := by rfl) (h : HB X W r (Φ.set n (sI X.K xs)) M T o) : HB X W r Φ M T o := .mk fun F0 H0 D σ F H g sl k => by
  obtain ⟨l, vs, h1, h2, h3, h4, h5⟩ := sl.ow ho
  obtain ⟨x1, x2⟩ := Gr.settle g.s h3 h4
  have s1 := sl.settle g.s ho h1 h3 h4 h5
  have g1 : Gr F0 H0 (upd F l (.lst vs)) H := ⟨g.f.trans x1, g.h, x2, fun b z1 z2 => by
    have hb : b ≠ l := fun w => z2 (by rw [w]; exact h2)
    rw [upd_ne hb]; exact g.n b z1 z2⟩
  refine h F0 H0 D σ _ H g1 ?_ k
  refine ⟨by rw [s1.len]; simp, fun m d u a b => ?_, fun m m' d d' l' hm a b c c' f f' => ?_⟩
  · by_cases q : n = m
    · subst q
      have hn := (List.getElem?_eq_some_iff.mp ho).1
      rw [List.getElem?_set_self hn] at a
      cases a
      obtain ⟨v, e1, e2⟩ := s1.at_ n _ u (List.getElem?_set_self hn) b
      exact ⟨v, e1, py_lst.mpr e2⟩
    · rw [List.getElem?_set_ne q] at a
      exact s1.at_ m d u (by rw [List.getElem?_set_ne q]; exact a) b
  · have cv : ∀ (k : Nat) (d : SD), (Φ.set n (sI X.K xs))[k]? = some d → d.isOw = true → Φ[k]? = some d := fun k d a c => by
      by_cases q : n = k
      · subst q
        rw [List.getElem?_set_self (List.getElem?_eq_some_iff.mp ho).1] at a
        cases a; cases c
      · rw [List.getElem?_set_ne q] at a; exact a
    exact sl.apart m m' d d' l' hm (cv m d a c) (cv m' d' b c') c c' f f'
theorem h_asg {us : List (Nat × SD)} (he : PEv X Φ e P) (hg : PGv X tg P us) (h : HB X W (A :: r) (setAll Φ us) M T o) (hs : swapsWithSole [tg] e pos.line X.env = pure false := by rfl) (hw : swappedStores [tg] e X.env = pure none := by rfl)
    (h1 : (assignEach [tg] X.env).map (·.2) = [assign tg X.env] := by rfl) : HB X W ((.Assign [tg] e pos :: A) :: r) Φ M T o := .mk fun F0 H0 D σ F H g sl k =>
  wK_cons (wS_of (ps_asg peW pgW hs hw h1) (he H0 σ F H _ g.s sl fun v F1 H1 g1 p1 => hg H0 Φ σ F1 H1 v _ g1.s (sl.gr g1) p1 fun σ' sl' _ => h F0 H0 D σ' F1 H1 (g.trans g1) sl' k))
theorem h_ret {v : R} (he : PEv X Φ e P) (hT : T v = .val P := by rfl) : HB X W ((.Return (some e) pos :: A) :: r) Φ M T (.rt v) := .mk fun F0 H0 D σ F H g sl k =>
  wK_cons (wS_of (ps_ret peW) (he H0 σ F H _ g.s sl fun u F1 H1 g1 p1 => by
    have k' : (T v).sat F0 H0 D.rt W := k
    rw [hT] at k'
    exact k' u F1 H1 (g.trans g1) p1))
theorem h_retN {v : R} (he : PEn X Φ e Ps) (hT : T v = .new Ps := by rfl) : HB X W ((.Return (some e) pos :: A) :: r) Φ M T (.rt v) := .mk fun F0 H0 D σ F H g sl k =>
  wK_cons (wS_of (ps_ret peW) (he H0 σ F H _ g.s sl fun l vs F1 H1 g1 h1 h2 h3 h4 => by
    have k' : (T v).sat F0 H0 D.rt W := k
    rw [hT] at k'
    exact k' l vs F1 H1 (g.trans g1) (by
      cases z : H0 l with
      | none => rfl
      | some u => rw [g.h l u z] at h1; cases h1) h2 h3 h4))
/-- return x, x one's own list -/
theorem h_retOw (n : Nat) {v : R} {x : Str} (ho : Φ[n]? = some (.ow Ps) := by rfl) (hT : T v = .new Ps := by rfl) (hN : X.N[n]? = some x := by rfl) (hv : Vis X.env.scope x := by first | exact Or.inl rfl | exact Or.inr (Or.inl rfl) | exact Or.inr (Or.inr rfl)) (hd : (x == ("__debug__" : Str)) = false := by decide)
    (hcd : (x == ("__classdict__" : Str)) = false := by decide) : HB X W ((.Return (some (.Name x p)) pos :: A) :: r) Φ M T (.rt v) := .mk fun F0 H0 D σ F H g sl k => by
  obtain ⟨l, vs, h1, h2, h3, h4, h5⟩ := sl.ow ho
  have k' : (T v).sat F0 H0 D.rt W := k
  rw [hT] at k'
  exact wK_cons (wS_of (ps_ret (pe_var hN hv hd hcd)) ⟨_, h1, k' l vs F H g h2 h3 h4 h5⟩)
theorem h_drop (he : PEv X Φ e P) (h : HB X W (A :: r) Φ M T o) (hs : swapsWith e none pos.line X.env = pure false := by rfl) : HB X W ((.Expr e pos :: A) :: r) Φ M T o := .mk fun F0 H0 D σ F H g sl k =>
  wK_cons (wS_of (ps_expr peW hs) (he H0 σ F H _ g.s sl fun v F1 H1 g1 _ => h F0 H0 D σ F1 H1 (g.trans g1) (sl.gr g1) k))
theorem h_if {k : Bool} (hc : PTv X Φ c k) (h1 : k = true → HB X W (A1 :: A :: r) Φ M T o1) (h2 : k = false → HB X W (A2 :: A :: r) Φ M T o2) : HB X W ((.If c A1 A2 pos :: A) :: r) Φ M T (cond k o1 o2) := .mk fun F0 H0 D σ F H g sl kp =>
  wK_cons (wS_of (ps_if ptW pssW pssW) (hc H0 σ F H _ g.s sl fun F1 H1 g1 => by
    cases k with
    | true => exact iteT (h1 rfl F0 H0 D σ F1 H1 (g.trans g1) (sl.gr g1) kp)
    | false => exact iteF (h2 rfl F0 H0 D σ F1 H1 (g.trans g1) (sl.gr g1) kp)))
/-- an if whose ways meet: what each leaves is told at once -/
theorem h_ifM {S' : Type} {M' : S' → List SD} {k : Bool} {s1 s2 : S'} (hc : PTv X Φ c k) (h1 : k = true → HB X W [A1] Φ M' T (.nx s1)) (h2 : k = false → HB X W [A2] Φ M' T (.nx s2)) (h : HB X W (A :: r) (M' (cond k s1 s2)) M T o) : HB X W ((.If c A1 A2 pos :: A) :: r) Φ M T o := .mk fun F0 H0 D σ F H g sl kp =>
  wK_cons (wS_of (ps_if ptW pssW pssW) (hc H0 σ F H _ g.s sl fun F1 H1 g1 => by
    cases k with
    | true => exact iteT (h1 rfl F0 H0 { D with nx := fun σ' H' => wK X (A :: r) D σ' H' } σ F1 H1 (g.trans g1) (sl.gr g1) fun σ2 F2 H2 g2 sl2 => h F0 H0 D σ2 F2 H2 g2 sl2 kp)
    | false => exact iteF (h2 rfl F0 H0 { D with nx := fun σ' H' => wK X (A :: r) D σ' H' } σ F1 H1 (g.trans g1) (sl.gr g1) fun σ2 F2 H2 g2 sl2 => h F0 H0 D σ2 F2 H2 g2 sl2 kp)))
theorem h_pass (h : HB X W (A :: r) Φ M T o) : HB X W ((.Pass pos :: A) :: r) Φ M T o := .mk fun F0 H0 D σ F H g sl k => wK_cons (wS_of ps_pass (h F0 H0 D σ F H g sl k))
theorem wK_bk {D : Ends} {σ : St} {H : Hp} : ∀ {r : List (List Stmt)}, D.bk σ H → wK X ((.Break pos :: A) :: r) D σ H := fun h => wK_cons (wS_of ps_break h)
theorem h_bk {s : S} (w : Wk Φ (M s)) : HB X W ((.Break pos :: A) :: r) Φ M T (.bk s) := .mk fun F0 H0 D σ F H g sl k => wK_cons (wS_of ps_break (k σ F H g (sl.wk w)))
theorem h_ct {s : S} (w : Wk Φ (M s)) : HB X W ((.Continue pos :: A) :: r) Φ M T (.ct s) := .mk fun F0 H0 D σ F H g sl k => wK_cons (wS_of ps_continue (k σ F H g (sl.wk w)))
end
end GL

set_option Elab.async false
set_option linter.all false
set_option maxRecDepth 100000
set_option maxHeartbeats 4000000
namespace GL
open PySem PySem.Spec PyProof.Rows L2
open Evl (Ex ex_l ex_t)
/-- the ground may be taken later -/
theorem Gr.base {F0 H0 F1 H1 F2 H2 : Hp} (a : Gr F0 H0 F1 H1) (b : Gr F1 H0 F2 H2) : Gr F0 H0 F2 H2 := ⟨a.f.trans b.f, b.h, b.s, fun x h1 h2 => b.n x (a.n x h1 h2) h2⟩
theorem Gr.rebase {F0 H0 F1 H1 : Hp} (a : Gr F0 H0 F1 H1) : Gr F1 H0 F1 H1 := ⟨Ex.refl _, a.h, a.s, fun _ h _ => h⟩
theorem RS.sat_base {F0 H0 F1 H1 : Hp} {Q : VK} {W : XK} {r : RS} (a : Gr F0 H0 F1 H1) (h : r.sat F0 H0 Q W) : r.sat F1 H0 Q W := by
  cases r with
  | val P => exact fun v F H g p => h v F H (a.base g) p
  | new Ps => exact fun l vs F H g => h l vs F H (a.base g)
  | err C P => exact fun d F H g => h d F H (a.base g)
/-! ### loops, as functions -/
def forL {α S R : Type} (f : S → α → Ctl S R) : S → List α → Sum S R
  | s, [] => .inl s
  | s, x :: xs => match f s x with
    | .nx s' => forL f s' xs
    | .ct s' => forL f s' xs
    | .bk s' => .inl s'
    | .rt r => .inr r
/-- the state behind so many turns, none of them the last -/
def steps {α S R : Type} (f : S → α → Ctl S R) : S → List α → Option S
  | s, [] => some s
  | s, x :: xs => match f s x with
    | .nx s' => steps f s' xs
    | .ct s' => steps f s' xs
    | _ => none
def forK {α S S' R : Type} (f : S' → α → Ctl S' R) (s0 : S') (xs : List α) (k : S' → Ctl S R) : Ctl S R := match forL f s0 xs with
  | .inl s => k s
  | .inr r => .rt r
theorem steps_snoc {α S R : Type} {f : S → α → Ctl S R} : ∀ {xs : List α} {s s1 s2 : S} {x : α}, steps f s xs = some s1 → (f s1 x = .nx s2 ∨ f s1 x = .ct s2) → steps f s (xs ++ [x]) = some s2
  | [], s, s1, s2, x, h, h2 => by
    have e : s = s1 := Option.some.inj h
    subst e
    rcases h2 with h2 | h2 <;> · simp [steps, h2]
  | y :: ys, s, s1, s2, x, h, h2 => by
    simp only [List.cons_append, steps] at h ⊢
    cases q : f s y with
    | nx s' => rw [q] at h; exact steps_snoc h h2
    | ct s' => rw [q] at h; exact steps_snoc h h2
    | bk s' => rw [q] at h; cases h
    | rt r => rw [q] at h; cases h
/-- an invariant of the turns -/
theorem steps_inv {α S R : Type} {f : S → α → Ctl S R} {s0 : S} {xs : List α} (I : Nat → S → Prop) (h0 : I 0 s0) (hs : ∀ n s x s', xs[n]? = some x → I n s → (f s x = .nx s' ∨ f s x = .ct s') → I (n + 1) s') :
    ∀ (n : Nat) (s : S), n ≤ xs.length → steps f s0 (xs.take n) = some s → I n s
  | 0, s, _, h => by
    have e : s0 = s := Option.some.inj h
    subst e; exact h0
  | n + 1, s, hn, h => by
    have hx : xs[n]? = some xs[n] := List.getElem?_eq_getElem (by omega)
    have tk : xs.take (n + 1) = xs.take n ++ [xs[n]] := by rw [List.take_succ, hx]; rfl
    rw [tk] at h
    have key : ∀ (ys : List α) (s s2 : S) (x : α), steps f s (ys ++ [x]) = some s2 → ∃ s1, steps f s ys = some s1 ∧ (f s1 x = .nx s2 ∨ f s1 x = .ct s2) := by
      intro ys
      induction ys with
      | nil =>
        intro s s2 x h
        refine ⟨s, rfl, ?_⟩
        simp only [List.nil_append, steps] at h
        cases q : f s x with
        | nx s' => rw [q] at h; simp [steps] at h; subst h; exact .inl rfl
        | ct s' => rw [q] at h; simp [steps] at h; subst h; exact .inr rfl
        | bk s' => rw [q] at h; cases h
        | rt r => rw [q] at h; cases h
      | cons y ys ih =>
        intro s s2 x h
        simp only [List.cons_append, steps] at h ⊢
        cases q : f s y with
        | nx s' => rw [q] at h; exact ih s' s2 x h
        | ct s' => rw [q] at h; exact ih s' s2 x h
        | bk s' => rw [q] at h; cases h
        | rt r => rw [q] at h; cases h
    obtain ⟨s1, h1, h2⟩ := key _ _ _ _ h
    exact hs n s1 xs[n] s hx (steps_inv I h0 hs n s1 (by omega) h1) h2
/-- while c: .. -/
def whileL {S R : Type} (c : S → Bool) (f : S → Ctl S R) : Nat → S → Sum S R
  | 0, s => .inl s
  | n + 1, s => match c s with
    | false => .inl s
    | true => match f s with
      | .nx s' => whileL c f n s'
      | .ct s' => whileL c f n s'
      | .bk s' => .inl s'
      | .rt r => .inr r
def whileK {S S' R : Type} (c : S' → Bool) (f : S' → Ctl S' R) (n : Nat) (s0 : S') (k : S' → Ctl S R) : Ctl S R := match whileL c f n s0 with
  | .inl s => k s
  | .inr r => .rt r
section
variable {X : Cx} {W : XK} {S R : Type} {Φ : List SD} {M : S → List SD} {T : R → RS} {o o1 o2 : Ctl S R} {a b c e : Expr} {es : List Expr} {pos p p2 : Pos} {P : MP} {Ps Qs : List MP} {i j : Int} {tg iter : Expr} {A A1 A2 body : List Stmt} {r : List (List Stmt)} {st : Stmt}
theorem h_for {α S' : Type} [Py α] {xs : List α} {M' : S' → List SD} (us : α → List (Nat × SD)) (f : S' → α → Ctl S' R) (s0 : S') {k : S' → Ctl S R} (hp : PassesOwn (model X.prog X.w) X.A X.env X.xe) (hc : X.calm = true)
    (hi : PIt X Φ tg iter xs) (hg : ∀ x, PGt X tg x (us x)) (w0 : Wk Φ (M' s0))
    (hb : ∀ n s x, xs[n]? = some x → steps f s0 (xs.take n) = some s → HB X W [body] (setAll (M' s) (us x)) M' T (f s x))
    (hr : ∀ s, forL f s0 xs = .inl s → HB X W (A :: r) (M' s) M T (k s)) (hs : ∀ x, foldedSetIterable iter X.env x = pure x := by intro _; rfl) :
    HB X W ((.For tg iter body [] pos :: A) :: r) Φ M T (forK f s0 xs k) := .mk fun F0 H0 D σ F H g sl kp => by
  refine wK_cons (wS_of (ps_for hp hc piW pgW pssW hs) (hi H0 σ F H _ g.s sl fun J F1 H1 g1 src => ?_))
  have hlen : (xs.map fun x => py X.K (enc x)).length = xs.length := List.length_map _
  have ga := g.trans g1
  refine ⟨fun n m σ' H' => m = xs.length - n ∧ n ≤ xs.length ∧ ∃ s F', Gr F1 H0 F' H' ∧ Sl H0 (M' s) σ' F' H' ∧ forL f s (xs.drop n) = forL f s0 xs ∧ steps f s0 (xs.take n) = some s,
    ⟨xs.length, by simp, Nat.zero_le _, s0, F1, ga.rebase, (sl.gr g1).wk w0, by simp, by simp [steps]⟩, ?_⟩
  rintro n m σ' H' ⟨rfl, hn, s, F', gg, sl', fe, hst⟩
  by_cases hlt : n < xs.length
  · have hx : xs[n]? = some xs[n] := List.getElem?_eq_getElem hlt
    have dr : xs.drop n = xs[n] :: xs.drop (n + 1) := List.drop_eq_getElem_cons hlt
    obtain ⟨go, yl⟩ := src.go n _ F' H' (by rw [List.getElem?_map, hx]; rfl) gg.f gg.s
    refine .inr ⟨go, fun σ2 H2 => ∃ s2 F2, (f s xs[n] = .nx s2 ∨ f s xs[n] = .ct s2) ∧ Gr F1 H0 F2 H2 ∧ Sl H0 (M' s2) σ2 F2 H2, fun σ2 H2 hN => ?_, fun v H2 y => ?_⟩
    · obtain ⟨s2, F2, hf, g2, sl2⟩ := hN
      refine ⟨xs.length - (n + 1), by omega, rfl, by omega, s2, F2, g2, sl2, ?_, ?_⟩
      · rw [← fe, dr]
        rcases hf with hf | hf <;> · simp only [forL, hf]
      · have tk : xs.take (n + 1) = xs.take n ++ [xs[n]] := by rw [List.take_succ, hx]; rfl
        rw [tk]; exact steps_snoc hst hf
    · obtain ⟨F2, g2, pv⟩ := yl v H2 y
      refine hg xs[n] H0 (M' s) σ' F2 H2 v _ g2.s (sl'.gr g2) pv fun σ2 sl2 _ => ?_
      rw [dr] at fe
      have post : (f s xs[n]).post F1 H0 ⟨fun σ2 H2 => ∃ s2 F2, (f s xs[n] = .nx s2 ∨ f s xs[n] = .ct s2) ∧ Gr F1 H0 F2 H2 ∧ Sl H0 (M' s2) σ2 F2 H2, D.rt, fun σ' H' => wK X (A :: r) D σ' H', fun σ2 H2 => ∃ s2 F2, (f s xs[n] = .nx s2 ∨ f s xs[n] = .ct s2) ∧ Gr F1 H0 F2 H2 ∧ Sl H0 (M' s2) σ2 F2 H2⟩ W M' T := by
        cases hf : f s xs[n] with
        | nx s2 => exact fun σ3 F3 H3 g3 sl3 => ⟨s2, F3, .inl rfl, g3, sl3⟩
        | ct s2 => exact fun σ3 F3 H3 g3 sl3 => ⟨s2, F3, .inr rfl, g3, sl3⟩
        | bk s2 =>
          simp only [forL, hf] at fe
          refine fun σ3 F3 H3 g3 sl3 => hr s2 fe.symm F0 H0 D σ3 F3 H3 (ga.base g3) sl3 ?_
          have kp' : (forK f s0 xs k).post F0 H0 D W M T := kp
          unfold forK at kp'
          rw [← fe] at kp'
          exact kp'
        | rt rr =>
          simp only [forL, hf] at fe
          have kp' : (forK f s0 xs k).post F0 H0 D W M T := kp
          unfold forK at kp'
          rw [← fe] at kp'
          exact RS.sat_base ga kp'
      exact hb n s xs[n] hx hst F1 H0 ⟨fun σ2 H2 => ∃ s2 F2, (f s xs[n] = .nx s2 ∨ f s xs[n] = .ct s2) ∧ Gr F1 H0 F2 H2 ∧ Sl H0 (M' s2) σ2 F2 H2, D.rt, fun σ' H' => wK X (A :: r) D σ' H', fun σ2 H2 => ∃ s2 F2, (f s xs[n] = .nx s2 ∨ f s xs[n] = .ct s2) ∧ Gr F1 H0 F2 H2 ∧ Sl H0 (M' s2) σ2 F2 H2⟩ σ2 F2 H2 (gg.trans g2) sl2 post
  · have en : n = xs.length := by omega
    subst en
    refine .inl ⟨by have := src.stop F' H' gg.f gg.s; rw [hlen] at this; exact this, ?_⟩
    rw [List.drop_length] at fe
    have fe' : forL f s0 xs = .inl s := fe.symm
    refine hr s fe' F0 H0 D σ' F' H' (ga.base gg) sl' ?_
    have kp' : (forK f s0 xs k).post F0 H0 D W M T := kp
    unfold forK at kp'
    rw [fe'] at kp'
    exact kp'
/-- a loop that is a fold -/
theorem forL_fold {α S R : Type} {g : S → α → S} : ∀ (xs : List α) (s : S), forL (fun s x => (.nx (g s x) : Ctl S R)) s xs = .inl (xs.foldl g s)
  | [], s => rfl
  | x :: xs, s => forL_fold xs (g s x)
theorem steps_fold {α S R : Type} {g : S → α → S} : ∀ (xs : List α) (s : S), steps (fun s x => (.nx (g s x) : Ctl S R)) s xs = some (xs.foldl g s)
  | [], s => rfl
  | x :: xs, s => steps_fold xs (g s x)
theorem h_fold {α S' : Type} [Py α] {xs : List α} {M' : S' → List SD} (us : α → List (Nat × SD)) (f : S' → α → S') (s0 : S') (hp : PassesOwn (model X.prog X.w) X.A X.env X.xe) (hc : X.calm = true)
    (hi : PIt X Φ tg iter xs) (hg : ∀ x, PGt X tg x (us x)) (w0 : Wk Φ (M' s0))
    (hb : ∀ n s x, xs[n]? = some x → s = (xs.take n).foldl f s0 → HB X W [body] (setAll (M' s) (us x)) M' T (.nx (f s x)))
    (hr : HB X W (A :: r) (M' (xs.foldl f s0)) M T o) (hs : ∀ x, foldedSetIterable iter X.env x = pure x := by intro _; rfl) :
    HB X W ((.For tg iter body [] pos :: A) :: r) Φ M T o := by
  have h := h_for (W := W) (S := S) (R := R) (M := M) (T := T) (pos := pos) (A := A) (r := r) (k := fun _ => o) us (fun s x => .nx (f s x)) s0 hp hc hi hg w0 (fun n s x hx hst => hb n s x hx (by rw [steps_fold] at hst; exact (Option.some.inj hst).symm)) (fun s hs => by
    rw [forL_fold] at hs
    rw [← Sum.inl.inj hs]; exact hr) hs
  unfold forK at h
  rw [forL_fold] at h
  exact h
/-- a while: I holds at each test, m falls -/
theorem h_while {S' : Type} {M' : S' → List SD} (I : S' → Prop) (m : S' → Nat) (cn : S' → Bool) (f : S' → Ctl S' R) (s0 : S') {k : S' → Ctl S R} (hp : PassesOwn (model X.prog X.w) X.A X.env X.xe) (w0 : Wk Φ (M' s0)) (i0 : I s0)
    (ht : ∀ s, I s → PTv X (M' s) c (cn s)) (hb : ∀ s, I s → cn s = true → HB X W [body] (M' s) M' T (f s))
    (hm : ∀ s s', I s → cn s = true → (f s = .nx s' ∨ f s = .ct s') → I s' ∧ m s' < m s)
    (hr : ∀ s, whileL cn f (m s0 + 1) s0 = .inl s → HB X W (A :: r) (M' s) M T (k s)) :
    HB X W ((.While c body [] pos :: A) :: r) Φ M T (whileK cn f (m s0 + 1) s0 k) := .mk fun F0 H0 D σ F H g sl kp => by
  refine wK_cons (wS_of (ps_while hp ptW pssW) ?_)
  refine ⟨fun n σ' H' => ∃ s F', Gr F0 H0 F' H' ∧ Sl H0 (M' s) σ' F' H' ∧ I s ∧ m s = n ∧ ∃ d, whileL cn f (m s + 1 + d) s = whileL cn f (m s0 + 1) s0, ⟨m s0, s0, F, g, sl.wk w0, i0, rfl, 0, rfl⟩, ?_⟩
  rintro n σ' H' ⟨s, F', gg, sl', hI, rfl, d, hw⟩
  have hw0 : whileL cn f (m s + d + 1) s = whileL cn f (m s0 + 1) s0 := by rw [← hw]; congr 1; omega
  refine ht s hI H0 σ' F' H' _ gg.s sl' fun F2 H2 g2 => ?_
  have fin : ∀ s2, whileL cn f (m s0 + 1) s0 = .inl s2 → ∀ σ3 F3 H3, Gr F0 H0 F3 H3 → Sl H0 (M' s2) σ3 F3 H3 → wK X (A :: r) D σ3 H3 := fun s2 e σ3 F3 H3 g3 sl3 => by
    refine hr s2 e F0 H0 D σ3 F3 H3 g3 sl3 ?_
    have kp' : (whileK cn f (m s0 + 1) s0 k).post F0 H0 D W M T := kp
    unfold whileK at kp'
    rw [e] at kp'
    exact kp'
  cases hc : cn s with
  | false =>
    rw [if_neg (by simp)]
    refine fin s ?_ σ' F2 H2 (gg.trans g2) (sl'.gr g2)
    rw [← hw0]; simp only [whileL, hc]
  | true =>
    rw [if_pos rfl]
    have hw1 := hw0
    obtain ⟨res, hres⟩ : ∃ res, whileL cn f (m s0 + 1) s0 = res := ⟨_, rfl⟩
    rw [hres] at hw1
    simp only [whileL, hc] at hw1
    obtain ⟨N, eN⟩ : ∃ N : L2.St → Hp → Prop, N = fun σ2 H2 => ∃ s2 F2, (f s = .nx s2 ∨ f s = .ct s2) ∧ Gr F0 H0 F2 H2 ∧ Sl H0 (M' s2) σ2 F2 H2 := ⟨_, rfl⟩
    refine ⟨N, fun σ2 H2 hN => ?_, ?_⟩
    · rw [eN] at hN
      obtain ⟨s2, F3, hf, g3, sl3⟩ := hN
      obtain ⟨i2, m2⟩ := hm s s2 hI hc hf
      refine ⟨m s2, m2, s2, F3, g3, sl3, i2, rfl, m s + d - (m s2 + 1), ?_⟩
      rw [show m s2 + 1 + (m s + d - (m s2 + 1)) = m s + d by omega]
      rw [hres]
      rcases hf with hf | hf <;> · simp only [hf] at hw1; exact hw1
    · have post : (f s).post F0 H0 ⟨N, D.rt, fun σ' H' => wK X (A :: r) D σ' H', N⟩ W M' T := by
        cases hf : f s with
        | nx s2 => exact fun σ3 F3 H3 g3 sl3 => by rw [eN]; exact ⟨s2, F3, .inl hf, g3, sl3⟩
        | ct s2 => exact fun σ3 F3 H3 g3 sl3 => by rw [eN]; exact ⟨s2, F3, .inr hf, g3, sl3⟩
        | bk s2 =>
          simp only [hf] at hw1
          exact fun σ3 F3 H3 g3 sl3 => fin s2 (hres.trans hw1.symm) σ3 F3 H3 g3 sl3
        | rt rr =>
          simp only [hf] at hw1
          have kp' : (whileK cn f (m s0 + 1) s0 k).post F0 H0 D W M T := kp
          unfold whileK at kp'
          rw [hres, ← hw1] at kp'
          exact kp'
      exact hb s hI hc F0 H0 ⟨N, D.rt, fun σ' H' => wK X (A :: r) D σ' H', N⟩ σ' F2 H2 (gg.trans g2) (sl'.gr g2) post
/-! ### one's own lists changed -/
theorem few1 {cpos : Pos} (h : nst e = true) : ((backTo cpos (starEach [e] X.env)).all (fun x => !x.1) && (backToKw cpos (keywordEach [] X.env)).all (fun x => x.1.isSome)
      && decide ([e].length + ([] : List Keyword).length + (if ([] : List Keyword).isEmpty then 0 else 1) < 30)) = true := by
  rw [star_cons h]; rfl
theorem Gr.write {F0 H0 F H : Hp} {l : Addr} {o : HO} (g : Gr F0 H0 F H) (h0 : H0 l = none) (hf : F l = none) : Gr F0 H0 F (upd H l o) := ⟨g.f, fun b u z => by rw [upd_ne (ne_of_none z h0)]; exact g.h b u z, fun b u z => by rw [upd_ne (ne_of_none z hf)]; exact g.s b u z, g.n⟩
/-- xs.append(e) -/
theorem h_app {α : Type} [Py α] (n : Nat) {x : Str} {xs : List α} {v : α} {np apos : Pos} (he : PV X Φ e v) (hz : xs.length < sizeLine) (h : HB X W (A :: r) (Φ.set n (sO X.K (xs ++ [v]))) M T o) (ho : Φ[n]? = some (sO X.K xs) := by rfl) (hN : X.N[n]? = some x := by rfl)
    (hv : Vis X.env.scope x := by first | exact Or.inl rfl | exact Or.inr (Or.inl rfl) | exact Or.inr (Or.inr rfl)) (hd : (x == ("__debug__" : Str)) = false := by decide) (hcd : (x == ("__classdict__" : Str)) = false := by decide)
    (hst : nst e = true := by rfl) (hl : (apos.endLine == p.line) = true := by rfl) : HB X W ((.Expr (.Call (.Attribute (.Name x np) "append" apos) [e] [] p) pos :: A) :: r) Φ M T o := .mk fun F0 H0 D σ F H g sl k => by
  obtain ⟨l, vs, h1, h2, h3, h4, h5⟩ := sl.ow ho
  have hlen : vs.length = xs.length := by simpa using h5.1
  refine wK_cons (wS_of (ps_expr (pe_bm PySem.F.plainAttrs_list PySem.F.slot_list_append PySem.F.type_list_append mt_append (pe_var hN hv hd hcd) (pa_cons peW pa_nil (star_cons hst)) rfl (few1 hst) hl (star_cons hst) rfl) rfl)
    ⟨_, h1, .inl ⟨rfl, vs, SqL.of h4⟩, he H0 σ F H _ g.s sl fun u F1 H1 g1 p1 => ⟨l, vs, u, rfl, rfl, g1.h _ _ h4, by omega, ?_⟩⟩)
  have f1 : F1 l = none := g1.n l h3 (ne_none h4)
  refine h F0 H0 D σ F1 _ ((g.trans g1).write h2 f1) (Sl.write (sl.gr g1) ho h1 h2 f1 ?_) k
  rw [List.map_append]; exact (h5.mono g1.f).snoc p1
/-- xs.extend(ys) -/
theorem h_ext {α : Type} [Py α] (n : Nat) {x : Str} {xs ys : List α} {np apos : Pos} (he : PK X Φ e ys) (hz : xs.length + ys.length ≤ sizeLine) (h : HB X W (A :: r) (Φ.set n (sO X.K (xs ++ ys))) M T o) (ho : Φ[n]? = some (sO X.K xs) := by rfl) (hN : X.N[n]? = some x := by rfl)
    (hv : Vis X.env.scope x := by first | exact Or.inl rfl | exact Or.inr (Or.inl rfl) | exact Or.inr (Or.inr rfl)) (hd : (x == ("__debug__" : Str)) = false := by decide) (hcd : (x == ("__classdict__" : Str)) = false := by decide)
    (hst : nst e = true := by rfl) (hl : (apos.endLine == p.line) = true := by rfl) : HB X W ((.Expr (.Call (.Attribute (.Name x np) "extend" apos) [e] [] p) pos :: A) :: r) Φ M T o := .mk fun F0 H0 D σ F H g sl k => by
  obtain ⟨l, vs, h1, h2, h3, h4, h5⟩ := sl.ow ho
  have hlen : vs.length = xs.length := by simpa using h5.1
  refine wK_cons (wS_of (ps_expr (pe_bm PySem.F.plainAttrs_list PySem.F.slot_list_extend PySem.F.type_list_extend mt_extend (pe_var hN hv hd hcd) (pa_cons peW pa_nil (star_cons hst)) rfl (few1 hst) hl (star_cons hst) rfl) rfl)
    ⟨_, h1, .inl ⟨rfl, vs, SqL.of h4⟩, he H0 σ F H _ g.s sl fun b ws F1 H1 g1 hb p1 => ⟨l, b, vs, ws, rfl, rfl, g1.h _ _ h4, hb, by have := p1.1; rw [List.length_map] at this; omega, ?_⟩⟩)
  have f1 : F1 l = none := g1.n l h3 (ne_none h4)
  refine h F0 H0 D σ F1 _ ((g.trans g1).write h2 f1) (Sl.write (sl.gr g1) ho h1 h2 f1 ?_) k
  rw [List.map_append]; exact (h5.mono g1.f).append p1
theorem AllP.setV {Ps : List MP} {F : Hp} {vs : List V} (h : AllP Ps F vs) (n : Nat) {P : MP} {v : V} (hp : P.p F v) : AllP (Ps.set n P) F (vs.set n v) := by
  refine ⟨by simp [h.1], fun i Q u h1 h2 => ?_⟩
  by_cases q : n = i
  · subst q
    rw [List.getElem?_set_self (by simpa using (List.getElem?_eq_some_iff.mp h1).1)] at h1
    rw [List.getElem?_set_self (by simpa using (List.getElem?_eq_some_iff.mp h2).1)] at h2
    cases h1; cases h2; exact hp
  · rw [List.getElem?_set_ne q] at h1 h2
    exact h.2 i Q u h1 h2
/-- xs[i] = e -/
theorem h_put {α : Type} [Py α] (n : Nat) {x : Str} {xs : List α} {v : α} {np sp : Pos} (he : PV X Φ e v) (hb : PV X Φ b i) (hz : 0 ≤ i ∧ i < xs.length) (h : HB X W (A :: r) (Φ.set n (sO X.K (xs.set i.toNat v))) M T o) (ho : Φ[n]? = some (sO X.K xs) := by rfl) (hN : X.N[n]? = some x := by rfl)
    (hv : Vis X.env.scope x := by first | exact Or.inl rfl | exact Or.inr (Or.inl rfl) | exact Or.inr (Or.inr rfl)) (hd : (x == ("__debug__" : Str)) = false := by decide) (hcd : (x == ("__classdict__" : Str)) = false := by decide)
    (ha : ∀ v, assign (.Subscript (.Name x np) b sp) X.env v = (do
      let ov ← holding [v] (eval (.Name x np) X.env)
      let iv ← holding [v, ov] (eval b X.env)
      standAt sp
      holding [v, ov, iv] (setItem ov iv v)
      release [v, ov, iv] []) := by intro _; rfl)
    (hs : swapsWithSole [.Subscript (.Name x np) b sp] e pos.line X.env = pure false := by rfl) (hw : swappedStores [.Subscript (.Name x np) b sp] e X.env = pure none := by rfl) : HB X W ((.Assign [.Subscript (.Name x np) b sp] e pos :: A) :: r) Φ M T o := .mk fun F0 H0 D σ F H g sl k => by
  obtain ⟨l, vs, h1, h2, h3, h4, h5⟩ := sl.ow ho
  have hlen : vs.length = xs.length := by simpa using h5.1
  refine wK_cons (wS_of (ps_asg peW (pg_sub (pe_var hN hv hd hcd) peW set_list ha) hs hw rfl) (he H0 σ F H _ g.s sl fun u F1 H1 g1 p1 => ⟨_, h1, hb H0 σ F1 H1 _ g1.s (sl.gr g1) fun w F2 H2 g2 p2 => ?_⟩))
  cases p2
  have g12 := g1.trans g2
  have f2 : F2 l = none := g12.n l h3 (ne_none h4)
  refine ⟨l, vs, i, i.toNat, rfl, rfl, g12.h _ _ h4, ?_, ?_⟩
  · unfold ixN; rw [if_pos hz.1, if_pos (by omega)]
  · refine h F0 H0 D σ F2 _ ((g.trans g12).write h2 f2) (Sl.write (sl.gr g12) ho h1 h2 f2 ?_) k
    rw [List.map_set]; exact (h5.mono g12.f).setV _ (dq_mono g2.f _ _ p1)
end
/-! ### defs -/
/-- the slots at the entry -/
def enter (Ps : List MP) (n : Nat) : List SD := Ps.map SD.im ++ List.replicate n .un
theorem sl_start {N : List Str} {Ps : List MP} {n : Nat} {F H : Hp} {vs : List V} (h : AllP Ps F vs) (hn : N.length = Ps.length + n) : Sl H (enter Ps n) (L2.start N vs) F H := by
  have hl : vs.length = Ps.length := h.1
  unfold L2.start enter
  refine ⟨by simp [hl]; omega, fun i d o a b => ?_, fun i j d e l hij a b c c' f g => ?_⟩
  · by_cases hi : i < Ps.length
    · rw [List.getElem?_append_left (by simpa using hi), List.getElem?_map] at a
      rw [List.getElem?_append_left (by simpa [hl] using hi), List.getElem?_map] at b
      rw [List.getElem?_eq_getElem hi] at a
      rw [List.getElem?_eq_getElem (by omega : i < vs.length)] at b
      cases a; cases b
      exact ⟨_, rfl, h.2 i _ _ (List.getElem?_eq_getElem hi) (List.getElem?_eq_getElem (by omega))⟩
    · rw [List.getElem?_append_right (by simpa using hi), List.getElem?_replicate] at a
      split at a
      · cases a; trivial
      · cases a
  · by_cases hi : i < Ps.length
    · rw [List.getElem?_append_left (by simpa using hi), List.getElem?_map, List.getElem?_eq_getElem hi] at a
      cases a; cases c
    · rw [List.getElem?_append_right (by simpa using hi), List.getElem?_replicate] at a
      split at a
      · cases a; cases c
      · cases a
section
variable {P : Program} {w : World} {K : Fg} {mg : Str → Option Value} {base : Heap}
theorem run_body {X : Cx} {S R : Type} {ks : List Stmt} {Ps : List MP} {M : S → List SD} {T : R → RS} {o : Ctl S R} {W : XK} {F H : Hp} {vs : List V} {Q : VK} {n : Nat} (s0 : Ex F H) (ha : AllP Ps F vs) (hn : X.N.length = Ps.length + n)
    (h : HB X W [ks] (enter Ps n) M T o) (ho : o.post F H { nx := fun _ H' => Q .non H', rt := Q } W M T) : wSs X ks { nx := fun _ H' => Q .non H', rt := Q } (L2.start X.N vs) H :=
  h F H { nx := fun _ H' => Q .non H', rt := Q } (L2.start X.N vs) F H (Gr.refl s0) (sl_start ha hn) ho
abbrev bx (P : Program) (w : World) (K : Fg) (mg : Str → Option Value) (base : Heap) (N : List Str) (qual : Str) (st : Stmt) (f : Addr) (cdv : Value) (A : Around) (outer : List Env) (s : Shared) (H : Hp) (E : XK) : Cx := (cxOf CX0 P w K mg base N qual (defScope st) f cdv A outer s H E).nox
abbrev bxX (P : Program) (w : World) (K : Fg) (mg : Str → Option Value) (base : Heap) (N : List Str) (qual : Str) (st : Stmt) (f : Addr) (cdv : Value) (A : Around) (outer : List Env) (s : Shared) (H : Hp) (E : XK) : Cx := cxOf (L2.CX P w) P w K mg base N qual (defScope st) f cdv A outer s H E
abbrev DefOf (K : Fg) (x qual : Str) (st : Stmt) (f : Addr) (fd : FuncData) : Prop := FunD K x qual (defArgs st) (defBody st) (defScope st) [] [] f fd
def RS.isErr : RS → Bool
  | .err _ _ => true
  | _ => false
/-- a def that lets nothing out: its body's derivation, for all arguments -/
theorem def_ok {x qual : Str} {st : Stmt} {f : Addr} {fd : FuncData} {N ps : List Str} {k : Nat} {Ar ρ : Type} {argP : Ar → List MP} {pre : Ar → Prop} {T : ρ → RS} {fv : Ar → ρ} (F : DefOf K x qual st f fd) (S : FnScope N ps (defScope st)) (n : Nat) (hlen : ∀ z, (argP z).length = ps.length) (hN : N.length = ps.length + n)
    (hT : ∀ r, (T r).isErr = false)
    (hb : ∀ (cdv : Value) (A : Around) (outer : List Env) (s : Shared) (H : Hp) (E : XK), Room k (A.deeper (envOfC qual (defScope st) s.heap.objs.size f cdv)) → ∀ z, pre z →
      HB (S := Unit) (bx P w K mg base N qual st f cdv A outer s H E) (fun _ _ _ => False) [defBody st] (enter (argP z) n) (fun _ => []) T (.rt (fv z))) : FnOk P w K mg base CX0 (k + 1) f fd ps (spG argP pre fun z => T (fv z)) := by
  refine FunD.ok F S (fun vs H Q E h => ?_) fun cdv A outer s H vs Q E hr h => ?_
  · obtain ⟨z, F, _, ha, _⟩ := h
    rw [ha.1, hlen]
  · obtain ⟨z, G, s0, ha, hp, hs⟩ := h
    refine ⟨_, PSs.nox pssW, run_body (X := bx P w K mg base N qual st f cdv A outer s H E) (W := fun _ _ _ => False) s0 ha (by rw [hlen]; exact hN) (hb cdv A outer s H E hr z hp) ?_⟩
    show (T (fv z)).sat G H Q _
    have ht := hT (fv z)
    have hs2 : (T (fv z)).sat G H Q E := hs
    revert hs2 ht
    cases T (fv z) with
    | val P => exact fun _ h => h
    | new Ps => exact fun _ h => h
    | err C P => exact fun h _ => by cases h
/-- the same for a def without a return -/
theorem def_okN {x qual : Str} {st : Stmt} {f : Addr} {fd : FuncData} {N ps : List Str} {k : Nat} {Ar ρ : Type} {argP : Ar → List MP} {pre : Ar → Prop} {T : ρ → RS} (F : DefOf K x qual st f fd) (S : FnScope N ps (defScope st)) (n : Nat) (hlen : ∀ z, (argP z).length = ps.length) (hN : N.length = ps.length + n)
    (hb : ∀ (cdv : Value) (A : Around) (outer : List Env) (s : Shared) (H : Hp) (E : XK), Room k (A.deeper (envOfC qual (defScope st) s.heap.objs.size f cdv)) → ∀ z, pre z →
      HB (S := Unit) (bx P w K mg base N qual st f cdv A outer s H E) (fun _ _ _ => False) [defBody st] (enter (argP z) n) (fun _ => []) T (.nx ())) : FnOk P w K mg base CX0 (k + 1) f fd ps (spG argP pre fun _ => .val (py K .none)) := by
  refine FunD.ok F S (fun vs H Q E h => ?_) fun cdv A outer s H vs Q E hr h => ?_
  · obtain ⟨z, F, _, ha, _⟩ := h
    rw [ha.1, hlen]
  · obtain ⟨z, G, s0, ha, hp, hs⟩ := h
    refine ⟨_, PSs.nox pssW, run_body (X := bx P w K mg base N qual st f cdv A outer s H E) (W := fun _ _ _ => False) s0 ha (by rw [hlen]; exact hN) (hb cdv A outer s H E hr z hp) ?_⟩
    exact fun σ F' H' g _ => hs .non F' H' g .non
theorem fn_mk {x : Str} {f : Addr} {fd : FuncData} {ps : List Str} {k : Nat} {CX : CXT} {sp : Sp} {qual : Str} {st : Stmt} (F : DefOf K x qual st f fd) (G : FnOk P w K mg base CX k f fd ps sp) (hm : mg x = some (.ref f))
    (hb : ∀ (kV doc pm : Value) (an : Option Addr) (cdv ct : Value) (us : List Value), us.length = ps.length → bindArgs (PySem.W.fnOf x qual (defArgs st) (defBody st) (defScope st) .none kV doc pm an cdv ct) ⟨us, []⟩ = pure (ps.zip us)) : FnG P w K mg base CX k x sp :=
  ⟨f, fd, ps, G, hm, F.kp, FunD.bindsN F hb⟩
end
end GL

set_option Elab.async false
set_option linter.all false
set_option maxRecDepth 100000
set_option maxHeartbeats 4000000
namespace GL
open PySem PySem.Spec PyProof.Rows L2
open Evl (Ex ex_l ex_t)
/-! ### sorted -/
section
variable {X : Cx} {pins : List (Addr × Obj)} {σ : L2.St} {H : Hp} {s : Shared}
theorem eachIs_of {β : Type} {R : V → β → Prop} : ∀ {vs : List V} {bs : List β} {us : List Value}, vs.length = bs.length → (∀ (i : Nat) v b, vs[i]? = some v → bs[i]? = some b → R v b) → Vals vs us → PySem.W.EachIs (fun u b => ∃ v, RelV v u ∧ R v b) us bs
  | [], [], _, _, _, r => by cases r; exact .nil
  | v :: vs, b :: bs, _, hl, h, r => by
    cases r with
    | cons r1 r2 => exact .cons ⟨v, r1, h 0 v b rfl rfl⟩ (eachIs_of (by simpa using hl) (fun i v b h1 h2 => h (i + 1) v b (by simpa using h1) (by simpa using h2)) r2)
  | [], _ :: _, _, hl, _, _ => by simp at hl
  | _ :: _, [], _, hl, _, _ => by simp at hl
theorem of_eachIs {β : Type} {R : V → β → Prop} : ∀ {bs : List β} {us : List Value}, PySem.W.EachIs (fun u b => ∃ v, RelV v u ∧ R v b) us bs → ∃ vs, Vals vs us ∧ vs.length = bs.length ∧ ∀ (i : Nat) v b, vs[i]? = some v → bs[i]? = some b → R v b
  | _, _, .nil => ⟨[], .nil, rfl, fun i v b h => by simp at h⟩
  | _, _, .cons ⟨v, r, h⟩ t => by
    obtain ⟨vs, h1, h2, h3⟩ := of_eachIs t
    refine ⟨v :: vs, .cons r h1, by simp [h2], fun i w b e1 e2 => ?_⟩
    cases i with
    | zero => simp at e1 e2; subst e1; subst e2; exact h
    | succ i => exact h3 i w b (by simpa using e1) (by simpa using e2)
/-- sorted(xs), xs read as data of one make -/
def rSortG (X : Cx) {β : Type} (en : β → PyData) (bs : List β) : List V → Hp → VK → Prop := fun vs H Q => ∃ (a : Addr) (ws : List V), vs = [V.ref a] ∧ SqL X.K H a ws ∧ DpAll X.K H ws (bs.map en) ∧
  ∀ (ys : List V) (p : Addr), H p = none → ys.length = bs.length → (∀ (i : Nat) v b, ys[i]? = some v → (bs.mergeSort (PySem.W.dataLe false en))[i]? = some b → ∃ j : Nat, ws[j]? = some v ∧ bs[j]? = some b) → Q (.ref p) (upd H p (.lst ys))
theorem cr_sortG {β : Type} {en : β → PyData} {bs : List β} (hal : PySem.W.AllAlike (bs.map en)) (hk : PySem.W.Sortable (bs.map en)) (hu : ∀ b, b ∈ bs → X.A.units + 2 + (en b).depth < cLine) : CallR X (.builtin "sorted") (rSortG X en bs) := by
  intro pins s σ H vs us Q I r h
  obtain ⟨a, ws, rfl, hs, hd, q⟩ := h
  obtain ⟨its, rv, hl, hz⟩ := I.list hs
  rw [Vals.ref1 r]
  obtain ⟨as, rd⟩ := Dp.readsAll I (bs.map en) ws its hd rv
  have hlen : ws.length = bs.length := by
    have : ∀ {vs : List V} {ds : List PyData}, DpAll X.K H vs ds → vs.length = ds.length := by
      intro vs ds h
      induction ds generalizing vs with
      | nil => cases h; rfl
      | cons d ds ih => cases h with
        | cons h1 h2 => simp [ih h2]
    simpa using this hd
  have e1 : PySem.W.EachIs (fun u b => ∃ v, RelV v u ∧ ∃ j : Nat, ws[j]? = some v ∧ bs[j]? = some b) its bs := eachIs_of (R := fun v b => ∃ j : Nat, ws[j]? = some v ∧ bs[j]? = some b) hlen (fun i v b h1 h2 => ⟨i, h1, h2⟩) rv
  have zl : bs.length ≤ sizeLine := by rw [← hlen]; exact hz
  refine PySem.W.sorted_data hl.isList e1 (PySem.W.readsAll_each en rd) hal hk zl hu fun out ho eo => ?_
  obtain ⟨ep, he'⟩ := PyProof.Rows.sortedAll_at s.heap its out.toArray
  obtain ⟨ys, k1, k2, k3⟩ := of_eachIs (R := fun v b => ∃ j : Nat, ws[j]? = some v ∧ bs[j]? = some b) eo
  have k2' : ys.length = bs.length := by rw [k2, List.length_mergeSort]
  exact ⟨.ref _, upd H (s.heap.objs.size + 1) (.lst ys), I.laid (t' := s.toks) (fun _ _ => PyProof.Rows.sortedAll_old) (Nat.le_succ _) ⟨by rw [k2']; exact zl, out, ep, k1, he'⟩, rfl, q ys _ (I.hok.fresh (Nat.le_succ _)) k2' k3⟩
end
/-- data of one make -/
class PyS (α : Type) [Py α] : Prop where
  alike : ∀ x y : α, PySem.W.alike (enc x) (enc y) = true
  sort : (∀ x : α, ∃ a r, enc x = .tuple (a :: r)) ∨ ∀ x : α, enc x ≠ .none ∧ ∀ xs, enc x ≠ .tuple xs
def srt {α : Type} [Py α] (xs : List α) : List α := xs.mergeSort (PySem.W.dataLe false enc)
instance : PyS Int := ⟨fun x y => by simp [enc, Py.enc, PySem.W.alike], .inr fun x => ⟨by simp [enc, Py.enc], by simp [enc, Py.enc]⟩⟩
theorem alikeAll_of {α : Type} [Py α] [PyS α] : ∀ xs ys : List α, PySem.W.alikeAll (xs.map enc) (ys.map enc) = true
  | [], [] => by simp [PySem.W.alikeAll]
  | [], y :: ys => by simp [PySem.W.alikeAll]
  | x :: xs, [] => by simp [PySem.W.alikeAll]
  | x :: xs, y :: ys => by
    have h1 := PyS.alike x y
    have h2 := alikeAll_of xs ys
    simp only [List.map_cons, PySem.W.alikeAll, h1, h2, Bool.and_self]
instance {α β : Type} [Py α] [Py β] [PyS α] [PyS β] : PyS (α × β) := ⟨fun x y => by
  have h1 := PyS.alike x.1 y.1
  have h2 := PyS.alike x.2 y.2
  show PySem.W.alike (.tuple [enc x.1, enc x.2]) (.tuple [enc y.1, enc y.2]) = true
  simp only [PySem.W.alike, PySem.W.alikeAll, h1, h2, Bool.and_self], .inl fun x => ⟨_, _, rfl⟩⟩
section
variable {X : Cx} {Φ : List SD} {a b c d e : Expr} {es : List Expr} {pos p p2 : Pos} {P : MP} {Ps Qs : List MP} {i j k : Int}
theorem allP_dpAll2 {α : Type} [Py α] {K : Fg} {F : Hp} {xs : List α} {vs : List V} (h : AllP (xs.map fun x => py K (enc x)) F vs) : DpAll K F vs (xs.map enc) := by
  have h' : AllP ((xs.map enc).map (py K)) F vs := by rw [rps_map]; exact h
  exact dqAll_dp _ _ (allP_dqAll h')
theorem v_sorted {α : Type} [Py α] [PyS α] {xs : List α} (B : Blt X.mg) (hu : X.A.units + 2 + Py.dep α < cLine) (ha : PL X Φ e xs) (hg : Gl X "sorted" := by rfl) (hst : nst e = true := by rfl) : PN X Φ (.Call (.Name "sorted" p) [e] [] pos) (srt xs) := .mk fun H0 σ F H Q s sl q =>
  wE_callB (cr_sortG (en := enc) (bs := xs) (fun d hd d' hd' => by
    obtain ⟨x, _, rfl⟩ := List.mem_map.mp hd
    obtain ⟨y, _, rfl⟩ := List.mem_map.mp hd'
    exact PyS.alike x y) (by
    rcases PyS.sort (α := α) with h | h
    · exact PySem.W.Sortable.tuples h
    · exact PySem.W.Sortable.others h) (fun b _ => by have := Py.deep b; show X.A.units + 2 + (Py.enc b).depth < cLine; omega)) hg B.sorted (by decide +kernel) (by decide +kernel) (by decide +kernel) (by simp [hst]) (wA_one hst (ha H0 σ F H _ s sl fun l vs F1 H1 g1 h1 p1 => ⟨l, vs, rfl, h1, dpAll_mono g1.s _ _ (allP_dpAll2 p1), fun ys t ht hl hy => by
      refine q t ys F1 _ (g1.trans (Gr.own g1.s ht)) (fresh_of g1 ht).2 (fresh_of g1 ht).1 upd_same ⟨by rw [hl]; simp [srt, List.length_mergeSort], fun n P v h2 h3 => ?_⟩
      rw [List.getElem?_map] at h2
      cases hb : (srt xs)[n]? with
      | none => rw [hb] at h2; cases h2
      | some b =>
        rw [hb] at h2; cases h2
        obtain ⟨m, m1, m2⟩ := hy n v b h3 hb
        exact p1.2 m _ v (by rw [List.getElem?_map, m2]; rfl) m1⟩))
/-! ### isinstance -/
/-- the built-in class of a datum -/
def tyN : PyData → String
  | .none => "NoneType"
  | .bool _ => "bool"
  | .int _ => "int"
  | .str _ => "str"
  | .list _ => "list"
  | .tuple _ => "tuple"
  | .dict _ => "dict"
theorem tyX_of {K : Fg} {F H : Hp} {v : V} {d : PyData} (s : Ex F H) (h : Dq K F v d) : TyX K H v (.type (tyN d)) := by
  cases h with
  | non => exact .base .non
  | bl b => exact .base (.bl b)
  | int i => exact .base (.int i)
  | str x => exact .base (.str x)
  | lst h1 h2 => exact .base (.lst (s _ _ h1))
  | tup h1 h2 =>
    rcases h1 with (h1 | ⟨o, h1⟩) | ⟨o, its, n, h1, h3, _⟩
    · exact .base (.tup (s _ _ h1))
    · exact .fTuple (s _ _ h1)
    · exact .kTuple h1 h3
/-- a built-in class's name -/
theorem wE_bty {x : Str} {T : String} {σ : L2.St} {H : Hp} {Q : VK} (hg : Gl X x) (hm : X.mg x = none) (hv : bootBuiltins x = some (.type T)) (hn : x ≠ "__name__") (hd : (x == ("__debug__" : Str)) = false) (h : Q (.ty T) H) : wE X (.Name x p) σ H Q :=
  wE_of (pe_bltn (v := .ty T) hg hm hv rfl hn hd) h
theorem v_isi {x : Str} {T : String} {dd : PyData} {k : Bool} (B : Blt X.mg) (ha : PEv X Φ a (py X.K dd)) (hk : kitB (tyN dd) T = some k) (hmx : X.mg x = none) (hv : bootBuiltins x = some (.type T)) (hgx : Gl X x := by rfl) (hg : Gl X "isinstance" := by rfl) (h1 : nst a = true := by rfl)
    (hn : x ≠ "__name__" := by decide +kernel) (hd : (x == ("__debug__" : Str)) = false := by decide +kernel) : PV X Φ (.Call (.Name "isinstance" p) [a, .Name x p2] [] pos) k := .mk fun H0 σ F H Q s sl q =>
  wE_callB call_isi hg B.isinstance (by decide +kernel) (by decide +kernel) (by decide +kernel) (by rw [List.all_cons, h1]; rfl) (wA_of (pa_cons peW (pa_cons peW pa_nil (star_cons rfl)) (star_cons h1)) (ha H0 σ F H _ s sl fun v F1 H1 g1 p1 => wE_bty hgx hmx hv hn hd
    ⟨v, .ty T, .type (tyN dd), .type T, k, rfl, .ty T, tyX_of g1.s p1, kit_ty hk, q _ F1 H1 g1 (.bl _)⟩))
theorem v_isiInt {dd : PyData} {k : Bool} (B : Blt X.mg) (ha : PEv X Φ a (py X.K dd)) (hk : kitB (tyN dd) "int" = some k := by rfl) (hgx : Gl X "int" := by rfl) (hg : Gl X "isinstance" := by rfl) (h1 : nst a = true := by rfl) : PV X Φ (.Call (.Name "isinstance" p) [a, .Name "int" p2] [] pos) k := v_isi B ha hk B.int (by decide +kernel) hgx hg h1
theorem v_isiBool {dd : PyData} {k : Bool} (B : Blt X.mg) (ha : PEv X Φ a (py X.K dd)) (hk : kitB (tyN dd) "bool" = some k := by rfl) (hgx : Gl X "bool" := by rfl) (hg : Gl X "isinstance" := by rfl) (h1 : nst a = true := by rfl) : PV X Φ (.Call (.Name "isinstance" p) [a, .Name "bool" p2] [] pos) k := v_isi B ha hk B.bool (by decide +kernel) hgx hg h1
theorem v_isiList {dd : PyData} {k : Bool} (B : Blt X.mg) (ha : PEv X Φ a (py X.K dd)) (hk : kitB (tyN dd) "list" = some k := by rfl) (hgx : Gl X "list" := by rfl) (hg : Gl X "isinstance" := by rfl) (h1 : nst a = true := by rfl) : PV X Φ (.Call (.Name "isinstance" p) [a, .Name "list" p2] [] pos) k := v_isi B ha hk B.list (by decide +kernel) hgx hg h1
theorem v_isiTuple {dd : PyData} {k : Bool} (B : Blt X.mg) (ha : PEv X Φ a (py X.K dd)) (hk : kitB (tyN dd) "tuple" = some k := by rfl) (hgx : Gl X "tuple" := by rfl) (hg : Gl X "isinstance" := by rfl) (h1 : nst a = true := by rfl) : PV X Φ (.Call (.Name "isinstance" p) [a, .Name "tuple" p2] [] pos) k := v_isi B ha hk B.tuple (by decide +kernel) hgx hg h1
/-! ### x is True, the script, chains of three -/
theorem v_isB {l m : Bool} (ha : PV X Φ a l) (hb : PV X Φ b m) : PV X Φ (.Compare a [.Is] [b] pos) (decide (l = m)) := .mk fun H0 σ F H Q s sl q =>
  wE_of (pe_cmpR op_is_bl peW peW (nomark _)) (ha H0 σ F H _ s sl fun x F1 H1 g1 p1 => hb H0 σ F1 H1 _ g1.s (sl.gr g1) fun y F2 H2 g2 p2 => by
    cases p1; cases p2
    exact ⟨l, m, rfl, rfl, q _ _ _ (g1.trans g2) (.bl _)⟩)
theorem v_isntB {l m : Bool} (ha : PV X Φ a l) (hb : PV X Φ b m) : PV X Φ (.Compare a [.IsNot] [b] pos) (!decide (l = m)) := .mk fun H0 σ F H Q s sl q =>
  wE_of (pe_cmpR op_isnot_bl peW peW (nomark _)) (ha H0 σ F H _ s sl fun x F1 H1 g1 p1 => hb H0 σ F1 H1 _ g1.s (sl.gr g1) fun y F2 H2 g2 p2 => by
    cases p1; cases p2
    exact ⟨l, m, rfl, rfl, q _ _ _ (g1.trans g2) (.bl _)⟩)
theorem scr_l {ns : List Int} (h : PEv X Φ e (scrP X.K ns)) : PL X Φ e ns := .mk fun H0 σ F H Q s sl q => h H0 σ F H Q s sl fun v F' H' g ⟨a, h1, h2⟩ => by
  subst h1
  exact q a _ F' H' g (ex_l g.s h2) ints_allP
theorem scr_d {ns : List Int} (h : PEv X Φ e (scrP X.K ns)) : PD X Φ e ns := PEv.imp h fun F v ⟨a, h1, h2⟩ => by
  subst h1
  exact .lst h2 (allP_dpAll2 (F := F) (xs := ns) ints_allP)
/-! ### a compare as a test, from its value -/
theorem t_cmpV {op : CmpOp} {r : R2} {k : Bool} (ho : OpR X (compareOp op) r) (hm : behindInMarks op b = false) (h : ∀ (H0 : Hp) (σ : L2.St) (F H : Hp) (Q : VK), Ex F H → Sl H0 Φ σ F H → (∀ v F' H', Gr F H F' H' → (py X.K (enc k)).p F' v → Q v H') → tOp r (wE X a) (wE X b) σ H Q) : PTv X Φ (.Compare a [op] [b] pos) k := .mk fun H0 σ F H Q s sl q =>
  wT_of (pt_cmpR ho peW peW hm) (h H0 σ F H _ s sl fun v F1 H1 g1 p1 => by cases p1; exact ⟨k, rfl, q F1 H1 g1⟩)
theorem t_isN {α : Type} [Py α] {o : Option α} {q1 : Pos} (hn : ∀ y : α, enc y ≠ .none) (ha : PV X Φ a o) : PTv X Φ (.Compare a [.Is] [.Constant .none 0 q1] pos) o.isNone := .mk fun H0 σ F H Q s sl q =>
  wT_of (pt_cmpR op_isN peW pe_non (nomark _)) (ha H0 σ F H _ s sl fun v F1 H1 g1 p1 => ⟨rfl, _, rfl, by rw [non_iff hn p1]; exact q _ _ g1⟩)
theorem t_notN {α : Type} [Py α] {o : Option α} {q1 : Pos} (hn : ∀ y : α, enc y ≠ .none) (ha : PV X Φ a o) : PTv X Φ (.Compare a [.IsNot] [.Constant .none 0 q1] pos) o.isSome := .mk fun H0 σ F H Q s sl q =>
  wT_of (pt_cmpR op_notN peW pe_non (nomark _)) (ha H0 σ F H _ s sl fun v F1 H1 g1 p1 => ⟨rfl, _, rfl, by rw [non_iff hn p1, Option.not_isNone]; exact q _ _ g1⟩)
theorem t_isB {l m : Bool} (ha : PV X Φ a l) (hb : PV X Φ b m) : PTv X Φ (.Compare a [.Is] [b] pos) (decide (l = m)) := .mk fun H0 σ F H Q s sl q =>
  wT_of (pt_cmpR op_is_bl peW peW (nomark _)) (ha H0 σ F H _ s sl fun x F1 H1 g1 p1 => hb H0 σ F1 H1 _ g1.s (sl.gr g1) fun y F2 H2 g2 p2 => by
    cases p1; cases p2
    exact ⟨l, m, rfl, rfl, _, rfl, q _ _ (g1.trans g2)⟩)
theorem t_isntB {l m : Bool} (ha : PV X Φ a l) (hb : PV X Φ b m) : PTv X Φ (.Compare a [.IsNot] [b] pos) (!decide (l = m)) := .mk fun H0 σ F H Q s sl q =>
  wT_of (pt_cmpR op_isnot_bl peW peW (nomark _)) (ha H0 σ F H _ s sl fun x F1 H1 g1 p1 => hb H0 σ F1 H1 _ g1.s (sl.gr g1) fun y F2 H2 g2 p2 => by
    cases p1; cases p2
    exact ⟨l, m, rfl, rfl, _, rfl, q _ _ (g1.trans g2)⟩)
theorem inL_any {α : Type} [Py α] [PyQ α] [DecidableEq α] {y : α} {xs : List α} : ((xs.map enc).any fun z => PyData.eqv z (enc y)) = decide (y ∈ xs) := by
  rw [List.any_map]
  by_cases h : y ∈ xs
  · rw [decide_eq_true h]
    exact List.any_eq_true.mpr ⟨y, h, (PyQ.eqv y y).mpr rfl⟩
  · rw [decide_eq_false h]
    refine List.any_eq_false.mpr fun z hz w => h ?_
    rw [← (PyQ.eqv z y).mp w]; exact hz
theorem t_inL {α : Type} [Py α] [PyQ α] [DecidableEq α] {y : α} {xs : List α} (hu : X.A.units + 65 < cLine) (hd : Py.dep α + 1 ≤ 64) (ha : PD X Φ a y) (hb : PD X Φ b xs) (hm : behindInMarks .In b = false := by rfl) : PTv X Φ (.Compare a [.In] [b] pos) (decide (y ∈ xs)) := .mk fun H0 σ F H Q s sl q =>
  wT_of (pt_cmpR (op_inD hu) peW peW hm) (ha H0 σ F H _ s sl fun v F1 H1 g1 p1 => hb H0 σ F1 H1 _ g1.s (sl.gr g1) fun w F2 H2 g2 p2 =>
    ⟨enc y, xs.map enc, dp_mono (g2.f.trans g2.s) _ _ p1, dp_mono g2.s _ _ p2, shaped_of (by omega) _, shaped_of (α := List α) hd xs, _, rfl, by rw [inL_any]; exact q _ _ (g1.trans g2)⟩)
theorem t_notInL {α : Type} [Py α] [PyQ α] [DecidableEq α] {y : α} {xs : List α} (hu : X.A.units + 65 < cLine) (hd : Py.dep α + 1 ≤ 64) (ha : PD X Φ a y) (hb : PD X Φ b xs) (hm : behindInMarks .NotIn b = false := by rfl) : PTv X Φ (.Compare a [.NotIn] [b] pos) (!decide (y ∈ xs)) := .mk fun H0 σ F H Q s sl q =>
  wT_of (pt_cmpR (op_notInD hu) peW peW hm) (ha H0 σ F H _ s sl fun v F1 H1 g1 p1 => hb H0 σ F1 H1 _ g1.s (sl.gr g1) fun w F2 H2 g2 p2 =>
    ⟨enc y, xs.map enc, dp_mono (g2.f.trans g2.s) _ _ p1, dp_mono g2.s _ _ p2, shaped_of (by omega) _, shaped_of (α := List α) hd xs, _, rfl, by rw [inL_any]; exact q _ _ (g1.trans g2)⟩)
end
end GL

set_option Elab.async false
set_option linter.all false
set_option maxRecDepth 100000
set_option maxHeartbeats 4000000
namespace GL
open PySem PySem.Spec PyProof.Rows L2
open Evl (Ex ex_l ex_t)
/-! ### the printed rules: values named as they come; V: the block hands back a value, C: a loop's turn -/
def bindV {α β : Type} (a : α) (k : α → β) : β := k a
def forR {α S R : Type} (f : S → α → Ctl S R) (s0 : S) (xs : List α) (k : S → R) : R := match forL f s0 xs with
  | .inl s => k s
  | .inr r => r
def whileR {S R : Type} (c : S → Bool) (f : S → Ctl S R) (n : Nat) (s0 : S) (k : S → R) : R := match whileL c f n s0 with
  | .inl s => k s
  | .inr r => r
section
variable {X : Cx} {W : XK} {S R β : Type} {Φ : List SD} {M : S → List SD} {T : R → RS} {a b c e : Expr} {es : List Expr} {pos p p2 : Pos} {P : MP} {Ps Qs : List MP} {i j : Int} {tg iter : Expr} {A A1 A2 body : List Stmt} {r : List (List Stmt)} {st : Stmt}
/-! x = e -/
theorem h_setV {α : Type} [Py α] (n : Nat) {x : Str} {v : α} {k : α → R} (hN : X.N.Nodup) (he : PV X Φ e v) (h : ∀ x, x = v → HB X W (A :: r) (Φ.set n (sI X.K x)) M T (.rt (k x))) (hi : X.N[n]? = some x := by rfl) (hx : Loc X.env.scope x := by first | exact Or.inl rfl | exact Or.inr rfl) (hs : swapsWith e (some (.Name x p)) pos.line X.env = pure false := by rfl)
    (hf : X.fn x = true ∨ X.env.scope.names.lookup x = some .local := by first | exact .inl rfl | exact .inr rfl) : HB X W ((.Assign [.Name x p] e pos :: A) :: r) Φ M T (.rt (bindV v k)) := h_set n hN he (h v rfl) hi hx hs hf
theorem h_setC {α : Type} [Py α] (n : Nat) {x : Str} {v : α} {k : α → Ctl S R} (hN : X.N.Nodup) (he : PV X Φ e v) (h : ∀ x, x = v → HB X W (A :: r) (Φ.set n (sI X.K x)) M T (k x)) (hi : X.N[n]? = some x := by rfl) (hx : Loc X.env.scope x := by first | exact Or.inl rfl | exact Or.inr rfl) (hs : swapsWith e (some (.Name x p)) pos.line X.env = pure false := by rfl)
    (hf : X.fn x = true ∨ X.env.scope.names.lookup x = some .local := by first | exact .inl rfl | exact .inr rfl) : HB X W ((.Assign [.Name x p] e pos :: A) :: r) Φ M T (bindV v k) := h_set n hN he (h v rfl) hi hx hs hf
/-! x = e, a list of one's own -/
theorem h_ownV {α : Type} [Py α] (n : Nat) {x : Str} {v : List α} {k : List α → R} (hN : X.N.Nodup) (he : PN X Φ e v) (h : ∀ x, x = v → HB X W (A :: r) (Φ.set n (sO X.K x)) M T (.rt (k x))) (hi : X.N[n]? = some x := by rfl) (hx : Loc X.env.scope x := by first | exact Or.inl rfl | exact Or.inr rfl) (hs : swapsWith e (some (.Name x p)) pos.line X.env = pure false := by rfl)
    (hf : X.fn x = true ∨ X.env.scope.names.lookup x = some .local := by first | exact .inl rfl | exact .inr rfl) : HB X W ((.Assign [.Name x p] e pos :: A) :: r) Φ M T (.rt (bindV v k)) := h_setN n hN he (h v rfl) hi hx hs hf
theorem h_ownC {α : Type} [Py α] (n : Nat) {x : Str} {v : List α} {k : List α → Ctl S R} (hN : X.N.Nodup) (he : PN X Φ e v) (h : ∀ x, x = v → HB X W (A :: r) (Φ.set n (sO X.K x)) M T (k x)) (hi : X.N[n]? = some x := by rfl) (hx : Loc X.env.scope x := by first | exact Or.inl rfl | exact Or.inr rfl) (hs : swapsWith e (some (.Name x p)) pos.line X.env = pure false := by rfl)
    (hf : X.fn x = true ∨ X.env.scope.names.lookup x = some .local := by first | exact .inl rfl | exact .inr rfl) : HB X W ((.Assign [.Name x p] e pos :: A) :: r) Φ M T (bindV v k) := h_setN n hN he (h v rfl) hi hx hs hf
/-! x = [..] on one line -/
variable {elt : Expr} {scope : Scope}
theorem h_lc {α β : Type} [Py α] [Py β] {xs : List α} {f : α → β} {o : Ctl S R} (n : Nat) {x : Str} {py_ spos : Pos} (own : List (Str × Nat)) (us : α → List (Nat × SD)) (hc : X.calm = true) (hN : X.N.Nodup) (ok : BlkOk X.N X.env.scope scope own) (hi : PIt X Φ tg iter xs) (hz : xs.length ≤ sizeLine)
    (hg : ∀ x, ∀ (s : Shared) (H : Hp) (C : Addr) (cl : List (Str × Addr)) (fp : List Addr), PGt (X.blk s H scope (compEnvC scope cl C X.env) fp) tg x (us x)) (hu : ∀ x, ∀ u ∈ us x, u.1 ∈ own.map (·.2))
    (he : ∀ x, x ∈ xs → ∀ (s : Shared) (H : Hp) (C : Addr) (cl : List (Str × Addr)) (fp : List Addr), PEv (X.blk s H scope (compEnvC scope cl C X.env) fp) (setAll (wipeS Φ (own.map (·.2))) (us x)) elt (py X.K (enc (f x))))
    (h : HB X W (A :: r) (Φ.set n (sO X.K (xs.map f))) M T o)
    (hn : X.N[n]? = some x := by rfl) (hl : X.env.scope.names.lookup x = some .local := by rfl) (hsw : swapsWith (.ListComp elt [⟨tg, iter, [], 0⟩] scope pos) (some (.Name x py_)) spos.line X.env = pure true := by exact sw_true rfl rfl rfl (by decide +kernel)) (hs : ∀ x, foldedSetIterable iter X.env x = pure x := by intro _; rfl) :
    HB X W ((.Assign [.Name x py_] (.ListComp elt [⟨tg, iter, [], 0⟩] scope pos) spos :: A) :: r) Φ M T o := .mk fun F0 H0 D σ F H g sl k =>
  wK_cons (wS_of (ps_setLc (own := own) hc hN hn hl hsw piW ok pgB (fun _ _ _ _ _ => pts_nil) peB hs) (lc_ok (cnd := fun _ => true) g.s sl hi hz hg hu (fun x hx σ' F' H' R s' _ r => r F' H' (Gr.refl s')) (fun x hx _ => he x hx) (by
    rw [filter_true]
    intro l vs F1 H1 g1 h1 h2 h3 h4
    exact h F0 H0 D _ F1 H1 (g.trans g1) (Sl.setOw (sl.gr g1) (by
      cases z : H0 l with
      | none => rfl
      | some u => rw [g.h l u z] at h1; cases h1) h2 h3 h4 (sl.new h1)) k)))
theorem h_lcIf {α β : Type} [Py α] [Py β] {xs : List α} {cnd : α → Bool} {f : α → β} {o : Ctl S R} (n : Nat) {x : Str} {py_ spos : Pos} (own : List (Str × Nat)) (us : α → List (Nat × SD)) (hc : X.calm = true) (hN : X.N.Nodup) (ok : BlkOk X.N X.env.scope scope own) (hi : PIt X Φ tg iter xs) (hz : xs.length ≤ sizeLine)
    (hg : ∀ x, ∀ (s : Shared) (H : Hp) (C : Addr) (cl : List (Str × Addr)) (fp : List Addr), PGt (X.blk s H scope (compEnvC scope cl C X.env) fp) tg x (us x)) (hu : ∀ x, ∀ u ∈ us x, u.1 ∈ own.map (·.2))
    (ht : ∀ x, x ∈ xs → ∀ (s : Shared) (H : Hp) (C : Addr) (cl : List (Str × Addr)) (fp : List Addr), PTv (X.blk s H scope (compEnvC scope cl C X.env) fp) (setAll (wipeS Φ (own.map (·.2))) (us x)) c (cnd x))
    (he : ∀ x, x ∈ xs → cnd x = true → ∀ (s : Shared) (H : Hp) (C : Addr) (cl : List (Str × Addr)) (fp : List Addr), PEv (X.blk s H scope (compEnvC scope cl C X.env) fp) (setAll (wipeS Φ (own.map (·.2))) (us x)) elt (py X.K (enc (f x))))
    (h : HB X W (A :: r) (Φ.set n (sO X.K ((xs.filter cnd).map f))) M T o)
    (hn : X.N[n]? = some x := by rfl) (hl : X.env.scope.names.lookup x = some .local := by rfl) (hsw : swapsWith (.ListComp elt [⟨tg, iter, [c], 0⟩] scope pos) (some (.Name x py_)) spos.line X.env = pure true := by exact sw_true rfl rfl rfl (by decide +kernel)) (hs : ∀ x, foldedSetIterable iter X.env x = pure x := by intro _; rfl) :
    HB X W ((.Assign [.Name x py_] (.ListComp elt [⟨tg, iter, [c], 0⟩] scope pos) spos :: A) :: r) Φ M T o := .mk fun F0 H0 D σ F H g sl k =>
  wK_cons (wS_of (ps_setLc (own := own) hc hN hn hl hsw piW ok pgB (fun s H C cl fp => pts_one (ptB s H C cl fp)) peB hs) (lc_ok g.s sl hi hz hg hu (fun x hx σ' F' H' R s' sl' r s2 Hs C cl fp => ht x hx s2 Hs C cl fp H0 σ' F' H' R s' sl' r) he (by
    intro l vs F1 H1 g1 h1 h2 h3 h4
    exact h F0 H0 D _ F1 H1 (g.trans g1) (Sl.setOw (sl.gr g1) (by
      cases z : H0 l with
      | none => rfl
      | some u => rw [g.h l u z] at h1; cases h1) h2 h3 h4 (sl.new h1)) k)))
/-! tests -/
theorem h_ifV {k : Bool} {v1 v2 : R} (hc : PTv X Φ c k) (h1 : k = true → HB X W (A1 :: A :: r) Φ M T (.rt v1)) (h2 : k = false → HB X W (A2 :: A :: r) Φ M T (.rt v2)) : HB X W ((.If c A1 A2 pos :: A) :: r) Φ M T (.rt (cond k v1 v2)) := by
  have h := h_if (pos := pos) hc h1 h2
  cases k with
  | true => exact h
  | false => exact h
theorem h_ifC {k : Bool} {o1 o2 : Ctl S R} (hc : PTv X Φ c k) (h1 : k = true → HB X W (A1 :: A :: r) Φ M T o1) (h2 : k = false → HB X W (A2 :: A :: r) Φ M T o2) : HB X W ((.If c A1 A2 pos :: A) :: r) Φ M T (cond k o1 o2) := h_if hc h1 h2
theorem h_ifMV {S' : Type} (M' : S' → List SD) {k : Bool} {s1 s2 : S'} {kk : S' → R} (hc : PTv X Φ c k) (h1 : k = true → HB X W [A1] Φ M' T (.nx s1)) (h2 : k = false → HB X W [A2] Φ M' T (.nx s2)) (h : ∀ s, s = cond k s1 s2 → HB X W (A :: r) (M' s) M T (.rt (kk s))) : HB X W ((.If c A1 A2 pos :: A) :: r) Φ M T (.rt (bindV (cond k s1 s2) kk)) :=
  h_ifM (M' := M') hc h1 h2 (h _ rfl)
theorem h_ifMC {S' : Type} (M' : S' → List SD) {k : Bool} {s1 s2 : S'} {kk : S' → Ctl S R} (hc : PTv X Φ c k) (h1 : k = true → HB X W [A1] Φ M' T (.nx s1)) (h2 : k = false → HB X W [A2] Φ M' T (.nx s2)) (h : ∀ s, s = cond k s1 s2 → HB X W (A :: r) (M' s) M T (kk s)) : HB X W ((.If c A1 A2 pos :: A) :: r) Φ M T (bindV (cond k s1 s2) kk) :=
  h_ifM (M' := M') hc h1 h2 (h _ rfl)
/-! loops -/
theorem h_forV {α S' : Type} [Py α] {xs : List α} (M' : S' → List SD) (us : α → List (Nat × SD)) {f : S' → α → Ctl S' R} {s0 : S'} {k : S' → R} (hp : PassesOwn (model X.prog X.w) X.A X.env X.xe) (hc : X.calm = true)
    (hi : PIt X Φ tg iter xs) (hg : ∀ x, PGt X tg x (us x)) (w0 : Wk Φ (M' s0))
    (hb : ∀ n s x, xs[n]? = some x → steps f s0 (xs.take n) = some s → HB X W [body] (setAll (M' s) (us x)) M' T (f s x))
    (hr : ∀ s, forL f s0 xs = .inl s → HB X W (A :: r) (M' s) M T (.rt (k s))) (hs : ∀ x, foldedSetIterable iter X.env x = pure x := by intro _; rfl) :
    HB X W ((.For tg iter body [] pos :: A) :: r) Φ M T (.rt (forR f s0 xs k)) := by
  have h := h_for (k := fun s => .rt (k s)) (pos := pos) us f s0 hp hc hi hg w0 hb hr hs
  unfold forK at h
  unfold forR
  cases q : forL f s0 xs with
  | inl s => rw [q] at h; exact h
  | inr v => rw [q] at h; exact h
theorem h_forC {α S' : Type} [Py α] {xs : List α} (M' : S' → List SD) (us : α → List (Nat × SD)) {f : S' → α → Ctl S' R} {s0 : S'} {k : S' → Ctl S R} (hp : PassesOwn (model X.prog X.w) X.A X.env X.xe) (hc : X.calm = true)
    (hi : PIt X Φ tg iter xs) (hg : ∀ x, PGt X tg x (us x)) (w0 : Wk Φ (M' s0))
    (hb : ∀ n s x, xs[n]? = some x → steps f s0 (xs.take n) = some s → HB X W [body] (setAll (M' s) (us x)) M' T (f s x))
    (hr : ∀ s, forL f s0 xs = .inl s → HB X W (A :: r) (M' s) M T (k s)) (hs : ∀ x, foldedSetIterable iter X.env x = pure x := by intro _; rfl) :
    HB X W ((.For tg iter body [] pos :: A) :: r) Φ M T (forK f s0 xs k) := h_for us f s0 hp hc hi hg w0 hb hr hs
theorem h_foldV {α S' : Type} [Py α] {xs : List α} (M' : S' → List SD) (us : α → List (Nat × SD)) {f : S' → α → S'} {s0 : S'} {k : S' → R} (hp : PassesOwn (model X.prog X.w) X.A X.env X.xe) (hc : X.calm = true)
    (hi : PIt X Φ tg iter xs) (hg : ∀ x, PGt X tg x (us x)) (w0 : Wk Φ (M' s0))
    (hb : ∀ n s x, xs[n]? = some x → s = (xs.take n).foldl f s0 → HB X W [body] (setAll (M' s) (us x)) M' T (.nx (f s x)))
    (hr : ∀ s, s = xs.foldl f s0 → HB X W (A :: r) (M' s) M T (.rt (k s))) (hs : ∀ x, foldedSetIterable iter X.env x = pure x := by intro _; rfl) :
    HB X W ((.For tg iter body [] pos :: A) :: r) Φ M T (.rt (bindV (xs.foldl f s0) k)) := h_fold (M' := M') us f s0 hp hc hi hg w0 hb (hr _ rfl) hs
theorem h_foldC {α S' : Type} [Py α] {xs : List α} (M' : S' → List SD) (us : α → List (Nat × SD)) {f : S' → α → S'} {s0 : S'} {k : S' → Ctl S R} (hp : PassesOwn (model X.prog X.w) X.A X.env X.xe) (hc : X.calm = true)
    (hi : PIt X Φ tg iter xs) (hg : ∀ x, PGt X tg x (us x)) (w0 : Wk Φ (M' s0))
    (hb : ∀ n s x, xs[n]? = some x → s = (xs.take n).foldl f s0 → HB X W [body] (setAll (M' s) (us x)) M' T (.nx (f s x)))
    (hr : ∀ s, s = xs.foldl f s0 → HB X W (A :: r) (M' s) M T (k s)) (hs : ∀ x, foldedSetIterable iter X.env x = pure x := by intro _; rfl) :
    HB X W ((.For tg iter body [] pos :: A) :: r) Φ M T (bindV (xs.foldl f s0) k) := h_fold (M' := M') us f s0 hp hc hi hg w0 hb (hr _ rfl) hs
theorem h_whileV {S' : Type} (M' : S' → List SD) (I : S' → Prop) (m : S' → Nat) {cn : S' → Bool} {f : S' → Ctl S' R} {s0 : S'} {k : S' → R} (hp : PassesOwn (model X.prog X.w) X.A X.env X.xe) (w0 : Wk Φ (M' s0)) (i0 : I s0)
    (ht : ∀ s, I s → PTv X (M' s) c (cn s)) (hb : ∀ s, I s → cn s = true → HB X W [body] (M' s) M' T (f s))
    (hm : ∀ s s', I s → cn s = true → (f s = .nx s' ∨ f s = .ct s') → I s' ∧ m s' < m s)
    (hr : ∀ s, whileL cn f (m s0 + 1) s0 = .inl s → HB X W (A :: r) (M' s) M T (.rt (k s))) :
    HB X W ((.While c body [] pos :: A) :: r) Φ M T (.rt (whileR cn f (m s0 + 1) s0 k)) := by
  have h := h_while (k := fun s => .rt (k s)) (pos := pos) I m cn f s0 hp w0 i0 ht hb hm hr
  unfold whileK at h
  unfold whileR
  cases q : whileL cn f (m s0 + 1) s0 with
  | inl s => rw [q] at h; exact h
  | inr v => rw [q] at h; exact h
theorem h_whileC {S' : Type} (M' : S' → List SD) (I : S' → Prop) (m : S' → Nat) {cn : S' → Bool} {f : S' → Ctl S' R} {s0 : S'} {k : S' → Ctl S R} (hp : PassesOwn (model X.prog X.w) X.A X.env X.xe) (w0 : Wk Φ (M' s0)) (i0 : I s0)
    (ht : ∀ s, I s → PTv X (M' s) c (cn s)) (hb : ∀ s, I s → cn s = true → HB X W [body] (M' s) M' T (f s))
    (hm : ∀ s s', I s → cn s = true → (f s = .nx s' ∨ f s = .ct s') → I s' ∧ m s' < m s)
    (hr : ∀ s, whileL cn f (m s0 + 1) s0 = .inl s → HB X W (A :: r) (M' s) M T (k s)) :
    HB X W ((.While c body [] pos :: A) :: r) Φ M T (whileK cn f (m s0 + 1) s0 k) := h_while I m cn f s0 hp w0 i0 ht hb hm hr
/-! a pair of targets and the like: the parts come as they are -/
theorem v_powC {n : Int} (ha : PV X Φ a i) (hb : PV X Φ b j) (hc : CPow i j := by exact ⟨by decide, by decide, by decide⟩) (hn : i ^ j.toNat = n := by decide) : PV X Φ (.BinOp a .Pow b pos) n := by
  subst hn; exact v_pow ha hb hc
theorem room65 {k : Nat} {A : Around} (r : Room k A) : A.units + 65 < cLine := by have := r.un; omega
theorem roomS {k n : Nat} {A : Around} (r : Room k A) (h : n ≤ 60) : A.units + 2 + n < cLine := by have := r.un; omega
end
end GL

set_option Elab.async false
set_option linter.all false
set_option maxRecDepth 100000
set_option maxHeartbeats 4000000
namespace GL
open PySem PySem.Spec PyProof.Rows L2
open Evl (Ex ex_l ex_t)

theorem AllP.take {Ps : List MP} {F : Hp} {vs : List V} (h : AllP Ps F vs) (n : Nat) : AllP (Ps.take n) F (vs.take n) := by
  refine ⟨by simp [h.1], fun i P v h1 h2 => ?_⟩
  rw [List.getElem?_take] at h1 h2
  split at h1
  · rename_i hi
    rw [if_pos hi] at h2
    exact h.2 _ P v h1 h2
  · cases h1
theorem AllP.drop {Ps : List MP} {F : Hp} {vs : List V} (h : AllP Ps F vs) (n : Nat) : AllP (Ps.drop n) F (vs.drop n) := by
  refine ⟨by simp [h.1], fun i P v h1 h2 => ?_⟩
  rw [List.getElem?_drop] at h1 h2
  exact h.2 _ P v h1 h2

/-! ### None or a value -/
class PyN (α : Type) [Py α] : Prop where
  nn : ∀ x : α, enc x ≠ .none
instance : PyN Int := ⟨fun x h => by simp [enc, Py.enc] at h⟩
instance : PyN Bool := ⟨fun x h => by simp [enc, Py.enc] at h⟩
instance {α : Type} [Py α] : PyN (List α) := ⟨fun x h => by simp [enc, Py.enc] at h⟩
instance {α : Type} [Py α] : PyN (Tup α) := ⟨fun x h => by simp [enc, Py.enc] at h⟩
instance {α β : Type} [Py α] [Py β] : PyN (α × β) := ⟨fun x h => by simp [enc, Py.enc] at h⟩
instance {α β γ : Type} [Py α] [Py β] [Py γ] : PyN (T3 α β γ) := ⟨fun x h => by simp [enc, Py.enc] at h⟩
instance {α β γ δ : Type} [Py α] [Py β] [Py γ] [Py δ] : PyN (T4 α β γ δ) := ⟨fun x h => by simp [enc, Py.enc] at h⟩
instance {α β γ δ ε : Type} [Py α] [Py β] [Py γ] [Py δ] [Py ε] : PyN (T5 α β γ δ ε) := ⟨fun x h => by simp [enc, Py.enc] at h⟩
theorem eqv_none_l {d : PyData} (h : d ≠ .none) : PyData.eqv .none d = false := by
  cases d <;> first | exact absurd rfl h | simp [PyData.eqv]
theorem eqv_none_r {d : PyData} (h : d ≠ .none) : PyData.eqv d .none = false := by
  cases d <;> first | exact absurd rfl h | simp [PyData.eqv]
instance {α : Type} [Py α] [PyQ α] [PyN α] : PyQ (Option α) := ⟨fun x y => by
  cases x with
  | none =>
    cases y with
    | none => simp [enc, Py.enc, PyData.eqv]
    | some y =>
      have h := eqv_none_l (PyN.nn y)
      show PyData.eqv .none (enc y) = true ↔ _
      rw [h]; simp
  | some x =>
    cases y with
    | none =>
      have h := eqv_none_r (PyN.nn x)
      show PyData.eqv (enc x) .none = true ↔ _
      rw [h]; simp
    | some y =>
      have h := PyQ.eqv x y
      show PyData.eqv (enc x) (enc y) = true ↔ _
      rw [h]; simp⟩
/-! ### what leans on no object -/
class Fl (α : Type) [Py α] : Prop where
  fl : ∀ (K : Fg) (F F' : Hp) (v : V) (x : α), Dq K F v (enc x) → Dq K F' v (enc x)
instance : Fl Int := ⟨fun K F F' v x h => by cases h; exact .int _⟩
instance : Fl Bool := ⟨fun K F F' v x h => by cases h; exact .bl _⟩
instance : Fl Unit := ⟨fun K F F' v x h => by cases h; exact .non⟩
instance {α : Type} [Py α] [Fl α] : Fl (Option α) := ⟨fun K F F' v x h => by
  cases x with
  | none => cases h; exact .non
  | some x => exact Fl.fl K F F' v x h⟩
theorem Sl.settleT {α : Type} [Py α] {K : Fg} {H0 F H : Hp} {Φ : List SD} {σ : L2.St} {n : Nat} {xs : List α} {l : Addr} {vs : List V} (sl : Sl H0 Φ σ F H) (s : Ex F H) (ho : Φ[n]? = some (sO K xs)) (h1 : σ[n]? = some (some (.ref l))) (h3 : F l = none) (h4 : H l = some (.lst vs)) (h5 : AllP (xs.map fun x => py K (enc x)) F vs) :
    Sl H0 (Φ.set n (sI K xs)) σ (upd F l (.lst vs)) H := by
  have s1 := sl.settle s ho h1 h3 h4 h5
  refine ⟨by rw [s1.len]; simp, fun m d u a b => ?_, fun m m' d d' l' hm a b c c' f f' => ?_⟩
  · by_cases q : n = m
    · subst q
      have hn := (List.getElem?_eq_some_iff.mp ho).1
      rw [List.getElem?_set_self hn] at a
      cases a
      obtain ⟨v, e1, e2⟩ := s1.at_ n _ u (List.getElem?_set_self hn) b
      exact ⟨v, e1, py_lst.mpr e2⟩
    · rw [List.getElem?_set_ne q] at a
      exact s1.at_ m d u (by rw [List.getElem?_set_ne q]; exact a) b
  · have cv : ∀ (k : Nat) (d : SD), (Φ.set n (sI K xs))[k]? = some d → d.isOw = true → Φ[k]? = some d := fun k d a c => by
      by_cases q : n = k
      · subst q
        rw [List.getElem?_set_self (List.getElem?_eq_some_iff.mp ho).1] at a
        cases a; cases c
      · rw [List.getElem?_set_ne q] at a; exact a
    exact sl.apart m m' d d' l' hm (cv m d a c) (cv m' d' b c') c c' f f'
section
variable {X : Cx} {W : XK} {S R : Type} {Φ : List SD} {M : S → List SD} {T : R → RS} {a b c d e : Expr} {es : List Expr} {pos p p2 : Pos} {P : MP} {Ps Qs : List MP} {i j k : Int} {tg iter : Expr} {A : List Stmt} {r : List (List Stmt)}
theorem PV.flat {α β : Type} [Py α] [Py β] [Fl β] (n : Nat) {xs : List α} {x : β} (h : PV X (Φ.set n (sI X.K xs)) e x) (ho : Φ[n]? = some (sO X.K xs) := by rfl) : PV X Φ e x := .mk fun H0 σ F H Q s sl q => by
  obtain ⟨l, vs, h1, h2, h3, h4, h5⟩ := sl.ow ho
  obtain ⟨x1, x2⟩ := Gr.settle s h3 h4
  exact h H0 σ _ H Q x2 (sl.settleT s ho h1 h3 h4 h5) fun v F' H' g z => q v F H' (Gr.hp s g.h) (Fl.fl _ _ _ _ _ z)
theorem PTv.flat {α : Type} [Py α] (n : Nat) {xs : List α} {k : Bool} (h : PTv X (Φ.set n (sI X.K xs)) e k) (ho : Φ[n]? = some (sO X.K xs) := by rfl) : PTv X Φ e k := .mk fun H0 σ F H Q s sl q => by
  obtain ⟨l, vs, h1, h2, h3, h4, h5⟩ := sl.ow ho
  obtain ⟨x1, x2⟩ := Gr.settle s h3 h4
  exact h H0 σ _ H Q x2 (sl.settleT s ho h1 h3 h4 h5) fun F' H' g => q F H' (Gr.hp s g.h)
/-- the value of a None-or-value that is one -/
theorem v_get {α : Type} [Py α] {o : Option α} (w : α) (ho : o.isSome = true) (h : PV X Φ e o) : PV X Φ e (o.getD w) := by
  cases o with
  | none => cases ho
  | some x => exact h
/-! ### facts of a loop's items -/
theorem rng_memF {lo hi x : Int} (h : x ∈ rng lo hi) : lo ≤ x ∧ x < hi := by
  unfold rng at h
  obtain ⟨n, hn, rfl⟩ := List.mem_map.mp h
  have := List.mem_range.mp hn
  omega
theorem rng_atF {lo hi x : Int} {n : Nat} (h : (rng lo hi)[n]? = some x) : x = lo + (n : Int) ∧ lo ≤ x ∧ x < hi := by
  have hn := (List.getElem?_eq_some_iff.mp h).1
  rw [rng_length] at hn
  rw [rng_at hn] at h
  have := Option.some.inj h
  omega
theorem rev_memF {i x : Int} (h : x ∈ (rng 0 i).reverse) : 0 ≤ x ∧ x < i := rng_memF (List.mem_reverse.mp h)
theorem rev_atF {i x : Int} {n : Nat} (h : (rng 0 i).reverse[n]? = some x) : x = i - 1 - (n : Int) ∧ 0 ≤ x ∧ x < i := by
  have hn := (List.getElem?_eq_some_iff.mp h).1
  rw [List.length_reverse, rng_length] at hn
  rw [List.getElem?_reverse (by rw [rng_length]; exact hn), rng_length] at h
  have := rng_atF h
  omega
theorem enum_atF {α : Type} {xs : List α} {x : Int × α} {n : Nat} (h : (enumL xs)[n]? = some x) : x.1 = (n : Int) ∧ xs[n]? = some x.2 ∧ x.2 ∈ xs ∧ 0 ≤ x.1 ∧ x.1 < xs.length := by
  have hn := (List.getElem?_eq_some_iff.mp h).1
  rw [enumL_length] at hn
  have e := enumL_get (List.getElem?_eq_getElem hn)
  rw [h] at e
  have e2 := Option.some.inj e
  subst e2
  exact ⟨rfl, List.getElem?_eq_getElem hn, List.getElem_mem hn, by show (0 : Int) ≤ (n : Int); omega, by show (n : Int) < _; omega⟩
theorem enum_memF {α : Type} {xs : List α} {x : Int × α} (h : x ∈ enumL xs) : xs[x.1.toNat]? = some x.2 ∧ x.2 ∈ xs ∧ 0 ≤ x.1 ∧ x.1 < xs.length := by
  obtain ⟨n, hn⟩ := List.mem_iff_getElem?.mp h
  obtain ⟨h1, h2, h3, h4, h5⟩ := enum_atF hn
  exact ⟨by rw [h1]; exact h2, h3, h4, h5⟩
theorem zip_atF {α β : Type} {xs : List α} {ys : List β} {x : α × β} {n : Nat} (h : (xs.zip ys)[n]? = some x) : xs[n]? = some x.1 ∧ ys[n]? = some x.2 ∧ x.1 ∈ xs ∧ x.2 ∈ ys := by
  obtain ⟨h1, h2⟩ := List.getElem?_zip_eq_some.mp h
  exact ⟨h1, h2, List.mem_of_getElem? h1, List.mem_of_getElem? h2⟩
theorem zip_memF {α β : Type} {xs : List α} {ys : List β} {x : α × β} (h : x ∈ xs.zip ys) : x.1 ∈ xs ∧ x.2 ∈ ys := by
  obtain ⟨n, hn⟩ := List.mem_iff_getElem?.mp h
  exact (zip_atF hn).2.2
theorem mem_atF {α : Type} {xs : List α} {x : α} {n : Nat} (h : xs[n]? = some x) : x ∈ xs := List.mem_of_getElem? h
/-! ### chains of three -/
theorem pe_chain3 {op op' op2 : CmpOp} {r r' r2 : R2} {ta tb tc td : TE} (ho : OpR X (compareOp op) r) (ho' : OpR X (compareOp op') r') (ho2 : OpR X (compareOp op2) r2) (ha : PE X a ta) (hb : PE X b tb) (hc : PE X c tc) (hd : PE X d td)
    (hm : lastMarks [op, op', op2] [b, c, d] = false := by with_unfolding_all rfl) : PE X (.Compare a [op, op', op2] [b, c, d] pos)
      (fun σ H Q => ta σ H fun x H1 => tb σ H1 fun y H2 => r x y H2 fun z H3 => ∃ k, z = .bl k ∧ (if k = true then tc σ H3 fun w H4 => r' y w H4 fun z' H5 => ∃ k', z' = .bl k' ∧ (if k' = true then td σ H5 fun u H6 => r2 w u H6 Q else Q (.bl false) H5) else Q (.bl false) H3)) := by
  refine ⟨fun pins s σ H Q I h => ?_⟩
  refine Compare_chain (thn (ha.run pins s σ H _ I h) fun v s1 ⟨x, H1, I1, r1, q1⟩ => chain_link (thn (hb.run pins s1 σ H1 _ I1 q1) fun u s2 ⟨y, H2, I2, r2, q2⟩ =>
    thn (ho pins s2 σ H2 x y v u _ I2 r1 r2 q2) fun d s3 ⟨z, H3, I3, r3, k, e, q3⟩ => ?_)) hm
  subst e
  cases r3
  refine wpAny_truthy_bool ?_
  cases k with
  | false => exact ite_ff ⟨.bl false, H3, I3, rfl, q3⟩
  | true =>
    refine ite_tt (chain_link (thn (hc.run pins s3 σ H3 _ I3 q3) fun w' s4 ⟨z', H4, I4, r4, q4⟩ => thn (ho' pins s4 σ H4 y z' u w' _ I4 r2 r4 q4) fun d' s5 ⟨z2, H5, I5, r5, k2, e2, q5⟩ => ?_))
    subst e2
    cases r5
    refine wpAny_truthy_bool ?_
    cases k2 with
    | false => exact ite_ff ⟨.bl false, H5, I5, rfl, q5⟩
    | true => exact ite_tt (chain_last (thn (hd.run pins s5 σ H5 _ I5 q5) fun w2 s6 ⟨z3, H6, I6, r6, q6⟩ => ho2 pins s6 σ H6 z' z3 w' w2 Q I6 r4 r6 q6))
theorem v_chain3 {l : Int} {op op' op2 : CmpOp} {f f' f2 : Int → Int → Bool} (ho : OpR X (compareOp op) (rI0 fun i j => .bl (f i j))) (ho' : OpR X (compareOp op') (rI0 fun i j => .bl (f' i j))) (ho2 : OpR X (compareOp op2) (rI0 fun i j => .bl (f2 i j)))
    (ha : PV X Φ a i) (hb : PV X Φ b j) (hc : f i j = true → PV X Φ c k) (hd : f i j = true → f' j k = true → PV X Φ d l)
    (hm : lastMarks [op, op', op2] [b, c, d] = false := by with_unfolding_all rfl) : PV X Φ (.Compare a [op, op', op2] [b, c, d] pos) (f i j && f' j k && f2 k l) := .mk fun H0 σ F H Q s sl q =>
  wE_of (pe_chain3 ho ho' ho2 peW peW peW peW hm) (ha H0 σ F H _ s sl fun x F1 H1 g1 p1 => hb H0 σ F1 H1 _ g1.s (sl.gr g1) fun y F2 H2 g2 p2 => by
    cases p1; cases p2
    refine ⟨i, j, rfl, rfl, f i j, rfl, ?_⟩
    cases e : f i j with
    | true =>
      refine iteT (hc e H0 σ F2 H2 _ g2.s ((sl.gr g1).gr g2) fun z F3 H3 g3 p3 => ?_)
      cases p3
      refine ⟨j, k, rfl, rfl, f' j k, rfl, ?_⟩
      cases e' : f' j k with
      | true =>
        refine iteT (hd e e' H0 σ F3 H3 _ g3.s (((sl.gr g1).gr g2).gr g3) fun u F4 H4 g4 p4 => ?_)
        cases p4
        exact ⟨k, l, rfl, rfl, by
          have := q (.bl (f2 k l)) F4 H4 (((g1.trans g2).trans g3).trans g4) (by rw [e, e', Bool.true_and, Bool.true_and]; exact .bl _)
          exact this⟩
      | false => exact iteF (by
          have := q (.bl false) F3 H3 ((g1.trans g2).trans g3) (by rw [e, e', Bool.true_and, Bool.false_and]; exact .bl _)
          exact this)
    | false => exact iteF (by
        have := q (.bl false) F2 H2 (g1.trans g2) (by rw [e, Bool.false_and, Bool.false_and]; exact .bl _)
        exact this))
theorem pt_chain3 {op op' op2 : CmpOp} {r r' r2 : R2} {ta tb tc td : TE} (ho : OpR X (compareOp op) r) (ho' : OpR X (compareOp op') r') (ho2 : OpR X (compareOp op2) r2) (ha : PE X a ta) (hb : PE X b tb) (hc : PE X c tc) (hd : PE X d td)
    (hm : lastMarks [op, op', op2] [b, c, d] = false := by with_unfolding_all rfl) : PT X (.Compare a [op, op', op2] [b, c, d] pos)
      (tTest fun σ H Q => ta σ H fun x H1 => tb σ H1 fun y H2 => r x y H2 fun z H3 => ∃ k, z = .bl k ∧ (if k = true then tc σ H3 fun w H4 => r' y w H4 fun z' H5 => ∃ k', z' = .bl k' ∧ (if k' = true then td σ H5 fun u H6 => r2 w u H6 Q else Q (.bl false) H5) else Q (.bl false) H3)) := by
  refine ⟨fun pins s σ H Q I h => ?_⟩
  refine isTrue_chain (thn (ha.run pins s σ H _ I h) fun v s1 ⟨x, H1, I1, r1, q1⟩ => test_link (thn (hb.run pins s1 σ H1 _ I1 q1) fun u s2 ⟨y, H2, I2, r2, q2⟩ =>
    thn (ho pins s2 σ H2 x y v u _ I2 r1 r2 q2) fun d s3 ⟨z, H3, I3, r3, k, e, q3⟩ => ?_)) hm
  subst e
  cases r3
  refine wpAny_truthy_bool ?_
  cases k with
  | false =>
    obtain ⟨k', e', q'⟩ := q3
    cases e'
    exact ite_ff ⟨H3, I3, q'⟩
  | true =>
    refine ite_tt (test_link (thn (hc.run pins s3 σ H3 _ I3 q3) fun w' s4 ⟨z', H4, I4, r4, q4⟩ => thn (ho' pins s4 σ H4 y z' u w' _ I4 r2 r4 q4) fun d' s5 ⟨z2, H5, I5, r5, k2, e2, q5⟩ => ?_))
    subst e2
    cases r5
    refine wpAny_truthy_bool ?_
    cases k2 with
    | false =>
      obtain ⟨k', e', q'⟩ := q5
      cases e'
      exact ite_ff ⟨H5, I5, q'⟩
    | true =>
      refine ite_tt (test_last (thn (hd.run pins s5 σ H5 _ I5 q5) fun w2 s6 ⟨z3, H6, I6, r6, q6⟩ => thn (ho2 pins s6 σ H6 z' z3 w' w2 _ I6 r4 r6 q6) fun d2 s7 ⟨z4, H7, I7, r7, k3, e3, q7⟩ => ?_))
      subst e3
      cases r7
      exact wpAny_truthy_bool ⟨H7, I7, q7⟩
theorem t_chain3 {l : Int} {op op' op2 : CmpOp} {f f' f2 : Int → Int → Bool} (ho : OpR X (compareOp op) (rI0 fun i j => .bl (f i j))) (ho' : OpR X (compareOp op') (rI0 fun i j => .bl (f' i j))) (ho2 : OpR X (compareOp op2) (rI0 fun i j => .bl (f2 i j)))
    (ha : PV X Φ a i) (hb : PV X Φ b j) (hc : f i j = true → PV X Φ c k) (hd : f i j = true → f' j k = true → PV X Φ d l)
    (hm : lastMarks [op, op', op2] [b, c, d] = false := by with_unfolding_all rfl) : PTv X Φ (.Compare a [op, op', op2] [b, c, d] pos) (f i j && f' j k && f2 k l) := .mk fun H0 σ F H Q s sl q =>
  wT_of (pt_chain3 ho ho' ho2 peW peW peW peW hm) (ha H0 σ F H _ s sl fun x F1 H1 g1 p1 => hb H0 σ F1 H1 _ g1.s (sl.gr g1) fun y F2 H2 g2 p2 => by
    cases p1; cases p2
    refine ⟨i, j, rfl, rfl, f i j, rfl, ?_⟩
    cases e : f i j with
    | true =>
      refine iteT (hc e H0 σ F2 H2 _ g2.s ((sl.gr g1).gr g2) fun z F3 H3 g3 p3 => ?_)
      cases p3
      refine ⟨j, k, rfl, rfl, f' j k, rfl, ?_⟩
      cases e' : f' j k with
      | true =>
        refine iteT (hd e e' H0 σ F3 H3 _ g3.s (((sl.gr g1).gr g2).gr g3) fun u F4 H4 g4 p4 => ?_)
        cases p4
        exact ⟨k, l, rfl, rfl, _, rfl, by
          have := q F4 H4 (((g1.trans g2).trans g3).trans g4)
          rw [e, e', Bool.true_and, Bool.true_and] at this
          exact this⟩
      | false => exact iteF (by
          have := q F3 H3 ((g1.trans g2).trans g3)
          rw [e, e', Bool.true_and, Bool.false_and] at this
          exact ⟨_, rfl, this⟩)
    | false => exact iteF (by
        have := q F2 H2 (g1.trans g2)
        rw [e, Bool.false_and, Bool.false_and] at this
        exact ⟨_, rfl, this⟩))
/-! ### list(range(..)), tuples' slices and sums -/
theorem rgV_rng (lo hi : Int) : rgV lo hi = (rng lo hi).map V.int := by simp [rgV, rng]
theorem v_listR1 (B : Blt X.mg) (hc : X.calm = true) (ha : PV X Φ a i) (hi : 0 ≤ i ∧ i ≤ 16777216) (hg : Gl X "range" := by rfl) (hgl : Gl X "list" := by rfl) (h1 : nst a = true := by rfl) : PN X Φ (.Call (.Name "list" p) [.Call (.Name "range" p2) [a] [] pos'] [] pos) (rng 0 i) := .mk fun H0 σ F H Q s sl q =>
  wE_of (pe_listRg hc hgl B.list (prg_1 hg B.range peW (by rw [star_cons h1]))) (ha H0 σ F H _ s sl fun v F1 H1 g1 p1 => by
    cases p1
    exact ⟨i, rfl, RgOk.of_le (by omega) hi.2 (by omega) hi.1, fun t ht => q t _ F1 _ (g1.trans (Gr.own g1.s ht)) (fresh_of g1 ht).2 (fresh_of g1 ht).1 upd_same (by rw [rgV_rng]; exact ints_allP)⟩)
theorem v_listR2 (B : Blt X.mg) (hc : X.calm = true) (ha : PV X Φ a i) (hb : PV X Φ b j) (hi : 0 ≤ i ∧ i ≤ 16777216 ∧ 0 ≤ j ∧ j ≤ 16777216) (hg : Gl X "range" := by rfl) (hgl : Gl X "list" := by rfl) (h1 : nst a = true := by rfl) (h2 : nst b = true := by rfl) : PN X Φ (.Call (.Name "list" p) [.Call (.Name "range" p2) [a, b] [] pos'] [] pos) (rng i j) := .mk fun H0 σ F H Q s sl q =>
  wE_of (pe_listRg hc hgl B.list (prg_2 hg B.range peW peW (by rw [star_cons h1]) (by rw [star_cons h2]) (star_plain (by simp [h2])))) (ha H0 σ F H _ s sl fun v F1 H1 g1 p1 => hb H0 σ F1 H1 _ g1.s (sl.gr g1) fun w F2 H2 g2 p2 => by
    cases p1; cases p2
    exact ⟨i, j, rfl, rfl, RgOk.of_le hi.1 hi.2.2.2 hi.2.1 hi.2.2.1, fun t ht => q t _ F2 _ ((g1.trans g2).trans (Gr.own g2.s ht)) (fresh_of (g1.trans g2) ht).2 (fresh_of (g1.trans g2) ht).1 upd_same (by rw [rgV_rng]; exact ints_allP)⟩)
def slcT {α : Type} (t : Tup α) (lo hi : Option Int) : Tup α := ⟨slc t.l lo hi⟩
theorem slc_all {α : Type} {xs : List α} {lo hi : Option Int} (h : HT.sIx xs.length 0 lo = 0 ∧ HT.sIx xs.length xs.length hi = xs.length) : slc xs lo hi = xs := by
  unfold slc
  rw [h.1, h.2]; simp
theorem v_slT {α : Type} [Py α] {xs : Tup α} {lo hi : Option Expr} {l h : Option Int} (ha : PV X Φ a xs) (h1 : PO' X Φ lo l) (h2 : PO' X Φ hi h) : PV X Φ (.Subscript a (.Slice lo hi none p2) pos) (slcT xs l h) := .mk fun H0 σ F H Q s sl q => by
  have step : ∀ (o : Option Expr) (v : Option Int), PO' X Φ o v → ∃ t : TO, PO X o t ∧ ∀ (F H : Hp) (R : Option Int → Hp → Prop), Ex F H → Sl H0 Φ σ F H → (∀ F' H', Gr F H F' H' → R v H') → t σ H R := fun o v hv => by
    cases o with
    | none =>
      cases v with
      | none => exact ⟨_, po_none, fun F H R s sl r => r F H (Gr.refl s)⟩
      | some i => exact hv.elim
    | some e =>
      cases v with
      | none => exact hv.elim
      | some i => exact ⟨_, po_some peW, fun F H R s sl r => (show PV X Φ e i from hv) H0 σ F H _ s sl fun v F' H' g z => by cases z; exact ⟨i, rfl, r F' H' g⟩⟩
  obtain ⟨t1, k1, r1⟩ := step _ _ h1
  obtain ⟨t2, k2, r2⟩ := step _ _ h2
  refine wE_of (pe_slice sl_tupA peW k1 k2) (ha H0 σ F H _ s sl fun x F1 H1 g1 hx => r1 F1 H1 _ g1.s (sl.gr g1) fun F2 H2 g2 => r2 F2 H2 _ g2.s ((sl.gr g1).gr g2) fun F3 H3 g3 => ?_)
  obtain ⟨t, vs, rfl, ht, p1⟩ := py_tup.mp hx
  have g := (g1.trans g2).trans g3
  have hl : vs.length = xs.l.length := by simpa using p1.1
  refine ⟨t, vs, rfl, ex_t (g1.s.trans (g2.trans g3).h) ht, fun w => ?_, fun w u hu => ?_⟩
  · refine q _ F3 H3 g (py_tup.mpr ⟨t, vs, rfl, ex_t (g2.trans g3).f ht, ?_⟩)
    rw [hl] at w
    show AllP (rps X.K (slc xs.l l h)) F3 vs
    rw [slc_all w]
    exact p1.mono (g2.trans g3).f
  · refine q _ _ _ (g.trans (Gr.new g.s hu)) (py_tup.mpr ⟨u, _, rfl, SqT.of upd_same, ?_⟩)
    have := ((p1.mono (g2.trans g3).f).mono (Gr.new (o := .tup (cutV vs l h)) g.s hu).f).slc l h
    rw [slc_map] at this
    exact this
theorem v_catT {α : Type} [Py α] {xs ys : Tup α} (ha : PV X Φ a xs) (hb : PV X Φ b ys) (hz : xs.l.length + ys.l.length ≤ sizeLine) : PV X Φ (.BinOp a .Add b pos) (Tup.mk (xs.l ++ ys.l)) := .mk fun H0 σ F H Q s sl q =>
  wE_of (pe_op op_catA peW peW) (ha H0 σ F H _ s sl fun v F1 H1 g1 p1 => hb H0 σ F1 H1 _ g1.s (sl.gr g1) fun w F2 H2 g2 p2 => by
    obtain ⟨t, vs, rfl, ht, q1⟩ := py_tup.mp p1
    obtain ⟨u, ws, rfl, hu, q2⟩ := py_tup.mp p2
    have hl : vs.length = xs.l.length := by simpa using q1.1
    have hl2 : ws.length = ys.l.length := by simpa using q2.1
    have g := g1.trans g2
    refine ⟨t, u, vs, ws, rfl, rfl, ex_t (g1.s.trans g2.h) ht, ex_t g2.s hu, by omega, fun e0 => ?_, fun e0 e1 => ?_, fun e0 e1 z hz' => ?_⟩
    · subst e0
      have e2 : xs.l = [] := List.eq_nil_of_length_eq_zero (by rw [← hl]; rfl)
      refine q _ F2 H2 g (py_tup.mpr ⟨u, ws, rfl, hu, ?_⟩)
      show AllP (rps X.K (xs.l ++ ys.l)) F2 ws
      rw [e2]; exact q2
    · subst e1
      have e2 : ys.l = [] := List.eq_nil_of_length_eq_zero (by rw [← hl2]; rfl)
      refine q _ F2 H2 g (py_tup.mpr ⟨t, vs, rfl, ex_t g2.f ht, ?_⟩)
      show AllP (rps X.K (xs.l ++ ys.l)) F2 vs
      rw [e2, List.append_nil]; exact q1.mono g2.f
    · refine q _ _ _ (g.trans (Gr.new g.s hz')) (py_tup.mpr ⟨z, _, rfl, SqT.of upd_same, ?_⟩)
      show AllP (rps X.K (xs.l ++ ys.l)) _ _
      unfold rps
      rw [List.map_append]
      exact ((q1.mono g2.f).append q2).mono (Gr.new (o := .tup (vs ++ ws)) g.s hz').f)

/-! ### more statements -/
/-- xs.insert(i, e) -/
theorem h_ins {α : Type} [Py α] {o : Ctl S R} (n : Nat) {x : Str} {xs : List α} {v : α} {np apos : Pos} (hb : PV X Φ b i) (he : PV X Φ e v) (hi : 0 ≤ i ∧ i < 2 ^ 63) (hz : xs.length < sizeLine) (h : HB X W (A :: r) (Φ.set n (sO X.K (xs.take i.toNat ++ [v] ++ xs.drop i.toNat))) M T o) (ho : Φ[n]? = some (sO X.K xs) := by rfl) (hN : X.N[n]? = some x := by rfl)
    (hv : Vis X.env.scope x := by first | exact Or.inl rfl | exact Or.inr (Or.inl rfl) | exact Or.inr (Or.inr rfl)) (hd : (x == ("__debug__" : Str)) = false := by decide) (hcd : (x == ("__classdict__" : Str)) = false := by decide)
    (hsb : nst b = true := by rfl) (hst : nst e = true := by rfl) (hl : (apos.endLine == p.line) = true := by rfl) (hfew : ((backTo p (starEach [b, e] X.env)).all (fun x => !x.1) && (backToKw p (keywordEach [] X.env)).all (fun x => x.1.isSome)
      && decide ([b, e].length + ([] : List Keyword).length + (if ([] : List Keyword).isEmpty then 0 else 1) < 30)) = true := by rfl) : HB X W ((.Expr (.Call (.Attribute (.Name x np) "insert" apos) [b, e] [] p) pos :: A) :: r) Φ M T o := .mk fun F0 H0 D σ F H g sl k => by
  obtain ⟨l, vs, h1, h2, h3, h4, h5⟩ := sl.ow ho
  have hlen : vs.length = xs.length := by simpa using h5.1
  refine wK_cons (wS_of (ps_expr (pe_bm PySem.F.plainAttrs_list PySem.F.slot_list_insert PySem.F.type_list_insert mt_insert (pe_var hN hv hd hcd) (pa_cons peW (pa_cons peW pa_nil (star_cons hst)) (star_cons hsb)) rfl hfew hl (star_cons hsb) (star_plain (by simp [hst]))) rfl)
    ⟨_, h1, .inl ⟨rfl, vs, SqL.of h4⟩, hb H0 σ F H _ g.s sl fun w F1 H1 g1 p1 => he H0 σ F1 H1 _ g1.s (sl.gr g1) fun u F2 H2 g2 p2 => ?_⟩)
  cases p1
  have g12 := g1.trans g2
  have f1 : F2 l = none := g12.n l h3 (ne_none h4)
  refine ⟨l, vs, i, u, rfl, rfl, g12.h _ _ h4, by omega, hi.1, hi.2, ?_⟩
  refine h F0 H0 D σ F2 _ ((g.trans g12).write h2 f1) (Sl.write (sl.gr g12) ho h1 h2 f1 ?_) k
  have h6 := h5.mono g12.f
  rw [List.map_append, List.map_append, List.map_take, List.map_drop]
  exact ((AllP.take h6 _).append (.cons p2 .nil)).append (AllP.drop h6 _)
/-- xs.clear() -/
theorem h_clr {α : Type} [Py α] {o : Ctl S R} (n : Nat) {x : Str} {xs : List α} {np apos : Pos} (h : HB X W (A :: r) (Φ.set n (sO X.K ([] : List α))) M T o) (ho : Φ[n]? = some (sO X.K xs) := by rfl) (hN : X.N[n]? = some x := by rfl)
    (hv : Vis X.env.scope x := by first | exact Or.inl rfl | exact Or.inr (Or.inl rfl) | exact Or.inr (Or.inr rfl)) (hd : (x == ("__debug__" : Str)) = false := by decide) (hcd : (x == ("__classdict__" : Str)) = false := by decide)
    (hl : (apos.endLine == p.line) = true := by rfl) : HB X W ((.Expr (.Call (.Attribute (.Name x np) "clear" apos) [] [] p) pos :: A) :: r) Φ M T o := .mk fun F0 H0 D σ F H g sl k => by
  obtain ⟨l, vs, h1, h2, h3, h4, h5⟩ := sl.ow ho
  refine wK_cons (wS_of (ps_expr (pe_bm0 PySem.F.plainAttrs_list PySem.F.slot_list_clear PySem.F.type_list_clear mt_clear (pe_var hN hv hd hcd) rfl hl) rfl)
    ⟨_, h1, .inl ⟨rfl, vs, SqL.of h4⟩, l, vs, rfl, rfl, h4, ?_⟩)
  exact h F0 H0 D σ F _ (g.write h2 h3) (Sl.write sl ho h1 h2 h3 .nil) k
theorem AllP.erase {Ps : List MP} {F : Hp} {vs : List V} (h : AllP Ps F vs) (n : Nat) : AllP (Ps.eraseIdx n) F (vs.eraseIdx n) := by
  rw [List.eraseIdx_eq_take_drop_succ, List.eraseIdx_eq_take_drop_succ]
  exact (AllP.take h _).append (AllP.drop h _)
theorem map_erase {α β : Type} (f : α → β) : ∀ (xs : List α) (n : Nat), (xs.eraseIdx n).map f = (xs.map f).eraseIdx n
  | [], n => by simp
  | x :: xs, 0 => by simp
  | x :: xs, n + 1 => by simp [map_erase f xs n]
theorem seqIx {i : Int} {n : Nat} (h : 0 ≤ i ∧ i < n) : seqIndex? i n = some i.toNat := by
  unfold seqIndex?
  have e : (if i < 0 then i + (n : Int) else i) = i := if_neg (by omega)
  simp only [e]
  rw [if_pos (by simp [h.1, h.2])]
theorem ix_map {α : Type} [Py α] [Inhabited α] {K : Fg} {xs : List α} {i : Int} (h : 0 ≤ i ∧ i < xs.length) : (xs.map fun x => py K (enc x))[i.toNat]? = some (py K (enc (ix xs i))) := by
  have hi : i.toNat < xs.length := by omega
  rw [List.getElem?_map, List.getElem?_eq_getElem hi]
  simp [ix, List.getD, List.getElem?_eq_getElem hi]
/-- t = ys.pop(i), ys one's own; t's slots are us -/
theorem h_pop {α : Type} [Py α] [Inhabited α] {o : Ctl S R} {us : List (Nat × SD)} (n : Nat) {x : Str} {xs : List α} {np apos cpos : Pos} (hb : PV X Φ b i) (hi : 0 ≤ i ∧ i < xs.length) (hg : PGv X tg (py X.K (enc (ix xs i))) us)
    (h : HB X W (A :: r) (setAll (Φ.set n (sO X.K (xs.eraseIdx i.toNat))) us) M T o) (hz : xs.length ≤ 2 ^ 62 := by assumption) (ho : Φ[n]? = some (sO X.K xs) := by rfl) (hN : X.N[n]? = some x := by rfl)
    (hv : Vis X.env.scope x := by first | exact Or.inl rfl | exact Or.inr (Or.inl rfl) | exact Or.inr (Or.inr rfl)) (hd : (x == ("__debug__" : Str)) = false := by decide) (hcd : (x == ("__classdict__" : Str)) = false := by decide)
    (hsb : nst b = true := by rfl) (hl : (apos.endLine == cpos.line) = true := by rfl)
    (hs : swapsWithSole [tg] (.Call (.Attribute (.Name x np) "pop" apos) [b] [] cpos) pos.line X.env = pure false := by rfl) (hw : swappedStores [tg] (.Call (.Attribute (.Name x np) "pop" apos) [b] [] cpos) X.env = pure none := by rfl)
    (h1 : (assignEach [tg] X.env).map (·.2) = [assign tg X.env] := by rfl) : HB X W ((.Assign [tg] (.Call (.Attribute (.Name x np) "pop" apos) [b] [] cpos) pos :: A) :: r) Φ M T o := .mk fun F0 H0 D σ F H g sl k => by
  obtain ⟨l, vs, e1, h2, h3, h4, h5⟩ := sl.ow ho
  have hlen : vs.length = xs.length := by simpa using h5.1
  refine wK_cons (wS_of (ps_asg (pe_bm PySem.F.plainAttrs_list PySem.F.slot_list_pop PySem.F.type_list_pop mt_popAt (pe_var hN hv hd hcd) (pa_cons peW pa_nil (star_cons hsb)) rfl (few1 hsb) hl (star_cons hsb) rfl) pgW hs hw h1)
    ⟨_, e1, .inl ⟨rfl, vs, SqL.of h4⟩, hb H0 σ F H _ g.s sl fun w F1 H1 g1 p1 => ?_⟩)
  cases p1
  have f1 : F1 l = none := g1.n l h3 (ne_none h4)
  obtain ⟨y, y1, y2⟩ := allP_at (h5.mono g1.f) (ix_map hi)
  refine ⟨l, vs, i, i.toNat, y, rfl, rfl, g1.h _ _ h4, by omega, by omega, seqIx (by omega), y1, ?_⟩
  have g2 := (g.trans g1).write (o := .lst (vs.eraseIdx i.toNat)) h2 f1
  have s2 := Sl.write (Qs := (xs.eraseIdx i.toNat).map fun x => py X.K (enc x)) (vs := vs.eraseIdx i.toNat) (sl.gr g1) ho e1 h2 f1 (by
    rw [show (xs.eraseIdx i.toNat).map (fun x => py X.K (enc x)) = (xs.map fun x => py X.K (enc x)).eraseIdx i.toNat from map_erase ..]
    exact (h5.mono g1.f).erase _)
  exact hg H0 _ σ F1 _ y _ g2.s s2 y2 fun σ' sl' _ => h F0 H0 D σ' F1 _ g2 sl' k
/-- xs.append(ys.pop(i)), both one's own -/
theorem h_appPop {α : Type} [Py α] [Inhabited α] {o : Ctl S R} (n m : Nat) {x y : Str} {xs ys : List α} {np apos np2 apos2 cpos : Pos} (hnm : n ≠ m) (hb : PV X Φ b i) (hi : 0 ≤ i ∧ i < ys.length) (hz : xs.length < sizeLine) (hy : ys.length ≤ 2 ^ 62)
    (h : HB X W (A :: r) ((Φ.set m (sO X.K (ys.eraseIdx i.toNat))).set n (sO X.K (xs ++ [ix ys i]))) M T o) (ho : Φ[n]? = some (sO X.K xs) := by rfl) (ho2 : Φ[m]? = some (sO X.K ys) := by rfl) (hN : X.N[n]? = some x := by rfl) (hN2 : X.N[m]? = some y := by rfl)
    (hv : Vis X.env.scope x := by first | exact Or.inl rfl | exact Or.inr (Or.inl rfl) | exact Or.inr (Or.inr rfl)) (hd : (x == ("__debug__" : Str)) = false := by decide) (hcd : (x == ("__classdict__" : Str)) = false := by decide)
    (hv2 : Vis X.env.scope y := by first | exact Or.inl rfl | exact Or.inr (Or.inl rfl) | exact Or.inr (Or.inr rfl)) (hd2 : (y == ("__debug__" : Str)) = false := by decide) (hcd2 : (y == ("__classdict__" : Str)) = false := by decide)
    (hsb : nst b = true := by rfl) (hl : (apos.endLine == p.line) = true := by rfl) (hl2 : (apos2.endLine == cpos.line) = true := by rfl) :
    HB X W ((.Expr (.Call (.Attribute (.Name x np) "append" apos) [.Call (.Attribute (.Name y np2) "pop" apos2) [b] [] cpos] [] p) pos :: A) :: r) Φ M T o := .mk fun F0 H0 D σ F H g sl k => by
  obtain ⟨l, vs, e1, h2, h3, h4, h5⟩ := sl.ow ho
  obtain ⟨l2, ws, e1', h2', h3', h4', h5'⟩ := sl.ow ho2
  have hne : l ≠ l2 := fun z => sl.apart n m _ _ l hnm ho ho2 rfl rfl e1 (by rw [z]; exact e1')
  have hlen : vs.length = xs.length := by simpa using h5.1
  have hlen2 : ws.length = ys.length := by simpa using h5'.1
  refine wK_cons (wS_of (ps_expr (pe_bm PySem.F.plainAttrs_list PySem.F.slot_list_append PySem.F.type_list_append mt_append (pe_var hN hv hd hcd) (pa_cons (pe_bm PySem.F.plainAttrs_list PySem.F.slot_list_pop PySem.F.type_list_pop mt_popAt (pe_var hN2 hv2 hd2 hcd2) (pa_cons peW pa_nil (star_cons hsb)) rfl (few1 hsb) hl2 (star_cons hsb) rfl) pa_nil (star_cons rfl)) rfl (few1 rfl) hl (star_cons rfl) rfl) rfl)
    ⟨_, e1, .inl ⟨rfl, vs, SqL.of h4⟩, _, e1', .inl ⟨rfl, ws, SqL.of h4'⟩, hb H0 σ F H _ g.s sl fun w F1 H1 g1 p1 => ?_⟩)
  cases p1
  have f1 : F1 l = none := g1.n l h3 (ne_none h4)
  have f2 : F1 l2 = none := g1.n l2 h3' (ne_none h4')
  obtain ⟨y, y1, y2⟩ := allP_at (h5'.mono g1.f) (ix_map hi)
  refine ⟨l2, ws, i, i.toNat, y, rfl, rfl, g1.h _ _ h4', by omega, by omega, seqIx (by omega), y1, ?_⟩
  have g2 := (g.trans g1).write (o := .lst (ws.eraseIdx i.toNat)) h2' f2
  have s2 := Sl.write (Qs := (ys.eraseIdx i.toNat).map fun x => py X.K (enc x)) (vs := ws.eraseIdx i.toNat) (sl.gr g1) ho2 e1' h2' f2 (by
    rw [show (ys.eraseIdx i.toNat).map (fun x => py X.K (enc x)) = (ys.map fun x => py X.K (enc x)).eraseIdx i.toNat from map_erase ..]
    exact (h5'.mono g1.f).erase _)
  refine ⟨l, vs, y, rfl, rfl, by rw [upd_ne hne]; exact g1.h _ _ h4, by omega, ?_⟩
  have g3 := g2.write (o := .lst (vs ++ [y])) h2 f1
  refine h F0 H0 D σ F1 _ g3 (Sl.write s2 (by rw [List.getElem?_set_ne (fun z => hnm z.symm)]; exact ho) e1 h2 f1 ?_) k
  rw [List.map_append]; exact (h5.mono g1.f).snoc y2
/-- xs[-1] = e -/
theorem h_putL {α : Type} [Py α] {o : Ctl S R} (n : Nat) {x : Str} {xs : List α} {v : α} {np sp q1 q2 : Pos} (he : PV X Φ e v) (hz : 0 < xs.length) (h : HB X W (A :: r) (Φ.set n (sO X.K (xs.set (xs.length - 1) v))) M T o) (ho : Φ[n]? = some (sO X.K xs) := by rfl) (hN : X.N[n]? = some x := by rfl)
    (hv : Vis X.env.scope x := by first | exact Or.inl rfl | exact Or.inr (Or.inl rfl) | exact Or.inr (Or.inr rfl)) (hd : (x == ("__debug__" : Str)) = false := by decide) (hcd : (x == ("__classdict__" : Str)) = false := by decide)
    (ha : ∀ v, assign (.Subscript (.Name x np) (.UnaryOp .USub (.Constant (.int 1) 0 q1) q2) sp) X.env v = (do
      let ov ← holding [v] (eval (.Name x np) X.env)
      let iv ← holding [v, ov] (eval (.UnaryOp .USub (.Constant (.int 1) 0 q1) q2) X.env)
      standAt sp
      holding [v, ov, iv] (setItem ov iv v)
      release [v, ov, iv] []) := by intro _; rfl)
    (hs : swapsWithSole [.Subscript (.Name x np) (.UnaryOp .USub (.Constant (.int 1) 0 q1) q2) sp] e pos.line X.env = pure false := by rfl) (hw : swappedStores [.Subscript (.Name x np) (.UnaryOp .USub (.Constant (.int 1) 0 q1) q2) sp] e X.env = pure none := by rfl) : HB X W ((.Assign [.Subscript (.Name x np) (.UnaryOp .USub (.Constant (.int 1) 0 q1) q2) sp] e pos :: A) :: r) Φ M T o := .mk fun F0 H0 D σ F H g sl k => by
  obtain ⟨l, vs, h1, h2, h3, h4, h5⟩ := sl.ow ho
  have hlen : vs.length = xs.length := by simpa using h5.1
  refine wK_cons (wS_of (ps_asg peW (pg_sub (pe_var hN hv hd hcd) peW set_list ha) hs hw rfl) (he H0 σ F H _ g.s sl fun u F1 H1 g1 p1 => ⟨_, h1, v_neg (X := X) (Φ := Φ) v_int H0 σ F1 H1 _ g1.s (sl.gr g1) fun w F2 H2 g2 p2 => ?_⟩))
  cases p2
  have g12 := g1.trans g2
  have f2 : F2 l = none := g12.n l h3 (ne_none h4)
  refine ⟨l, vs, -1, xs.length - 1, rfl, rfl, g12.h _ _ h4, ?_, ?_⟩
  · unfold ixN
    rw [if_neg (by decide), if_pos (by omega)]
    congr 1; omega
  · refine h F0 H0 D σ F2 _ ((g.trans g12).write h2 f2) (Sl.write (sl.gr g12) ho h1 h2 f2 ?_) k
    rw [List.map_set]; exact (h5.mono g12.f).setV _ (dq_mono g2.f _ _ p1)
/-- x *= e, x += e -/
theorem h_aug {o : Ctl S R} {op : Operator} {v : Int} {ti : TIp} (n : Nat) {x : Str} {u : Int} (hN : X.N.Nodup) (he : PV X Φ e j) (hp : PIp X op ti) (hti : ∀ (H : Hp) (Q : VK), Q (.int v) H → ti (.int u) (.int j) H Q) (h : HB X W (A :: r) (Φ.set n (sI X.K v)) M T o) (ho : Φ[n]? = some (sI X.K u) := by rfl) (hi : X.N[n]? = some x := by rfl) (hx : Loc X.env.scope x := by first | exact Or.inl rfl | exact Or.inr rfl) (hf : X.fn x = true ∨ X.env.scope.names.lookup x = some .local := by first | exact .inl rfl | exact .inr rfl) :
    HB X W ((.AugAssign (.Name x p) op e pos :: A) :: r) Φ M T o := .mk fun F0 H0 D σ F H g sl k => by
  obtain ⟨w, h1, h2⟩ := sl.im ho
  cases h2
  exact wK_cons (wS_of (ps_aug hN hi hx peW hp hf) ⟨_, h1, he H0 σ F H _ g.s sl fun y F1 H1 g1 p1 => by
    cases p1
    exact hti _ _ (h F0 H0 D _ F1 H1 (g.trans g1) ((sl.gr g1).set ⟨_, rfl, .int _⟩ rfl) k)⟩)
theorem h_doc {o : Ctl S R} {x j pos'} (h : HB X W (A :: r) Φ M T o) : HB X W ((.Expr (.Constant (.str x) j pos) pos' :: A) :: r) Φ M T o := .mk fun F0 H0 D σ F H g sl k => wK_cons (wS_of ps_doc (h F0 H0 D σ F H g sl k))
theorem Wk.any0 {Φ : List SD} : Wk Φ (Φ.map fun _ => .un) := by
  induction Φ with
  | nil => exact .nil
  | cons d Φ ih => exact .drop ih
theorem h_appV {α : Type} [Py α] (n : Nat) {x : Str} {xs : List α} {v : α} {np apos : Pos} {k : List α → R} (he : PV X Φ e v) (hz : xs.length < sizeLine) (h : ∀ nm, nm = (xs ++ [v]) → HB X W (A :: r) (Φ.set n (sO X.K nm)) M T (.rt (k nm))) (ho : Φ[n]? = some (sO X.K xs) := by rfl) (hN : X.N[n]? = some x := by rfl) (hv : Vis X.env.scope x := by first | exact Or.inl rfl | exact Or.inr (Or.inl rfl) | exact Or.inr (Or.inr rfl)) (hd : (x == ("__debug__" : Str)) = false := by decide) (hcd : (x == ("__classdict__" : Str)) = false := by decide) (hst : nst e = true := by rfl) (hl : (apos.endLine == p.line) = true := by rfl) : HB X W ((.Expr (.Call (.Attribute (.Name x np) "append" apos) [e] [] p) pos :: A) :: r) Φ M T (.rt (bindV (xs ++ [v]) k)) := h_app n he hz (h _ rfl) ho hN hv hd hcd hst hl
theorem h_appC {α : Type} [Py α] (n : Nat) {x : Str} {xs : List α} {v : α} {np apos : Pos} {k : List α → Ctl S R} (he : PV X Φ e v) (hz : xs.length < sizeLine) (h : ∀ nm, nm = (xs ++ [v]) → HB X W (A :: r) (Φ.set n (sO X.K nm)) M T (k nm)) (ho : Φ[n]? = some (sO X.K xs) := by rfl) (hN : X.N[n]? = some x := by rfl) (hv : Vis X.env.scope x := by first | exact Or.inl rfl | exact Or.inr (Or.inl rfl) | exact Or.inr (Or.inr rfl)) (hd : (x == ("__debug__" : Str)) = false := by decide) (hcd : (x == ("__classdict__" : Str)) = false := by decide) (hst : nst e = true := by rfl) (hl : (apos.endLine == p.line) = true := by rfl) : HB X W ((.Expr (.Call (.Attribute (.Name x np) "append" apos) [e] [] p) pos :: A) :: r) Φ M T (bindV (xs ++ [v]) k) := h_app n he hz (h _ rfl) ho hN hv hd hcd hst hl
theorem h_appS {α : Type} [Py α] (n : Nat) {x : Str} {xs : List α} {v : α} {np apos : Pos} {k : List α → S} (he : PV X Φ e v) (hz : xs.length < sizeLine) (h : ∀ nm, nm = (xs ++ [v]) → HB X W (A :: r) (Φ.set n (sO X.K nm)) M T (.nx (k nm))) (ho : Φ[n]? = some (sO X.K xs) := by rfl) (hN : X.N[n]? = some x := by rfl) (hv : Vis X.env.scope x := by first | exact Or.inl rfl | exact Or.inr (Or.inl rfl) | exact Or.inr (Or.inr rfl)) (hd : (x == ("__debug__" : Str)) = false := by decide) (hcd : (x == ("__classdict__" : Str)) = false := by decide) (hst : nst e = true := by rfl) (hl : (apos.endLine == p.line) = true := by rfl) : HB X W ((.Expr (.Call (.Attribute (.Name x np) "append" apos) [e] [] p) pos :: A) :: r) Φ M T (.nx (bindV (xs ++ [v]) k)) := h_app n he hz (h _ rfl) ho hN hv hd hcd hst hl
theorem h_extV {α : Type} [Py α] (n : Nat) {x : Str} {xs ys : List α} {np apos : Pos} {k : List α → R} (he : PK X Φ e ys) (hz : xs.length + ys.length ≤ sizeLine) (h : ∀ nm, nm = (xs ++ ys) → HB X W (A :: r) (Φ.set n (sO X.K nm)) M T (.rt (k nm))) (ho : Φ[n]? = some (sO X.K xs) := by rfl) (hN : X.N[n]? = some x := by rfl) (hv : Vis X.env.scope x := by first | exact Or.inl rfl | exact Or.inr (Or.inl rfl) | exact Or.inr (Or.inr rfl)) (hd : (x == ("__debug__" : Str)) = false := by decide) (hcd : (x == ("__classdict__" : Str)) = false := by decide) (hst : nst e = true := by rfl) (hl : (apos.endLine == p.line) = true := by rfl) : HB X W ((.Expr (.Call (.Attribute (.Name x np) "extend" apos) [e] [] p) pos :: A) :: r) Φ M T (.rt (bindV (xs ++ ys) k)) := h_ext n he hz (h _ rfl) ho hN hv hd hcd hst hl
theorem h_extC {α : Type} [Py α] (n : Nat) {x : Str} {xs ys : List α} {np apos : Pos} {k : List α → Ctl S R} (he : PK X Φ e ys) (hz : xs.length + ys.length ≤ sizeLine) (h : ∀ nm, nm = (xs ++ ys) → HB X W (A :: r) (Φ.set n (sO X.K nm)) M T (k nm)) (ho : Φ[n]? = some (sO X.K xs) := by rfl) (hN : X.N[n]? = some x := by rfl) (hv : Vis X.env.scope x := by first | exact Or.inl rfl | exact Or.inr (Or.inl rfl) | exact Or.inr (Or.inr rfl)) (hd : (x == ("__debug__" : Str)) = false := by decide) (hcd : (x == ("__classdict__" : Str)) = false := by decide) (hst : nst e = true := by rfl) (hl : (apos.endLine == p.line) = true := by rfl) : HB X W ((.Expr (.Call (.Attribute (.Name x np) "extend" apos) [e] [] p) pos :: A) :: r) Φ M T (bindV (xs ++ ys) k) := h_ext n he hz (h _ rfl) ho hN hv hd hcd hst hl
theorem h_extS {α : Type} [Py α] (n : Nat) {x : Str} {xs ys : List α} {np apos : Pos} {k : List α → S} (he : PK X Φ e ys) (hz : xs.length + ys.length ≤ sizeLine) (h : ∀ nm, nm = (xs ++ ys) → HB X W (A :: r) (Φ.set n (sO X.K nm)) M T (.nx (k nm))) (ho : Φ[n]? = some (sO X.K xs) := by rfl) (hN : X.N[n]? = some x := by rfl) (hv : Vis X.env.scope x := by first | exact Or.inl rfl | exact Or.inr (Or.inl rfl) | exact Or.inr (Or.inr rfl)) (hd : (x == ("__debug__" : Str)) = false := by decide) (hcd : (x == ("__classdict__" : Str)) = false := by decide) (hst : nst e = true := by rfl) (hl : (apos.endLine == p.line) = true := by rfl) : HB X W ((.Expr (.Call (.Attribute (.Name x np) "extend" apos) [e] [] p) pos :: A) :: r) Φ M T (.nx (bindV (xs ++ ys) k)) := h_ext n he hz (h _ rfl) ho hN hv hd hcd hst hl
theorem h_putV {α : Type} [Py α] (n : Nat) {x : Str} {xs : List α} {v : α} {np sp : Pos} {k : List α → R} (he : PV X Φ e v) (hb : PV X Φ b i) (hz : 0 ≤ i ∧ i < xs.length) (h : ∀ nm, nm = (xs.set i.toNat v) → HB X W (A :: r) (Φ.set n (sO X.K nm)) M T (.rt (k nm))) (ho : Φ[n]? = some (sO X.K xs) := by rfl) (hN : X.N[n]? = some x := by rfl) (hv : Vis X.env.scope x := by first | exact Or.inl rfl | exact Or.inr (Or.inl rfl) | exact Or.inr (Or.inr rfl)) (hd : (x == ("__debug__" : Str)) = false := by decide) (hcd : (x == ("__classdict__" : Str)) = false := by decide) (ha : ∀ v, assign (.Subscript (.Name x np) b sp) X.env v = (do
      let ov ← holding [v] (eval (.Name x np) X.env)
      let iv ← holding [v, ov] (eval b X.env)
      standAt sp
      holding [v, ov, iv] (setItem ov iv v)
      release [v, ov, iv] []) := by intro _; rfl)
    (hs : swapsWithSole [.Subscript (.Name x np) b sp] e pos.line X.env = pure false := by rfl) (hw : swappedStores [.Subscript (.Name x np) b sp] e X.env = pure none := by rfl) : HB X W ((.Assign [.Subscript (.Name x np) b sp] e pos :: A) :: r) Φ M T (.rt (bindV (xs.set i.toNat v) k)) := h_put n he hb hz (h _ rfl) ho hN hv hd hcd ha hs hw
theorem h_putC {α : Type} [Py α] (n : Nat) {x : Str} {xs : List α} {v : α} {np sp : Pos} {k : List α → Ctl S R} (he : PV X Φ e v) (hb : PV X Φ b i) (hz : 0 ≤ i ∧ i < xs.length) (h : ∀ nm, nm = (xs.set i.toNat v) → HB X W (A :: r) (Φ.set n (sO X.K nm)) M T (k nm)) (ho : Φ[n]? = some (sO X.K xs) := by rfl) (hN : X.N[n]? = some x := by rfl) (hv : Vis X.env.scope x := by first | exact Or.inl rfl | exact Or.inr (Or.inl rfl) | exact Or.inr (Or.inr rfl)) (hd : (x == ("__debug__" : Str)) = false := by decide) (hcd : (x == ("__classdict__" : Str)) = false := by decide) (ha : ∀ v, assign (.Subscript (.Name x np) b sp) X.env v = (do
      let ov ← holding [v] (eval (.Name x np) X.env)
      let iv ← holding [v, ov] (eval b X.env)
      standAt sp
      holding [v, ov, iv] (setItem ov iv v)
      release [v, ov, iv] []) := by intro _; rfl)
    (hs : swapsWithSole [.Subscript (.Name x np) b sp] e pos.line X.env = pure false := by rfl) (hw : swappedStores [.Subscript (.Name x np) b sp] e X.env = pure none := by rfl) : HB X W ((.Assign [.Subscript (.Name x np) b sp] e pos :: A) :: r) Φ M T (bindV (xs.set i.toNat v) k) := h_put n he hb hz (h _ rfl) ho hN hv hd hcd ha hs hw
theorem h_putS {α : Type} [Py α] (n : Nat) {x : Str} {xs : List α} {v : α} {np sp : Pos} {k : List α → S} (he : PV X Φ e v) (hb : PV X Φ b i) (hz : 0 ≤ i ∧ i < xs.length) (h : ∀ nm, nm = (xs.set i.toNat v) → HB X W (A :: r) (Φ.set n (sO X.K nm)) M T (.nx (k nm))) (ho : Φ[n]? = some (sO X.K xs) := by rfl) (hN : X.N[n]? = some x := by rfl) (hv : Vis X.env.scope x := by first | exact Or.inl rfl | exact Or.inr (Or.inl rfl) | exact Or.inr (Or.inr rfl)) (hd : (x == ("__debug__" : Str)) = false := by decide) (hcd : (x == ("__classdict__" : Str)) = false := by decide) (ha : ∀ v, assign (.Subscript (.Name x np) b sp) X.env v = (do
      let ov ← holding [v] (eval (.Name x np) X.env)
      let iv ← holding [v, ov] (eval b X.env)
      standAt sp
      holding [v, ov, iv] (setItem ov iv v)
      release [v, ov, iv] []) := by intro _; rfl)
    (hs : swapsWithSole [.Subscript (.Name x np) b sp] e pos.line X.env = pure false := by rfl) (hw : swappedStores [.Subscript (.Name x np) b sp] e X.env = pure none := by rfl) : HB X W ((.Assign [.Subscript (.Name x np) b sp] e pos :: A) :: r) Φ M T (.nx (bindV (xs.set i.toNat v) k)) := h_put n he hb hz (h _ rfl) ho hN hv hd hcd ha hs hw
theorem h_putLV {α : Type} [Py α] (n : Nat) {x : Str} {xs : List α} {v : α} {np sp q1 q2 : Pos} {k : List α → R} (he : PV X Φ e v) (hz : 0 < xs.length) (h : ∀ nm, nm = (xs.set (xs.length - 1) v) → HB X W (A :: r) (Φ.set n (sO X.K nm)) M T (.rt (k nm))) (ho : Φ[n]? = some (sO X.K xs) := by rfl) (hN : X.N[n]? = some x := by rfl) (hv : Vis X.env.scope x := by first | exact Or.inl rfl | exact Or.inr (Or.inl rfl) | exact Or.inr (Or.inr rfl)) (hd : (x == ("__debug__" : Str)) = false := by decide) (hcd : (x == ("__classdict__" : Str)) = false := by decide) (ha : ∀ v, assign (.Subscript (.Name x np) (.UnaryOp .USub (.Constant (.int 1) 0 q1) q2) sp) X.env v = (do
      let ov ← holding [v] (eval (.Name x np) X.env)
      let iv ← holding [v, ov] (eval (.UnaryOp .USub (.Constant (.int 1) 0 q1) q2) X.env)
      standAt sp
      holding [v, ov, iv] (setItem ov iv v)
      release [v, ov, iv] []) := by intro _; rfl)
    (hs : swapsWithSole [.Subscript (.Name x np) (.UnaryOp .USub (.Constant (.int 1) 0 q1) q2) sp] e pos.line X.env = pure false := by rfl) (hw : swappedStores [.Subscript (.Name x np) (.UnaryOp .USub (.Constant (.int 1) 0 q1) q2) sp] e X.env = pure none := by rfl) : HB X W ((.Assign [.Subscript (.Name x np) (.UnaryOp .USub (.Constant (.int 1) 0 q1) q2) sp] e pos :: A) :: r) Φ M T (.rt (bindV (xs.set (xs.length - 1) v) k)) := h_putL n he hz (h _ rfl) ho hN hv hd hcd ha hs hw
theorem h_putLC {α : Type} [Py α] (n : Nat) {x : Str} {xs : List α} {v : α} {np sp q1 q2 : Pos} {k : List α → Ctl S R} (he : PV X Φ e v) (hz : 0 < xs.length) (h : ∀ nm, nm = (xs.set (xs.length - 1) v) → HB X W (A :: r) (Φ.set n (sO X.K nm)) M T (k nm)) (ho : Φ[n]? = some (sO X.K xs) := by rfl) (hN : X.N[n]? = some x := by rfl) (hv : Vis X.env.scope x := by first | exact Or.inl rfl | exact Or.inr (Or.inl rfl) | exact Or.inr (Or.inr rfl)) (hd : (x == ("__debug__" : Str)) = false := by decide) (hcd : (x == ("__classdict__" : Str)) = false := by decide) (ha : ∀ v, assign (.Subscript (.Name x np) (.UnaryOp .USub (.Constant (.int 1) 0 q1) q2) sp) X.env v = (do
      let ov ← holding [v] (eval (.Name x np) X.env)
      let iv ← holding [v, ov] (eval (.UnaryOp .USub (.Constant (.int 1) 0 q1) q2) X.env)
      standAt sp
      holding [v, ov, iv] (setItem ov iv v)
      release [v, ov, iv] []) := by intro _; rfl)
    (hs : swapsWithSole [.Subscript (.Name x np) (.UnaryOp .USub (.Constant (.int 1) 0 q1) q2) sp] e pos.line X.env = pure false := by rfl) (hw : swappedStores [.Subscript (.Name x np) (.UnaryOp .USub (.Constant (.int 1) 0 q1) q2) sp] e X.env = pure none := by rfl) : HB X W ((.Assign [.Subscript (.Name x np) (.UnaryOp .USub (.Constant (.int 1) 0 q1) q2) sp] e pos :: A) :: r) Φ M T (bindV (xs.set (xs.length - 1) v) k) := h_putL n he hz (h _ rfl) ho hN hv hd hcd ha hs hw
theorem h_putLS {α : Type} [Py α] (n : Nat) {x : Str} {xs : List α} {v : α} {np sp q1 q2 : Pos} {k : List α → S} (he : PV X Φ e v) (hz : 0 < xs.length) (h : ∀ nm, nm = (xs.set (xs.length - 1) v) → HB X W (A :: r) (Φ.set n (sO X.K nm)) M T (.nx (k nm))) (ho : Φ[n]? = some (sO X.K xs) := by rfl) (hN : X.N[n]? = some x := by rfl) (hv : Vis X.env.scope x := by first | exact Or.inl rfl | exact Or.inr (Or.inl rfl) | exact Or.inr (Or.inr rfl)) (hd : (x == ("__debug__" : Str)) = false := by decide) (hcd : (x == ("__classdict__" : Str)) = false := by decide) (ha : ∀ v, assign (.Subscript (.Name x np) (.UnaryOp .USub (.Constant (.int 1) 0 q1) q2) sp) X.env v = (do
      let ov ← holding [v] (eval (.Name x np) X.env)
      let iv ← holding [v, ov] (eval (.UnaryOp .USub (.Constant (.int 1) 0 q1) q2) X.env)
      standAt sp
      holding [v, ov, iv] (setItem ov iv v)
      release [v, ov, iv] []) := by intro _; rfl)
    (hs : swapsWithSole [.Subscript (.Name x np) (.UnaryOp .USub (.Constant (.int 1) 0 q1) q2) sp] e pos.line X.env = pure false := by rfl) (hw : swappedStores [.Subscript (.Name x np) (.UnaryOp .USub (.Constant (.int 1) 0 q1) q2) sp] e X.env = pure none := by rfl) : HB X W ((.Assign [.Subscript (.Name x np) (.UnaryOp .USub (.Constant (.int 1) 0 q1) q2) sp] e pos :: A) :: r) Φ M T (.nx (bindV (xs.set (xs.length - 1) v) k)) := h_putL n he hz (h _ rfl) ho hN hv hd hcd ha hs hw
theorem h_insV {α : Type} [Py α] (n : Nat) {x : Str} {xs : List α} {v : α} {np apos : Pos} {k : List α → R} (hb : PV X Φ b i) (he : PV X Φ e v) (hi : 0 ≤ i ∧ i < 2 ^ 63) (hz : xs.length < sizeLine) (h : ∀ nm, nm = (xs.take i.toNat ++ [v] ++ xs.drop i.toNat) → HB X W (A :: r) (Φ.set n (sO X.K nm)) M T (.rt (k nm))) (ho : Φ[n]? = some (sO X.K xs) := by rfl) (hN : X.N[n]? = some x := by rfl) (hv : Vis X.env.scope x := by first | exact Or.inl rfl | exact Or.inr (Or.inl rfl) | exact Or.inr (Or.inr rfl)) (hd : (x == ("__debug__" : Str)) = false := by decide) (hcd : (x == ("__classdict__" : Str)) = false := by decide) (hsb : nst b = true := by rfl) (hst : nst e = true := by rfl) (hl : (apos.endLine == p.line) = true := by rfl) (hfew : ((backTo p (starEach [b, e] X.env)).all (fun x => !x.1) && (backToKw p (keywordEach [] X.env)).all (fun x => x.1.isSome)
      && decide ([b, e].length + ([] : List Keyword).length + (if ([] : List Keyword).isEmpty then 0 else 1) < 30)) = true := by rfl) : HB X W ((.Expr (.Call (.Attribute (.Name x np) "insert" apos) [b, e] [] p) pos :: A) :: r) Φ M T (.rt (bindV (xs.take i.toNat ++ [v] ++ xs.drop i.toNat) k)) := h_ins n hb he hi hz (h _ rfl) ho hN hv hd hcd hsb hst hl hfew
theorem h_insC {α : Type} [Py α] (n : Nat) {x : Str} {xs : List α} {v : α} {np apos : Pos} {k : List α → Ctl S R} (hb : PV X Φ b i) (he : PV X Φ e v) (hi : 0 ≤ i ∧ i < 2 ^ 63) (hz : xs.length < sizeLine) (h : ∀ nm, nm = (xs.take i.toNat ++ [v] ++ xs.drop i.toNat) → HB X W (A :: r) (Φ.set n (sO X.K nm)) M T (k nm)) (ho : Φ[n]? = some (sO X.K xs) := by rfl) (hN : X.N[n]? = some x := by rfl) (hv : Vis X.env.scope x := by first | exact Or.inl rfl | exact Or.inr (Or.inl rfl) | exact Or.inr (Or.inr rfl)) (hd : (x == ("__debug__" : Str)) = false := by decide) (hcd : (x == ("__classdict__" : Str)) = false := by decide) (hsb : nst b = true := by rfl) (hst : nst e = true := by rfl) (hl : (apos.endLine == p.line) = true := by rfl) (hfew : ((backTo p (starEach [b, e] X.env)).all (fun x => !x.1) && (backToKw p (keywordEach [] X.env)).all (fun x => x.1.isSome)
      && decide ([b, e].length + ([] : List Keyword).length + (if ([] : List Keyword).isEmpty then 0 else 1) < 30)) = true := by rfl) : HB X W ((.Expr (.Call (.Attribute (.Name x np) "insert" apos) [b, e] [] p) pos :: A) :: r) Φ M T (bindV (xs.take i.toNat ++ [v] ++ xs.drop i.toNat) k) := h_ins n hb he hi hz (h _ rfl) ho hN hv hd hcd hsb hst hl hfew
theorem h_insS {α : Type} [Py α] (n : Nat) {x : Str} {xs : List α} {v : α} {np apos : Pos} {k : List α → S} (hb : PV X Φ b i) (he : PV X Φ e v) (hi : 0 ≤ i ∧ i < 2 ^ 63) (hz : xs.length < sizeLine) (h : ∀ nm, nm = (xs.take i.toNat ++ [v] ++ xs.drop i.toNat) → HB X W (A :: r) (Φ.set n (sO X.K nm)) M T (.nx (k nm))) (ho : Φ[n]? = some (sO X.K xs) := by rfl) (hN : X.N[n]? = some x := by rfl) (hv : Vis X.env.scope x := by first | exact Or.inl rfl | exact Or.inr (Or.inl rfl) | exact Or.inr (Or.inr rfl)) (hd : (x == ("__debug__" : Str)) = false := by decide) (hcd : (x == ("__classdict__" : Str)) = false := by decide) (hsb : nst b = true := by rfl) (hst : nst e = true := by rfl) (hl : (apos.endLine == p.line) = true := by rfl) (hfew : ((backTo p (starEach [b, e] X.env)).all (fun x => !x.1) && (backToKw p (keywordEach [] X.env)).all (fun x => x.1.isSome)
      && decide ([b, e].length + ([] : List Keyword).length + (if ([] : List Keyword).isEmpty then 0 else 1) < 30)) = true := by rfl) : HB X W ((.Expr (.Call (.Attribute (.Name x np) "insert" apos) [b, e] [] p) pos :: A) :: r) Φ M T (.nx (bindV (xs.take i.toNat ++ [v] ++ xs.drop i.toNat) k)) := h_ins n hb he hi hz (h _ rfl) ho hN hv hd hcd hsb hst hl hfew
theorem h_clrV {α : Type} [Py α] (n : Nat) {x : Str} {xs : List α} {np apos : Pos} {k : List α → R}  (h : ∀ nm, nm = ([] : List α) → HB X W (A :: r) (Φ.set n (sO X.K nm)) M T (.rt (k nm))) (ho : Φ[n]? = some (sO X.K xs) := by rfl) (hN : X.N[n]? = some x := by rfl) (hv : Vis X.env.scope x := by first | exact Or.inl rfl | exact Or.inr (Or.inl rfl) | exact Or.inr (Or.inr rfl)) (hd : (x == ("__debug__" : Str)) = false := by decide) (hcd : (x == ("__classdict__" : Str)) = false := by decide) (hl : (apos.endLine == p.line) = true := by rfl) : HB X W ((.Expr (.Call (.Attribute (.Name x np) "clear" apos) [] [] p) pos :: A) :: r) Φ M T (.rt (bindV ([] : List α) k)) := h_clr n (h _ rfl) ho hN hv hd hcd hl
theorem h_clrC {α : Type} [Py α] (n : Nat) {x : Str} {xs : List α} {np apos : Pos} {k : List α → Ctl S R}  (h : ∀ nm, nm = ([] : List α) → HB X W (A :: r) (Φ.set n (sO X.K nm)) M T (k nm)) (ho : Φ[n]? = some (sO X.K xs) := by rfl) (hN : X.N[n]? = some x := by rfl) (hv : Vis X.env.scope x := by first | exact Or.inl rfl | exact Or.inr (Or.inl rfl) | exact Or.inr (Or.inr rfl)) (hd : (x == ("__debug__" : Str)) = false := by decide) (hcd : (x == ("__classdict__" : Str)) = false := by decide) (hl : (apos.endLine == p.line) = true := by rfl) : HB X W ((.Expr (.Call (.Attribute (.Name x np) "clear" apos) [] [] p) pos :: A) :: r) Φ M T (bindV ([] : List α) k) := h_clr n (h _ rfl) ho hN hv hd hcd hl
theorem h_clrS {α : Type} [Py α] (n : Nat) {x : Str} {xs : List α} {np apos : Pos} {k : List α → S}  (h : ∀ nm, nm = ([] : List α) → HB X W (A :: r) (Φ.set n (sO X.K nm)) M T (.nx (k nm))) (ho : Φ[n]? = some (sO X.K xs) := by rfl) (hN : X.N[n]? = some x := by rfl) (hv : Vis X.env.scope x := by first | exact Or.inl rfl | exact Or.inr (Or.inl rfl) | exact Or.inr (Or.inr rfl)) (hd : (x == ("__debug__" : Str)) = false := by decide) (hcd : (x == ("__classdict__" : Str)) = false := by decide) (hl : (apos.endLine == p.line) = true := by rfl) : HB X W ((.Expr (.Call (.Attribute (.Name x np) "clear" apos) [] [] p) pos :: A) :: r) Φ M T (.nx (bindV ([] : List α) k)) := h_clr n (h _ rfl) ho hN hv hd hcd hl
theorem h_augAV (n : Nat) {x : Str} {u : Int} {k : Int → R} (hN : X.N.Nodup) (he : PV X Φ e j) (h : ∀ nm, nm = (u + j) → HB X W (A :: r) (Φ.set n (sI X.K nm)) M T (.rt (k nm))) (ho : Φ[n]? = some (sI X.K u) := by rfl) (hi : X.N[n]? = some x := by rfl) (hx : Loc X.env.scope x := by first | exact Or.inl rfl | exact Or.inr rfl) (hf : X.fn x = true ∨ X.env.scope.names.lookup x = some .local := by first | exact .inl rfl | exact .inr rfl) : HB X W ((.AugAssign (.Name x p) .Add e pos :: A) :: r) Φ M T (.rt (bindV (u + j) k)) := h_aug n hN he ip_add (fun H Q q => ⟨u, j, rfl, rfl, q⟩) (h _ rfl) ho hi hx hf
theorem h_augAC (n : Nat) {x : Str} {u : Int} {k : Int → Ctl S R} (hN : X.N.Nodup) (he : PV X Φ e j) (h : ∀ nm, nm = (u + j) → HB X W (A :: r) (Φ.set n (sI X.K nm)) M T (k nm)) (ho : Φ[n]? = some (sI X.K u) := by rfl) (hi : X.N[n]? = some x := by rfl) (hx : Loc X.env.scope x := by first | exact Or.inl rfl | exact Or.inr rfl) (hf : X.fn x = true ∨ X.env.scope.names.lookup x = some .local := by first | exact .inl rfl | exact .inr rfl) : HB X W ((.AugAssign (.Name x p) .Add e pos :: A) :: r) Φ M T (bindV (u + j) k) := h_aug n hN he ip_add (fun H Q q => ⟨u, j, rfl, rfl, q⟩) (h _ rfl) ho hi hx hf
theorem h_augAS (n : Nat) {x : Str} {u : Int} {k : Int → S} (hN : X.N.Nodup) (he : PV X Φ e j) (h : ∀ nm, nm = (u + j) → HB X W (A :: r) (Φ.set n (sI X.K nm)) M T (.nx (k nm))) (ho : Φ[n]? = some (sI X.K u) := by rfl) (hi : X.N[n]? = some x := by rfl) (hx : Loc X.env.scope x := by first | exact Or.inl rfl | exact Or.inr rfl) (hf : X.fn x = true ∨ X.env.scope.names.lookup x = some .local := by first | exact .inl rfl | exact .inr rfl) : HB X W ((.AugAssign (.Name x p) .Add e pos :: A) :: r) Φ M T (.nx (bindV (u + j) k)) := h_aug n hN he ip_add (fun H Q q => ⟨u, j, rfl, rfl, q⟩) (h _ rfl) ho hi hx hf
theorem h_lcV {α β : Type} [Py α] [Py β] {xs : List α} {f : α → β} {k : List β → R} {elt : Expr} {scope : Scope} (n : Nat) {x : Str} {py_ spos : Pos} (own : List (Str × Nat)) (us : α → List (Nat × SD)) (hc : X.calm = true) (hN : X.N.Nodup) (ok : BlkOk X.N X.env.scope scope own) (hi : PIt X Φ tg iter xs) (hz : xs.length ≤ sizeLine)
    (hg : ∀ x, ∀ (s : Shared) (H : Hp) (C : Addr) (cl : List (Str × Addr)) (fp : List Addr), PGt (X.blk s H scope (compEnvC scope cl C X.env) fp) tg x (us x)) (hu : ∀ x, ∀ u ∈ us x, u.1 ∈ own.map (·.2))
    (he : ∀ x, x ∈ xs → ∀ (s : Shared) (H : Hp) (C : Addr) (cl : List (Str × Addr)) (fp : List Addr), PEv (X.blk s H scope (compEnvC scope cl C X.env) fp) (setAll (wipeS Φ (own.map (·.2))) (us x)) elt (py X.K (enc (f x))))
    (h : ∀ nm, nm = (xs.map f) → HB X W (A :: r) (Φ.set n (sO X.K nm)) M T (.rt (k nm)))
    (hn : X.N[n]? = some x := by rfl) (hl : X.env.scope.names.lookup x = some .local := by rfl) (hsw : swapsWith (.ListComp elt [⟨tg, iter, [], 0⟩] scope pos) (some (.Name x py_)) spos.line X.env = pure true := by exact sw_true rfl rfl rfl (by decide +kernel)) (hs : ∀ x, foldedSetIterable iter X.env x = pure x := by intro _; rfl) :
    HB X W ((.Assign [.Name x py_] (.ListComp elt [⟨tg, iter, [], 0⟩] scope pos) spos :: A) :: r) Φ M T (.rt (bindV (xs.map f) k)) := h_lc n own us hc hN ok hi hz hg hu he (h _ rfl) hn hl hsw hs
theorem h_lcIfV {α β : Type} [Py α] [Py β] {xs : List α} {cnd : α → Bool} {f : α → β} {k : List β → R} {elt : Expr} {scope : Scope} (n : Nat) {x : Str} {py_ spos : Pos} (own : List (Str × Nat)) (us : α → List (Nat × SD)) (hc : X.calm = true) (hN : X.N.Nodup) (ok : BlkOk X.N X.env.scope scope own) (hi : PIt X Φ tg iter xs) (hz : xs.length ≤ sizeLine)
    (hg : ∀ x, ∀ (s : Shared) (H : Hp) (C : Addr) (cl : List (Str × Addr)) (fp : List Addr), PGt (X.blk s H scope (compEnvC scope cl C X.env) fp) tg x (us x)) (hu : ∀ x, ∀ u ∈ us x, u.1 ∈ own.map (·.2))
    (ht : ∀ x, x ∈ xs → ∀ (s : Shared) (H : Hp) (C : Addr) (cl : List (Str × Addr)) (fp : List Addr), PTv (X.blk s H scope (compEnvC scope cl C X.env) fp) (setAll (wipeS Φ (own.map (·.2))) (us x)) c (cnd x))
    (he : ∀ x, x ∈ xs → cnd x = true → ∀ (s : Shared) (H : Hp) (C : Addr) (cl : List (Str × Addr)) (fp : List Addr), PEv (X.blk s H scope (compEnvC scope cl C X.env) fp) (setAll (wipeS Φ (own.map (·.2))) (us x)) elt (py X.K (enc (f x))))
    (h : ∀ nm, nm = ((xs.filter cnd).map f) → HB X W (A :: r) (Φ.set n (sO X.K nm)) M T (.rt (k nm)))
    (hn : X.N[n]? = some x := by rfl) (hl : X.env.scope.names.lookup x = some .local := by rfl) (hsw : swapsWith (.ListComp elt [⟨tg, iter, [c], 0⟩] scope pos) (some (.Name x py_)) spos.line X.env = pure true := by exact sw_true rfl rfl rfl (by decide +kernel)) (hs : ∀ x, foldedSetIterable iter X.env x = pure x := by intro _; rfl) :
    HB X W ((.Assign [.Name x py_] (.ListComp elt [⟨tg, iter, [c], 0⟩] scope pos) spos :: A) :: r) Φ M T (.rt (bindV ((xs.filter cnd).map f) k)) := h_lcIf n own us hc hN ok hi hz hg hu ht he (h _ rfl) hn hl hsw hs
theorem h_popV {α : Type} [Py α] [Inhabited α] {us : α → List (Nat × SD)} {k : α → List α → R} (n : Nat) {x : Str} {xs : List α} {np apos cpos : Pos} (hb : PV X Φ b i) (hi : 0 ≤ i ∧ i < xs.length) (hz : xs.length ≤ 2 ^ 62) (hg : ∀ z, PGv X tg (py X.K (enc z)) (us z))
    (h : ∀ nm, nm = ix xs i → ∀ nm2, nm2 = xs.eraseIdx i.toNat → HB X W (A :: r) (setAll (Φ.set n (sO X.K nm2)) (us nm)) M T (.rt (k nm nm2))) (ho : Φ[n]? = some (sO X.K xs) := by rfl) (hN : X.N[n]? = some x := by rfl)
    (hv : Vis X.env.scope x := by first | exact Or.inl rfl | exact Or.inr (Or.inl rfl) | exact Or.inr (Or.inr rfl)) (hd : (x == ("__debug__" : Str)) = false := by decide) (hcd : (x == ("__classdict__" : Str)) = false := by decide)
    (hsb : nst b = true := by rfl) (hl : (apos.endLine == cpos.line) = true := by rfl)
    (hs : swapsWithSole [tg] (.Call (.Attribute (.Name x np) "pop" apos) [b] [] cpos) pos.line X.env = pure false := by rfl) (hw : swappedStores [tg] (.Call (.Attribute (.Name x np) "pop" apos) [b] [] cpos) X.env = pure none := by rfl)
    (h1 : (assignEach [tg] X.env).map (·.2) = [assign tg X.env] := by rfl) : HB X W ((.Assign [tg] (.Call (.Attribute (.Name x np) "pop" apos) [b] [] cpos) pos :: A) :: r) Φ M T (.rt (bindV (ix xs i) fun nm => bindV (xs.eraseIdx i.toNat) fun nm2 => k nm nm2)) := h_pop n hb hi (hg _) (h _ rfl _ rfl) hz ho hN hv hd hcd hsb hl hs hw h1
theorem h_appPopV {α : Type} [Py α] [Inhabited α] {k : List α → List α → R} (n m : Nat) {x y : Str} {xs ys : List α} {np apos np2 apos2 cpos : Pos} (hnm : n ≠ m) (hb : PV X Φ b i) (hi : 0 ≤ i ∧ i < ys.length) (hz : xs.length < sizeLine) (hy : ys.length ≤ 2 ^ 62)
    (h : ∀ nm, nm = xs ++ [ix ys i] → ∀ nm2, nm2 = ys.eraseIdx i.toNat → HB X W (A :: r) ((Φ.set m (sO X.K nm2)).set n (sO X.K nm)) M T (.rt (k nm nm2))) (ho : Φ[n]? = some (sO X.K xs) := by rfl) (ho2 : Φ[m]? = some (sO X.K ys) := by rfl) (hN : X.N[n]? = some x := by rfl) (hN2 : X.N[m]? = some y := by rfl)
    (hv : Vis X.env.scope x := by first | exact Or.inl rfl | exact Or.inr (Or.inl rfl) | exact Or.inr (Or.inr rfl)) (hd : (x == ("__debug__" : Str)) = false := by decide) (hcd : (x == ("__classdict__" : Str)) = false := by decide)
    (hv2 : Vis X.env.scope y := by first | exact Or.inl rfl | exact Or.inr (Or.inl rfl) | exact Or.inr (Or.inr rfl)) (hd2 : (y == ("__debug__" : Str)) = false := by decide) (hcd2 : (y == ("__classdict__" : Str)) = false := by decide)
    (hsb : nst b = true := by rfl) (hl : (apos.endLine == p.line) = true := by rfl) (hl2 : (apos2.endLine == cpos.line) = true := by rfl) :
    HB X W ((.Expr (.Call (.Attribute (.Name x np) "append" apos) [.Call (.Attribute (.Name y np2) "pop" apos2) [b] [] cpos] [] p) pos :: A) :: r) Φ M T (.rt (bindV (xs ++ [ix ys i]) fun nm => bindV (ys.eraseIdx i.toNat) fun nm2 => k nm nm2)) := h_appPop n m hnm hb hi hz hy (h _ rfl _ rfl) ho ho2 hN hN2 hv hd hcd hv2 hd2 hcd2 hsb hl hl2
theorem h_lcC {α β : Type} [Py α] [Py β] {xs : List α} {f : α → β} {k : List β → Ctl S R} {elt : Expr} {scope : Scope} (n : Nat) {x : Str} {py_ spos : Pos} (own : List (Str × Nat)) (us : α → List (Nat × SD)) (hc : X.calm = true) (hN : X.N.Nodup) (ok : BlkOk X.N X.env.scope scope own) (hi : PIt X Φ tg iter xs) (hz : xs.length ≤ sizeLine)
    (hg : ∀ x, ∀ (s : Shared) (H : Hp) (C : Addr) (cl : List (Str × Addr)) (fp : List Addr), PGt (X.blk s H scope (compEnvC scope cl C X.env) fp) tg x (us x)) (hu : ∀ x, ∀ u ∈ us x, u.1 ∈ own.map (·.2))
    (he : ∀ x, x ∈ xs → ∀ (s : Shared) (H : Hp) (C : Addr) (cl : List (Str × Addr)) (fp : List Addr), PEv (X.blk s H scope (compEnvC scope cl C X.env) fp) (setAll (wipeS Φ (own.map (·.2))) (us x)) elt (py X.K (enc (f x))))
    (h : ∀ nm, nm = (xs.map f) → HB X W (A :: r) (Φ.set n (sO X.K nm)) M T (k nm))
    (hn : X.N[n]? = some x := by rfl) (hl : X.env.scope.names.lookup x = some .local := by rfl) (hsw : swapsWith (.ListComp elt [⟨tg, iter, [], 0⟩] scope pos) (some (.Name x py_)) spos.line X.env = pure true := by exact sw_true rfl rfl rfl (by decide +kernel)) (hs : ∀ x, foldedSetIterable iter X.env x = pure x := by intro _; rfl) :
    HB X W ((.Assign [.Name x py_] (.ListComp elt [⟨tg, iter, [], 0⟩] scope pos) spos :: A) :: r) Φ M T (bindV (xs.map f) k) := h_lc n own us hc hN ok hi hz hg hu he (h _ rfl) hn hl hsw hs
theorem h_lcIfC {α β : Type} [Py α] [Py β] {xs : List α} {cnd : α → Bool} {f : α → β} {k : List β → Ctl S R} {elt : Expr} {scope : Scope} (n : Nat) {x : Str} {py_ spos : Pos} (own : List (Str × Nat)) (us : α → List (Nat × SD)) (hc : X.calm = true) (hN : X.N.Nodup) (ok : BlkOk X.N X.env.scope scope own) (hi : PIt X Φ tg iter xs) (hz : xs.length ≤ sizeLine)
    (hg : ∀ x, ∀ (s : Shared) (H : Hp) (C : Addr) (cl : List (Str × Addr)) (fp : List Addr), PGt (X.blk s H scope (compEnvC scope cl C X.env) fp) tg x (us x)) (hu : ∀ x, ∀ u ∈ us x, u.1 ∈ own.map (·.2))
    (ht : ∀ x, x ∈ xs → ∀ (s : Shared) (H : Hp) (C : Addr) (cl : List (Str × Addr)) (fp : List Addr), PTv (X.blk s H scope (compEnvC scope cl C X.env) fp) (setAll (wipeS Φ (own.map (·.2))) (us x)) c (cnd x))
    (he : ∀ x, x ∈ xs → cnd x = true → ∀ (s : Shared) (H : Hp) (C : Addr) (cl : List (Str × Addr)) (fp : List Addr), PEv (X.blk s H scope (compEnvC scope cl C X.env) fp) (setAll (wipeS Φ (own.map (·.2))) (us x)) elt (py X.K (enc (f x))))
    (h : ∀ nm, nm = ((xs.filter cnd).map f) → HB X W (A :: r) (Φ.set n (sO X.K nm)) M T (k nm))
    (hn : X.N[n]? = some x := by rfl) (hl : X.env.scope.names.lookup x = some .local := by rfl) (hsw : swapsWith (.ListComp elt [⟨tg, iter, [c], 0⟩] scope pos) (some (.Name x py_)) spos.line X.env = pure true := by exact sw_true rfl rfl rfl (by decide +kernel)) (hs : ∀ x, foldedSetIterable iter X.env x = pure x := by intro _; rfl) :
    HB X W ((.Assign [.Name x py_] (.ListComp elt [⟨tg, iter, [c], 0⟩] scope pos) spos :: A) :: r) Φ M T (bindV ((xs.filter cnd).map f) k) := h_lcIf n own us hc hN ok hi hz hg hu ht he (h _ rfl) hn hl hsw hs
theorem h_popC {α : Type} [Py α] [Inhabited α] {us : α → List (Nat × SD)} {k : α → List α → Ctl S R} (n : Nat) {x : Str} {xs : List α} {np apos cpos : Pos} (hb : PV X Φ b i) (hi : 0 ≤ i ∧ i < xs.length) (hz : xs.length ≤ 2 ^ 62) (hg : ∀ z, PGv X tg (py X.K (enc z)) (us z))
    (h : ∀ nm, nm = ix xs i → ∀ nm2, nm2 = xs.eraseIdx i.toNat → HB X W (A :: r) (setAll (Φ.set n (sO X.K nm2)) (us nm)) M T (k nm nm2)) (ho : Φ[n]? = some (sO X.K xs) := by rfl) (hN : X.N[n]? = some x := by rfl)
    (hv : Vis X.env.scope x := by first | exact Or.inl rfl | exact Or.inr (Or.inl rfl) | exact Or.inr (Or.inr rfl)) (hd : (x == ("__debug__" : Str)) = false := by decide) (hcd : (x == ("__classdict__" : Str)) = false := by decide)
    (hsb : nst b = true := by rfl) (hl : (apos.endLine == cpos.line) = true := by rfl)
    (hs : swapsWithSole [tg] (.Call (.Attribute (.Name x np) "pop" apos) [b] [] cpos) pos.line X.env = pure false := by rfl) (hw : swappedStores [tg] (.Call (.Attribute (.Name x np) "pop" apos) [b] [] cpos) X.env = pure none := by rfl)
    (h1 : (assignEach [tg] X.env).map (·.2) = [assign tg X.env] := by rfl) : HB X W ((.Assign [tg] (.Call (.Attribute (.Name x np) "pop" apos) [b] [] cpos) pos :: A) :: r) Φ M T (bindV (ix xs i) fun nm => bindV (xs.eraseIdx i.toNat) fun nm2 => k nm nm2) := h_pop n hb hi (hg _) (h _ rfl _ rfl) hz ho hN hv hd hcd hsb hl hs hw h1
theorem h_appPopC {α : Type} [Py α] [Inhabited α] {k : List α → List α → Ctl S R} (n m : Nat) {x y : Str} {xs ys : List α} {np apos np2 apos2 cpos : Pos} (hnm : n ≠ m) (hb : PV X Φ b i) (hi : 0 ≤ i ∧ i < ys.length) (hz : xs.length < sizeLine) (hy : ys.length ≤ 2 ^ 62)
    (h : ∀ nm, nm = xs ++ [ix ys i] → ∀ nm2, nm2 = ys.eraseIdx i.toNat → HB X W (A :: r) ((Φ.set m (sO X.K nm2)).set n (sO X.K nm)) M T (k nm nm2)) (ho : Φ[n]? = some (sO X.K xs) := by rfl) (ho2 : Φ[m]? = some (sO X.K ys) := by rfl) (hN : X.N[n]? = some x := by rfl) (hN2 : X.N[m]? = some y := by rfl)
    (hv : Vis X.env.scope x := by first | exact Or.inl rfl | exact Or.inr (Or.inl rfl) | exact Or.inr (Or.inr rfl)) (hd : (x == ("__debug__" : Str)) = false := by decide) (hcd : (x == ("__classdict__" : Str)) = false := by decide)
    (hv2 : Vis X.env.scope y := by first | exact Or.inl rfl | exact Or.inr (Or.inl rfl) | exact Or.inr (Or.inr rfl)) (hd2 : (y == ("__debug__" : Str)) = false := by decide) (hcd2 : (y == ("__classdict__" : Str)) = false := by decide)
    (hsb : nst b = true := by rfl) (hl : (apos.endLine == p.line) = true := by rfl) (hl2 : (apos2.endLine == cpos.line) = true := by rfl) :
    HB X W ((.Expr (.Call (.Attribute (.Name x np) "append" apos) [.Call (.Attribute (.Name y np2) "pop" apos2) [b] [] cpos] [] p) pos :: A) :: r) Φ M T (bindV (xs ++ [ix ys i]) fun nm => bindV (ys.eraseIdx i.toNat) fun nm2 => k nm nm2) := h_appPop n m hnm hb hi hz hy (h _ rfl _ rfl) ho ho2 hN hN2 hv hd hcd hv2 hd2 hcd2 hsb hl hl2
theorem h_lcS {α β : Type} [Py α] [Py β] {xs : List α} {f : α → β} {k : List β → S} {elt : Expr} {scope : Scope} (n : Nat) {x : Str} {py_ spos : Pos} (own : List (Str × Nat)) (us : α → List (Nat × SD)) (hc : X.calm = true) (hN : X.N.Nodup) (ok : BlkOk X.N X.env.scope scope own) (hi : PIt X Φ tg iter xs) (hz : xs.length ≤ sizeLine)
    (hg : ∀ x, ∀ (s : Shared) (H : Hp) (C : Addr) (cl : List (Str × Addr)) (fp : List Addr), PGt (X.blk s H scope (compEnvC scope cl C X.env) fp) tg x (us x)) (hu : ∀ x, ∀ u ∈ us x, u.1 ∈ own.map (·.2))
    (he : ∀ x, x ∈ xs → ∀ (s : Shared) (H : Hp) (C : Addr) (cl : List (Str × Addr)) (fp : List Addr), PEv (X.blk s H scope (compEnvC scope cl C X.env) fp) (setAll (wipeS Φ (own.map (·.2))) (us x)) elt (py X.K (enc (f x))))
    (h : ∀ nm, nm = (xs.map f) → HB X W (A :: r) (Φ.set n (sO X.K nm)) M T (.nx (k nm)))
    (hn : X.N[n]? = some x := by rfl) (hl : X.env.scope.names.lookup x = some .local := by rfl) (hsw : swapsWith (.ListComp elt [⟨tg, iter, [], 0⟩] scope pos) (some (.Name x py_)) spos.line X.env = pure true := by exact sw_true rfl rfl rfl (by decide +kernel)) (hs : ∀ x, foldedSetIterable iter X.env x = pure x := by intro _; rfl) :
    HB X W ((.Assign [.Name x py_] (.ListComp elt [⟨tg, iter, [], 0⟩] scope pos) spos :: A) :: r) Φ M T (.nx (bindV (xs.map f) k)) := h_lc n own us hc hN ok hi hz hg hu he (h _ rfl) hn hl hsw hs
theorem h_lcIfS {α β : Type} [Py α] [Py β] {xs : List α} {cnd : α → Bool} {f : α → β} {k : List β → S} {elt : Expr} {scope : Scope} (n : Nat) {x : Str} {py_ spos : Pos} (own : List (Str × Nat)) (us : α → List (Nat × SD)) (hc : X.calm = true) (hN : X.N.Nodup) (ok : BlkOk X.N X.env.scope scope own) (hi : PIt X Φ tg iter xs) (hz : xs.length ≤ sizeLine)
    (hg : ∀ x, ∀ (s : Shared) (H : Hp) (C : Addr) (cl : List (Str × Addr)) (fp : List Addr), PGt (X.blk s H scope (compEnvC scope cl C X.env) fp) tg x (us x)) (hu : ∀ x, ∀ u ∈ us x, u.1 ∈ own.map (·.2))
    (ht : ∀ x, x ∈ xs → ∀ (s : Shared) (H : Hp) (C : Addr) (cl : List (Str × Addr)) (fp : List Addr), PTv (X.blk s H scope (compEnvC scope cl C X.env) fp) (setAll (wipeS Φ (own.map (·.2))) (us x)) c (cnd x))
    (he : ∀ x, x ∈ xs → cnd x = true → ∀ (s : Shared) (H : Hp) (C : Addr) (cl : List (Str × Addr)) (fp : List Addr), PEv (X.blk s H scope (compEnvC scope cl C X.env) fp) (setAll (wipeS Φ (own.map (·.2))) (us x)) elt (py X.K (enc (f x))))
    (h : ∀ nm, nm = ((xs.filter cnd).map f) → HB X W (A :: r) (Φ.set n (sO X.K nm)) M T (.nx (k nm)))
    (hn : X.N[n]? = some x := by rfl) (hl : X.env.scope.names.lookup x = some .local := by rfl) (hsw : swapsWith (.ListComp elt [⟨tg, iter, [c], 0⟩] scope pos) (some (.Name x py_)) spos.line X.env = pure true := by exact sw_true rfl rfl rfl (by decide +kernel)) (hs : ∀ x, foldedSetIterable iter X.env x = pure x := by intro _; rfl) :
    HB X W ((.Assign [.Name x py_] (.ListComp elt [⟨tg, iter, [c], 0⟩] scope pos) spos :: A) :: r) Φ M T (.nx (bindV ((xs.filter cnd).map f) k)) := h_lcIf n own us hc hN ok hi hz hg hu ht he (h _ rfl) hn hl hsw hs
theorem h_popS {α : Type} [Py α] [Inhabited α] {us : α → List (Nat × SD)} {k : α → List α → S} (n : Nat) {x : Str} {xs : List α} {np apos cpos : Pos} (hb : PV X Φ b i) (hi : 0 ≤ i ∧ i < xs.length) (hz : xs.length ≤ 2 ^ 62) (hg : ∀ z, PGv X tg (py X.K (enc z)) (us z))
    (h : ∀ nm, nm = ix xs i → ∀ nm2, nm2 = xs.eraseIdx i.toNat → HB X W (A :: r) (setAll (Φ.set n (sO X.K nm2)) (us nm)) M T (.nx (k nm nm2))) (ho : Φ[n]? = some (sO X.K xs) := by rfl) (hN : X.N[n]? = some x := by rfl)
    (hv : Vis X.env.scope x := by first | exact Or.inl rfl | exact Or.inr (Or.inl rfl) | exact Or.inr (Or.inr rfl)) (hd : (x == ("__debug__" : Str)) = false := by decide) (hcd : (x == ("__classdict__" : Str)) = false := by decide)
    (hsb : nst b = true := by rfl) (hl : (apos.endLine == cpos.line) = true := by rfl)
    (hs : swapsWithSole [tg] (.Call (.Attribute (.Name x np) "pop" apos) [b] [] cpos) pos.line X.env = pure false := by rfl) (hw : swappedStores [tg] (.Call (.Attribute (.Name x np) "pop" apos) [b] [] cpos) X.env = pure none := by rfl)
    (h1 : (assignEach [tg] X.env).map (·.2) = [assign tg X.env] := by rfl) : HB X W ((.Assign [tg] (.Call (.Attribute (.Name x np) "pop" apos) [b] [] cpos) pos :: A) :: r) Φ M T (.nx (bindV (ix xs i) fun nm => bindV (xs.eraseIdx i.toNat) fun nm2 => k nm nm2)) := h_pop n hb hi (hg _) (h _ rfl _ rfl) hz ho hN hv hd hcd hsb hl hs hw h1
theorem h_appPopS {α : Type} [Py α] [Inhabited α] {k : List α → List α → S} (n m : Nat) {x y : Str} {xs ys : List α} {np apos np2 apos2 cpos : Pos} (hnm : n ≠ m) (hb : PV X Φ b i) (hi : 0 ≤ i ∧ i < ys.length) (hz : xs.length < sizeLine) (hy : ys.length ≤ 2 ^ 62)
    (h : ∀ nm, nm = xs ++ [ix ys i] → ∀ nm2, nm2 = ys.eraseIdx i.toNat → HB X W (A :: r) ((Φ.set m (sO X.K nm2)).set n (sO X.K nm)) M T (.nx (k nm nm2))) (ho : Φ[n]? = some (sO X.K xs) := by rfl) (ho2 : Φ[m]? = some (sO X.K ys) := by rfl) (hN : X.N[n]? = some x := by rfl) (hN2 : X.N[m]? = some y := by rfl)
    (hv : Vis X.env.scope x := by first | exact Or.inl rfl | exact Or.inr (Or.inl rfl) | exact Or.inr (Or.inr rfl)) (hd : (x == ("__debug__" : Str)) = false := by decide) (hcd : (x == ("__classdict__" : Str)) = false := by decide)
    (hv2 : Vis X.env.scope y := by first | exact Or.inl rfl | exact Or.inr (Or.inl rfl) | exact Or.inr (Or.inr rfl)) (hd2 : (y == ("__debug__" : Str)) = false := by decide) (hcd2 : (y == ("__classdict__" : Str)) = false := by decide)
    (hsb : nst b = true := by rfl) (hl : (apos.endLine == p.line) = true := by rfl) (hl2 : (apos2.endLine == cpos.line) = true := by rfl) :
    HB X W ((.Expr (.Call (.Attribute (.Name x np) "append" apos) [.Call (.Attribute (.Name y np2) "pop" apos2) [b] [] cpos] [] p) pos :: A) :: r) Φ M T (.nx (bindV (xs ++ [ix ys i]) fun nm => bindV (ys.eraseIdx i.toNat) fun nm2 => k nm nm2)) := h_appPop n m hnm hb hi hz hy (h _ rfl _ rfl) ho ho2 hN hN2 hv hd hcd hv2 hd2 hcd2 hsb hl hl2
theorem h_setS {α : Type} [Py α] (n : Nat) {x : Str} {v : α} {k : α → S} (hN : X.N.Nodup) (he : PV X Φ e v) (h : ∀ x, x = v → HB X W (A :: r) (Φ.set n (sI X.K x)) M T (.nx (k x))) (hi : X.N[n]? = some x := by rfl) (hx : Loc X.env.scope x := by first | exact Or.inl rfl | exact Or.inr rfl) (hs : swapsWith e (some (.Name x p)) pos.line X.env = pure false := by rfl)
    (hf : X.fn x = true ∨ X.env.scope.names.lookup x = some .local := by first | exact .inl rfl | exact .inr rfl) : HB X W ((.Assign [.Name x p] e pos :: A) :: r) Φ M T (.nx (bindV v k)) := h_set n hN he (h v rfl) hi hx hs hf
theorem h_ownS {α : Type} [Py α] (n : Nat) {x : Str} {v : List α} {k : List α → S} (hN : X.N.Nodup) (he : PN X Φ e v) (h : ∀ x, x = v → HB X W (A :: r) (Φ.set n (sO X.K x)) M T (.nx (k x))) (hi : X.N[n]? = some x := by rfl) (hx : Loc X.env.scope x := by first | exact Or.inl rfl | exact Or.inr rfl) (hs : swapsWith e (some (.Name x p)) pos.line X.env = pure false := by rfl)
    (hf : X.fn x = true ∨ X.env.scope.names.lookup x = some .local := by first | exact .inl rfl | exact .inr rfl) : HB X W ((.Assign [.Name x p] e pos :: A) :: r) Φ M T (.nx (bindV v k)) := h_setN n hN he (h v rfl) hi hx hs hf
theorem h_ifS {A1 A2 : List Stmt} {k : Bool} {v1 v2 : S} (hc : PTv X Φ c k) (h1 : k = true → HB X W (A1 :: A :: r) Φ M T (.nx v1)) (h2 : k = false → HB X W (A2 :: A :: r) Φ M T (.nx v2)) : HB X W ((.If c A1 A2 pos :: A) :: r) Φ M T (.nx (cond k v1 v2)) := by
  have h := h_if (pos := pos) hc h1 h2
  cases k with
  | true => exact h
  | false => exact h
theorem h_ifMS {A1 A2 : List Stmt} {S' : Type} (M' : S' → List SD) {k : Bool} {s1 s2 : S'} {kk : S' → S} (hc : PTv X Φ c k) (h1 : k = true → HB X W [A1] Φ M' T (.nx s1)) (h2 : k = false → HB X W [A2] Φ M' T (.nx s2)) (h : ∀ s, s = cond k s1 s2 → HB X W (A :: r) (M' s) M T (.nx (kk s))) : HB X W ((.If c A1 A2 pos :: A) :: r) Φ M T (.nx (bindV (cond k s1 s2) kk)) :=
  h_ifM (M' := M') hc h1 h2 (h _ rfl)
theorem h_foldS {body : List Stmt} {α S' : Type} [Py α] {xs : List α} (M' : S' → List SD) (us : α → List (Nat × SD)) {f : S' → α → S'} {s0 : S'} {k : S' → S} (hp : PassesOwn (model X.prog X.w) X.A X.env X.xe) (hc : X.calm = true)
    (hi : PIt X Φ tg iter xs) (hg : ∀ x, PGt X tg x (us x)) (w0 : Wk Φ (M' s0))
    (hb : ∀ n s x, xs[n]? = some x → s = (xs.take n).foldl f s0 → HB X W [body] (setAll (M' s) (us x)) M' T (.nx (f s x)))
    (hr : ∀ s, s = xs.foldl f s0 → HB X W (A :: r) (M' s) M T (.nx (k s))) (hs : ∀ x, foldedSetIterable iter X.env x = pure x := by intro _; rfl) :
    HB X W ((.For tg iter body [] pos :: A) :: r) Φ M T (.nx (bindV (xs.foldl f s0) k)) := h_fold (M' := M') us f s0 hp hc hi hg w0 hb (hr _ rfl) hs

end
end GL

set_option Elab.async false
set_option linter.all false
set_option maxRecDepth 100000
set_option maxHeartbeats 4000000
namespace GL
open PySem PySem.Spec PyProof.Rows L2
open Evl (Ex ex_l ex_t)
theorem us_in {α : Type} {us : α → List (Nat × SD)} {own : List (Str × Nat)} (h : ∀ x, (us x).all (fun u => (own.map (·.2)).contains u.1) = true) : ∀ x, ∀ u ∈ us x, u.1 ∈ own.map (·.2) := fun x u hu => by
  have := List.all_eq_true.mp (h x) u hu
  exact List.contains_iff_mem.mp this
theorem cdiv_of {i j : Int} (h : 0 < j) (h2 : j < 2 ^ 64) : CDivW i j := ⟨h, by
  have : j.natAbs < 2 ^ 64 := by omega
  have h0 : j.natAbs ≠ 0 := by omega
  have := (Nat.log2_lt h0).mpr this
  omega⟩
theorem room1 {k : Nat} {A : Around} (r : Room k A) : A.units + 1 < cLine := by have := r.un; omega
/-! ### max, min with default= -/
def maxDf (xs : List Int) (d : Int) : Int := if xs.isEmpty then d else maxL xs
def minDf (xs : List Int) (d : Int) : Int := if xs.isEmpty then d else minL xs
theorem foldl_max_imax : ∀ (xs : List Int) (a : Int), xs.foldl max a = xs.foldl imax a
  | [], a => rfl
  | x :: xs, a => by
    have e : max a x = imax a x := by unfold imax; split <;> omega
    show xs.foldl max (max a x) = xs.foldl imax (imax a x)
    rw [e]; exact foldl_max_imax xs _
theorem foldl_min_imin : ∀ (xs : List Int) (a : Int), xs.foldl min a = xs.foldl imin a
  | [], a => rfl
  | x :: xs, a => by
    have e : min a x = imin a x := by unfold imin; split <;> omega
    show xs.foldl min (min a x) = xs.foldl imin (imin a x)
    rw [e]; exact foldl_min_imin xs _
theorem maxL_cons (n : Int) (ns : List Int) : maxL (n :: ns) = ns.foldl imax n := by
  show ns.foldl imax (imax n n) = _
  have : imax n n = n := by unfold imax; split <;> omega
  rw [this]
theorem minL_cons (n : Int) (ns : List Int) : minL (n :: ns) = ns.foldl imin n := by
  show ns.foldl imin (imin n n) = _
  have : imin n n = n := by unfold imin; split <;> omega
  rw [this]
section
variable {X : Cx}
def rDf (X : Cx) (f : List Int → Int → Int) : List V → List V → Hp → VK → Prop := fun vs zs H Q => ∃ (a : Addr) (ns : List Int) (d : Int), vs = [.ref a] ∧ zs = [.int d] ∧ SqL X.K H a (ns.map V.int) ∧ Q (.int (f ns d)) H
theorem int_dps {K : Fg} {H : Hp} : ∀ ns : List Int, DpAll K H (ns.map V.int) (ns.map PyData.int)
  | [] => .nil
  | n :: ns => .cons (.int n) (int_dps ns)
theorem ints_alike (ns : List Int) : PySem.W.AlikeAll (ns.map PyData.int) := ⟨fun x hx y hy => by
  obtain ⟨i, _, rfl⟩ := List.mem_map.mp hx
  obtain ⟨j, _, rfl⟩ := List.mem_map.mp hy
  simp [PySem.W.alike], fun x hx => by
  obtain ⟨i, _, rfl⟩ := List.mem_map.mp hx
  simp⟩
theorem ints_depth : ∀ ns : List Int, PyData.depthAll (ns.map PyData.int) = 0
  | [] => by simp [PyData.depthAll]
  | n :: ns => by simp [PyData.depthAll, PyData.depth, ints_depth ns]
theorem cr_maxDf (hc : X.calm = true) (hu : X.A.units + 1 < cLine) : CallRK X (.builtin "max") ["default"] (rDf X maxDf) := by
  intro pins s σ H xs zs us ws Q I r1 r2 h
  obtain ⟨a, ns, d, rfl, rfl, hs, q⟩ := h
  obtain ⟨its, rv, hl, hz⟩ := I.list hs
  rw [Vals.ref1 r1]
  obtain ⟨u, rfl, t, rfl⟩ := r2.one
  obtain ⟨as, rd⟩ := Dp.readsAll I (ns.map PyData.int) (ns.map V.int) its (int_dps ns) rv
  refine PySem.W.max_list_default (I.ok.hd hc) hl.isList rd (ints_alike ns) (by rw [ints_depth]; exact hu) (fun e h' tk hk => ?_) (fun y ys i v h' tk bs e hi r hk => ?_)
  · have e2 : ns = [] := List.map_eq_nil_iff.mp e
    subst e2
    exact ⟨.int _, H, I.kept hk, ⟨t, rfl⟩, q⟩
  · cases ns with
    | nil => cases e
    | cons n ns =>
      rw [List.map_cons] at e
      injection e with e1 e2
      subst e1; subst e2
      rw [PySem.W.maxD_ints] at r
      cases r with
      | int i t' =>
        refine ⟨.int _, H, I.kept hk, ⟨t', rfl⟩, ?_⟩
        have : maxDf (n :: ns) d = ns.foldl max n := by show maxL (n :: ns) = _; rw [maxL_cons, foldl_max_imax]
        rw [← this]; exact q
theorem cr_minDf (hc : X.calm = true) (hu : X.A.units + 1 < cLine) : CallRK X (.builtin "min") ["default"] (rDf X minDf) := by
  intro pins s σ H xs zs us ws Q I r1 r2 h
  obtain ⟨a, ns, d, rfl, rfl, hs, q⟩ := h
  obtain ⟨its, rv, hl, hz⟩ := I.list hs
  rw [Vals.ref1 r1]
  obtain ⟨u, rfl, t, rfl⟩ := r2.one
  obtain ⟨as, rd⟩ := Dp.readsAll I (ns.map PyData.int) (ns.map V.int) its (int_dps ns) rv
  refine PySem.W.min_list_default (I.ok.hd hc) hl.isList rd (ints_alike ns) (by rw [ints_depth]; exact hu) (fun e h' tk hk => ?_) (fun y ys i v h' tk bs e hi r hk => ?_)
  · have e2 : ns = [] := List.map_eq_nil_iff.mp e
    subst e2
    exact ⟨.int _, H, I.kept hk, ⟨t, rfl⟩, q⟩
  · cases ns with
    | nil => cases e
    | cons n ns =>
      rw [List.map_cons] at e
      injection e with e1 e2
      subst e1; subst e2
      rw [PySem.W.minD_ints] at r
      cases r with
      | int i t' =>
        refine ⟨.int _, H, I.kept hk, ⟨t', rfl⟩, ?_⟩
        have : minDf (n :: ns) d = ns.foldl min n := by show minL (n :: ns) = _; rw [minL_cons, foldl_min_imin]
        rw [← this]; exact q
variable {Φ : List SD} {a b c e : Expr} {pos p kp : Pos} {i j k : Int} {tg : Expr}
theorem v_maxDf {xs : List Int} {d : Int} (B : Blt X.mg) (hc : X.calm = true) (hu : X.A.units + 1 < cLine) (ha : PL X Φ a xs) (hb : PV X Φ b d) (hg : Gl X "max" := by rfl) (h1 : nst a = true := by rfl) : PV X Φ (.Call (.Name "max" p) [a] [⟨some "default", b, kp⟩] pos) (maxDf xs d) := .mk fun H0 σ F H Q s sl q =>
  wE_of (pe_callBK (cr_maxDf hc hu) hg B.max (by decide +kernel) (pa_cons peW pa_nil (star_cons h1)) (pk_cons peW pk_nil) (by decide +kernel) (by decide +kernel) (by rw [star_cons h1]; rfl) (by rw [star_cons h1]; rfl) rfl rfl rfl) (ha H0 σ F H _ s sl fun l vs F1 H1 g1 h1 p1 => hb H0 σ F1 H1 _ g1.s (sl.gr g1) fun v F2 H2 g2 p2 => by
    cases p2
    exact ⟨l, xs, d, rfl, rfl, by rw [← allP_ints p1]; exact ex_l g2.h h1, q _ F2 H2 (g1.trans g2) (.int _)⟩)
theorem v_minDf {xs : List Int} {d : Int} (B : Blt X.mg) (hc : X.calm = true) (hu : X.A.units + 1 < cLine) (ha : PL X Φ a xs) (hb : PV X Φ b d) (hg : Gl X "min" := by rfl) (h1 : nst a = true := by rfl) : PV X Φ (.Call (.Name "min" p) [a] [⟨some "default", b, kp⟩] pos) (minDf xs d) := .mk fun H0 σ F H Q s sl q =>
  wE_of (pe_callBK (cr_minDf hc hu) hg B.min (by decide +kernel) (pa_cons peW pa_nil (star_cons h1)) (pk_cons peW pk_nil) (by decide +kernel) (by decide +kernel) (by rw [star_cons h1]; rfl) (by rw [star_cons h1]; rfl) rfl rfl rfl) (ha H0 σ F H _ s sl fun l vs F1 H1 g1 h1 p1 => hb H0 σ F1 H1 _ g1.s (sl.gr g1) fun v F2 H2 g2 p2 => by
    cases p2
    exact ⟨l, xs, d, rfl, rfl, by rw [← allP_ints p1]; exact ex_l g2.h h1, q _ F2 H2 (g1.trans g2) (.int _)⟩)
/-! ### range(i, j, -1) -/
/-- i, i - 1, .. above j -/
def dwn (i j : Int) : List Int := (List.range (i - j).toNat).map fun (n : Nat) => i - (n : Int)
theorem dwn_length (i j : Int) : (dwn i j).length = (i - j).toNat := by simp [dwn]
theorem dwn_get {K : Fg} {i j : Int} {n : Nat} {P : MP} (h : ((dwn i j).map fun x => py K (enc x))[n]? = some P) : n < (i - j).toNat ∧ P = py K (.int (i - (n : Int))) := by
  have hn := (List.getElem?_eq_some_iff.mp h).1
  rw [List.length_map, dwn_length] at hn
  refine ⟨hn, ?_⟩
  simp only [dwn, List.map_map, List.getElem?_map, List.getElem?_range hn, Option.map_some, Option.some.injEq] at h
  exact h.symm
theorem dwn_memF {i j x : Int} (h : x ∈ dwn i j) : j < x ∧ x ≤ i := by
  unfold dwn at h
  obtain ⟨n, hn, rfl⟩ := List.mem_map.mp h
  have := List.mem_range.mp hn
  omega
theorem dwn_atF {i j x : Int} {n : Nat} (h : (dwn i j)[n]? = some x) : x = i - (n : Int) ∧ j < x ∧ x ≤ i := by
  have hn := (List.getElem?_eq_some_iff.mp h).1
  rw [dwn_length] at hn
  unfold dwn at h
  rw [List.getElem?_map, List.getElem?_range hn] at h
  have : i - (n : Int) = x := Option.some.inj h
  omega
theorem i_down {q1 q2 : Pos} (B : Blt X.mg) (ha : PV X Φ a i) (hb : PV X Φ b j) (hi : small62 i) (hj : small62 j) (hg : Gl X "range" := by rfl) (h1 : nst a = true := by rfl) (h2 : nst b = true := by rfl) : PIt X Φ tg (.Call (.Name "range" p) [a, b, .UnaryOp .USub (.Constant (.int 1) 0 q1) q2] [] pos) (dwn i j) := .mk fun H0 σ F H R s sl q =>
  wI_of (pi_range3 hg B.range paW (star_cons h1) (star_plain (by rw [List.all_cons, h2]; rfl))) (wA_of (pa_cons peW (pa_cons peW (pa_cons peW pa_nil (star_cons rfl)) (star_cons h2)) (star_cons h1)) (ha H0 σ F H _ s sl fun v F1 H1 g1 p1 => hb H0 σ F1 H1 _ g1.s (sl.gr g1) fun w F2 H2 g2 p2 =>
    v_neg (X := X) (Φ := Φ) v_int H0 σ F2 H2 _ g2.s ((sl.gr g1).gr g2) fun y F3 H3 g3 p3 => by
      cases p1; cases p2; cases p3
      refine ⟨i, j, -1, (i - j).toNat, rfl, RgC.neg hi.1 hi.2 hj.1 hj.2, q _ F3 H3 ((g1.trans g2).trans g3) ⟨fun n P F4 H4 hp e1 e2 => ?_, fun F4 H4 e1 e2 => by show (i - j).toNat ≤ _; simp [dwn_length]⟩⟩
      obtain ⟨hn, rfl⟩ := dwn_get hp
      refine ⟨hn, fun v H5 y => ?_⟩
      obtain ⟨rfl, rfl⟩ := y
      refine ⟨F4, Gr.refl e2, ?_⟩
      have ei : i + (n : Int) * (-1) = i - (n : Int) := by omega
      rw [ei]; exact .int _))
end

/-! ### targets of tuples -/
section
variable {X : Cx} {e1 e2 e3 e4 e5 : Expr} {pos : Pos} {kk : Nat} {us u1 u2 u3 u4 u5 : List (Nat × SD)}
theorem g_p2 {α β : Type} [Py α] [Py β] {x : α × β} (hc : X.calm = true) (h1 : PGv X e1 (py X.K (enc x.1)) u1) (h2 : PGv X e2 (py X.K (enc x.2)) u2) (hs : [e1, e2].all ntg = true := by rfl) (s1 : ntg e1 = true := by rfl) (s2 : ntg e2 = true := by rfl) (hu : us = u1 ++ (u2 ++ []) := by rfl) : PGv X (.Tuple [e1, e2] kk pos) (py X.K (enc x)) us := by
  subst hu; exact g_tup (ds := [enc x.1, enc x.2]) hc (gs_cons h1 (gs_cons h2 gs_nil s2) s1) hs rfl
theorem g_p3 {α β γ : Type} [Py α] [Py β] [Py γ] {x : T3 α β γ} (hc : X.calm = true) (h1 : PGv X e1 (py X.K (enc x.a)) u1) (h2 : PGv X e2 (py X.K (enc x.b)) u2) (h3 : PGv X e3 (py X.K (enc x.c)) u3) (hs : [e1, e2, e3].all ntg = true := by rfl) (s1 : ntg e1 = true := by rfl) (s2 : ntg e2 = true := by rfl) (s3 : ntg e3 = true := by rfl) (hu : us = u1 ++ (u2 ++ (u3 ++ [])) := by rfl) : PGv X (.Tuple [e1, e2, e3] kk pos) (py X.K (enc x)) us := by
  subst hu; exact g_tup (ds := [enc x.a, enc x.b, enc x.c]) hc (gs_cons h1 (gs_cons h2 (gs_cons h3 gs_nil s3) s2) s1) hs rfl
theorem g_p4 {α β γ δ : Type} [Py α] [Py β] [Py γ] [Py δ] {x : T4 α β γ δ} (hc : X.calm = true) (h1 : PGv X e1 (py X.K (enc x.a)) u1) (h2 : PGv X e2 (py X.K (enc x.b)) u2) (h3 : PGv X e3 (py X.K (enc x.c)) u3) (h4 : PGv X e4 (py X.K (enc x.d)) u4) (hs : [e1, e2, e3, e4].all ntg = true := by rfl) (s1 : ntg e1 = true := by rfl) (s2 : ntg e2 = true := by rfl) (s3 : ntg e3 = true := by rfl) (s4 : ntg e4 = true := by rfl) (hu : us = u1 ++ (u2 ++ (u3 ++ (u4 ++ []))) := by rfl) : PGv X (.Tuple [e1, e2, e3, e4] kk pos) (py X.K (enc x)) us := by
  subst hu; exact g_tup (ds := [enc x.a, enc x.b, enc x.c, enc x.d]) hc (gs_cons h1 (gs_cons h2 (gs_cons h3 (gs_cons h4 gs_nil s4) s3) s2) s1) hs rfl
theorem g_p5 {α β γ δ ε : Type} [Py α] [Py β] [Py γ] [Py δ] [Py ε] {x : T5 α β γ δ ε} (hc : X.calm = true) (h1 : PGv X e1 (py X.K (enc x.a)) u1) (h2 : PGv X e2 (py X.K (enc x.b)) u2) (h3 : PGv X e3 (py X.K (enc x.c)) u3) (h4 : PGv X e4 (py X.K (enc x.d)) u4) (h5 : PGv X e5 (py X.K (enc x.e)) u5) (hs : [e1, e2, e3, e4, e5].all ntg = true := by rfl) (s1 : ntg e1 = true := by rfl) (s2 : ntg e2 = true := by rfl) (s3 : ntg e3 = true := by rfl) (s4 : ntg e4 = true := by rfl) (s5 : ntg e5 = true := by rfl) (hu : us = u1 ++ (u2 ++ (u3 ++ (u4 ++ (u5 ++ [])))) := by rfl) : PGv X (.Tuple [e1, e2, e3, e4, e5] kk pos) (py X.K (enc x)) us := by
  subst hu; exact g_tup (ds := [enc x.a, enc x.b, enc x.c, enc x.d, enc x.e]) hc (gs_cons h1 (gs_cons h2 (gs_cons h3 (gs_cons h4 (gs_cons h5 gs_nil s5) s4) s3) s2) s1) hs rfl
end
/-! ### an invariant of a fold -/
theorem fold_inv {α S : Type} {f : S → α → S} {s0 : S} {xs : List α} (P : Nat → S → Prop) (h0 : P 0 s0) (hs : ∀ n s x, xs[n]? = some x → P n s → P (n + 1) (f s x)) : ∀ (n : Nat) (s : S), n ≤ xs.length → s = (xs.take n).foldl f s0 → P n s
  | 0, s, _, h => by
    simp at h; subst h; exact h0
  | n + 1, s, hn, h => by
    have hx : xs[n]? = some xs[n] := List.getElem?_eq_getElem (by omega)
    have tk : xs.take (n + 1) = xs.take n ++ [xs[n]] := by rw [List.take_succ, hx]; rfl
    rw [tk, List.foldl_append] at h
    subst h
    exact hs n _ _ hx (fold_inv P h0 hs n _ (by omega) rfl)
theorem fold_end {α S : Type} {f : S → α → S} {s0 : S} {xs : List α} (P : Nat → S → Prop) (h0 : P 0 s0) (hs : ∀ n s x, xs[n]? = some x → P n s → P (n + 1) (f s x)) : P xs.length (xs.foldl f s0) :=
  fold_inv P h0 hs xs.length _ (Nat.le_refl _) (by rw [List.take_length])
/-- of a loop with exits: what holds at its end -/
theorem forL_inv {α S R : Type} {f : S → α → Ctl S R} (P : S → List α → Prop) (B : S → Prop) (Q : R → Prop)
    (hs : ∀ s x xs, P s (x :: xs) → match f s x with | .nx s' => P s' xs | .ct s' => P s' xs | .bk s' => B s' | .rt r => Q r) (he : ∀ s, P s [] → B s) :
    ∀ (xs : List α) (s : S), P s xs → match forL f s xs with | .inl s => B s | .inr r => Q r
  | [], s, h => he s h
  | x :: xs, s, h => by
    have h1 := hs s x xs h
    unfold forL
    cases q : f s x with
    | nx s' => rw [q] at h1; exact forL_inv P B Q hs he xs s' h1
    | ct s' => rw [q] at h1; exact forL_inv P B Q hs he xs s' h1
    | bk s' => rw [q] at h1; exact h1
    | rt r => rw [q] at h1; exact h1

theorem mod_ix {a n : Int} (h : 0 < n) : 0 ≤ a % n ∧ a % n < n := ⟨Int.emod_nonneg _ (by omega), Int.emod_lt_of_pos _ h⟩
theorem pos_len {α : Type} [DecidableEq α] {xs : List α} (h : decide (xs = []) = false) : 0 < (xs.length : Int) := by
  have := List.length_pos_iff.mpr (of_decide_eq_false h)
  omega
theorem imin_eq (i j : Int) : imin i j = min i j := by unfold imin; split <;> omega
theorem imax_eq (i j : Int) : imax i j = max i j := by unfold imax; split <;> omega
theorem iabs_eq (i : Int) : iabs i = (i.natAbs : Int) := by unfold iabs; split <;> omega
theorem lt_of_at {α : Type} {xs : List α} {n : Nat} {x : α} (h : xs[n]? = some x) : n < xs.length := (List.getElem?_eq_some_iff.mp h).1
theorem ix_of_at {α : Type} [Inhabited α] {xs : List α} {n : Nat} {x : α} (h : xs[n]? = some x) : ix xs (n : Int) = x := by
  show xs.getD n default = x
  simp [List.getD, h]
theorem ix_mem {α : Type} [Inhabited α] {xs : List α} {i : Int} (h : 0 ≤ i ∧ i < xs.length) : ix xs i ∈ xs := by
  have hi : i.toNat < xs.length := by omega
  simp only [ix, List.getD, List.getElem?_eq_getElem hi, Option.getD_some]
  exact List.getElem_mem hi
theorem bindV_eq {α β : Type} (a : α) (k : α → β) : bindV a k = k a := rfl

theorem mod_ixle {a m n : Int} (h : 0 < m) (h2 : m ≤ n) : 0 ≤ a % m ∧ a % m < n := by
  have := mod_ix (a := a) h
  omega
/-! ### loops that only look -/
theorem forL_all {α R : Type} {f : Unit → α → Ctl Unit R} : ∀ {xs : List α}, (∀ x ∈ xs, f () x = .nx () ∨ f () x = .ct ()) → forL f () xs = .inl ()
  | [], _ => rfl
  | x :: xs, h => by
    have h2 := forL_all (f := f) (xs := xs) fun y hy => h y (List.mem_cons_of_mem _ hy)
    unfold forL
    rcases h x (List.mem_cons_self ..) with e | e
    · rw [e]; exact h2
    · rw [e]; exact h2
theorem forR_all {α R : Type} {f : Unit → α → Ctl Unit R} {xs : List α} {k : Unit → R} (h : ∀ x ∈ xs, f () x = .nx () ∨ f () x = .ct ()) : forR f () xs k = k () := by
  unfold forR; rw [forL_all h]
theorem forK_all {α S R : Type} {f : Unit → α → Ctl Unit R} {xs : List α} {k : Unit → Ctl S R} (h : ∀ x ∈ xs, f () x = .nx () ∨ f () x = .ct ()) : forK f () xs k = k () := by
  unfold forK; rw [forL_all h]
theorem enumL_eq {α : Type} [Inhabited α] (xs : List α) : enumL xs = (rng 0 xs.length).map fun p => (p, ix xs p) := by
  apply List.ext_getElem?
  intro n
  by_cases h : n < xs.length
  · rw [enumL_get (List.getElem?_eq_getElem h), List.getElem?_map, rng_at (by omega)]
    simp only [Option.map_some, Int.zero_add]
    rw [ix_of_at (List.getElem?_eq_getElem h)]
  · rw [List.getElem?_eq_none (by rw [enumL_length]; omega), List.getElem?_eq_none (by rw [List.length_map, rng_length]; omega)]
theorem maxL_le {xs : List Int} {s : Int} (h : 0 < xs.length) : maxL xs ≤ s ↔ ∀ y ∈ xs, y ≤ s :=
  ⟨fun h1 y hy => Int.le_trans (le_maxL hy) h1, fun h1 => h1 _ (maxL_mem h)⟩
theorem maxDf_le {xs : List Int} {s d : Int} (h : d ≤ s) : maxDf xs d ≤ s ↔ ∀ y ∈ xs, y ≤ s := by
  unfold maxDf
  cases xs with
  | nil => simpa using h
  | cons x xs => exact maxL_le (by simp)
theorem mem_rng {lo hi x : Int} : x ∈ rng lo hi ↔ lo ≤ x ∧ x < hi := ⟨rng_memF, fun h => by
  unfold rng
  exact List.mem_map.mpr ⟨(x - lo).toNat, List.mem_range.mpr (by omega), by omega⟩⟩
theorem ix_at {α : Type} [Inhabited α] {xs : List α} {i : Int} (h : 0 ≤ i ∧ i < xs.length) : xs[i.toNat]? = some (ix xs i) := by
  have hi : i.toNat < xs.length := by omega
  simp [ix, List.getD, List.getElem?_eq_getElem hi]

section
variable {X : Cx} {W : XK} {S R : Type} {Φ : List SD} {M : S → List SD} {T : R → RS} {e : Expr} {pos : Pos} {A : List Stmt} {r : List (List Stmt)}
theorem v_some {α : Type} [Py α] {x : α} (h : PV X Φ e x) : PV X Φ e (some x) := h
theorem v_noneO {α : Type} [Py α] : PV X Φ (.Constant .none 0 pos) (none : Option α) := v_non
theorem h_retT [Py R] {v : R} (he : PV X Φ e v) (hT : T v = .val (py X.K (enc v)) := by rfl) : HB X W ((.Return (some e) pos :: A) :: r) Φ M T (.rt v) := h_ret he hT
end
/-! ### sorted, of numbers and of pairs -/
theorem srt_perm {α : Type} [Py α] (xs : List α) : (srt xs).Perm xs := List.mergeSort_perm ..
theorem mem_srt {α : Type} [Py α] {xs : List α} {x : α} : x ∈ srt xs ↔ x ∈ xs := (srt_perm xs).mem_iff
theorem srt_length {α : Type} [Py α] (xs : List α) : (srt xs).length = xs.length := List.length_mergeSort ..
theorem srt_int (xs : List Int) : (srt xs).Pairwise (· ≤ ·) := by
  have e : PySem.W.dataLe false (enc (α := Int)) = fun a b => decide (a ≤ b) := PySem.W.dataLe_int fun (b : Int) => b
  unfold srt
  rw [e]
  refine (List.pairwise_mergeSort (le := fun (a b : Int) => decide (a ≤ b)) (fun a b c h1 h2 => ?_) (fun a b => ?_) xs).imp fun h => of_decide_eq_true h
  · simp only [decide_eq_true_eq] at *; omega
  · simp only [Bool.or_eq_true, decide_eq_true_eq]; omega
/-- the order of pairs -/
def le2 (p q : Int × Int) : Prop := p.1 < q.1 ∨ (p.1 = q.1 ∧ p.2 ≤ q.2)
theorem srt_pair (xs : List (Int × Int)) : (srt xs).Pairwise le2 := by
  have e : PySem.W.dataLe false (enc (α := Int × Int)) = fun p q => decide (p.1 < q.1 ∨ (p.1 = q.1 ∧ p.2 ≤ q.2)) := PySem.W.dataLe_ii (fun (b : Int × Int) => b.1) fun b => b.2
  unfold srt
  rw [e]
  refine (List.pairwise_mergeSort (le := fun (p q : Int × Int) => decide (p.1 < q.1 ∨ (p.1 = q.1 ∧ p.2 ≤ q.2))) (fun a b c h1 h2 => ?_) (fun a b => ?_) xs).imp fun h => of_decide_eq_true h
  · simp only [decide_eq_true_eq] at *; omega
  · simp only [Bool.or_eq_true, decide_eq_true_eq]; omega

/-! ### slices, counts -/
theorem slc_to {α : Type} (xs : List α) {k : Int} (h : 0 ≤ k) : slc xs none (some k) = xs.take k.toNat := by
  unfold slc HT.sIx
  simp only [if_neg (show ¬ k < 0 by omega), List.drop_zero, Nat.sub_zero]
  by_cases q : k.toNat ≤ xs.length
  · rw [Nat.min_eq_left q]
  · rw [Nat.min_eq_right (by omega), List.take_length, List.take_of_length_le (by omega)]
theorem slc_from {α : Type} (xs : List α) {k : Int} (h : 0 ≤ k) : slc xs (some k) none = xs.drop k.toNat := by
  unfold slc HT.sIx
  simp only [if_neg (show ¬ k < 0 by omega)]
  by_cases q : k.toNat ≤ xs.length
  · rw [Nat.min_eq_left q, List.take_of_length_le (by simp)]
  · rw [Nat.min_eq_right (by omega), List.drop_eq_nil_of_le (Nat.le_refl _), List.drop_eq_nil_of_le (by omega)]; simp
theorem slc_len {α : Type} (xs : List α) (lo hi : Option Int) : (slc xs lo hi).length ≤ xs.length := by
  unfold slc
  rw [List.length_take, List.length_drop]; omega
theorem slc_mem {α : Type} {xs : List α} {lo hi : Option Int} {x : α} (h : x ∈ slc xs lo hi) : x ∈ xs := List.mem_of_mem_drop (List.mem_of_mem_take h)
theorem filter_lt {α : Type} {p q : α → Bool} {xs : List α} (h : ∀ x ∈ xs, p x = true → q x = true) {y : α} (hy : y ∈ xs) (h1 : q y = true) (h2 : p y = false) : (xs.filter p).length < (xs.filter q).length := by
  induction xs with
  | nil => simp at hy
  | cons x xs ih =>
    have mono : ∀ zs : List α, (∀ x ∈ zs, p x = true → q x = true) → (zs.filter p).length ≤ (zs.filter q).length := by
      intro zs
      induction zs with
      | nil => intro _; simp
      | cons z zs ih2 =>
        intro hz
        have h3 := ih2 fun x hx => hz x (List.mem_cons_of_mem _ hx)
        rw [List.filter_cons, List.filter_cons]
        cases hp : p z with
        | true => rw [hz z (by simp) hp]; simp; exact h3
        | false =>
          cases q z with
          | true => simp; omega
          | false => simpa using h3
    rw [List.filter_cons, List.filter_cons]
    have h0 := mono xs fun x hx => h x (List.mem_cons_of_mem _ hx)
    rcases List.mem_cons.mp hy with e | e
    · subst e
      rw [h1, h2]; simp; omega
    · have h3 := ih (fun x hx => h x (List.mem_cons_of_mem _ hx)) e
      cases hp : p x with
      | true => rw [h x (by simp) hp]; simp; exact h3
      | false =>
        cases q x with
        | true => simp; omega
        | false => simpa using h3
/-- a while: what holds at its end -/
theorem whileL_inv {S R : Type} {c : S → Bool} {f : S → Ctl S R} (I : S → Prop) (m : S → Nat) (B : S → Prop) (Q : R → Prop)
    (hf : ∀ s, I s → c s = true → match f s with | .nx s' => I s' ∧ m s' < m s | .ct s' => I s' ∧ m s' < m s | .bk s' => B s' | .rt r => Q r) (hc : ∀ s, I s → c s = false → B s) :
    ∀ (n : Nat) (s : S), I s → m s < n → match whileL c f n s with | .inl s => B s | .inr r => Q r
  | 0, s, _, h => by omega
  | n + 1, s, hI, h => by
    unfold whileL
    cases q : c s with
    | false => exact hc s hI q
    | true =>
      have h1 := hf s hI q
      simp only []
      cases q2 : f s with
      | nx s' => rw [q2] at h1; exact whileL_inv I m B Q hf hc n s' h1.1 (by have := h1.2; omega)
      | ct s' => rw [q2] at h1; exact whileL_inv I m B Q hf hc n s' h1.1 (by have := h1.2; omega)
      | bk s' => rw [q2] at h1; exact h1
      | rt r => rw [q2] at h1; exact h1

/-! ### t[n], typed -/
section
variable {X : Cx} {Φ : List SD} {a : Expr} {pos q1 : Pos}
theorem v_f2_0 {α β : Type} [Py α] [Py β] {x : α × β} (h : PV X Φ a x) : PV X Φ (.Subscript a (.Constant (.int 0) 0 q1) pos) x.1 := v_fld 0 (q2 := pos) (ds := [enc x.1, enc x.2]) h
theorem v_f2_1 {α β : Type} [Py α] [Py β] {x : α × β} (h : PV X Φ a x) : PV X Φ (.Subscript a (.Constant (.int 1) 0 q1) pos) x.2 := v_fld 1 (q2 := pos) (ds := [enc x.1, enc x.2]) h
theorem v_f3_0 {α β γ : Type} [Py α] [Py β] [Py γ] {x : T3 α β γ} (h : PV X Φ a x) : PV X Φ (.Subscript a (.Constant (.int 0) 0 q1) pos) x.a := v_fld 0 (q2 := pos) (ds := [enc x.a, enc x.b, enc x.c]) h
theorem v_f3_1 {α β γ : Type} [Py α] [Py β] [Py γ] {x : T3 α β γ} (h : PV X Φ a x) : PV X Φ (.Subscript a (.Constant (.int 1) 0 q1) pos) x.b := v_fld 1 (q2 := pos) (ds := [enc x.a, enc x.b, enc x.c]) h
theorem v_f3_2 {α β γ : Type} [Py α] [Py β] [Py γ] {x : T3 α β γ} (h : PV X Φ a x) : PV X Φ (.Subscript a (.Constant (.int 2) 0 q1) pos) x.c := v_fld 2 (q2 := pos) (ds := [enc x.a, enc x.b, enc x.c]) h
theorem v_f4_0 {α β γ δ : Type} [Py α] [Py β] [Py γ] [Py δ] {x : T4 α β γ δ} (h : PV X Φ a x) : PV X Φ (.Subscript a (.Constant (.int 0) 0 q1) pos) x.a := v_fld 0 (q2 := pos) (ds := [enc x.a, enc x.b, enc x.c, enc x.d]) h
theorem v_f4_1 {α β γ δ : Type} [Py α] [Py β] [Py γ] [Py δ] {x : T4 α β γ δ} (h : PV X Φ a x) : PV X Φ (.Subscript a (.Constant (.int 1) 0 q1) pos) x.b := v_fld 1 (q2 := pos) (ds := [enc x.a, enc x.b, enc x.c, enc x.d]) h
theorem v_f4_2 {α β γ δ : Type} [Py α] [Py β] [Py γ] [Py δ] {x : T4 α β γ δ} (h : PV X Φ a x) : PV X Φ (.Subscript a (.Constant (.int 2) 0 q1) pos) x.c := v_fld 2 (q2 := pos) (ds := [enc x.a, enc x.b, enc x.c, enc x.d]) h
theorem v_f4_3 {α β γ δ : Type} [Py α] [Py β] [Py γ] [Py δ] {x : T4 α β γ δ} (h : PV X Φ a x) : PV X Φ (.Subscript a (.Constant (.int 3) 0 q1) pos) x.d := v_fld 3 (q2 := pos) (ds := [enc x.a, enc x.b, enc x.c, enc x.d]) h
theorem v_f5_0 {α β γ δ ε : Type} [Py α] [Py β] [Py γ] [Py δ] [Py ε] {x : T5 α β γ δ ε} (h : PV X Φ a x) : PV X Φ (.Subscript a (.Constant (.int 0) 0 q1) pos) x.a := v_fld 0 (q2 := pos) (ds := [enc x.a, enc x.b, enc x.c, enc x.d, enc x.e]) h
theorem v_f5_1 {α β γ δ ε : Type} [Py α] [Py β] [Py γ] [Py δ] [Py ε] {x : T5 α β γ δ ε} (h : PV X Φ a x) : PV X Φ (.Subscript a (.Constant (.int 1) 0 q1) pos) x.b := v_fld 1 (q2 := pos) (ds := [enc x.a, enc x.b, enc x.c, enc x.d, enc x.e]) h
theorem v_f5_2 {α β γ δ ε : Type} [Py α] [Py β] [Py γ] [Py δ] [Py ε] {x : T5 α β γ δ ε} (h : PV X Φ a x) : PV X Φ (.Subscript a (.Constant (.int 2) 0 q1) pos) x.c := v_fld 2 (q2 := pos) (ds := [enc x.a, enc x.b, enc x.c, enc x.d, enc x.e]) h
theorem v_f5_3 {α β γ δ ε : Type} [Py α] [Py β] [Py γ] [Py δ] [Py ε] {x : T5 α β γ δ ε} (h : PV X Φ a x) : PV X Φ (.Subscript a (.Constant (.int 3) 0 q1) pos) x.d := v_fld 3 (q2 := pos) (ds := [enc x.a, enc x.b, enc x.c, enc x.d, enc x.e]) h
theorem v_f5_4 {α β γ δ ε : Type} [Py α] [Py β] [Py γ] [Py δ] [Py ε] {x : T5 α β γ δ ε} (h : PV X Φ a x) : PV X Φ (.Subscript a (.Constant (.int 4) 0 q1) pos) x.e := v_fld 4 (q2 := pos) (ds := [enc x.a, enc x.b, enc x.c, enc x.d, enc x.e]) h
end

theorem slc_toL {α : Type} (xs : List α) (n : Nat) : slc xs none (some (@OfNat.ofNat Int n instOfNat)) = xs.take n := slc_to xs (k := (n : Int)) (by omega)
theorem slc_fromL {α : Type} (xs : List α) (n : Nat) : slc xs (some (@OfNat.ofNat Int n instOfNat)) none = xs.drop n := slc_from xs (k := (n : Int)) (by omega)

section
variable {X : Cx} {W : XK} {S R : Type} {Φ : List SD} {M : S → List SD} {T : R → RS} {o : Ctl S R} {a e : Expr} {pos p : Pos} {r : List (List Stmt)}
theorem v_lenF {ds : List PyData} (B : Blt X.mg) (ha : PEv X Φ e (py X.K (.tuple ds))) (hg : Gl X "len" := by rfl) (hst : nst e = true := by rfl) : PV X Φ (.Call (.Name "len" p) [e] [] pos) (ds.length : Int) := .mk fun H0 σ F H Q s sl q =>
  wE_callB call_len_seq hg B.len PySem.boot_len (by decide +kernel) (by decide +kernel) (by simp [hst]) (wA_one hst (ha H0 σ F H _ s sl fun v F1 H1 g1 p1 => by
    obtain ⟨l, vs, e1, h1, p3⟩ := py_tuple.mp p1
    subst e1
    exact ⟨l, vs, rfl, .inr (ex_t g1.s h1), by rw [p3.1, List.length_map]; exact q _ F1 H1 g1 (.int _)⟩))
theorem v_len2 {α β : Type} [Py α] [Py β] {x : α × β} (B : Blt X.mg) (ha : PV X Φ e x) (hg : Gl X "len" := by rfl) (hst : nst e = true := by rfl) : PV X Φ (.Call (.Name "len" p) [e] [] pos) (2 : Int) := v_lenF (ds := [enc x.1, enc x.2]) B ha hg hst
theorem v_len3 {α β γ : Type} [Py α] [Py β] [Py γ] {x : T3 α β γ} (B : Blt X.mg) (ha : PV X Φ e x) (hg : Gl X "len" := by rfl) (hst : nst e = true := by rfl) : PV X Φ (.Call (.Name "len" p) [e] [] pos) (3 : Int) := v_lenF (ds := [enc x.a, enc x.b, enc x.c]) B ha hg hst
theorem v_len4 {α β γ δ : Type} [Py α] [Py β] [Py γ] [Py δ] {x : T4 α β γ δ} (B : Blt X.mg) (ha : PV X Φ e x) (hg : Gl X "len" := by rfl) (hst : nst e = true := by rfl) : PV X Φ (.Call (.Name "len" p) [e] [] pos) (4 : Int) := v_lenF (ds := [enc x.a, enc x.b, enc x.c, enc x.d]) B ha hg hst
theorem v_len5 {α β γ δ ε : Type} [Py α] [Py β] [Py γ] [Py δ] [Py ε] {x : T5 α β γ δ ε} (B : Blt X.mg) (ha : PV X Φ e x) (hg : Gl X "len" := by rfl) (hst : nst e = true := by rfl) : PV X Φ (.Call (.Name "len" p) [e] [] pos) (5 : Int) := v_lenF (ds := [enc x.a, enc x.b, enc x.c, enc x.d, enc x.e]) B ha hg hst
/-- a slot's datum under another name -/
theorem h_cast {α β : Type} [Py α] [Py β] (n : Nat) {x : α} (y : β) (he : enc x = enc y) (h : HB X W r (Φ.set n (sI X.K y)) M T o) (ho : Φ[n]? = some (sI X.K x) := by rfl) : HB X W r Φ M T o := .mk fun F0 H0 D σ F H g sl k => by
  have e2 : Φ.set n (sI X.K y) = Φ := by
    have : sI X.K x = sI X.K y := congrArg (fun d => SD.im (py X.K d)) he
    rw [← this]
    apply List.ext_getElem?
    intro j
    by_cases q : n = j
    · subst q
      rw [List.getElem?_set_self (List.getElem?_eq_some_iff.mp ho).1, ho]
    · rw [List.getElem?_set_ne q]
  rw [e2] at h
  exact h F0 H0 D σ F H g sl k
end
theorem enc_get {α : Type} [Py α] {o : Option α} (w : α) (h : o.isSome = true) : enc o = enc (o.getD w) := by
  cases o with
  | none => cases h
  | some x => rfl
theorem isSome_of {α : Type} {o : Option α} (h : o.isNone = false) : o.isSome = true := by
  cases o with
  | none => cases h
  | some x => rfl

/-! ### a while without exits -/
def whileP {S : Type} (c : S → Bool) (f : S → S) : Nat → S → S
  | 0, s => s
  | n + 1, s => match c s with
    | false => s
    | true => whileP c f n (f s)
theorem whileL_P {S R : Type} {c : S → Bool} {f : S → S} : ∀ (n : Nat) (s : S), whileL c (fun s => (.nx (f s) : Ctl S R)) n s = .inl (whileP c f n s)
  | 0, s => rfl
  | n + 1, s => by
    unfold whileL whileP
    cases c s with
    | false => rfl
    | true => exact whileL_P n (f s)
theorem whileP_inv {S : Type} {c : S → Bool} {f : S → S} (I : S → Prop) (m : S → Nat) (hf : ∀ s, I s → c s = true → I (f s) ∧ m (f s) < m s) : ∀ (n : Nat) (s : S), I s → m s < n → I (whileP c f n s) ∧ c (whileP c f n s) = false
  | 0, s, _, h => by omega
  | n + 1, s, hI, h => by
    unfold whileP
    cases q : c s with
    | false => exact ⟨hI, q⟩
    | true =>
      have h1 := hf s hI q
      exact whileP_inv I m hf n (f s) h1.1 (by have := h1.2; omega)
section
variable {X : Cx} {W : XK} {S R : Type} {Φ : List SD} {M : S → List SD} {T : R → RS} {c : Expr} {pos : Pos} {A body : List Stmt} {r : List (List Stmt)}
theorem h_whileP {S' : Type} {o : Ctl S R} (M' : S' → List SD) (I : S' → Prop) (m : S' → Nat) {cn : S' → Bool} {f : S' → S'} {s0 : S'} (hp : PassesOwn (model X.prog X.w) X.A X.env X.xe) (w0 : Wk Φ (M' s0)) (i0 : I s0)
    (ht : ∀ s, I s → PTv X (M' s) c (cn s)) (hb : ∀ s, I s → cn s = true → HB X W [body] (M' s) M' T (.nx (f s)))
    (hm : ∀ s, I s → cn s = true → I (f s) ∧ m (f s) < m s)
    (hr : I (whileP cn f (m s0 + 1) s0) → cn (whileP cn f (m s0 + 1) s0) = false → HB X W (A :: r) (M' (whileP cn f (m s0 + 1) s0)) M T o) :
    HB X W ((.While c body [] pos :: A) :: r) Φ M T o := by
  have e := whileP_inv I m hm (m s0 + 1) s0 i0 (Nat.lt_succ_self _)
  have h := h_while (W := W) (S := S) (R := R) (M := M) (T := T) (pos := pos) (A := A) (r := r) (M' := M') (k := fun _ => o) I m cn (fun s => (.nx (f s) : Ctl S' R)) s0 hp w0 i0 ht hb (fun s s' hI hc hf => by
    rcases hf with hf | hf
    · cases hf; exact hm s hI hc
    · cases hf) (fun s hs => by
    rw [whileL_P] at hs
    rw [← Sum.inl.inj hs]; exact hr e.1 e.2)
  unfold whileK at h
  rw [whileL_P] at h
  exact h
theorem h_whilePV {S' : Type} (M' : S' → List SD) (I : S' → Prop) (m : S' → Nat) {cn : S' → Bool} {f : S' → S'} {s0 : S'} {k : S' → R} (hp : PassesOwn (model X.prog X.w) X.A X.env X.xe) (w0 : Wk Φ (M' s0)) (i0 : I s0)
    (ht : ∀ s, I s → PTv X (M' s) c (cn s)) (hb : ∀ s, I s → cn s = true → HB X W [body] (M' s) M' T (.nx (f s)))
    (hm : ∀ s, I s → cn s = true → I (f s) ∧ m (f s) < m s)
    (hr : ∀ s, s = whileP cn f (m s0 + 1) s0 → I s → cn s = false → HB X W (A :: r) (M' s) M T (.rt (k s))) :
    HB X W ((.While c body [] pos :: A) :: r) Φ M T (.rt (bindV (whileP cn f (m s0 + 1) s0) k)) := h_whileP M' I m hp w0 i0 ht hb hm (hr _ rfl)
theorem h_whilePC {S' : Type} (M' : S' → List SD) (I : S' → Prop) (m : S' → Nat) {cn : S' → Bool} {f : S' → S'} {s0 : S'} {k : S' → Ctl S R} (hp : PassesOwn (model X.prog X.w) X.A X.env X.xe) (w0 : Wk Φ (M' s0)) (i0 : I s0)
    (ht : ∀ s, I s → PTv X (M' s) c (cn s)) (hb : ∀ s, I s → cn s = true → HB X W [body] (M' s) M' T (.nx (f s)))
    (hm : ∀ s, I s → cn s = true → I (f s) ∧ m (f s) < m s)
    (hr : ∀ s, s = whileP cn f (m s0 + 1) s0 → I s → cn s = false → HB X W (A :: r) (M' s) M T (k s)) :
    HB X W ((.While c body [] pos :: A) :: r) Φ M T (bindV (whileP cn f (m s0 + 1) s0) k) := h_whileP M' I m hp w0 i0 ht hb hm (hr _ rfl)
theorem h_whilePS {S' : Type} (M' : S' → List SD) (I : S' → Prop) (m : S' → Nat) {cn : S' → Bool} {f : S' → S'} {s0 : S'} {k : S' → S} (hp : PassesOwn (model X.prog X.w) X.A X.env X.xe) (w0 : Wk Φ (M' s0)) (i0 : I s0)
    (ht : ∀ s, I s → PTv X (M' s) c (cn s)) (hb : ∀ s, I s → cn s = true → HB X W [body] (M' s) M' T (.nx (f s)))
    (hm : ∀ s, I s → cn s = true → I (f s) ∧ m (f s) < m s)
    (hr : ∀ s, s = whileP cn f (m s0 + 1) s0 → I s → cn s = false → HB X W (A :: r) (M' s) M T (.nx (k s))) :
    HB X W ((.While c body [] pos :: A) :: r) Φ M T (.nx (bindV (whileP cn f (m s0 + 1) s0) k)) := h_whileP M' I m hp w0 i0 ht hb hm (hr _ rfl)
end
end GL

set_option Elab.async false
set_option linter.all false
set_option maxRecDepth 100000
set_option maxHeartbeats 4000000
namespace LW
open PySem PySem.Spec PyProof.Rows L2 GL
local macro_rules | `(tactic| walk_at "sc") => `(tactic| first | trivial | omega | (subst_vars; simp +decide only [rng_length, enumL_length, dwn_length, List.length_map, List.length_append, List.length_set, List.length_cons, List.length_nil, List.length_reverse, List.length_zip, List.length_eraseIdx, decide_eq_true_eq, decide_eq_false_iff_not, imin_eq, imax_eq, iabs_eq, Bool.and_eq_true, Bool.or_eq_true, Bool.not_eq_true', srt_length, slc_to, slc_from, List.length_take, List.length_drop, true_and, and_true] at * <;> omega) | skip)
local macro_rules | `(tactic| walk_at "sc mul") => `(tactic| first | exact Or.inr (by decide) | exact Or.inl (by decide) | (unfold CMul; first | omega | (subst_vars; simp +decide only [rng_length, enumL_length, dwn_length, List.length_map, List.length_append, List.length_set, List.length_cons, List.length_nil, List.length_reverse, List.length_zip, List.length_eraseIdx, decide_eq_true_eq, decide_eq_false_iff_not, imin_eq, imax_eq, iabs_eq, Bool.and_eq_true, Bool.or_eq_true, Bool.not_eq_true', srt_length, slc_to, slc_from, List.length_take, List.length_drop, true_and, and_true] at * <;> omega)) | skip)
local macro_rules | `(tactic| walk_at "sc div") => `(tactic| first | exact ⟨by decide, by decide⟩ | (refine cdiv_of ?_ ?_ <;> first | omega | (subst_vars; simp +decide only [rng_length, enumL_length, dwn_length, List.length_map, List.length_append, List.length_set, List.length_cons, List.length_nil, List.length_reverse, List.length_zip, List.length_eraseIdx, decide_eq_true_eq, decide_eq_false_iff_not, imin_eq, imax_eq, iabs_eq, Bool.and_eq_true, Bool.or_eq_true, Bool.not_eq_true', srt_length, slc_to, slc_from, List.length_take, List.length_drop, true_and, and_true] at * <;> omega)) | skip)
local macro_rules | `(tactic| walk_at "sc size") => `(tactic| first | (rw [sizeLine_eq]; first | omega | (subst_vars; simp +decide only [rng_length, enumL_length, dwn_length, List.length_map, List.length_append, List.length_set, List.length_cons, List.length_nil, List.length_reverse, List.length_zip, List.length_eraseIdx, decide_eq_true_eq, decide_eq_false_iff_not, imin_eq, imax_eq, iabs_eq, Bool.and_eq_true, Bool.or_eq_true, Bool.not_eq_true', srt_length, slc_to, slc_from, List.length_take, List.length_drop, true_and, and_true] at * <;> omega)) | skip)
local macro_rules | `(tactic| walk_at "sc small") => `(tactic| first | (unfold small62; first | omega | (subst_vars; simp +decide only [rng_length, enumL_length, dwn_length, List.length_map, List.length_append, List.length_set, List.length_cons, List.length_nil, List.length_reverse, List.length_zip, List.length_eraseIdx, decide_eq_true_eq, decide_eq_false_iff_not, imin_eq, imax_eq, iabs_eq, Bool.and_eq_true, Bool.or_eq_true, Bool.not_eq_true', srt_length, slc_to, slc_from, List.length_take, List.length_drop, true_and, and_true] at * <;> omega)) | skip)
def top (i : Nat) : Stmt := PySem.Challenge.pw_wakeorder_k13_whole_openings.main.body.getD i (.Pass ⟨0, 0, 0, 0⟩)
structure Env0 (mg : Str → Option Value) : Prop where
  B : Blt mg
abbrev s_joined_stretches : Stmt := top 1
def m_joined_stretches_l1  (s2 : (List (Int × Int))) (start3 : Int × Int) : (List (Int × Int)) :=
  cond (((decide ((0 : Int) < (s2.length : Int))) && (decide (start3.1 ≤ ((lastD s2)).2))))
  (bindV (s2.set (s2.length - 1) ((((lastD s2)).1, (imax start3.2 (((lastD s2)).2))))) fun (found4 : List (Int × Int)) =>
  found4)
  (bindV (s2 ++ [(start3.1, start3.2)]) fun (found5 : List (Int × Int)) =>
  found5)
def m_joined_stretches (closed : List (Int × Int)) : List (Int × Int) :=
  bindV ([]) fun (found1 : List (Int × Int)) =>
  bindV (((srt closed)).foldl m_joined_stretches_l1 found1) fun (s6 : (List (Int × Int))) =>
  s6
def Cov (xs : List (Int × Int)) (t : Int) : Prop := ∃ c ∈ xs, c.1 ≤ t ∧ t < c.2
theorem joined_len {xs : List (Int × Int)} {f : List (Int × Int)} (hf : f = []) (n : Nat) (s : List (Int × Int)) (hn : n ≤ xs.length) (hs : s = (xs.take n).foldl m_joined_stretches_l1 f) : s.length ≤ n := by
  refine fold_inv (fun n (s : List (Int × Int)) => s.length ≤ n) (by rw [hf]; exact Nat.le_refl _) (fun n s x _ h => ?_) n s hn hs
  simp only [m_joined_stretches_l1, bindV]
  cases (decide ((0 : Int) < (s.length : Int)) && decide (x.1 ≤ (lastD s).2)) <;> simp <;> omega
theorem Cov.snoc {xs : List (Int × Int)} {c : Int × Int} {t : Int} : Cov (xs ++ [c]) t ↔ Cov xs t ∨ (c.1 ≤ t ∧ t < c.2) := by
  unfold Cov
  constructor
  · rintro ⟨d, hd, h⟩
    rcases List.mem_append.mp hd with e | e
    · exact .inl ⟨d, e, h⟩
    · rw [List.mem_singleton.mp e] at h; exact .inr h
  · rintro (⟨d, hd, h⟩ | h)
    · exact ⟨d, List.mem_append_left _ hd, h⟩
    · exact ⟨c, by simp, h⟩
theorem Cov.cons {xs : List (Int × Int)} {c : Int × Int} {t : Int} : Cov (c :: xs) t ↔ (c.1 ≤ t ∧ t < c.2) ∨ Cov xs t := by
  unfold Cov
  simp
theorem Cov.perm {xs ys : List (Int × Int)} (h : xs.Perm ys) {t : Int} : Cov xs t ↔ Cov ys t := by
  unfold Cov
  constructor
  · rintro ⟨c, hc, h2⟩; exact ⟨c, h.mem_iff.mp hc, h2⟩
  · rintro ⟨c, hc, h2⟩; exact ⟨c, h.mem_iff.mpr hc, h2⟩
theorem snoc_or_nil {α : Type} (xs : List α) : xs = [] ∨ ∃ ys y, xs = ys ++ [y] := by
  rcases List.eq_nil_or_concat xs with h | ⟨ys, y, h⟩
  · exact .inl h
  · exact .inr ⟨ys, y, by simpa using h⟩
theorem lastD_snoc {α : Type} [Inhabited α] (xs : List α) (y : α) : lastD (xs ++ [y]) = y := by simp [lastD]
theorem set_snoc {α : Type} (xs : List α) (y z : α) : (xs ++ [y]).set ((xs ++ [y]).length - 1) z = xs ++ [z] := by
  have e : (xs ++ [y]).length - 1 = xs.length := by simp
  rw [e]
  simp [List.set_append]
/-- apart, none touching -/
def Apt (xs : List (Int × Int)) : Prop := (∀ c ∈ xs, c.1 < c.2) ∧ xs.Pairwise fun a b => a.2 < b.1
theorem Apt.snoc {xs : List (Int × Int)} {c : Int × Int} : Apt (xs ++ [c]) ↔ Apt xs ∧ c.1 < c.2 ∧ ∀ d ∈ xs, d.2 < c.1 := by
  unfold Apt
  rw [List.pairwise_append]
  constructor
  · rintro ⟨h1, h2, _, h3⟩
    exact ⟨⟨fun d hd => h1 d (List.mem_append_left _ hd), h2⟩, h1 c (by simp), fun d hd => h3 d hd c (by simp)⟩
  · rintro ⟨⟨h1, h2⟩, h3, h4⟩
    refine ⟨fun d hd => ?_, h2, List.pairwise_singleton .., fun d hd e he => by rw [List.mem_singleton.mp he]; exact h4 d hd⟩
    rcases List.mem_append.mp hd with e | e
    · exact h1 d e
    · rw [List.mem_singleton.mp e]; exact h3
theorem joined_step {f : List (Int × Int)} {x : Int × Int} (ha : Apt f) (hx : x.1 < x.2) (hb : ∀ c ∈ f, c.1 ≤ x.1) :
    Apt (m_joined_stretches_l1 f x) ∧ (∀ c ∈ m_joined_stretches_l1 f x, c.1 ≤ x.1) ∧ ∀ t, Cov (m_joined_stretches_l1 f x) t ↔ Cov f t ∨ (x.1 ≤ t ∧ t < x.2) := by
  rcases snoc_or_nil f with rfl | ⟨g, l, rfl⟩
  · simp only [m_joined_stretches_l1, bindV]
    refine ⟨?_, ?_, fun t => ?_⟩
    · simpa [Apt] using hx
    · simp
    · simp [Cov]
  · rw [Apt.snoc] at ha
    obtain ⟨h1, h2, h3⟩ := ha
    have hl := hb l (by simp)
    simp only [m_joined_stretches_l1, bindV, lastD_snoc, set_snoc, imax_eq]
    have hp : decide ((0 : Int) < ((g ++ [l]).length : Int)) = true := decide_eq_true (by rw [List.length_append]; simp only [List.length_cons, List.length_nil]; omega)
    rw [hp, Bool.true_and]
    by_cases hc : x.1 ≤ l.2
    · rw [decide_eq_true hc]
      simp only [cond_true]
      refine ⟨Apt.snoc.mpr ⟨h1, by simp only []; omega, h3⟩, fun c hc => ?_, fun t => ?_⟩
      · rcases List.mem_append.mp hc with e | e
        · exact hb c (List.mem_append_left _ e)
        · rw [List.mem_singleton.mp e]; exact hl
      · rw [Cov.snoc, Cov.snoc]
        simp only []
        constructor
        · rintro (h | h)
          · exact .inl (.inl h)
          · by_cases q : t < l.2
            · exact .inl (.inr ⟨h.1, q⟩)
            · right; omega
        · rintro ((h | h) | h)
          · exact .inl h
          · right; omega
          · right; omega
    · rw [decide_eq_false hc]
      simp only [cond_false]
      refine ⟨Apt.snoc.mpr ⟨Apt.snoc.mpr ⟨h1, h2, h3⟩, hx, fun d hd => ?_⟩, fun c hc => ?_, fun t => Cov.snoc⟩
      · rcases List.mem_append.mp hd with e | e
        · have := h3 d e; simp only []; omega
        · rw [List.mem_singleton.mp e]; simp only []; omega
      · rcases List.mem_append.mp hc with e | e
        · exact hb c e
        · rw [List.mem_singleton.mp e]; exact Int.le_refl _
theorem joined_fold : ∀ (xs f : List (Int × Int)), Apt f → (∀ x ∈ xs, x.1 < x.2) → xs.Pairwise le2 → (∀ c ∈ f, ∀ x ∈ xs, c.1 ≤ x.1) →
    Apt (xs.foldl m_joined_stretches_l1 f) ∧ ∀ t, Cov (xs.foldl m_joined_stretches_l1 f) t ↔ Cov f t ∨ Cov xs t
  | [], f, ha, _, _, _ => ⟨ha, fun t => by simp [Cov]⟩
  | x :: xs, f, ha, hx, hs, hb => by
    rw [List.pairwise_cons] at hs
    obtain ⟨k1, k2, k3⟩ := joined_step ha (hx x (by simp)) fun c hc => hb c hc x (by simp)
    obtain ⟨r1, r2⟩ := joined_fold xs (m_joined_stretches_l1 f x) k1 (fun y hy => hx y (by simp [hy])) hs.2 fun c hc y hy => by
      have := k2 c hc
      have := hs.1 y hy
      unfold le2 at this; omega
    refine ⟨r1, fun t => ?_⟩
    show Cov (xs.foldl m_joined_stretches_l1 (m_joined_stretches_l1 f x)) t ↔ _
    rw [r2, k3, Cov.cons, or_assoc]
theorem joined_spec {xs : List (Int × Int)} (hv : ∀ c ∈ xs, c.1 < c.2) : Apt (m_joined_stretches xs) ∧ ∀ t, Cov (m_joined_stretches xs) t ↔ Cov xs t := by
  obtain ⟨h1, h2⟩ := joined_fold (srt xs) [] ⟨by simp, .nil⟩ (fun x hx => hv x (mem_srt.mp hx)) (srt_pair xs) (by simp)
  simp only [m_joined_stretches, bindV]
  refine ⟨h1, fun t => (h2 t).trans ?_⟩
  rw [Cov.perm (srt_perm xs)]
  simp [Cov]
theorem Apt.uniq {xs : List (Int × Int)} (h : Apt xs) {c d : Int × Int} (hc : c ∈ xs) (hd : d ∈ xs) : c = d ∨ c.2 < d.1 ∨ d.2 < c.1 := by
  obtain ⟨h1, h2⟩ := h
  clear h1
  induction xs with
  | nil => simp at hc
  | cons x xs ih =>
    rw [List.pairwise_cons] at h2
    rcases List.mem_cons.mp hc with e | e
    · rcases List.mem_cons.mp hd with e' | e'
      · exact .inl (e.trans e'.symm)
      · exact .inr (.inl (by rw [e]; exact h2.1 d e'))
    · rcases List.mem_cons.mp hd with e' | e'
      · exact .inr (.inr (by rw [e']; exact h2.1 c e))
      · exact ih e e' h2.2
theorem Apt.tail {x : Int × Int} {xs : List (Int × Int)} (h : Apt (x :: xs)) : Apt xs ∧ x.1 < x.2 ∧ ∀ d ∈ xs, x.2 < d.1 := by
  obtain ⟨h1, h2⟩ := h
  rw [List.pairwise_cons] at h2
  exact ⟨⟨fun c hc => h1 c (by simp [hc]), h2.2⟩, h1 x (by simp), h2.1⟩
theorem Apt.ext : ∀ {xs ys : List (Int × Int)}, Apt xs → Apt ys → (∀ t, Cov xs t ↔ Cov ys t) → xs = ys
  | [], [], _, _, _ => rfl
  | [], y :: ys, _, hy, h => by
    have := (h y.1).mpr ⟨y, by simp, Int.le_refl _, hy.tail.2.1⟩
    simp [Cov] at this
  | x :: xs, [], hx, _, h => by
    have := (h x.1).mp ⟨x, by simp, Int.le_refl _, hx.tail.2.1⟩
    simp [Cov] at this
  | x :: xs, y :: ys, hx, hy, h => by
    obtain ⟨hx1, hx2, hx3⟩ := hx.tail
    obtain ⟨hy1, hy2, hy3⟩ := hy.tail
    have low : ∀ {z : Int × Int} {zs : List (Int × Int)}, z.1 < z.2 → (∀ d ∈ zs, z.2 < d.1) → ∀ {t}, Cov (z :: zs) t → z.1 ≤ t := by
      rintro z zs h1 h2 t ⟨c, hc, a, b⟩
      rcases List.mem_cons.mp hc with e | e
      · subst e; exact a
      · have := h2 c e; omega
    have out : ∀ {z : Int × Int} {zs : List (Int × Int)}, (∀ d ∈ zs, z.2 < d.1) → ∀ {t}, t ≤ z.2 → ¬ Cov zs t := by
      rintro z zs h2 t h3 ⟨c, hc, a, b⟩
      have := h2 c hc; omega
    have e1 : x.1 = y.1 := by
      have a := low hy2 hy3 ((h x.1).mp (Cov.cons.mpr (.inl ⟨Int.le_refl _, hx2⟩)))
      have b := low hx2 hx3 ((h y.1).mpr (Cov.cons.mpr (.inl ⟨Int.le_refl _, hy2⟩)))
      omega
    have e2 : x.2 = y.2 := by
      by_cases q : x.2 < y.2
      · have := (h x.2).mpr (Cov.cons.mpr (.inl ⟨by omega, q⟩))
        rcases Cov.cons.mp this with z | z
        · omega
        · exact absurd z (out hx3 (Int.le_refl _))
      · by_cases q' : y.2 < x.2
        · have := (h y.2).mp (Cov.cons.mpr (.inl ⟨by omega, q'⟩))
          rcases Cov.cons.mp this with z | z
          · omega
          · exact absurd z (out hy3 (Int.le_refl _))
        · omega
    have e3 : xs = ys := Apt.ext hx1 hy1 fun t => by
      constructor
      · intro z
        have hz : x.2 < t := by
          by_cases q : t ≤ x.2
          · exact absurd z (out hx3 q)
          · omega
        rcases Cov.cons.mp ((h t).mp (Cov.cons.mpr (.inr z))) with w | w
        · omega
        · exact w
      · intro z
        have hz : y.2 < t := by
          by_cases q : t ≤ y.2
          · exact absurd z (out hy3 q)
          · omega
        rcases Cov.cons.mp ((h t).mpr (Cov.cons.mpr (.inr z))) with w | w
        · omega
        · exact w
    obtain ⟨a, b⟩ := x
    obtain ⟨a', b'⟩ := y
    simp only at e1 e2
    subst e1; subst e2; subst e3; rfl
theorem Apt.valid {xs : List (Int × Int)} (h : Apt xs) : ∀ c ∈ xs, c.1 < c.2 := h.1
theorem joined_eq {xs ys : List (Int × Int)} (h1 : ∀ c ∈ xs, c.1 < c.2) (h2 : ∀ c ∈ ys, c.1 < c.2) (h : ∀ t, Cov xs t ↔ Cov ys t) : m_joined_stretches xs = m_joined_stretches ys :=
  Apt.ext (joined_spec h1).1 (joined_spec h2).1 fun t => ((joined_spec h1).2 t).trans ((h t).trans ((joined_spec h2).2 t).symm)
theorem joined_id {xs : List (Int × Int)} (h : Apt xs) : m_joined_stretches xs = xs := Apt.ext (joined_spec h.1).1 h (joined_spec h.1).2
theorem joined_length (xs : List (Int × Int)) : (m_joined_stretches xs).length ≤ xs.length := by
  have h := joined_len (xs := srt xs) (f := []) rfl _ _ (Nat.le_refl _) rfl
  rw [List.take_length, srt_length] at h
  exact h
/-- the least time from t on that isn't in xs -/
def Nxt (xs : List (Int × Int)) (t r : Int) : Prop := t ≤ r ∧ ¬ Cov xs r ∧ ∀ u, t ≤ u → u < r → Cov xs u
def Lst (xs : List (Int × Int)) (t r : Int) : Prop := r ≤ t ∧ ¬ Cov xs r ∧ ∀ u, r < u → u ≤ t → Cov xs u
theorem Nxt.uniq {xs : List (Int × Int)} {t r r' : Int} (h : Nxt xs t r) (h' : Nxt xs t r') : r = r' := by
  obtain ⟨a, b, c⟩ := h
  obtain ⟨a', b', c'⟩ := h'
  by_cases q : r < r'
  · exact absurd (c' r a q) b
  · by_cases q' : r' < r
    · exact absurd (c r' a' q') b'
    · omega
theorem Lst.uniq {xs : List (Int × Int)} {t r r' : Int} (h : Lst xs t r) (h' : Lst xs t r') : r = r' := by
  obtain ⟨a, b, c⟩ := h
  obtain ⟨a', b', c'⟩ := h'
  by_cases q : r < r'
  · exact absurd (c r' q a') b'
  · by_cases q' : r' < r
    · exact absurd (c' r q' a) b
    · omega
theorem Nxt.of {xs ys : List (Int × Int)} (e : ∀ t, Cov xs t ↔ Cov ys t) {t r : Int} (h : Nxt xs t r) : Nxt ys t r := ⟨h.1, fun z => h.2.1 ((e r).mpr z), fun u a b => (e u).mp (h.2.2 u a b)⟩
theorem Lst.of {xs ys : List (Int × Int)} (e : ∀ t, Cov xs t ↔ Cov ys t) {t r : Int} (h : Lst xs t r) : Lst ys t r := ⟨h.1, fun z => h.2.1 ((e r).mpr z), fun u a b => (e u).mp (h.2.2 u a b)⟩
theorem Apt.stop {xs : List (Int × Int)} (h : Apt xs) {c : Int × Int} (hc : c ∈ xs) {t : Int} (h1 : c.1 ≤ t) (h2 : t < c.2) : Nxt xs t c.2 := by
  refine ⟨by omega, fun ⟨d, hd, k1, k2⟩ => ?_, fun u k1 k2 => ⟨c, hc, by omega, k2⟩⟩
  have := h.1 c hc
  have := h.1 d hd
  rcases h.uniq hc hd with e | e | e
  · subst e; omega
  · omega
  · omega
theorem Apt.start {xs : List (Int × Int)} (h : Apt xs) {c : Int × Int} (hc : c ∈ xs) {t : Int} (h1 : c.1 ≤ t) (h2 : t < c.2) : Lst xs t (c.1 - 1) := by
  refine ⟨by omega, fun ⟨d, hd, k1, k2⟩ => ?_, fun u k1 k2 => ⟨c, hc, by omega, by omega⟩⟩
  have := h.1 c hc
  have := h.1 d hd
  rcases h.uniq hc hd with e | e | e
  · subst e; omega
  · omega
  · omega
abbrev pre_joined_stretches : (List (Int × Int)) → Prop := fun z => (fun (closed : List (Int × Int)) => closed.length ≤ 1000) z
def sp_joined_stretches (K : Fg) : Sp := spG (A := (List (Int × Int))) (fun z => [py K (enc (z : List (Int × Int)))]) pre_joined_stretches (fun z => .new (rps K (m_joined_stretches z)))
theorem sc_joined_stretches : FnScope ["closed", "found", "start", "stop"] ["closed"] (defScope s_joined_stretches) := ⟨rfl, rfl, rfl, by decide +kernel, rfl, by decide +kernel, by decide +kernel⟩
theorem ok_joined_stretches {P : Program} {w : World} {K : Fg} {mg : Str → Option Value} {base : Heap} {f : Addr} {fd : FuncData} (F : DefOf K "joined_stretches" "joined_stretches" s_joined_stretches f fd) (hm : mg "joined_stretches" = some (.ref f)) (E0 : Env0 mg)  :
    FnG P w K mg base CX0 1 "joined_stretches" (sp_joined_stretches K) := by
  have B := E0.B
  exact fn_mk F (def_ok (Ar := (List (Int × Int))) (T := fun (r : List (Int × Int)) => .new (rps K r)) (fv := fun z => m_joined_stretches z) F sc_joined_stretches 3 (fun _ => rfl) rfl (fun _ => rfl) fun cdv A outer s H E hr closed hp => by
    have hp : closed.length ≤ 1000 := hp
    show HB (S := Unit) (bx P w K mg base ["closed", "found", "start", "stop"] "joined_stretches" s_joined_stretches f cdv A outer s H E) _ [defBody s_joined_stretches] (enter [py K (enc (closed : List (Int × Int)))] 3) _ (fun (r : List (Int × Int)) => .new (rps K r)) (.rt (m_joined_stretches closed))
    exact (h_ownV 1 sc_joined_stretches.nd (v_list as_nil) (fun found1 e_found1 => have z1 := srt_length closed; (h_foldV (fun (s2 : (List (Int × Int))) => [sI K (closed : List (Int × Int)), sO K (s2 : List (Int × Int)), .un, .un]) (fun (start3 : Int × Int) => [(2, sI K (start3.1 : Int)), (3, sI K (start3.2 : Int))]) PassesOwn.never rfl (i_list (PN.v (v_sorted B (roomS hr (by decide)) (PK.l (PV.xk (v_im 0)))))) (fun start3 => (g_p2 rfl (g_name 2 sc_joined_stretches.nd) (g_name 3 sc_joined_stretches.nd))) (.keep (.keep (.keep (.keep .nil)))) (fun n_start3 s2 start3 at_start3 e_s2 => have nat_start3 := lt_of_at at_start3; have f_start3 := mem_atF at_start3; have I_s2 := joined_len e_found1 n_start3 s2 (Nat.le_of_lt (lt_of_at at_start3)) e_s2; (h_ifS (PWv.t (w_and (t_gt (v_len B (PK.l (v_ow 1))) v_int) (fun h1 => (w_and1 (t_le (v_im 2) (v_f2_1 (v_last (PK.l (v_ow 1)) (by /-1-/ walk_at "sc")))))))) (fun h2 => (h_putLS 1 (v_t2 (v_f2_0 (v_last (PK.l (v_ow 1)) (by /-2-/ walk_at "sc"))) (v_max B rfl (v_im 3) (v_f2_1 (v_last (PK.l (v_ow 1)) (by /-3-/ walk_at "sc"))))) (by /-4-/ walk_at "sc") (fun found4 e_found4 => (h_end (h_end (h_nil (.keep (.keep (.drop (.drop .nil)))))))))) (fun h2 => (h_appS 1 (v_t2 (v_im 2) (v_im 3)) (by /-5-/ walk_at "sc size") (fun found5 e_found5 => (h_end (h_end (h_nil (.keep (.keep (.drop (.drop .nil)))))))))))) (fun s6 e_s6 => (h_retOw 1)))))) hm (fun _ _ _ _ _ _ us hl => match us, hl with | [_], _ => rfl)
abbrev s_is_open : Stmt := top 2
def m_is_open (closed : List (Int × Int)) (time : Int) : Bool :=
  (!(((closed.map fun (start1 : Int × Int) => (decide (start1.1 ≤ time) && decide (time < start1.2)))).any id))
theorem is_open_spec (xs : List (Int × Int)) (t : Int) : m_is_open xs t = true ↔ ¬ Cov xs t := by
  simp only [m_is_open, Bool.not_eq_true', Cov]
  rw [List.any_eq_false]
  simp
abbrev pre_is_open : (List (Int × Int)) × Int → Prop := fun z => (fun (closed : List (Int × Int)) (time : Int) => closed.length ≤ 1000) z.1 z.2
def sp_is_open (K : Fg) : Sp := spG (A := (List (Int × Int)) × Int) (fun z => [py K (enc (z.1 : List (Int × Int))), py K (enc (z.2 : Int))]) pre_is_open (fun z => .val (py K (enc (m_is_open z.1 z.2))))
theorem sc_is_open : FnScope ["closed", "time", "start", "stop"] ["closed", "time"] (defScope s_is_open) := ⟨rfl, rfl, rfl, by decide +kernel, rfl, by decide +kernel, by decide +kernel⟩
theorem ok_is_open {P : Program} {w : World} {K : Fg} {mg : Str → Option Value} {base : Heap} {f : Addr} {fd : FuncData} (F : DefOf K "is_open" "is_open" s_is_open f fd) (hm : mg "is_open" = some (.ref f)) (E0 : Env0 mg)  :
    FnG P w K mg base CX0 1 "is_open" (sp_is_open K) := by
  have B := E0.B
  exact fn_mk F (def_ok (Ar := (List (Int × Int)) × Int) (T := fun (r : Bool) => .val (py K (enc r))) (fv := fun z => m_is_open z.1 z.2) F sc_is_open 2 (fun _ => rfl) rfl (fun _ => rfl) fun cdv A outer s H E hr z hp => by
    obtain ⟨closed, time⟩ := z
    have hp : closed.length ≤ 1000 := hp
    show HB (S := Unit) (bx P w K mg base ["closed", "time", "start", "stop"] "is_open" s_is_open f cdv A outer s H E) _ [defBody s_is_open] (enter [py K (enc (closed : List (Int × Int))), py K (enc (time : Int))] 2) _ (fun (r : Bool) => .val (py K (enc r))) (.rt (m_is_open closed time))
    exact (h_retT (v_notV (v_any B rfl (PK.l (PN.xk (v_lc [("start", 2), ("stop", 3)] (fun (start1 : Int × Int) => [(2, sI K (start1.1 : Int)), (3, sI K (start1.2 : Int))]) rfl sc_is_open.nd (blkOk_by rfl) (i_list (v_im 0)) (by /-1-/ walk_at "sc size") (fun start1 _ _ _ _ _ => (g_p2 rfl (g_name 2 sc_is_open.nd) (g_name 3 sc_is_open.nd))) (us_in fun _ => rfl) (fun start1 in_start1 _ _ _ _ _ => (v_chain op_le op_lt (v_im 2) (v_im 1) (fun h1 => (v_im 3))))))))))) hm (fun _ _ _ _ _ _ us hl => match us, hl with | [_, _], _ => rfl)
abbrev s_next_open : Stmt := top 3
def m_next_open_l1 (time : Int) (s1 : Unit) (start2 : Int × Int) : Ctl Unit Int :=
  cond ((decide (start2.1 ≤ time) && decide (time < start2.2)))
  ((.rt start2.2))
  ((.nx (())))
def m_next_open (closed : List (Int × Int)) (time : Int) : Int :=
  forR (S := Unit) (m_next_open_l1 time) (()) ((m_joined_stretches closed)) fun (s3 : Unit) =>
  time
theorem next_open_loop (t : Int) : ∀ xs : List (Int × Int), (∃ c ∈ xs, c.1 ≤ t ∧ t < c.2 ∧ forL (S := Unit) (m_next_open_l1 t) () xs = .inr c.2) ∨ (¬ Cov xs t ∧ forL (S := Unit) (m_next_open_l1 t) () xs = .inl ())
  | [] => .inr ⟨by simp [Cov], rfl⟩
  | x :: xs => by
    by_cases h : x.1 ≤ t ∧ t < x.2
    · left
      refine ⟨x, by simp, h.1, h.2, ?_⟩
      simp [forL, m_next_open_l1, h.1, h.2]
    · have e : m_next_open_l1 t () x = .nx () := by
        simp only [m_next_open_l1]
        have : (decide (x.1 ≤ t) && decide (t < x.2)) = false := by
          rw [Bool.and_eq_false_iff]; simp only [decide_eq_false_iff_not]; omega
        rw [this]; rfl
      have e2 : forL (S := Unit) (m_next_open_l1 t) () (x :: xs) = forL (S := Unit) (m_next_open_l1 t) () xs := by
        simp [forL, e]
      rw [e2]
      rcases next_open_loop t xs with ⟨c, hc, h1, h2, h3⟩ | ⟨h1, h2⟩
      · exact .inl ⟨c, by simp [hc], h1, h2, h3⟩
      · refine .inr ⟨fun z => ?_, h2⟩
        rcases Cov.cons.mp z with q | q
        · exact h q
        · exact h1 q
theorem next_open_spec {xs : List (Int × Int)} (hv : ∀ c ∈ xs, c.1 < c.2) (t : Int) : Nxt xs t (m_next_open xs t) := by
  obtain ⟨ha, hc⟩ := joined_spec hv
  refine Nxt.of hc ?_
  simp only [m_next_open, forR]
  rcases next_open_loop t (m_joined_stretches xs) with ⟨c, k, h1, h2, h3⟩ | ⟨h1, h2⟩
  · rw [h3]; exact ha.stop k h1 h2
  · rw [h2]
    exact (show Nxt _ t t from ⟨Int.le_refl _, h1, fun u a b => by omega⟩)
abbrev pre_next_open : (List (Int × Int)) × Int → Prop := fun z => (fun (closed : List (Int × Int)) (time : Int) => closed.length ≤ 1000) z.1 z.2
def sp_next_open (K : Fg) : Sp := spG (A := (List (Int × Int)) × Int) (fun z => [py K (enc (z.1 : List (Int × Int))), py K (enc (z.2 : Int))]) pre_next_open (fun z => .val (py K (enc (m_next_open z.1 z.2))))
theorem sc_next_open : FnScope ["closed", "time", "start", "stop"] ["closed", "time"] (defScope s_next_open) := ⟨rfl, rfl, rfl, by decide +kernel, rfl, by decide +kernel, by decide +kernel⟩
theorem ok_next_open {P : Program} {w : World} {K : Fg} {mg : Str → Option Value} {base : Heap} {f : Addr} {fd : FuncData} (F : DefOf K "next_open" "next_open" s_next_open f fd) (hm : mg "next_open" = some (.ref f)) (E0 : Env0 mg) (G_joined_stretches : FnG P w K mg base CX0 1 "joined_stretches" (sp_joined_stretches K)) :
    FnG P w K mg base CX0 2 "next_open" (sp_next_open K) := by
  have B := E0.B
  exact fn_mk F (def_ok (Ar := (List (Int × Int)) × Int) (T := fun (r : Int) => .val (py K (enc r))) (fv := fun z => m_next_open z.1 z.2) F sc_next_open 2 (fun _ => rfl) rfl (fun _ => rfl) fun cdv A outer s H E hr z hp => by
    obtain ⟨closed, time⟩ := z
    have hp : closed.length ≤ 1000 := hp
    show HB (S := Unit) (bx P w K mg base ["closed", "time", "start", "stop"] "next_open" s_next_open f cdv A outer s H E) _ [defBody s_next_open] (enter [py K (enc (closed : List (Int × Int))), py K (enc (time : Int))] 2) _ (fun (r : Int) => .val (py K (enc r))) (.rt (m_next_open closed time))
    exact (h_forV (fun (s1 : Unit) => [sI K (closed : List (Int × Int)), sI K (time : Int), .un, .un]) (fun (start2 : Int × Int) => [(2, sI K (start2.1 : Int)), (3, sI K (start2.2 : Int))]) PassesOwn.never rfl (i_list (PN.v (v_callN G_joined_stretches (hr.mono (by decide)) pass0 closed (by /-1-/ first | trivial | (unfold pre_joined_stretches; dsimp only; walk_at "sc")) rfl (as_cons (v_im 0) as_nil)))) (fun start2 => (g_p2 rfl (g_name 2 sc_next_open.nd) (g_name 3 sc_next_open.nd))) (.keep (.keep (.keep (.keep .nil)))) (fun n_start2 s1 start2 at_start2 e_s1 => have nat_start2 := lt_of_at at_start2; have f_start2 := mem_atF at_start2; (h_ifC (t_chain op_le op_lt (v_im 2) (v_im 1) (fun h1 => (v_im 3))) (fun h2 => (h_retT (v_im 3))) (fun h2 => (h_end (h_end (h_nil (.keep (.keep (.drop (.drop .nil)))))))))) (fun s3 e_s3 => (h_retT (v_im 1))))) hm (fun _ _ _ _ _ _ us hl => match us, hl with | [_, _], _ => rfl)
abbrev s_last_open : Stmt := top 4
def m_last_open_l1  (s1 : Int) (start2 : Int × Int) : Ctl Int (Option Int) :=
  cond ((decide (start2.1 ≤ s1) && decide (s1 < start2.2)))
  (bindV ((start2.1 - (1 : Int))) fun (time3 : Int) =>
  (.bk time3))
  ((.nx s1))
def m_last_open (closed : List (Int × Int)) (time : Int) : Option Int :=
  forR (S := Int) m_last_open_l1 time ((m_joined_stretches closed)) fun (s4 : Int) =>
  cond ((decide (s4 < (0 : Int))))
  (none)
  ((some s4))
theorem last_open_loop (t : Int) : ∀ xs : List (Int × Int), (∃ c ∈ xs, c.1 ≤ t ∧ t < c.2 ∧ forL (R := Option Int) m_last_open_l1 t xs = .inl (c.1 - 1)) ∨ (¬ Cov xs t ∧ forL (R := Option Int) m_last_open_l1 t xs = .inl t)
  | [] => .inr ⟨by simp [Cov], rfl⟩
  | x :: xs => by
    by_cases h : x.1 ≤ t ∧ t < x.2
    · left
      refine ⟨x, by simp, h.1, h.2, ?_⟩
      simp [forL, m_last_open_l1, h.1, h.2, bindV]
    · have e : m_last_open_l1 t x = .nx t := by
        simp only [m_last_open_l1]
        have : (decide (x.1 ≤ t) && decide (t < x.2)) = false := by
          rw [Bool.and_eq_false_iff]; simp only [decide_eq_false_iff_not]; omega
        rw [this]; rfl
      have e2 : forL (R := Option Int) m_last_open_l1 t (x :: xs) = forL (R := Option Int) m_last_open_l1 t xs := by
        simp [forL, e]
      rw [e2]
      rcases last_open_loop t xs with ⟨c, hc, h1, h2, h3⟩ | ⟨h1, h2⟩
      · exact .inl ⟨c, by simp [hc], h1, h2, h3⟩
      · refine .inr ⟨fun z => ?_, h2⟩
        rcases Cov.cons.mp z with q | q
        · exact h q
        · exact h1 q
theorem last_open_spec {xs : List (Int × Int)} (hv : ∀ c ∈ xs, c.1 < c.2) (t : Int) : ∃ r, Lst xs t r ∧ m_last_open xs t = if r < 0 then none else some r := by
  obtain ⟨ha, hc⟩ := joined_spec hv
  simp only [m_last_open, forR]
  rcases last_open_loop t (m_joined_stretches xs) with ⟨c, k, h1, h2, h3⟩ | ⟨h1, h2⟩
  · refine ⟨c.1 - 1, Lst.of hc (ha.start k h1 h2), ?_⟩
    rw [h3]
    by_cases q : c.1 - 1 < 0
    · simp [q]
    · simp [q]
  · refine ⟨t, Lst.of hc ⟨Int.le_refl _, h1, fun u a b => by omega⟩, ?_⟩
    rw [h2]
    by_cases q : t < 0
    · simp [q]
    · simp [q]
abbrev pre_last_open : (List (Int × Int)) × Int → Prop := fun z => (fun (closed : List (Int × Int)) (time : Int) => closed.length ≤ 1000) z.1 z.2
def sp_last_open (K : Fg) : Sp := spG (A := (List (Int × Int)) × Int) (fun z => [py K (enc (z.1 : List (Int × Int))), py K (enc (z.2 : Int))]) pre_last_open (fun z => .val (py K (enc (m_last_open z.1 z.2))))
theorem sc_last_open : FnScope ["closed", "time", "start", "stop"] ["closed", "time"] (defScope s_last_open) := ⟨rfl, rfl, rfl, by decide +kernel, rfl, by decide +kernel, by decide +kernel⟩
theorem ok_last_open {P : Program} {w : World} {K : Fg} {mg : Str → Option Value} {base : Heap} {f : Addr} {fd : FuncData} (F : DefOf K "last_open" "last_open" s_last_open f fd) (hm : mg "last_open" = some (.ref f)) (E0 : Env0 mg) (G_joined_stretches : FnG P w K mg base CX0 1 "joined_stretches" (sp_joined_stretches K)) :
    FnG P w K mg base CX0 2 "last_open" (sp_last_open K) := by
  have B := E0.B
  exact fn_mk F (def_ok (Ar := (List (Int × Int)) × Int) (T := fun (r : Option Int) => .val (py K (enc r))) (fv := fun z => m_last_open z.1 z.2) F sc_last_open 2 (fun _ => rfl) rfl (fun _ => rfl) fun cdv A outer s H E hr z hp => by
    obtain ⟨closed, time⟩ := z
    have hp : closed.length ≤ 1000 := hp
    show HB (S := Unit) (bx P w K mg base ["closed", "time", "start", "stop"] "last_open" s_last_open f cdv A outer s H E) _ [defBody s_last_open] (enter [py K (enc (closed : List (Int × Int))), py K (enc (time : Int))] 2) _ (fun (r : Option Int) => .val (py K (enc r))) (.rt (m_last_open closed time))
    exact (h_forV (fun (s1 : Int) => [sI K (closed : List (Int × Int)), sI K (s1 : Int), .un, .un]) (fun (start2 : Int × Int) => [(2, sI K (start2.1 : Int)), (3, sI K (start2.2 : Int))]) PassesOwn.never rfl (i_list (PN.v (v_callN G_joined_stretches (hr.mono (by decide)) pass0 closed (by /-1-/ first | trivial | (unfold pre_joined_stretches; dsimp only; walk_at "sc")) rfl (as_cons (v_im 0) as_nil)))) (fun start2 => (g_p2 rfl (g_name 2 sc_last_open.nd) (g_name 3 sc_last_open.nd))) (.keep (.keep (.keep (.keep .nil)))) (fun n_start2 s1 start2 at_start2 e_s1 => have nat_start2 := lt_of_at at_start2; have f_start2 := mem_atF at_start2; (h_ifC (t_chain op_le op_lt (v_im 2) (v_im 1) (fun h1 => (v_im 3))) (fun h2 => (h_setC 1 sc_last_open.nd (v_sub (v_im 2) v_int) (fun time3 e_time3 => (h_bk (.keep (.keep (.drop (.drop .nil)))))))) (fun h2 => (h_end (h_end (h_nil (.keep (.keep (.drop (.drop .nil)))))))))) (fun s4 e_s4 => (h_ifV (t_lt (v_im 1) v_int) (fun h3 => (h_retT v_noneO)) (fun h3 => (h_end (h_retT (v_some (v_im 1))))))))) hm (fun _ _ _ _ _ _ us hl => match us, hl with | [_, _], _ => rfl)
abbrev s_L_cell_at : Stmt := top 6
def m_L_cell_at (script : List Int) (k : Int) : Int :=
  cond ((decide (k < (script.length : Int))))
  ((ix script k))
  ((0 : Int))
abbrev pre_L_cell_at : (List Int) × Int → Prop := fun z => (fun (script : List Int) (k : Int) => 0 ≤ k) z.1 z.2
def sp_L_cell_at (K : Fg) : Sp := spG (A := (List Int) × Int) (fun z => [scrP K z.1, py K (enc (z.2 : Int))]) pre_L_cell_at (fun z => .val (py K (enc (m_L_cell_at z.1 z.2))))
theorem sc_L_cell_at : FnScope ["_law_script", "_law_k"] ["_law_script", "_law_k"] (defScope s_L_cell_at) := ⟨rfl, rfl, rfl, by decide +kernel, rfl, by decide +kernel, by decide +kernel⟩
theorem ok_L_cell_at {P : Program} {w : World} {K : Fg} {mg : Str → Option Value} {base : Heap} {f : Addr} {fd : FuncData} (F : DefOf K "_law_cell_at" "_law_cell_at" s_L_cell_at f fd) (hm : mg "_law_cell_at" = some (.ref f)) (E0 : Env0 mg)  :
    FnG P w K mg base CX0 1 "_law_cell_at" (sp_L_cell_at K) := by
  have B := E0.B
  exact fn_mk F (def_ok (Ar := (List Int) × Int) (T := fun (r : Int) => .val (py K (enc r))) (fv := fun z => m_L_cell_at z.1 z.2) F sc_L_cell_at 0 (fun _ => rfl) rfl (fun _ => rfl) fun cdv A outer s H E hr z hp => by
    obtain ⟨script, k⟩ := z
    have hp : 0 ≤ k := hp
    show HB (S := Unit) (bx P w K mg base ["_law_script", "_law_k"] "_law_cell_at" s_L_cell_at f cdv A outer s H E) _ [defBody s_L_cell_at] (enter [scrP K script, py K (enc (k : Int))] 0) _ (fun (r : Int) => .val (py K (enc r))) (.rt (m_L_cell_at script k))
    exact (h_ifV (t_lt (v_im 1) (v_len B (scr_l (v_im 0)))) (fun h1 => (h_retT (v_ix (scr_l (v_im 0)) (v_im 1) (by /-1-/ walk_at "sc")))) (fun h1 => (h_end (h_retT v_int))))) hm (fun _ _ _ _ _ _ us hl => match us, hl with | [_, _], _ => rfl)
abbrev s_L_stretch : Stmt := top 7
def m_L_stretch (cell : Int) (by_digits : Bool) : Int × Int :=
  cond by_digits
  (bindV ((cell % (1000000000 : Int))) fun (start1 : Int) =>
  (start1, ((start1 + (1 : Int)) + ((cell / (1000000000 : Int)) % ((1000000000 : Int) - start1)))))
  (bindV ((((((cell * (16807 : Int)) % (2147483647 : Int)) + (3 : Int)) * (48271 : Int)) % (2147483629 : Int))) fun (number2 : Int) =>
  cond ((decide ((number2 % (8 : Int)) = (0 : Int))))
  ((((1000 : Int) + ((number2 / (8 : Int)) % (100000000 : Int))), (((2 : Int) * (100000000 : Int)) + ((number2 / (16 : Int)) % (100000000 : Int)))))
  (cond ((decide ((number2 % (8 : Int)) = (1 : Int))))
  (((0 : Int), ((1 : Int) + ((number2 / (8 : Int)) % (10 : Int)))))
  (bindV (((number2 / (8 : Int)) % (50 : Int))) fun (start3 : Int) =>
  (start3, ((start3 + (1 : Int)) + ((number2 / (512 : Int)) % (9 : Int)))))))
/-- stretches of the law -/
def Ok (xs : List (Int × Int)) : Prop := ∀ c ∈ xs, 0 ≤ c.1 ∧ c.1 < c.2 ∧ c.2 ≤ 1000000000
theorem cond_dec {α : Type} (p : Prop) [Decidable p] (a b : α) : cond (decide p) a b = if p then a else b := by by_cases h : p <;> simp [h]
theorem stretch_ok (c : Int) (b : Bool) : 0 ≤ (m_L_stretch c b).1 ∧ (m_L_stretch c b).1 < (m_L_stretch c b).2 ∧ (m_L_stretch c b).2 ≤ 1000000000 := by
  simp only [m_L_stretch, bindV, cond_dec]
  cases b with
  | true =>
    have h1 := mod_ix (a := c / 1000000000) (n := 1000000000 - c % 1000000000) (by omega)
    simp only [cond_true]; omega
  | false =>
    simp only [cond_false]
    split
    · simp only []; omega
    · split
      · simp only []; omega
      · simp only []; omega
theorem map_ok (xs : List Int) (b : Bool) : Ok (xs.map fun c => m_L_stretch c b) := fun c hc => by
  obtain ⟨k, _, rfl⟩ := List.mem_map.mp hc
  exact stretch_ok k b
theorem Ok.v {xs : List (Int × Int)} (h : Ok xs) : ∀ c ∈ xs, c.1 < c.2 := fun c hc => (h c hc).2.1
theorem next_le {xs : List (Int × Int)} (h : Ok xs) {t : Int} (ht : t ≤ 2000000000) : t ≤ m_next_open xs t ∧ m_next_open xs t ≤ 2000000000 := by
  obtain ⟨h1, h2, h3⟩ := next_open_spec h.v t
  refine ⟨h1, ?_⟩
  by_cases q : m_next_open xs t = t
  · omega
  · obtain ⟨c, hc, a, b⟩ := h3 (m_next_open xs t - 1) (by omega) (by omega)
    have := (h c hc).2.2; omega
theorem last_le {xs : List (Int × Int)} (h : Ok xs) {t : Int} (h0 : 0 ≤ t) (ht : t ≤ 2000000000) : 0 ≤ (m_last_open xs t).getD 0 ∧ (m_last_open xs t).getD 0 ≤ 2000000000 := by
  obtain ⟨r, hr, e⟩ := last_open_spec h.v t
  rw [e]
  by_cases q : r < 0
  · simp [q]
  · have := hr.1
    simp [q]; omega
theorem last_some {o : Option Int} {x : Int} (h : (o.isSome && decide (x < o.getD 0)) = true) : o.isSome = true := by
  rw [Bool.and_eq_true] at h; exact h.1
abbrev pre_L_stretch : Int × Bool → Prop := fun z => (fun (cell : Int) (by_digits : Bool) => True) z.1 z.2
def sp_L_stretch (K : Fg) : Sp := spG (A := Int × Bool) (fun z => [py K (enc (z.1 : Int)), py K (enc (z.2 : Bool))]) pre_L_stretch (fun z => .val (py K (enc (m_L_stretch z.1 z.2))))
theorem sc_L_stretch : FnScope ["_law_cell", "_law_by_digits", "_law_start", "_law_number"] ["_law_cell", "_law_by_digits"] (defScope s_L_stretch) := ⟨rfl, rfl, rfl, by decide +kernel, rfl, by decide +kernel, by decide +kernel⟩
theorem ok_L_stretch {P : Program} {w : World} {K : Fg} {mg : Str → Option Value} {base : Heap} {f : Addr} {fd : FuncData} (F : DefOf K "_law_stretch" "_law_stretch" s_L_stretch f fd) (hm : mg "_law_stretch" = some (.ref f)) (E0 : Env0 mg)  :
    FnG P w K mg base CX0 1 "_law_stretch" (sp_L_stretch K) := by
  have B := E0.B
  exact fn_mk F (def_ok (Ar := Int × Bool) (T := fun (r : Int × Int) => .val (py K (enc r))) (fv := fun z => m_L_stretch z.1 z.2) F sc_L_stretch 2 (fun _ => rfl) rfl (fun _ => rfl) fun cdv A outer s H E hr z hp => by
    obtain ⟨cell, by_digits⟩ := z
    show HB (S := Unit) (bx P w K mg base ["_law_cell", "_law_by_digits", "_law_start", "_law_number"] "_law_stretch" s_L_stretch f cdv A outer s H E) _ [defBody s_L_stretch] (enter [py K (enc (cell : Int)), py K (enc (by_digits : Bool))] 2) _ (fun (r : Int × Int) => .val (py K (enc r))) (.rt (m_L_stretch cell by_digits))
    exact (h_ifV (t_val (v_im 1)) (fun h1 => (h_setV 2 sc_L_stretch.nd (v_mod (v_im 0) (v_powC v_int v_int) (by /-1-/ first | decide | walk_at "sc")) (fun start1 e_start1 => (h_retT (v_t2 (v_im 2) (v_add (v_add (v_im 2) v_int) (v_mod (v_div (v_im 0) (v_powC v_int v_int) (by /-2-/ walk_at "sc div")) (v_sub (v_powC v_int v_int) (v_im 2)) (by /-3-/ first | decide | walk_at "sc")))))))) (fun h1 => (h_end (h_setV 3 sc_L_stretch.nd (v_mod (v_mul (v_add (v_mod (v_mul (v_im 0) v_int (by /-4-/ walk_at "sc mul")) v_int (by /-5-/ first | decide | walk_at "sc")) v_int) v_int (by /-6-/ walk_at "sc mul")) v_int (by /-7-/ first | decide | walk_at "sc")) (fun number2 e_number2 => (h_ifV (t_eq hr.units (by decide) (PV.d (v_mod (v_im 3) v_int (by /-8-/ first | decide | walk_at "sc"))) (PV.d v_int)) (fun h2 => (h_retT (v_t2 (v_add v_int (v_mod (v_div (v_im 3) v_int (by /-9-/ walk_at "sc div")) (v_powC v_int v_int) (by /-10-/ first | decide | walk_at "sc"))) (v_add (v_mul v_int (v_powC v_int v_int) (by /-11-/ walk_at "sc mul")) (v_mod (v_div (v_im 3) v_int (by /-12-/ walk_at "sc div")) (v_powC v_int v_int) (by /-13-/ first | decide | walk_at "sc")))))) (fun h2 => (h_end (h_ifV (t_eq hr.units (by decide) (PV.d (v_mod (v_im 3) v_int (by /-14-/ first | decide | walk_at "sc"))) (PV.d v_int)) (fun h3 => (h_retT (v_t2 v_int (v_add v_int (v_mod (v_div (v_im 3) v_int (by /-15-/ walk_at "sc div")) v_int (by /-16-/ first | decide | walk_at "sc")))))) (fun h3 => (h_end (h_setV 2 sc_L_stretch.nd (v_mod (v_div (v_im 3) v_int (by /-17-/ walk_at "sc div")) v_int (by /-18-/ first | decide | walk_at "sc")) (fun start3 e_start3 => (h_retT (v_t2 (v_im 2) (v_add (v_add (v_im 2) v_int) (v_mod (v_div (v_im 3) v_int (by /-19-/ walk_at "sc div")) v_int (by /-20-/ first | decide | walk_at "sc"))))))))))))))))))) hm (fun _ _ _ _ _ _ us hl => match us, hl with | [_, _], _ => rfl)
abbrev s_L_between_shut : Stmt := top 8
def m_L_between_shut_l1 (closed : List (Int × Int)) (s3 : Unit) (time4 : Int) : Ctl Unit Bool :=
  cond ((!decide ((m_is_open closed time4) = false)))
  ((.rt false))
  ((.nx (())))
def m_L_between_shut (closed : List (Int × Int)) (last : Option Int) (further : Int) : Bool :=
  bindV (cond last.isNone (bindV ((-(1 : Int))) fun (last2 : Int) =>
  last2) ((last.getD 0))) fun (s1 : Int) =>
  cond ((decide ((300 : Int) < (further - s1))))
  (true)
  (forR (S := Unit) (m_L_between_shut_l1 closed) (()) ((rng ((s1 + (1 : Int))) further)) fun (s5 : Unit) =>
  true)
abbrev pre_L_between_shut : (List (Int × Int)) × (Option Int) × Int → Prop := fun z => (fun (closed : List (Int × Int)) (last : Option Int) (further : Int) => closed.length ≤ 1000 ∧ 0 ≤ further ∧ further ≤ 10000000000 ∧ 0 ≤ last.getD 0 ∧ last.getD 0 ≤ 10000000000) z.1 z.2.1 z.2.2
def sp_L_between_shut (K : Fg) : Sp := spG (A := (List (Int × Int)) × (Option Int) × Int) (fun z => [py K (enc (z.1 : List (Int × Int))), py K (enc (z.2.1 : Option Int)), py K (enc (z.2.2 : Int))]) pre_L_between_shut (fun z => .val (py K (enc (m_L_between_shut z.1 z.2.1 z.2.2))))
theorem sc_L_between_shut : FnScope ["_law_closed", "_law_last", "_law_further", "_law_time"] ["_law_closed", "_law_last", "_law_further"] (defScope s_L_between_shut) := ⟨rfl, rfl, rfl, by decide +kernel, rfl, by decide +kernel, by decide +kernel⟩
theorem ok_L_between_shut {P : Program} {w : World} {K : Fg} {mg : Str → Option Value} {base : Heap} {f : Addr} {fd : FuncData} (F : DefOf K "_law_between_shut" "_law_between_shut" s_L_between_shut f fd) (hm : mg "_law_between_shut" = some (.ref f)) (E0 : Env0 mg) (G_is_open : FnG P w K mg base CX0 1 "is_open" (sp_is_open K)) :
    FnG P w K mg base CX0 2 "_law_between_shut" (sp_L_between_shut K) := by
  have B := E0.B
  exact fn_mk F (def_ok (Ar := (List (Int × Int)) × (Option Int) × Int) (T := fun (r : Bool) => .val (py K (enc r))) (fv := fun z => m_L_between_shut z.1 z.2.1 z.2.2) F sc_L_between_shut 1 (fun _ => rfl) rfl (fun _ => rfl) fun cdv A outer s H E hr z hp => by
    obtain ⟨closed, last, further⟩ := z
    have hp : closed.length ≤ 1000 ∧ 0 ≤ further ∧ further ≤ 10000000000 ∧ 0 ≤ last.getD 0 ∧ last.getD 0 ≤ 10000000000 := hp
    show HB (S := Unit) (bx P w K mg base ["_law_closed", "_law_last", "_law_further", "_law_time"] "_law_between_shut" s_L_between_shut f cdv A outer s H E) _ [defBody s_L_between_shut] (enter [py K (enc (closed : List (Int × Int))), py K (enc (last : Option Int)), py K (enc (further : Int))] 1) _ (fun (r : Bool) => .val (py K (enc r))) (.rt (m_L_between_shut closed last further))
    exact (h_ifMV (fun (s1 : Int) => [sI K (closed : List (Int × Int)), sI K (s1 : Int), sI K (further : Int), .un]) (t_isN PyN.nn (v_im 1)) (fun h1 => (h_setS 1 sc_L_between_shut.nd (v_neg v_int) (fun last2 e_last2 => (h_end (h_nil (.keep (.keep (.keep (.keep .nil))))))))) (fun h1 => (h_cast 1 (last.getD 0) (enc_get _ (by /-1-/ first | assumption | exact isSome_of ‹_› | walk_at "sc")) (h_end (h_nil (.keep (.keep (.keep (.keep .nil)))))))) (fun s1 e_s1 => have z1 : -1 ≤ s1 ∧ s1 ≤ 10000000000 := (by rw [e_s1]; cases last.isNone <;> simp [bindV] <;> omega); (h_ifV (t_gt (v_sub (v_im 2) (v_im 1)) v_int) (fun h2 => (h_retT v_bl)) (fun h2 => (h_end (h_forV (fun (s3 : Unit) => [sI K (closed : List (Int × Int)), sI K (s1 : Int), sI K (further : Int), .un]) (fun (time4 : Int) => [(3, sI K (time4 : Int))]) PassesOwn.never rfl (i_range2 B (v_add (v_im 1) v_int) (v_im 2) (by /-2-/ walk_at "sc small") (by /-3-/ walk_at "sc small")) (fun time4 => (g_name 3 sc_L_between_shut.nd)) (.keep (.keep (.keep (.keep .nil)))) (fun n_time4 s3 time4 at_time4 e_s3 => have nat_time4 := lt_of_at at_time4; have f_time4 := rng_atF at_time4; (h_ifC (t_isntB (v_call G_is_open (hr.mono (by decide)) pass0 (closed, time4) (by /-4-/ first | trivial | (unfold pre_is_open; dsimp only; walk_at "sc")) rfl (as_cons (v_im 0) (as_cons (v_im 3) as_nil))) v_bl) (fun h3 => (h_retT v_bl)) (fun h3 => (h_end (h_end (h_nil (.keep (.keep (.keep (.drop .nil)))))))))) (fun s5 e_s5 => (h_retT v_bl))))))))) hm (fun _ _ _ _ _ _ us hl => match us, hl with | [_, _, _], _ => rfl)
abbrev s_L_one_good : Stmt := top 9
def m_L_one_good (closed : List (Int × Int)) (joined : List (Int × Int)) (more : List (Int × Int)) (time : Int) : Bool :=
  bindV ((m_next_open closed time)) fun (further1 : Int) =>
  bindV ((m_last_open closed time)) fun (last2 : Option Int) =>
  cond (((!decide ((m_is_open closed further1) = true)) || ((decide (further1 < time)) || (last2.isSome && (decide (time < (last2.getD 0)))))))
  (false)
  (cond (((!decide (further1 = time)) && (!(m_L_between_shut closed last2 further1))))
  (false)
  (cond (((!decide ((decide (further1 = time)) = (decide (last2 = (some time))))) || (!decide ((decide (further1 = time)) = (m_is_open closed time)))))
  (false)
  (cond (((!decide ((m_next_open joined time) = further1)) || (!decide ((m_last_open joined time) = last2))))
  (false)
  (cond (((!decide ((m_next_open closed.reverse time) = further1)) || (!decide ((m_last_open closed.reverse time) = last2))))
  (false)
  (bindV ((m_last_open more time)) fun (least3 : Option Int) =>
  cond ((decide ((m_next_open more time) < further1)))
  (false)
  ((least3.isNone || (last2.isSome && (decide ((least3.getD 0) ≤ (last2.getD 0)))))))))))
abbrev pre_L_one_good : (List (Int × Int)) × (List (Int × Int)) × (List (Int × Int)) × Int → Prop := fun z => (fun (closed : List (Int × Int)) (joined : List (Int × Int)) (more : List (Int × Int)) (time : Int) => closed.length ≤ 1000 ∧ joined.length ≤ 1000 ∧ more.length ≤ 1000 ∧ Ok closed ∧ 0 ≤ time ∧ time ≤ 2000000000) z.1 z.2.1 z.2.2.1 z.2.2.2
def sp_L_one_good (K : Fg) : Sp := spG (A := (List (Int × Int)) × (List (Int × Int)) × (List (Int × Int)) × Int) (fun z => [py K (enc (z.1 : List (Int × Int))), py K (enc (z.2.1 : List (Int × Int))), py K (enc (z.2.2.1 : List (Int × Int))), py K (enc (z.2.2.2 : Int))]) pre_L_one_good (fun z => .val (py K (enc (m_L_one_good z.1 z.2.1 z.2.2.1 z.2.2.2))))
theorem sc_L_one_good : FnScope ["_law_closed", "_law_joined", "_law_more", "_law_time", "_law_further", "_law_last", "_law_least"] ["_law_closed", "_law_joined", "_law_more", "_law_time"] (defScope s_L_one_good) := ⟨rfl, rfl, rfl, by decide +kernel, rfl, by decide +kernel, by decide +kernel⟩
theorem ok_L_one_good {P : Program} {w : World} {K : Fg} {mg : Str → Option Value} {base : Heap} {f : Addr} {fd : FuncData} (F : DefOf K "_law_one_good" "_law_one_good" s_L_one_good f fd) (hm : mg "_law_one_good" = some (.ref f)) (E0 : Env0 mg) (G_next_open : FnG P w K mg base CX0 2 "next_open" (sp_next_open K)) (G_last_open : FnG P w K mg base CX0 2 "last_open" (sp_last_open K)) (G_is_open : FnG P w K mg base CX0 1 "is_open" (sp_is_open K)) (G__law_between_shut : FnG P w K mg base CX0 2 "_law_between_shut" (sp_L_between_shut K)) :
    FnG P w K mg base CX0 3 "_law_one_good" (sp_L_one_good K) := by
  have B := E0.B
  exact fn_mk F (def_ok (Ar := (List (Int × Int)) × (List (Int × Int)) × (List (Int × Int)) × Int) (T := fun (r : Bool) => .val (py K (enc r))) (fv := fun z => m_L_one_good z.1 z.2.1 z.2.2.1 z.2.2.2) F sc_L_one_good 3 (fun _ => rfl) rfl (fun _ => rfl) fun cdv A outer s H E hr z hp => by
    obtain ⟨closed, joined, more, time⟩ := z
    have hp : closed.length ≤ 1000 ∧ joined.length ≤ 1000 ∧ more.length ≤ 1000 ∧ Ok closed ∧ 0 ≤ time ∧ time ≤ 2000000000 := hp
    show HB (S := Unit) (bx P w K mg base ["_law_closed", "_law_joined", "_law_more", "_law_time", "_law_further", "_law_last", "_law_least"] "_law_one_good" s_L_one_good f cdv A outer s H E) _ [defBody s_L_one_good] (enter [py K (enc (closed : List (Int × Int))), py K (enc (joined : List (Int × Int))), py K (enc (more : List (Int × Int))), py K (enc (time : Int))] 3) _ (fun (r : Bool) => .val (py K (enc r))) (.rt (m_L_one_good closed joined more time))
    exact (h_setV 4 sc_L_one_good.nd (v_call G_next_open (hr.mono (by decide)) pass0 (closed, time) (by /-1-/ first | trivial | (unfold pre_next_open; dsimp only; walk_at "sc")) rfl (as_cons (v_im 0) (as_cons (v_im 3) as_nil))) (fun further1 e_further1 => have z1 : time ≤ further1 ∧ further1 ≤ 2000000000 := (by rw [e_further1]; exact next_le hp.2.2.2.1 hp.2.2.2.2.2); (h_setV 5 sc_L_one_good.nd (v_call G_last_open (hr.mono (by decide)) pass0 (closed, time) (by /-2-/ first | trivial | (unfold pre_last_open; dsimp only; walk_at "sc")) rfl (as_cons (v_im 0) (as_cons (v_im 3) as_nil))) (fun last2 e_last2 => have z2 : 0 ≤ last2.getD 0 ∧ last2.getD 0 ≤ 2000000000 := (by rw [e_last2]; exact last_le hp.2.2.2.1 hp.2.2.2.2.1 hp.2.2.2.2.2); (h_ifV (PWv.t (w_or (t_isntB (v_call G_is_open (hr.mono (by decide)) pass0 (closed, further1) (by /-3-/ first | trivial | (unfold pre_is_open; dsimp only; walk_at "sc")) rfl (as_cons (v_im 0) (as_cons (v_im 4) as_nil))) v_bl) (fun h1 => (w_or (t_lt (v_im 4) (v_im 3)) (fun h2 => (w_or1 (PWv.t (w_and (t_notN PyN.nn (v_im 5)) (fun h3 => (w_and1 (t_gt (v_get 0 (by /-4-/ first | assumption | exact isSome_of ‹_› | exact last_some ‹_› | walk_at "sc") (v_im 5)) (v_im 3)))))))))))) (fun h4 => (h_retT v_bl)) (fun h4 => (h_end (h_ifV (PWv.t (w_and (t_ne hr.units (by decide) (PV.d (v_im 4)) (PV.d (v_im 3))) (fun h5 => (w_and1 (v_not (t_val (v_call G__law_between_shut (hr.mono (by decide)) pass0 (closed, last2, further1) (by /-5-/ first | trivial | (unfold pre_L_between_shut; dsimp only; walk_at "sc")) rfl (as_cons (v_im 0) (as_cons (v_im 5) (as_cons (v_im 4) as_nil)))))))))) (fun h6 => (h_retT v_bl)) (fun h6 => (h_end (h_ifV (PWv.t (w_or (t_ne hr.units (by decide) (PV.d (v_eq hr.units (by decide) (PV.d (v_im 4)) (PV.d (v_im 3)))) (PV.d (v_eq hr.units (by decide) (PV.d (v_im 5)) (PV.d (v_some (v_im 3)))))) (fun h7 => (w_or1 (t_ne hr.units (by decide) (PV.d (v_eq hr.units (by decide) (PV.d (v_im 4)) (PV.d (v_im 3)))) (PV.d (v_call G_is_open (hr.mono (by decide)) pass0 (closed, time) (by /-6-/ first | trivial | (unfold pre_is_open; dsimp only; walk_at "sc")) rfl (as_cons (v_im 0) (as_cons (v_im 3) as_nil))))))))) (fun h8 => (h_retT v_bl)) (fun h8 => (h_end (h_ifV (PWv.t (w_or (t_ne hr.units (by decide) (PV.d (v_call G_next_open (hr.mono (by decide)) pass0 (joined, time) (by /-7-/ first | trivial | (unfold pre_next_open; dsimp only; walk_at "sc")) rfl (as_cons (v_im 1) (as_cons (v_im 3) as_nil)))) (PV.d (v_im 4))) (fun h9 => (w_or1 (t_ne hr.units (by decide) (PV.d (v_call G_last_open (hr.mono (by decide)) pass0 (joined, time) (by /-8-/ first | trivial | (unfold pre_last_open; dsimp only; walk_at "sc")) rfl (as_cons (v_im 1) (as_cons (v_im 3) as_nil)))) (PV.d (v_im 5))))))) (fun h10 => (h_retT v_bl)) (fun h10 => (h_end (h_ifV (PWv.t (w_or (t_ne hr.units (by decide) (PV.d (v_call G_next_open (hr.mono (by decide)) pass0 (closed.reverse, time) (by /-9-/ first | trivial | (unfold pre_next_open; dsimp only; walk_at "sc")) rfl (as_cons (PN.v (v_rev (PK.l (PV.xk (v_im 0))))) (as_cons (v_im 3) as_nil)))) (PV.d (v_im 4))) (fun h11 => (w_or1 (t_ne hr.units (by decide) (PV.d (v_call G_last_open (hr.mono (by decide)) pass0 (closed.reverse, time) (by /-10-/ first | trivial | (unfold pre_last_open; dsimp only; walk_at "sc")) rfl (as_cons (PN.v (v_rev (PK.l (PV.xk (v_im 0))))) (as_cons (v_im 3) as_nil)))) (PV.d (v_im 5))))))) (fun h12 => (h_retT v_bl)) (fun h12 => (h_end (h_setV 6 sc_L_one_good.nd (v_call G_last_open (hr.mono (by decide)) pass0 (more, time) (by /-11-/ first | trivial | (unfold pre_last_open; dsimp only; walk_at "sc")) rfl (as_cons (v_im 2) (as_cons (v_im 3) as_nil))) (fun least3 e_least3 => (h_ifV (t_lt (v_call G_next_open (hr.mono (by decide)) pass0 (more, time) (by /-12-/ first | trivial | (unfold pre_next_open; dsimp only; walk_at "sc")) rfl (as_cons (v_im 2) (as_cons (v_im 3) as_nil))) (v_im 4)) (fun h13 => (h_retT v_bl)) (fun h13 => (h_end (h_retT (v_or (v_isN PyN.nn (v_im 6)) (fun h14 => (v_one (v_and (v_notN PyN.nn (v_im 5)) (fun h15 => (v_one (v_le (v_get 0 (by /-13-/ first | assumption | exact isSome_of ‹_› | exact last_some ‹_› | walk_at "sc") (v_im 6)) (v_get 0 (by /-14-/ first | assumption | exact isSome_of ‹_› | exact last_some ‹_› | walk_at "sc") (v_im 5))))))))))))))))))))))))))))))))))) hm (fun _ _ _ _ _ _ us hl => match us, hl with | [_, _, _, _], _ => rfl)
abbrev s_law : Stmt := top 10
def m_law_l1  (s11 : (List Int)) (start12 : Int × Int) : (List Int) :=
  bindV ((srt ((s11 ++ [(imax ((0 : Int)) ((start12.1 - (1 : Int)))), start12.1, (start12.2 - (1 : Int)), start12.2])))) fun (times13 : List Int) =>
  times13
def m_law_l2 (closed3 : List (Int × Int)) (joined4 : List (Int × Int)) (more5 : List (Int × Int)) (s16 : (Int × Int)) (time17 : Int) : Ctl ((Int × Int)) Bool :=
  cond ((!(m_L_one_good closed3 joined4 more5 time17)))
  ((.rt false))
  (bindV ((m_last_open closed3 time17)) fun (last18 : Option Int) =>
  bindV (cond last18.isNone (bindV ((-(1 : Int))) fun (last20 : Int) =>
  last20) ((last18.getD 0))) fun (s19 : Int) =>
  cond (((decide ((m_next_open closed3 time17) < s16.1)) || (decide (s19 < s16.2))))
  ((.rt false))
  (bindV (((m_next_open closed3 time17), s19)) fun (ahead21 : Int × Int) =>
  (.nx ahead21)))
def m_law (script : List Int) : Bool :=
  bindV (((decide ((24 : Int) < (script.length : Int))) && (decide (((ix script ((0 : Int))) % (2 : Int)) = (0 : Int))))) fun (by_digits1 : Bool) =>
  bindV ((((slc script (some ((1 : Int))) (some ((20 : Int))))).map fun (cell2 : Int) => (m_L_stretch cell2 by_digits1))) fun (closed3 : List (Int × Int)) =>
  bindV ((m_joined_stretches closed3)) fun (joined4 : List (Int × Int)) =>
  bindV ((closed3 ++ [(m_L_stretch (((m_L_cell_at script ((20 : Int))) + ((3 : Int) * (GL.b2i ((!by_digits1)))))) by_digits1)])) fun (more5 : List (Int × Int)) =>
  bindV ((srt ((((slc script none (some ((63 : Int))))).map fun (cell6 : Int) => (cell6 % (ix ([(91 : Int), ((5 : Int) * (100000000 : Int))]) (((cell6 / (91 : Int)) % (2 : Int))))))))) fun (times7 : List Int) =>
  bindV (cond by_digits1 (bindV ((srt ((((slc script (some ((21 : Int))) (some ((63 : Int))))).map fun (cell9 : Int) => (cell9 % ((2 : Int) * (1000000000 : Int))))))) fun (times10 : List Int) =>
  bindV (((slc closed3 none (some ((6 : Int))))).foldl m_law_l1 times10) fun (s14 : (List Int)) =>
  s14) (times7)) fun (s8 : (List Int)) =>
  bindV (((0 : Int), (-(1 : Int)))) fun (ahead15 : Int × Int) =>
  forR (S := ((Int × Int))) (m_law_l2 closed3 joined4 more5) ahead15 s8 fun (s22 : (Int × Int)) =>
  true
/-- times of the law: so many at most, all within bounds -/
def Tms (n : Nat) (xs : List Int) : Prop := xs.length ≤ n ∧ ∀ t ∈ xs, 0 ≤ t ∧ t ≤ 2000000000
theorem ix2_pos (i : Int) : 0 < ix [(91 : Int), 5 * 100000000] (i % 2) := by
  have h := ix_mem (xs := [(91 : Int), 5 * 100000000]) (i := i % 2) (mod_ix (by decide))
  simp only [List.mem_cons, List.not_mem_nil, or_false] at h; omega
theorem ix2_le (i : Int) : ix [(91 : Int), 5 * 100000000] (i % 2) ≤ 500000000 := by
  have h := ix_mem (xs := [(91 : Int), 5 * 100000000]) (i := i % 2) (mod_ix (by decide))
  simp only [List.mem_cons, List.not_mem_nil, or_false] at h; omega
theorem tms7 {script : List Int} (hp : script.length ≤ 63) : Tms 63 (srt ((slc script none (some 63)).map fun c => c % ix [(91 : Int), 5 * 100000000] (c / 91 % 2))) := by
  refine ⟨?_, fun t ht => ?_⟩
  · have := slc_len script none (some 63)
    rw [srt_length, List.length_map]; omega
  · obtain ⟨c, _, rfl⟩ := List.mem_map.mp (mem_srt.mp ht)
    have := mod_ix (a := c) (ix2_pos (c / 91))
    have := ix2_le (c / 91)
    omega
theorem slc_len2 {α : Type} (xs : List α) (a b : Nat) (h : a ≤ b) : (slc xs (some (a : Int)) (some (b : Int))).length ≤ b - a := by
  unfold slc HT.sIx
  simp only [if_neg (show ¬ (a : Int) < 0 by omega), if_neg (show ¬ (b : Int) < 0 by omega), Int.toNat_natCast, List.length_take, List.length_drop]
  omega
theorem tms10 {script : List Int} (hp : script.length ≤ 63) : Tms 42 (srt ((slc script (some 21) (some 63)).map fun c => c % (2 * 1000000000))) := by
  refine ⟨?_, fun t ht => ?_⟩
  · have := slc_len2 script 21 63 (by omega)
    rw [srt_length, List.length_map]; omega
  · obtain ⟨c, _, rfl⟩ := List.mem_map.mp (mem_srt.mp ht)
    omega
theorem tms_step {xs : List (Int × Int)} (k : Ok xs) {n : Nat} {s : List Int} {x : Int × Int} (hx : x ∈ xs) (h : Tms n s) : Tms (n + 4) (m_law_l1 s x) := by
  have := k x hx
  refine ⟨?_, fun t ht => ?_⟩
  · have := h.1
    simp only [m_law_l1, bindV, srt_length, List.length_append, List.length_cons, List.length_nil]; omega
  · simp only [m_law_l1, bindV, mem_srt, List.mem_append, List.mem_cons, List.not_mem_nil, or_false, imax_eq] at ht
    rcases ht with e | e | e | e | e
    · exact h.2 t e
    · omega
    · omega
    · omega
    · omega
theorem tms_loop {xs : List (Int × Int)} (k : Ok xs) {a : List Int} (ha : Tms 42 a) (n : Nat) (s : List Int) (hn : n ≤ (slc xs none (some 6)).length) (hs : s = ((slc xs none (some 6)).take n).foldl m_law_l1 a) : Tms (42 + 4 * n) s := by
  refine fold_inv (fun n (s : List Int) => Tms (42 + 4 * n) s) ha (fun n s x hx h => ?_) n s hn hs
  exact tms_step k (slc_mem (mem_atF hx)) h
theorem tms8 {script : List Int} {xs : List (Int × Int)} (hp : script.length ≤ 63) (k : Ok xs) {a : List Int} (ha : Tms 63 a) (b : Bool) :
    Tms 70 (cond b (bindV (srt ((slc script (some 21) (some 63)).map fun c => c % (2 * 1000000000))) fun t => bindV ((slc xs none (some 6)).foldl m_law_l1 t) fun s => s) a) := by
  cases b with
  | false => exact ⟨Nat.le_trans ha.1 (by decide), ha.2⟩
  | true =>
    have h := tms_loop k (tms10 hp) _ _ (Nat.le_refl _) rfl
    rw [List.take_length] at h
    refine ⟨Nat.le_trans h.1 ?_, h.2⟩
    have e : (slc xs none (some 6)).length ≤ 6 := by rw [slc_to xs (by decide), List.length_take]; omega
    omega
abbrev pre_law : (List Int) → Prop := fun z => (fun (script : List Int) => script.length ≤ 63) z
def sp_law (K : Fg) : Sp := spG (A := (List Int)) (fun z => [scrP K z]) pre_law (fun z => .val (py K (enc (m_law z))))
theorem sc_law : FnScope ["_law_script", "_law_by_digits", "_law_closed", "_law_joined", "_law_more", "_law_times", "_law_start", "_law_stop", "_law_ahead", "_law_time", "_law_last", "_law_cell"] ["_law_script"] (defScope s_law) := ⟨rfl, rfl, rfl, by decide +kernel, rfl, by decide +kernel, by decide +kernel⟩
theorem ok_law {P : Program} {w : World} {K : Fg} {mg : Str → Option Value} {base : Heap} {f : Addr} {fd : FuncData} (F : DefOf K "law" "law" s_law f fd) (hm : mg "law" = some (.ref f)) (E0 : Env0 mg) (G__law_stretch : FnG P w K mg base CX0 1 "_law_stretch" (sp_L_stretch K)) (G_joined_stretches : FnG P w K mg base CX0 1 "joined_stretches" (sp_joined_stretches K)) (G__law_cell_at : FnG P w K mg base CX0 1 "_law_cell_at" (sp_L_cell_at K)) (G__law_one_good : FnG P w K mg base CX0 3 "_law_one_good" (sp_L_one_good K)) (G_last_open : FnG P w K mg base CX0 2 "last_open" (sp_last_open K)) (G_next_open : FnG P w K mg base CX0 2 "next_open" (sp_next_open K)) :
    FnOk P w K mg base CX0 4 f fd ["_law_script"] (sp_law K) := by
  have B := E0.B
  exact def_ok (Ar := (List Int)) (T := fun (r : Bool) => .val (py K (enc r))) (fv := fun z => m_law z) F sc_law 11 (fun _ => rfl) rfl (fun _ => rfl) fun cdv A outer s H E hr script hp => by
    have hp : script.length ≤ 63 := hp
    show HB (S := Unit) (bx P w K mg base ["_law_script", "_law_by_digits", "_law_closed", "_law_joined", "_law_more", "_law_times", "_law_start", "_law_stop", "_law_ahead", "_law_time", "_law_last", "_law_cell"] "law" s_law f cdv A outer s H E) _ [defBody s_law] (enter [scrP K script] 11) _ (fun (r : Bool) => .val (py K (enc r))) (.rt (m_law script))
    exact (h_setV 1 sc_law.nd (v_and (v_gt (v_len B (scr_l (v_im 0))) v_int) (fun h1 => (v_one (v_eq hr.units (by decide) (PV.d (v_mod (v_ix (scr_l (v_im 0)) v_int (by /-1-/ walk_at "sc")) v_int (by /-2-/ first | decide | walk_at "sc"))) (PV.d v_int))))) (fun by_digits1 e_by_digits1 => (h_lcV 2 [("_law_cell", 11)] (fun (cell2 : Int) => [(11, sI K (cell2 : Int))]) rfl sc_law.nd (blkOk_by rfl) (i_list (PN.v (v_sl (l := (some ((1 : Int)))) (h := (some ((20 : Int)))) (scr_l (v_im 0)) v_int v_int))) (by /-3-/ rw [sizeLine_eq]; have := slc_len script (some 1) (some 20); omega) (fun cell2 _ _ _ _ _ => (g_name 11 sc_law.nd)) (us_in fun _ => rfl) (fun cell2 in_cell2 _ _ _ _ _ => (v_call G__law_stretch (hr.mono (by decide)) pass0 (cell2, by_digits1) (by /-4-/ first | trivial | (unfold pre_L_stretch; dsimp only; walk_at "sc")) rfl (as_cons (v_im 11) (as_cons (v_im 1) as_nil)))) (fun closed3 e_closed3 => have z3 : closed3.length ≤ 63 := (by rw [e_closed3, List.length_map]; have := slc_len script (some 1) (some 20); omega); have k3 : Ok closed3 := (by rw [e_closed3]; exact map_ok _ _); (h_setV 3 sc_law.nd (PN.v (v_callN G_joined_stretches (hr.mono (by decide)) pass0 closed3 (by /-5-/ first | trivial | (unfold pre_joined_stretches; dsimp only; walk_at "sc")) rfl (as_cons (PN.v (v_listOf B (PK.l (v_ow 2)))) as_nil))) (fun joined4 e_joined4 => have z4 : joined4.length ≤ 63 := (by rw [e_joined4]; have := joined_length closed3; omega); (h_setV 4 sc_law.nd (PN.v (v_cat (v_ow 2) (PN.xk (v_list (as_cons (v_call G__law_stretch (hr.mono (by decide)) pass0 (((m_L_cell_at script ((20 : Int))) + ((3 : Int) * (GL.b2i ((!by_digits1))))), by_digits1) (by /-8-/ first | trivial | (unfold pre_L_stretch; dsimp only; walk_at "sc")) rfl (as_cons (v_add (v_call G__law_cell_at (hr.mono (by decide)) pass0 (script, (20 : Int)) (by /-6-/ first | trivial | (unfold pre_L_cell_at; dsimp only; walk_at "sc")) rfl (as_cons (v_im 0) (as_cons v_int as_nil))) (v_mul v_int (v_intB B (v_notV (v_im 1))) (by /-7-/ walk_at "sc mul"))) (as_cons (v_im 1) as_nil))) as_nil))) (by /-9-/ walk_at "sc size"))) (fun more5 e_more5 => have z5 : more5.length ≤ 64 := (by rw [e_more5]; simp; omega); (h_setV 5 sc_law.nd (PN.v (v_sorted B (roomS hr (by decide)) (PK.l (PN.xk (v_lc [("_law_cell", 11)] (fun (cell6 : Int) => [(11, sI K (cell6 : Int))]) rfl sc_law.nd (blkOk_by rfl) (i_list (PN.v (v_sl (l := none) (h := (some ((63 : Int)))) (scr_l (v_im 0)) trivial v_int))) (by /-10-/ walk_at "sc size") (fun cell6 _ _ _ _ _ => (g_name 11 sc_law.nd)) (us_in fun _ => rfl) (fun cell6 in_cell6 _ _ _ _ _ => (v_mod (v_im 11) (v_ix (PK.l (PN.xk (v_list (as_cons v_int (as_cons (v_mul v_int (v_powC v_int v_int) (by /-11-/ walk_at "sc mul")) as_nil))))) (v_mod (v_div (v_im 11) v_int (by /-12-/ walk_at "sc div")) v_int (by /-13-/ first | decide | walk_at "sc")) (by /-14-/ walk_at "sc")) (by /-15-/ exact ix2_pos _)))))))) (fun times7 e_times7 => have z7 : Tms 63 times7 := (by rw [e_times7]; exact tms7 hp); (h_ifMV (fun (s8 : (List Int)) => [.im (scrP K script), sI K (by_digits1 : Bool), sO K (closed3 : List (Int × Int)), sI K (joined4 : List (Int × Int)), sI K (more5 : List (Int × Int)), sI K (s8 : List Int), .un, .un, .un, .un, .un, .un]) (t_val (v_im 1)) (fun h2 => (h_setS 5 sc_law.nd (PN.v (v_sorted B (roomS hr (by decide)) (PK.l (PN.xk (v_lc [("_law_cell", 11)] (fun (cell9 : Int) => [(11, sI K (cell9 : Int))]) rfl sc_law.nd (blkOk_by rfl) (i_list (PN.v (v_sl (l := (some ((21 : Int)))) (h := (some ((63 : Int)))) (scr_l (v_im 0)) v_int v_int))) (by /-16-/ rw [sizeLine_eq]; have := slc_len script (some 21) (some 63); omega) (fun cell9 _ _ _ _ _ => (g_name 11 sc_law.nd)) (us_in fun _ => rfl) (fun cell9 in_cell9 _ _ _ _ _ => (v_mod (v_im 11) (v_mul v_int (v_powC v_int v_int) (by /-17-/ walk_at "sc mul")) (by /-18-/ first | decide | walk_at "sc")))))))) (fun times10 e_times10 => have z10 : Tms 42 times10 := (by rw [e_times10]; exact tms10 hp); (h_foldS (fun (s11 : (List Int)) => [.im (scrP K script), sI K (by_digits1 : Bool), sO K (closed3 : List (Int × Int)), sI K (joined4 : List (Int × Int)), sI K (more5 : List (Int × Int)), sI K (s11 : List Int), .un, .un, .un, .un, .un, .un]) (fun (start12 : Int × Int) => [(6, sI K (start12.1 : Int)), (7, sI K (start12.2 : Int))]) PassesOwn.never rfl (i_list (PN.v (v_sl (l := none) (h := (some ((6 : Int)))) (PK.l (v_ow 2)) trivial v_int))) (fun start12 => (g_p2 rfl (g_name 6 sc_law.nd) (g_name 7 sc_law.nd))) (.keep (.keep (.keep (.keep (.keep (.keep (.keep (.keep (.keep (.keep (.keep (.keep .nil)))))))))))) (fun n_start12 s11 start12 at_start12 e_s11 => have nat_start12 := lt_of_at at_start12; have f_start12 := mem_atF at_start12; have I_s11 := tms_loop k3 z10 n_start12 s11 (Nat.le_of_lt (lt_of_at at_start12)) e_s11; (h_setS 5 sc_law.nd (PN.v (v_sorted B (roomS hr (by decide)) (PK.l (PN.xk (v_cat (PV.xk (v_im 5)) (PN.xk (v_list (as_cons (v_max B rfl v_int (v_sub (v_im 6) v_int)) (as_cons (v_im 6) (as_cons (v_sub (v_im 7) v_int) (as_cons (v_im 7) as_nil)))))) (by /-19-/ rw [sizeLine_eq]; have := I_s11.1; have := slc_len closed3 none (some 6); simp only [List.length_append, List.length_cons, List.length_nil]; omega)))))) (fun times13 e_times13 => (h_end (h_nil (.keep (.keep (.keep (.keep (.keep (.keep (.drop (.drop (.keep (.keep (.keep (.keep .nil))))))))))))))))) (fun s14 e_s14 => (h_end (h_nil (.keep (.keep (.keep (.keep (.keep (.keep (.keep (.keep (.keep (.keep (.keep (.keep .nil))))))))))))))))))) (fun h2 => (h_end (h_nil (.keep (.keep (.keep (.keep (.keep (.keep (.keep (.keep (.keep (.keep (.keep (.keep .nil))))))))))))))) (fun s8 e_s8 => have z8 : Tms 70 s8 := (by rw [e_s8]; exact tms8 hp k3 z7 _); (h_setV 8 sc_law.nd (v_t2 v_int (v_neg v_int)) (fun ahead15 e_ahead15 => (h_settle 2 rfl (h_forV (fun (s16 : (Int × Int)) => [.im (scrP K script), sI K (by_digits1 : Bool), sI K (closed3 : List (Int × Int)), sI K (joined4 : List (Int × Int)), sI K (more5 : List (Int × Int)), sI K (s8 : List Int), .un, .un, sI K (s16 : Int × Int), .un, .un, .un]) (fun (time17 : Int) => [(9, sI K (time17 : Int))]) PassesOwn.never rfl (i_list (v_im 5)) (fun time17 => (g_name 9 sc_law.nd)) (.keep (.keep (.keep (.keep (.keep (.keep (.keep (.keep (.keep (.keep (.keep (.keep .nil)))))))))))) (fun n_time17 s16 time17 at_time17 e_s16 => have nat_time17 := lt_of_at at_time17; have f_time17 := mem_atF at_time17; have I_s16 := z8.2 _ (mem_atF at_time17); (h_ifC (v_not (t_val (v_call G__law_one_good (hr.mono (by decide)) pass0 (closed3, joined4, more5, time17) (by /-20-/ first | trivial | (unfold pre_L_one_good; dsimp only; exact ⟨by omega, by omega, by omega, k3, I_s16⟩)) rfl (as_cons (v_im 2) (as_cons (v_im 3) (as_cons (v_im 4) (as_cons (v_im 9) as_nil))))))) (fun h3 => (h_retT v_bl)) (fun h3 => (h_end (h_setC 10 sc_law.nd (v_call G_last_open (hr.mono (by decide)) pass0 (closed3, time17) (by /-21-/ first | trivial | (unfold pre_last_open; dsimp only; walk_at "sc")) rfl (as_cons (v_im 2) (as_cons (v_im 9) as_nil))) (fun last18 e_last18 => (h_ifMC (fun (s19 : Int) => [.im (scrP K script), sI K (by_digits1 : Bool), sI K (closed3 : List (Int × Int)), sI K (joined4 : List (Int × Int)), sI K (more5 : List (Int × Int)), sI K (s8 : List Int), .un, .un, sI K (s16 : Int × Int), sI K (time17 : Int), sI K (s19 : Int), .un]) (t_isN PyN.nn (v_im 10)) (fun h4 => (h_setS 10 sc_law.nd (v_neg v_int) (fun last20 e_last20 => (h_end (h_nil (.keep (.keep (.keep (.keep (.keep (.keep (.keep (.keep (.keep (.keep (.keep (.keep .nil))))))))))))))))) (fun h4 => (h_cast 10 (last18.getD 0) (enc_get _ (by /-22-/ first | assumption | exact isSome_of ‹_› | walk_at "sc")) (h_end (h_nil (.keep (.keep (.keep (.keep (.keep (.keep (.keep (.keep (.keep (.keep (.keep (.keep .nil)))))))))))))))) (fun s19 e_s19 => (h_ifC (PWv.t (w_or (t_lt (v_call G_next_open (hr.mono (by decide)) pass0 (closed3, time17) (by /-23-/ first | trivial | (unfold pre_next_open; dsimp only; walk_at "sc")) rfl (as_cons (v_im 2) (as_cons (v_im 9) as_nil))) (v_f2_0 (v_im 8))) (fun h5 => (w_or1 (t_lt (v_im 10) (v_f2_1 (v_im 8))))))) (fun h6 => (h_retT v_bl)) (fun h6 => (h_end (h_setC 8 sc_law.nd (v_t2 (v_call G_next_open (hr.mono (by decide)) pass0 (closed3, time17) (by /-24-/ first | trivial | (unfold pre_next_open; dsimp only; walk_at "sc")) rfl (as_cons (v_im 2) (as_cons (v_im 9) as_nil))) (v_im 10)) (fun ahead21 e_ahead21 => (h_end (h_nil (.keep (.keep (.keep (.keep (.keep (.keep (.keep (.keep (.keep (.drop (.drop (.keep .nil))))))))))))))))))))))))))) (fun s22 e_s22 => (h_retT v_bl))))))))))))))))))
end LW

set_option Elab.async false
set_option linter.all false
set_option maxRecDepth 100000
set_option maxHeartbeats 4000000
namespace LW
open PySem PySem.Spec PyProof.Rows L2 GL
theorem cov_eq {xs ys : List (Int × Int)} (h1 : ∀ c ∈ xs, c.1 < c.2) (h2 : ∀ c ∈ ys, c.1 < c.2) (h : ∀ t, Cov xs t ↔ Cov ys t) (t : Int) : m_next_open xs t = m_next_open ys t ∧ m_last_open xs t = m_last_open ys t := by
  refine ⟨Nxt.uniq (Nxt.of h (next_open_spec h1 t)) (next_open_spec h2 t), ?_⟩
  obtain ⟨r, a, e⟩ := last_open_spec h1 t
  obtain ⟨r', a', e'⟩ := last_open_spec h2 t
  rw [e, e', Lst.uniq (Lst.of h a) a']
theorem open_spec {xs : List (Int × Int)} (t : Int) : (m_is_open xs t = true ∧ ¬ Cov xs t) ∨ (m_is_open xs t = false ∧ Cov xs t) := by
  by_cases h : Cov xs t
  · right
    refine ⟨?_, h⟩
    cases e : m_is_open xs t with
    | false => rfl
    | true => exact absurd h ((is_open_spec xs t).mp e)
  · exact .inl ⟨(is_open_spec xs t).mpr h, h⟩
theorem nxt_self {xs : List (Int × Int)} {t r : Int} (h : Nxt xs t r) : r = t ↔ ¬ Cov xs t := by
  constructor
  · rintro rfl; exact h.2.1
  · intro k; exact Nxt.uniq h ⟨Int.le_refl _, k, fun u a b => by omega⟩
theorem lst_self {xs : List (Int × Int)} {t r : Int} (h : Lst xs t r) : r = t ↔ ¬ Cov xs t := by
  constructor
  · rintro rfl; exact h.2.1
  · intro k; exact Lst.uniq h ⟨Int.le_refl _, k, fun u a b => by omega⟩
theorem between_ok {xs : List (Int × Int)} {t n r : Int} (h1 : Nxt xs t n) (h2 : Lst xs t r) : m_L_between_shut xs (if r < 0 then none else some r) n = true := by
  have key : ∀ s : Int, r ≤ s → cond (decide (300 < n - s)) true (forR (S := Unit) (m_L_between_shut_l1 xs) () (rng (s + 1) n) fun _ => true) = true := by
    intro s hs
    cases decide (300 < n - s) with
    | true => rfl
    | false =>
      simp only [cond_false]
      rw [forR_all]
      intro u hu
      left
      have hu := rng_memF hu
      have hc : Cov xs u := by
        by_cases q : u < t
        · exact h2.2.2 u (by omega) (by omega)
        · exact h1.2.2 u (by omega) hu.2
      rcases open_spec (xs := xs) u with ⟨_, z⟩ | ⟨z, _⟩
      · exact absurd hc z
      · simp [m_L_between_shut_l1, z]
  by_cases q : r < 0
  · simp only [m_L_between_shut, bindV_eq, if_pos q, Option.isNone, cond_true]
    exact key (-1) (by omega)
  · simp only [m_L_between_shut, bindV_eq, if_neg q, Option.isNone, cond_false, Option.getD]
    exact key r (Int.le_refl _)
theorem one_ok {xs : List (Int × Int)} (h : Ok xs) (x : Int × Int) (hx : x.1 < x.2) {t : Int} (h0 : 0 ≤ t) : m_L_one_good xs (m_joined_stretches xs) (xs ++ [x]) t = true := by
  obtain ⟨ha, hc⟩ := joined_spec h.v
  have hm : ∀ c ∈ xs ++ [x], c.1 < c.2 := fun c hc => by
    rcases List.mem_append.mp hc with e | e
    · exact h.v c e
    · rw [List.mem_singleton.mp e]; exact hx
  have k1 := next_open_spec h.v t
  obtain ⟨r, k2, e2⟩ := last_open_spec h.v t
  have k3 := next_open_spec hm t
  obtain ⟨r', k4, e4⟩ := last_open_spec hm t
  obtain ⟨j1, j2⟩ := cov_eq ha.1 h.v hc t
  obtain ⟨v1, v2⟩ := cov_eq (xs := xs.reverse) (fun c hc => h.v c (List.mem_reverse.mp hc)) h.v (fun t => Cov.perm (List.reverse_perm _)) t
  have more : ∀ u, Cov xs u → Cov (xs ++ [x]) u := fun u z => Cov.snoc.mpr (.inl z)
  have l1 : m_next_open xs t ≤ m_next_open (xs ++ [x]) t := by
    by_cases q : m_next_open (xs ++ [x]) t < m_next_open xs t
    · exact absurd (more _ (k1.2.2 _ k3.1 q)) k3.2.1
    · omega
  have l2 : r' ≤ r := by
    by_cases q : r < r'
    · exact absurd (more _ (k2.2.2 _ q k4.1)) k4.2.1
    · omega
  have b1 := between_ok k1 k2
  have e5 : decide (m_next_open xs t = t) = m_is_open xs t := by
    rcases open_spec (xs := xs) t with ⟨a, b⟩ | ⟨a, b⟩
    · rw [a]; exact decide_eq_true ((nxt_self k1).mpr b)
    · rw [a]; exact decide_eq_false fun z => (nxt_self k1).mp z b
  have e6 : decide ((if r < 0 then none else some r) = some t) = m_is_open xs t := by
    rcases open_spec (xs := xs) t with ⟨a, b⟩ | ⟨a, b⟩
    · rw [a]
      have := (lst_self k2).mpr b
      refine decide_eq_true ?_
      rw [if_neg (by omega), this]
    · rw [a]
      refine decide_eq_false fun z => ?_
      by_cases q : r < 0
      · rw [if_pos q] at z; cases z
      · rw [if_neg q] at z; exact (lst_self k2).mp (Option.some.inj z) b
  have e7 : m_is_open xs (m_next_open xs t) = true := (is_open_spec _ _).mpr k1.2.1
  have e8 : ((if r < 0 then none else some r : Option Int).isSome && decide (t < (if r < 0 then none else some r : Option Int).getD 0)) = false := by
    have := k2.1
    by_cases q : r < 0
    · rw [if_pos q]; rfl
    · rw [if_neg q]; simp; omega
  have e9 : ((if r' < 0 then none else some r' : Option Int).isNone || ((if r < 0 then none else some r : Option Int).isSome && decide ((if r' < 0 then none else some r' : Option Int).getD 0 ≤ (if r < 0 then none else some r : Option Int).getD 0))) = true := by
    by_cases q : r' < 0
    · rw [if_pos q]; rfl
    · rw [if_neg q, if_neg (by omega)]; simp; omega
  simp only [m_L_one_good, bindV_eq, j1, j2, v1, v2, e2, e4, e5, e6, e7, e8, e9, b1, decide_eq_false (show ¬ m_next_open xs t < t by have := k1.1; omega), decide_eq_false (show ¬ m_next_open (xs ++ [x]) t < m_next_open xs t by omega)]
  simp
theorem cond_last (r : Int) : cond (if r < 0 then none else some r : Option Int).isNone (-1) ((if r < 0 then none else some r : Option Int).getD 0) = max r (-1) := by
  by_cases q : r < 0
  · rw [if_pos q]; simp; omega
  · rw [if_neg q]; simp; omega
theorem loop_ok {xs : List (Int × Int)} (h : Ok xs) (x : Int × Int) (hx : x.1 < x.2) : ∀ (ts : List Int) (a : Int × Int), ts.Pairwise (· ≤ ·) → (∀ t ∈ ts, 0 ≤ t ∧ t ≤ 2000000000) → (∀ t ∈ ts, a.1 ≤ m_next_open xs t ∧ ∀ r, Lst xs t r → a.2 ≤ max r (-1)) →
    ∃ s, forL (R := Bool) (m_law_l2 xs (m_joined_stretches xs) (xs ++ [x])) a ts = .inl s
  | [], a, _, _, _ => ⟨a, rfl⟩
  | t :: ts, a, hs, ht, hb => by
    rw [List.pairwise_cons] at hs
    obtain ⟨r, k2, e2⟩ := last_open_spec h.v t
    have hb1 := hb t (by simp)
    have e : m_law_l2 xs (m_joined_stretches xs) (xs ++ [x]) a t = .nx (m_next_open xs t, max r (-1)) := by
      have := hb1.2 r k2
      simp only [m_law_l2, bindV_eq, one_ok h x hx (ht t (by simp)).1, e2, cond_last]
      rw [decide_eq_false (show ¬ m_next_open xs t < a.1 by omega), decide_eq_false (show ¬ max r (-1) < a.2 by omega)]
      simp
    obtain ⟨s, q⟩ := loop_ok h x hx ts (m_next_open xs t, max r (-1)) hs.2 (fun u hu => ht u (by simp [hu])) fun u hu => by
      have hle := hs.1 u hu
      have n1 := next_open_spec h.v t
      have n2 := next_open_spec h.v u
      refine ⟨?_, fun r' l' => ?_⟩
      · show m_next_open xs t ≤ m_next_open xs u
        by_cases q : m_next_open xs u < m_next_open xs t
        · exact absurd (n1.2.2 _ (by have := n2.1; omega) q) n2.2.1
        · omega
      · show max r (-1) ≤ max r' (-1)
        by_cases q : r' < r
        · exact absurd (l'.2.2 r q (by have := k2.1; omega)) k2.2.1
        · omega
    exact ⟨s, by simp [forL, e, q]⟩
theorem srt_foldl {xs : List (Int × Int)} : ∀ (n : Nat) (s : List Int), (∃ k, s = srt k) → ∃ k, (xs.foldl m_law_l1 s) = srt k := by
  intro _ s
  induction xs generalizing s with
  | nil => exact fun h => h
  | cons x xs ih => exact fun _ => ih (m_law_l1 s x) ⟨_, rfl⟩
theorem law_true (ns : List Int) (hl : ns.length ≤ 63) : m_law ns = true := by
  simp only [m_law]
  generalize hb : (decide ((24 : Int) < (ns.length : Int)) && decide (ix ns 0 % 2 = 0)) = b
  simp only [bindV]
  have h0 : Ok ((slc ns (some 1) (some 20)).map fun cell2 => m_L_stretch cell2 b) := map_ok _ _
  have h8 := tms8 (script := ns) hl h0 (tms7 hl) b
  generalize ((slc ns (some 1) (some 20)).map fun cell2 => m_L_stretch cell2 b) = xs at h0 h8 ⊢
  simp only [bindV] at h8
  have hs : ∃ k, cond b ((slc xs none (some 6)).foldl m_law_l1 (srt ((slc ns (some 21) (some 63)).map fun c => c % (2 * 1000000000)))) (srt ((slc ns none (some 63)).map fun c => c % ix [(91 : Int), 5 * 100000000] (c / 91 % 2))) = srt k := by
    cases b with
    | false => exact ⟨_, rfl⟩
    | true => exact srt_foldl 0 _ ⟨_, rfl⟩
  obtain ⟨k, hk⟩ := hs
  rw [hk] at h8 ⊢
  obtain ⟨s, e⟩ := loop_ok h0 (m_L_stretch (m_L_cell_at ns 20 + 3 * GL.b2i (!b)) b) (stretch_ok _ b).2.1 (srt k) (0, -1) (srt_int k) h8.2 fun t ht => by
    have := (next_open_spec h0.v t).1
    have := (h8.2 t ht).1
    exact ⟨by show (0 : Int) ≤ _; omega, fun r _ => by show (-1 : Int) ≤ _; omega⟩
  simp only [forR, e]
end LW

set_option Elab.async false
set_option linter.all false
set_option maxRecDepth 100000
set_option maxHeartbeats 0
namespace LW
open PySem PySem.Spec PyProof.Rows L2 GL
theorem law_spec {K : Fg} {H : Hp} {a : Addr} {ns : List Int} (hl : ns.length ≤ 63) (hO : L2.Only H) (hS : SqL K H a (ns.map V.int)) : sp_law K [.ref a] H (fun v _ => v = .bl true) fun _ _ _ => False := by
  refine ⟨ns, H, Evl.Ex.refl H, .cons ⟨a, rfl, hS⟩ .nil, hl, fun v F H' g p => ?_⟩
  have e : m_law ns = true := law_true ns hl
  have p' : (py K (enc (m_law ns))).p F v := p
  rw [e] at p'
  cases p'
  rfl
end LW
namespace LW
open PySem PySem.Spec PyProof.Rows L2 GL
def mkD (x : Str) (st : Stmt) : He.DefD := ⟨(x, none), x, x, defArgs st, defBody st, defScope st, [], []⟩
def fn : List He.DefD := ([mkD "joined_stretches" s_joined_stretches, mkD "is_open" s_is_open, mkD "next_open" s_next_open, mkD "last_open" s_last_open, mkD "_law_cell_at" s_L_cell_at, mkD "_law_stretch" s_L_stretch, mkD "_law_between_shut" s_L_between_shut, mkD "_law_one_good" s_L_one_good, mkD "law" s_law] : List He.DefD)
def fa : List He.Fa := ([.glo "joined_stretches", .glo "is_open", .glo "next_open", .glo "last_open", .glo "_law_cell_at", .glo "_law_stretch", .glo "_law_between_shut", .glo "_law_one_good", .glo "law", .free "len", .free "range", .free "list", .free "tuple", .free "isinstance", .free "int", .free "bool", .free "max", .free "min", .free "sorted", .free "enumerate", .free "zip", .free "sum", .free "all", .free "any", .free "set", .free "abs", .free "reversed", .free "str", .free "dict", .free "ValueError"] : List He.Fa)
def loose : List Str := (["joined_stretches", "is_open", "next_open", "last_open", "_law_cell_at", "_law_stretch", "_law_between_shut", "_law_one_good"] : List Str)
abbrev R : PySem.W.OpenRow := PySem.W.OpenLaw.row PySem.Challenge.rw_wakeorder_k13_whole_openings
abbrev hk : PySem.W.Hook := He.hookD 5 fa fn
def ob (s : PySem.W.SharedT) : He.AlD := He.obsDG 5 fa fn (HandSHeadRun.getT s)
theorem ob_eq (s : PySem.W.SharedT) : ob s = hk.obs s.abs := He.obsDG_eq (HandSHeadRun.getT_eq s)
theorem run (w : World) : HandSHeadRun.RunEq R (PySem.W.view R.prog [10]) hk ob 30000 loose w := by
  intro os
  kernel_rfl
theorem facts {P : Program} {w : World} {K : Fg} {h : Heap} {mg : Str → Option Value} {f : Addr} (X : K.In h) (G : h.Ns mainGlobals mg) (hfa : mg ("law" : Str) = some (.ref f)) (c : He.SaysD fa fn K) :
    ∃ fd : FuncData, (∀ (s : Shared) (v : Value), BindsTo s fd ⟨[v], []⟩ [("_law_script", v)]) ∧ ∀ base : Heap, K.In base → base.Ns mainGlobals mg → FnOk P w K mg base CX0 4 f fd ["_law_script"] (sp_law K) := by
  obtain ⟨fd0, F0⟩ := c.def_ 0 (d := mkD "joined_stretches" s_joined_stretches) rfl
  obtain ⟨fd1, F1⟩ := c.def_ 1 (d := mkD "is_open" s_is_open) rfl
  obtain ⟨fd2, F2⟩ := c.def_ 2 (d := mkD "next_open" s_next_open) rfl
  obtain ⟨fd3, F3⟩ := c.def_ 3 (d := mkD "last_open" s_last_open) rfl
  obtain ⟨fd4, F4⟩ := c.def_ 4 (d := mkD "_law_cell_at" s_L_cell_at) rfl
  obtain ⟨fd5, F5⟩ := c.def_ 5 (d := mkD "_law_stretch" s_L_stretch) rfl
  obtain ⟨fd6, F6⟩ := c.def_ 6 (d := mkD "_law_between_shut" s_L_between_shut) rfl
  obtain ⟨fd7, F7⟩ := c.def_ 7 (d := mkD "_law_one_good" s_L_one_good) rfl
  obtain ⟨fd8, F8⟩ := c.def_ 8 (d := mkD "law" s_law) rfl
  have e := hfa.symm.trans (He.glo_ok X G (c.fact 8 (f := .glo "law") rfl))
  cases e
  have b := FunD.bindsA (ps := ["_law_script"]) F8 fun _ _ _ _ _ _ us hl => match us, hl with | [_], _ => rfl
  have B : Blt mg := ⟨He.free_ok X G (c.fact 9 (f := .free "len") rfl), He.free_ok X G (c.fact 10 (f := .free "range") rfl), He.free_ok X G (c.fact 11 (f := .free "list") rfl), He.free_ok X G (c.fact 12 (f := .free "tuple") rfl), He.free_ok X G (c.fact 13 (f := .free "isinstance") rfl), He.free_ok X G (c.fact 14 (f := .free "int") rfl), He.free_ok X G (c.fact 15 (f := .free "bool") rfl), He.free_ok X G (c.fact 16 (f := .free "max") rfl), He.free_ok X G (c.fact 17 (f := .free "min") rfl), He.free_ok X G (c.fact 18 (f := .free "sorted") rfl), He.free_ok X G (c.fact 19 (f := .free "enumerate") rfl), He.free_ok X G (c.fact 20 (f := .free "zip") rfl), He.free_ok X G (c.fact 21 (f := .free "sum") rfl), He.free_ok X G (c.fact 22 (f := .free "all") rfl), He.free_ok X G (c.fact 23 (f := .free "any") rfl), He.free_ok X G (c.fact 24 (f := .free "set") rfl), He.free_ok X G (c.fact 25 (f := .free "abs") rfl), He.free_ok X G (c.fact 26 (f := .free "reversed") rfl), He.free_ok X G (c.fact 27 (f := .free "str") rfl), He.free_ok X G (c.fact 28 (f := .free "dict") rfl), He.free_ok X G (c.fact 29 (f := .free "ValueError") rfl)⟩
  have E0 : Env0 mg := ⟨B⟩
  refine ⟨fd8, fun s v => b s [v] rfl, fun base _ _ => ?_⟩
  have G_joined_stretches : FnG P w K mg base CX0 1 "joined_stretches" (sp_joined_stretches K) := ok_joined_stretches F0 (He.glo_ok X G (c.fact 0 (f := .glo "joined_stretches") rfl)) E0 
  have G_is_open : FnG P w K mg base CX0 1 "is_open" (sp_is_open K) := ok_is_open F1 (He.glo_ok X G (c.fact 1 (f := .glo "is_open") rfl)) E0 
  have G_next_open : FnG P w K mg base CX0 2 "next_open" (sp_next_open K) := ok_next_open F2 (He.glo_ok X G (c.fact 2 (f := .glo "next_open") rfl)) E0 G_joined_stretches
  have G_last_open : FnG P w K mg base CX0 2 "last_open" (sp_last_open K) := ok_last_open F3 (He.glo_ok X G (c.fact 3 (f := .glo "last_open") rfl)) E0 G_joined_stretches
  have G__law_cell_at : FnG P w K mg base CX0 1 "_law_cell_at" (sp_L_cell_at K) := ok_L_cell_at F4 (He.glo_ok X G (c.fact 4 (f := .glo "_law_cell_at") rfl)) E0 
  have G__law_stretch : FnG P w K mg base CX0 1 "_law_stretch" (sp_L_stretch K) := ok_L_stretch F5 (He.glo_ok X G (c.fact 5 (f := .glo "_law_stretch") rfl)) E0 
  have G__law_between_shut : FnG P w K mg base CX0 2 "_law_between_shut" (sp_L_between_shut K) := ok_L_between_shut F6 (He.glo_ok X G (c.fact 6 (f := .glo "_law_between_shut") rfl)) E0 G_is_open
  have G__law_one_good : FnG P w K mg base CX0 3 "_law_one_good" (sp_L_one_good K) := ok_L_one_good F7 (He.glo_ok X G (c.fact 7 (f := .glo "_law_one_good") rfl)) E0 G_next_open G_last_open G_is_open G__law_between_shut
  exact ok_law F8 (He.glo_ok X G (c.fact 8 (f := .glo "law") rfl)) E0 G__law_stretch G_joined_stretches G__law_cell_at G__law_one_good G_last_open G_next_open
end LW
open PySem PySem.W PySem.Calls PyProof.Rows
theorem PySem.Challenge.cw_wakeorder_k13_whole_openings_holds : PySem.Challenge.rw_wakeorder_k13_whole_openings.Holds := by
  w_on; o_law
  refine HandSHeadRun.head_any (r := OpenLaw.row PySem.Challenge.rw_wakeorder_k13_whole_openings) (q := view (OpenLaw.row PySem.Challenge.rw_wakeorder_k13_whole_openings).prog [10]) (H := LW.hk) (ob := LW.ob) (M := 30000) (loose := LW.loose) (d := HandSHeadRun.topDef (OpenLaw.row PySem.Challenge.rw_wakeorder_k13_whole_openings).prog 10) (kwd := []) LW.ob_eq
    (by kernel_rfl) (fun s => by kernel_rfl) LW.run (by kernel_rfl) (by kernel_rfl) (by kernel_rfl) (by rfl) (by first | assumption | decide +kernel) (by decide +kernel) ⟨rfl, rfl, rfl, rfl, rfl, by decide +kernel⟩ ?hw ?hc
  case hw => w_witness2
  case hc =>
    refine L2.walk_ofE (l := PySem.Challenge.rw_wakeorder_k13_whole_openings) (n := 63) (k := 4) (x := "_law_script") (CX := L2.CX0) rfl (by decide) (by kernel_rfl) ⟨rfl, by decide, by decide⟩ ?F (fun _ _ _ _ z => z)
    intro w mg fa h Y G hmg0
    obtain ⟨K, KX, c⟩ := Y
    have hmg : mg ("law" : PySem.Str) = some (.ref fa) := by
      have e : (HandSHeadRun.topDef (OpenLaw.row PySem.Challenge.rw_wakeorder_k13_whole_openings).prog 10).name = ("law" : PySem.Str) := by kernel_rfl
      rw [← e]
      exact hmg0
    obtain ⟨fd, hb, hF⟩ := LW.facts (P := (PySem.Challenge.rw_wakeorder_k13_whole_openings).prog) (w := w) KX G hmg c
    exact ⟨K, fd, LW.sp_law K, KX, hb, fun H a ns hl hO hS => LW.law_spec hl hO hS, hF⟩

