import PyProof.Rows.All
import Wide.All
import OpenK.AllK
import Wide.FinOn
import KE.KStateDown
import HandS.ForMost
import HandS.Exc
import HandS.WordsExc
import HandS.Flow
import HandS.Style
import HandS.Wide
import HandS.IsInst
import HandS.Deep
import HandS.RevRange
import HandS.TupAny
import HandS.TupLe
import HandS.Conv
import HandS.Evl
import KE.SortData
import HandS.Defaults
import HandS.More
import HandS.SortKw
import KE.DataMinMax
import KE.DataCmp
import KE.DataEq
import HandS.ClsMeth
import HandS.HeadHook1
import HandS.HeadHook2
import HandS.ExcInit
import HandS.ExcIs
import HandS.ExcField
import HandS.ExcOwn
import HandS.TryMany
import HandS.TryOnly
import HandS.DeepEq
import HandS.HeadHook3
import HandS.HeadHook4
import HandS.Head0
import HandS.Head1
import HandS.Head2
import HandS.HeadEnd
import PySem.Challenge.RW_wakeorder_k03_no_gaps
set_option Elab.async false
set_option linter.all false
set_option maxRecDepth 100000
set_option maxHeartbeats 4000000
namespace GL
open PySem L2
open Evl (Ex ex_l ex_t)
abbrev Fg := PySem.W.Frag

/-! ### growth: F the settled part of the heap H -/
structure Gr (F H F' H' : Hp) : Prop where
  f : Ex F F'
  h : Ex H H'
  s : Ex F' H'
  n : ∀ a, F a = none → H a ≠ none → F' a = none
theorem Gr.refl {F H : Hp} (s : Ex F H) : Gr F H F H := ⟨Ex.refl F, Ex.refl H, s, fun _ h _ => h⟩
theorem Gr.trans {F H F1 H1 F2 H2 : Hp} (a : Gr F H F1 H1) (b : Gr F1 H1 F2 H2) : Gr F H F2 H2 :=
  ⟨a.f.trans b.f, a.h.trans b.h, b.s, fun x h1 h2 => b.n x (a.n x h1 h2) (by
    cases e : H x with
    | none => exact absurd e h2
    | some o => rw [a.h x o e]; exact fun z => nomatch z)⟩
/-- only the heap grew -/
theorem Gr.hp {F H H' : Hp} (s : Ex F H) (h : Ex H H') : Gr F H F H' := ⟨Ex.refl F, h, s.trans h, fun _ z _ => z⟩
/-- a new object, settled -/
theorem Gr.new {F H : Hp} {p : Addr} {o : HO} (s : Ex F H) (hp : H p = none) : Gr F H (upd F p o) (upd H p o) := by
  have fp : F p = none := by
    cases e : F p with
    | none => rfl
    | some u => rw [s p u e] at hp; cases hp
  refine ⟨Ex.new fp, Ex.new hp, fun a u e => ?_, fun a h1 h2 => ?_⟩
  · by_cases q : a = p
    · subst q; rw [upd_same] at e ⊢; exact e
    · rw [upd_ne q] at e ⊢; exact s a u e
  · have q : a ≠ p := fun z => h2 (by rw [z]; exact hp)
    rw [upd_ne q]; exact h1
/-- a new object, one's own -/
theorem Gr.own {F H : Hp} {p : Addr} {o : HO} (s : Ex F H) (hp : H p = none) : Gr F H F (upd H p o) := Gr.hp s (Ex.new hp)
/-- one's own object settled -/
theorem Gr.settle {F H : Hp} {p : Addr} {o : HO} (s : Ex F H) (fp : F p = none) (hp : H p = some o) : Ex F (upd F p o) ∧ Ex (upd F p o) H := by
  refine ⟨Ex.new fp, fun a u e => ?_⟩
  by_cases q : a = p
  · subst q; rw [upd_same] at e; rw [← e]; exact hp
  · rw [upd_ne q] at e; exact s a u e

/-! ### what is said of a value, as long as the settled part grows -/
structure MP where
  p : Hp → V → Prop
  mono : ∀ F F' v, Ex F F' → p F v → p F' v
mutual
/-- a datum at a value: lists tracked, tuples readable -/
inductive Dq (K : Fg) (F : Hp) : V → PyData → Prop
  | non : Dq K F .non .none
  | bl (b : Bool) : Dq K F (.bl b) (.bool b)
  | int (i : Int) : Dq K F (.int i) (.int i)
  | str (x : Str) : Dq K F (.str x) (.str x)
  | lst {a : Addr} {xs : List V} {ds : List PyData} : F a = some (.lst xs) → DqAll K F xs ds → Dq K F (.ref a) (.list ds)
  | tup {a : Addr} {xs : List V} {ds : List PyData} : SqT K F a xs → DqAll K F xs ds → Dq K F (.ref a) (.tuple ds)
  | dct {a : Addr} : F a = some (.dK []) → Dq K F (.ref a) (.dict [])
inductive DqAll (K : Fg) (F : Hp) : List V → List PyData → Prop
  | nil : DqAll K F [] []
  | cons {v : V} {vs : List V} {d : PyData} {ds : List PyData} : Dq K F v d → DqAll K F vs ds → DqAll K F (v :: vs) (d :: ds)
end
mutual
theorem dq_mono {K : Fg} {F F' : Hp} (e : Ex F F') : ∀ (d : PyData) (v : V), Dq K F v d → Dq K F' v d
  | .none, _, h => by cases h; exact .non
  | .bool b, _, h => by cases h; exact .bl b
  | .int i, _, h => by cases h; exact .int i
  | .str x, _, h => by cases h; exact .str x
  | .list ds, _, h => by
    cases h with
    | lst hs ha => exact .lst (e _ _ hs) (dqAll_mono e ds _ ha)
  | .tuple ds, _, h => by
    cases h with
    | tup hs ha => exact .tup (ex_t e hs) (dqAll_mono e ds _ ha)
  | .dict _, _, h => by
    cases h with
    | dct hs => exact .dct (e _ _ hs)
theorem dqAll_mono {K : Fg} {F F' : Hp} (e : Ex F F') : ∀ (ds : List PyData) (vs : List V), DqAll K F vs ds → DqAll K F' vs ds
  | [], _, h => by cases h; exact .nil
  | d :: ds, _, h => by
    cases h with
    | cons h1 h2 => exact .cons (dq_mono e d _ h1) (dqAll_mono e ds _ h2)
end
mutual
theorem dq_dp {K : Fg} {F : Hp} : ∀ (d : PyData) (v : V), d.canLay0 = true → Dq K F v d → Dp K F v d
  | .none, _, _, h => by cases h; exact .non
  | .bool b, _, _, h => by cases h; exact .bl b
  | .int i, _, _, h => by cases h; exact .int i
  | .str x, _, _, h => by cases h; exact .str x
  | .list ds, _, c, h => by
    cases h with
    | lst hs ha => exact .lst (SqL.of hs) (dqAll_dp ds _ (by simpa [PyData.canLay0] using c) ha)
  | .tuple ds, _, c, h => by
    cases h with
    | tup hs ha => exact .tup hs (dqAll_dp ds _ (by simpa [PyData.canLay0] using c) ha)
  | .dict _, _, c, h => by simp [PyData.canLay0] at c
theorem dqAll_dp {K : Fg} {F : Hp} : ∀ (ds : List PyData) (vs : List V), PyData.canLayAll0 ds = true → DqAll K F vs ds → DpAll K F vs ds
  | [], _, _, h => by cases h; exact .nil
  | d :: ds, _, c, h => by
    have c' : d.canLay0 = true ∧ PyData.canLayAll0 ds = true := by simpa [PyData.canLayAll0] using c
    cases h with
    | cons h1 h2 => exact .cons (dq_dp d _ c'.1 h1) (dqAll_dp ds _ c'.2 h2)
end
mutual
theorem dp_mono {K : Fg} {F F' : Hp} (e : Ex F F') : ∀ (d : PyData) (v : V), Dp K F v d → Dp K F' v d
  | .none, _, h => by cases h; exact .non
  | .bool b, _, h => by cases h; exact .bl b
  | .int i, _, h => by cases h; exact .int i
  | .str x, _, h => by cases h; exact .str x
  | .list ds, _, h => by
    cases h with
    | lst hs ha => exact .lst (ex_l e hs) (dpAll_mono e ds _ ha)
  | .tuple ds, _, h => by
    cases h with
    | tup hs ha => exact .tup (ex_t e hs) (dpAll_mono e ds _ ha)
  | .dict _, _, h => by cases h
theorem dpAll_mono {K : Fg} {F F' : Hp} (e : Ex F F') : ∀ (ds : List PyData) (vs : List V), DpAll K F vs ds → DpAll K F' vs ds
  | [], _, h => by cases h; exact .nil
  | d :: ds, _, h => by
    cases h with
    | cons h1 h2 => exact .cons (dp_mono e d _ h1) (dpAll_mono e ds _ h2)
end
/-- a datum -/
def py (K : Fg) (d : PyData) : MP := ⟨fun F v => Dq K F v d, fun _ _ v e h => dq_mono e d v h⟩
/-- a datum that is only compared -/
def dp (K : Fg) (d : PyData) : MP := ⟨fun F v => Dp K F v d, fun _ _ v e h => dp_mono e d v h⟩
/-- the script -/
def scrP (K : Fg) (ns : List Int) : MP := ⟨fun F v => ∃ a, v = .ref a ∧ SqL K F a (ns.map V.int), fun _ _ _ e ⟨a, h1, h2⟩ => ⟨a, h1, ex_l e h2⟩⟩
def AllP (Ps : List MP) (F : Hp) (vs : List V) : Prop := vs.length = Ps.length ∧ ∀ (i : Nat) (P : MP) (v : V), Ps[i]? = some P → vs[i]? = some v → P.p F v
theorem AllP.mono {Ps : List MP} {F F' : Hp} {vs : List V} (e : Ex F F') (h : AllP Ps F vs) : AllP Ps F' vs := ⟨h.1, fun i P v h1 h2 => P.mono F F' v e (h.2 i P v h1 h2)⟩
theorem AllP.nil {F : Hp} : AllP [] F [] := ⟨rfl, fun i P v h => by simp at h⟩
theorem AllP.cons {P : MP} {Ps : List MP} {F : Hp} {v : V} {vs : List V} (h : P.p F v) (hs : AllP Ps F vs) : AllP (P :: Ps) F (v :: vs) :=
  ⟨by simp [hs.1], fun i Q u h1 h2 => by
    cases i with
    | zero => simp at h1 h2; subst h1; subst h2; exact h
    | succ i => exact hs.2 i Q u (by simpa using h1) (by simpa using h2)⟩
theorem AllP.inv {P : MP} {Ps : List MP} {F : Hp} {us : List V} (h : AllP (P :: Ps) F us) : ∃ v vs, us = v :: vs ∧ P.p F v ∧ AllP Ps F vs := by
  obtain ⟨h1, h2⟩ := h
  cases us with
  | nil => simp at h1
  | cons v vs => exact ⟨v, vs, rfl, h2 0 P v rfl rfl, by simpa using h1, fun i Q u a b => h2 (i + 1) Q u (by simpa using a) (by simpa using b)⟩
theorem AllP.inv0 {F : Hp} {us : List V} (h : AllP [] F us) : us = [] := by
  cases us with
  | nil => rfl
  | cons v vs => exact absurd h.1 (by simp)
theorem AllP.snoc {Ps : List MP} {P : MP} {F : Hp} {vs : List V} {v : V} (hs : AllP Ps F vs) (h : P.p F v) : AllP (Ps ++ [P]) F (vs ++ [v]) := by
  refine ⟨by simp [hs.1], fun i Q u h1 h2 => ?_⟩
  by_cases hi : i < vs.length
  · rw [List.getElem?_append_left hi] at h2
    rw [List.getElem?_append_left (by rw [← hs.1]; exact hi)] at h1
    exact hs.2 i Q u h1 h2
  · rw [List.getElem?_append_right (by omega)] at h2
    rw [List.getElem?_append_right (by rw [← hs.1]; omega)] at h1
    have e : i - vs.length = 0 := by
      have := (List.getElem?_eq_some_iff.mp h2).1
      simp at this; omega
    rw [← hs.1, e] at h1
    rw [e] at h2
    simp at h1 h2
    subst h1; subst h2; exact h
theorem dqAll_allP {K : Fg} {F : Hp} : ∀ {ds : List PyData} {vs : List V}, DqAll K F vs ds → AllP (ds.map (py K)) F vs
  | [], _, h => by cases h; exact .nil
  | d :: ds, _, h => by
    cases h with
    | cons h1 h2 => exact .cons h1 (dqAll_allP h2)
theorem allP_dqAll {K : Fg} {F : Hp} : ∀ {ds : List PyData} {vs : List V}, AllP (ds.map (py K)) F vs → DqAll K F vs ds
  | [], vs, h => by rw [h.inv0]; exact .nil
  | d :: ds, vs, h => by
    obtain ⟨v, us, rfl, h1, h2⟩ := AllP.inv (P := py K d) (Ps := ds.map (py K)) h
    exact .cons h1 (allP_dqAll h2)
/-- a list, a tuple of such -/
def lstP (Ps : List MP) : MP := ⟨fun F v => ∃ a vs, v = .ref a ∧ F a = some (.lst vs) ∧ AllP Ps F vs, fun _ _ _ e ⟨a, vs, h1, h2, h3⟩ => ⟨a, vs, h1, e _ _ h2, h3.mono e⟩⟩
def tupP (K : Fg) (Ps : List MP) : MP := ⟨fun F v => ∃ a vs, v = .ref a ∧ SqT K F a vs ∧ AllP Ps F vs, fun _ _ _ e ⟨a, vs, h1, h2, h3⟩ => ⟨a, vs, h1, ex_t e h2, h3.mono e⟩⟩
theorem py_list {K : Fg} {F : Hp} {v : V} {ds : List PyData} : (py K (.list ds)).p F v ↔ (lstP (ds.map (py K))).p F v := by
  constructor
  · intro h
    cases h with
    | lst hs ha => exact ⟨_, _, rfl, hs, dqAll_allP ha⟩
  · rintro ⟨a, vs, rfl, hs, ha⟩
    exact .lst hs (allP_dqAll ha)
theorem py_tuple {K : Fg} {F : Hp} {v : V} {ds : List PyData} : (py K (.tuple ds)).p F v ↔ (tupP K (ds.map (py K))).p F v := by
  constructor
  · intro h
    cases h with
    | tup hs ha => exact ⟨_, _, rfl, hs, dqAll_allP ha⟩
  · rintro ⟨a, vs, rfl, hs, ha⟩
    exact .tup hs (allP_dqAll ha)

/-! ### slots -/
/-- an object of one's own, of any make: its addresses; what is said of it -/
structure OP where
  fp : Hp → Addr → List Addr
  p : Hp → Hp → Addr → Prop
  fpk : ∀ H H' l, (∀ a ∈ fp H l, H' a = H a) → fp H' l = fp H l
  frame : ∀ F F' H H' l, Ex F F' → (∀ a ∈ fp H l, H' a = H a) → p F H l → p F' H' l
  lay : ∀ F H l, p F H l → ∀ a ∈ fp H l, ∀ fs, H a ≠ some (.xd fs)
inductive SD where
  | un
  | im (P : MP)
  | ow (Ps : List MP)
  | ob (P : OP)
def SD.ok (H0 F H : Hp) (o : Option V) : SD → Prop
  | .un => True
  | .im P => ∃ v, o = some v ∧ P.p F v
  | .ow Ps => ∃ l vs, o = some (.ref l) ∧ H0 l = none ∧ F l = none ∧ H l = some (.lst vs) ∧ AllP Ps F vs
  | .ob P => ∃ l, o = some (.ref l) ∧ (P.fp H l).Nodup ∧ (∀ a ∈ P.fp H l, H0 a = none ∧ F a = none ∧ H a ≠ none) ∧ P.p F H l
def SD.isOw : SD → Bool
  | .ow _ => true
  | .ob _ => true
  | _ => false
/-- the addresses that are a slot's own -/
def SD.fo (H : Hp) : SD → Option V → List Addr
  | .ow _, some (.ref l) => [l]
  | .ob P, some (.ref l) => P.fp H l
  | _, _ => []
theorem SD.fo_un {H : Hp} {d : SD} {o : Option V} (h : d.isOw = false) : d.fo H o = [] := by
  cases d <;> first | (cases h; done) | rfl
structure Sl (H0 : Hp) (Φ : List SD) (σ : St) (F H : Hp) : Prop where
  len : σ.length = Φ.length
  at_ : ∀ (i : Nat) (d : SD) (o : Option V), Φ[i]? = some d → σ[i]? = some o → d.ok H0 F H o
  apart : ∀ (i j : Nat) (d e : SD) (o o' : Option V) (a : Addr), i ≠ j → Φ[i]? = some d → Φ[j]? = some e → σ[i]? = some o → σ[j]? = some o' → a ∈ d.fo H o → a ∈ e.fo H o' → False
section
variable {H0 F H F' H' : Hp} {Φ : List SD} {σ : St}
theorem ne_none {o : HO} {a : Addr} (e : H a = some o) : H a ≠ none := fun z => by rw [z] at e; cases e
theorem SD.alive {d : SD} {o : Option V} (h : d.ok H0 F H o) {a : Addr} (ha : a ∈ d.fo H o) : H0 a = none ∧ F a = none ∧ H a ≠ none := by
  cases d with
  | un => cases ha
  | im P => cases ha
  | ow Ps =>
    obtain ⟨l, vs, rfl, h1, h2, h3, _⟩ := h
    have ha : a ∈ [l] := ha
    rw [List.mem_singleton.mp ha]; exact ⟨h1, h2, ne_none h3⟩
  | ob P =>
    obtain ⟨l, rfl, _, h2, _⟩ := h
    exact h2 a ha
/-- a slot whose own addresses are let alone -/
theorem SD.ok_at {d : SD} {o : Option V} (h : d.ok H0 F H o) (hF : Ex F F') (hk : ∀ a ∈ d.fo H o, H' a = H a ∧ F' a = none) : d.ok H0 F' H' o ∧ d.fo H' o = d.fo H o := by
  cases d with
  | un => exact ⟨trivial, rfl⟩
  | im P => obtain ⟨v, h1, h2⟩ := h; exact ⟨⟨v, h1, P.mono _ _ _ hF h2⟩, rfl⟩
  | ow Ps =>
    obtain ⟨l, vs, rfl, h2, h3, h4, h5⟩ := h
    have hl := hk l (List.mem_singleton.mpr rfl)
    exact ⟨⟨l, vs, rfl, h2, hl.2, hl.1.trans h4, h5.mono hF⟩, rfl⟩
  | ob P =>
    obtain ⟨l, rfl, h2, h3, h4⟩ := h
    have e := P.fpk H H' l fun a ha => (hk a ha).1
    refine ⟨⟨l, rfl, by rw [e]; exact h2, fun a ha => ?_, P.frame F F' H H' l hF (fun a ha => (hk a ha).1) h4⟩, e⟩
    rw [e] at ha
    exact ⟨(h3 a ha).1, (hk a ha).2, by rw [(hk a ha).1]; exact (h3 a ha).2.2⟩
theorem SD.ok_gr' {d : SD} {o : Option V} (g : Gr F H F' H') (h : d.ok H0 F H o) : d.ok H0 F' H' o ∧ d.fo H' o = d.fo H o := SD.ok_at h g.f fun a ha => by
  have z := SD.alive h ha
  cases e : H a with
  | none => exact absurd e z.2.2
  | some u => exact ⟨g.h a u e, g.n a z.2.1 z.2.2⟩
theorem SD.ok_gr {d : SD} {o : Option V} (g : Gr F H F' H') (h : d.ok H0 F H o) : d.ok H0 F' H' o := (SD.ok_gr' g h).1
theorem Sl.gr (g : Gr F H F' H') (h : Sl H0 Φ σ F H) : Sl H0 Φ σ F' H' := ⟨h.len, fun i d o a b => SD.ok_gr g (h.at_ i d o a b), fun i j d e o o' a hij x y u v p q => by
  rw [(SD.ok_gr' g (h.at_ i d o x u)).2] at p
  rw [(SD.ok_gr' g (h.at_ j e o' y v)).2] at q
  exact h.apart i j d e o o' a hij x y u v p q⟩
theorem Sl.get {i : Nat} {d : SD} (h : Sl H0 Φ σ F H) (e : Φ[i]? = some d) : ∃ o, σ[i]? = some o ∧ d.ok H0 F H o := by
  have hi : i < σ.length := by rw [h.len]; exact (List.getElem?_eq_some_iff.mp e).1
  exact ⟨σ[i], List.getElem?_eq_getElem hi, h.at_ i d _ e (List.getElem?_eq_getElem hi)⟩
theorem Sl.im {i : Nat} {P : MP} (h : Sl H0 Φ σ F H) (e : Φ[i]? = some (.im P)) : ∃ v, σ[i]? = some (some v) ∧ P.p F v := by
  obtain ⟨o, h1, v, rfl, h2⟩ := h.get e
  exact ⟨v, h1, h2⟩
theorem Sl.ow {i : Nat} {Ps : List MP} (h : Sl H0 Φ σ F H) (e : Φ[i]? = some (.ow Ps)) : ∃ l vs, σ[i]? = some (some (.ref l)) ∧ H0 l = none ∧ F l = none ∧ H l = some (.lst vs) ∧ AllP Ps F vs := by
  obtain ⟨o, h1, l, vs, rfl, h2⟩ := h.get e
  exact ⟨l, vs, h1, h2⟩
theorem Sl.ob {i : Nat} {P : OP} (h : Sl H0 Φ σ F H) (e : Φ[i]? = some (.ob P)) : ∃ l, σ[i]? = some (some (.ref l)) ∧ (P.fp H l).Nodup ∧ (∀ a ∈ P.fp H l, H0 a = none ∧ F a = none ∧ H a ≠ none) ∧ P.p F H l := by
  obtain ⟨o, h1, l, rfl, h2⟩ := h.get e
  exact ⟨l, h1, h2⟩
theorem set_at {α : Type} {l : List α} {i j : Nat} {x y : α} (h : (l.set i x)[j]? = some y) : (i = j ∧ y = x) ∨ (i ≠ j ∧ l[j]? = some y) := by
  by_cases q : i = j
  · subst q
    rw [List.getElem?_set_self (by simpa using (List.getElem?_eq_some_iff.mp h).1)] at h
    cases h; exact .inl ⟨rfl, rfl⟩
  · rw [List.getElem?_set_ne q] at h; exact .inr ⟨q, h⟩
/-- a slot set anew: what is its own is nobody's else -/
theorem Sl.put {i : Nat} {d : SD} {o : Option V} (h : Sl H0 Φ σ F H) (hd : d.ok H0 F H o) (new : ∀ (j : Nat) (e : SD) (o' : Option V) (a : Addr), j ≠ i → Φ[j]? = some e → σ[j]? = some o' → a ∈ d.fo H o → a ∈ e.fo H o' → False) : Sl H0 (Φ.set i d) (σ.set i o) F H := by
  refine ⟨by simp [h.len], fun j e u a b => ?_, fun j k e e' u u' x hjk a b f g p q => ?_⟩
  · rcases set_at a with ⟨q, rfl⟩ | ⟨q, a⟩
    · rcases set_at b with ⟨_, rfl⟩ | ⟨q', _⟩
      · exact hd
      · exact absurd q q'
    · rcases set_at b with ⟨q', _⟩ | ⟨_, b⟩
      · exact absurd q' q
      · exact h.at_ j e u a b
  · rcases set_at a with ⟨q1, rfl⟩ | ⟨q1, a'⟩
    · rcases set_at f with ⟨_, rfl⟩ | ⟨z, _⟩
      · rcases set_at b with ⟨z, _⟩ | ⟨_, b'⟩
        · exact hjk (q1.symm.trans z)
        · rcases set_at g with ⟨z, _⟩ | ⟨_, g'⟩
          · exact hjk (q1.symm.trans z)
          · exact new k e' u' x (fun z => hjk (q1.symm.trans z.symm)) b' g' p q
      · exact z q1
    · rcases set_at f with ⟨z, _⟩ | ⟨_, f'⟩
      · exact q1 z
      · rcases set_at b with ⟨q2, rfl⟩ | ⟨q2, b'⟩
        · rcases set_at g with ⟨_, rfl⟩ | ⟨z, _⟩
          · exact new j e u x (fun z => hjk (z.trans q2)) a' f' q p
          · exact z q2
        · rcases set_at g with ⟨z, _⟩ | ⟨_, g'⟩
          · exact q2 z
          · exact h.apart j k e e' u u' x hjk a' b' f' g' p q
/-- a slot set to a settled value (or forgotten) -/
theorem Sl.set {i : Nat} {d : SD} {o : Option V} (h : Sl H0 Φ σ F H) (hd : d.ok H0 F H o) (ho : d.isOw = false) : Sl H0 (Φ.set i d) (σ.set i o) F H := h.put hd fun j e o' a _ _ _ z _ => by rw [SD.fo_un ho] at z; cases z
/-- a slot set to a new list of one's own -/
theorem Sl.setOw {i : Nat} {Ps : List MP} {l : Addr} {vs : List V} (h : Sl H0 Φ σ F H) (hl0 : H0 l = none) (hF : F l = none) (hH : H l = some (.lst vs)) (hP : AllP Ps F vs)
    (new : ∀ j e o', Φ[j]? = some e → σ[j]? = some o' → j ≠ i → l ∉ e.fo H o') : Sl H0 (Φ.set i (.ow Ps)) (σ.set i (some (.ref l))) F H := h.put ⟨l, vs, rfl, hl0, hF, hH, hP⟩ fun j e o' a hj x y p q => by
  have p : a ∈ [l] := p
  rw [List.mem_singleton.mp p] at q
  exact new j e o' x y hj q
/-- new lists are nobody's: l wasn't there -/
theorem Sl.new {l : Addr} {i : Nat} {F1 H1 : Hp} (h : Sl H0 Φ σ F H) (g : Gr F H F1 H1) (hl : H l = none) : ∀ j e o', Φ[j]? = some e → σ[j]? = some o' → j ≠ i → l ∉ e.fo H1 o' := fun j e o' a b _ z => by
  rw [(SD.ok_gr' g (h.at_ j e o' a b)).2] at z
  exact (SD.alive (h.at_ j e o' a b) z).2.2 hl
/-- what stands at slot i changes; the other slots' own things don't -/
theorem Sl.change {i : Nat} {d d' : SD} {o : Option V} (h : Sl H0 Φ σ F H) (e : Φ[i]? = some d) (hσ : σ[i]? = some o) (hF : Ex F F')
    (hk : ∀ (j : Nat) (c : SD) (o' : Option V) (a : Addr), j ≠ i → Φ[j]? = some c → σ[j]? = some o' → a ∈ c.fo H o' → H' a = H a ∧ F' a = none) (hd : d'.ok H0 F' H' o) (hs : ∀ a ∈ d'.fo H' o, a ∈ d.fo H o ∨ H a = none) : Sl H0 (Φ.set i d') σ F' H' := by
  have keep : ∀ (j : Nat) (c : SD) (o' : Option V), j ≠ i → Φ[j]? = some c → σ[j]? = some o' → c.ok H0 F' H' o' ∧ c.fo H' o' = c.fo H o' := fun j c o' hj x y => SD.ok_at (h.at_ j c o' x y) hF fun a ha => hk j c o' a hj x y ha
  have cross : ∀ (j : Nat) (c : SD) (o' : Option V) (a : Addr), j ≠ i → Φ[j]? = some c → σ[j]? = some o' → a ∈ d'.fo H' o → a ∈ c.fo H' o' → False := fun j c o' a hj x y p q => by
    rw [(keep j c o' hj x y).2] at q
    rcases hs a p with z | z
    · exact h.apart i j d c o o' a (fun w => hj w.symm) e x hσ y z q
    · exact (SD.alive (h.at_ j c o' x y) q).2.2 z
  refine ⟨by simp [h.len], fun j c u a b => ?_, fun j k c c' u u' x hjk a b f g p q => ?_⟩
  · rcases set_at a with ⟨z, rfl⟩ | ⟨z, a⟩
    · subst z; rw [hσ] at b; cases b; exact hd
    · exact (keep j c u (fun w => z w.symm) a b).1
  · rcases set_at a with ⟨z1, rfl⟩ | ⟨z1, a'⟩
    · subst z1
      rw [hσ] at f; cases f
      rcases set_at b with ⟨z2, _⟩ | ⟨z2, b'⟩
      · exact hjk z2
      · exact cross k c' u' x (fun w => z2 w.symm) b' g p q
    · rcases set_at b with ⟨z2, rfl⟩ | ⟨z2, b'⟩
      · subst z2
        rw [hσ] at g; cases g
        exact cross j c u x (fun w => z1 w.symm) a' f q p
      · rw [(keep j c u (fun w => z1 w.symm) a' f).2] at p
        rw [(keep k c' u' (fun w => z2 w.symm) b' g).2] at q
        exact h.apart j k c c' u u' x hjk a' b' f g p q
/-- a list of one's own and another slot's things -/
theorem Sl.ow_out {i j : Nat} {Ps : List MP} {l a : Addr} {c : SD} {o' : Option V} (h : Sl H0 Φ σ F H) (hj : j ≠ i) (e : Φ[i]? = some (.ow Ps)) (hσ : σ[i]? = some (some (.ref l))) (x : Φ[j]? = some c) (y : σ[j]? = some o') (q : a ∈ c.fo H o') : a ≠ l := fun z => by
  subst z
  exact h.apart i j _ _ _ _ a (fun w => hj w.symm) e x hσ y (List.mem_singleton.mpr rfl) q
/-- one's own list at slot i written -/
theorem Sl.write {i : Nat} {Ps Qs : List MP} {l : Addr} {vs : List V} (h : Sl H0 Φ σ F H) (e : Φ[i]? = some (.ow Ps)) (hσ : σ[i]? = some (some (.ref l))) (hl0 : H0 l = none) (hF : F l = none) (hP : AllP Qs F vs) :
    Sl H0 (Φ.set i (.ow Qs)) σ F (upd H l (.lst vs)) := h.change e hσ (Ex.refl F) (fun j c o' a hj x y q => ⟨upd_ne (h.ow_out hj e hσ x y q), (SD.alive (h.at_ j c o' x y) q).2.1⟩) ⟨l, vs, rfl, hl0, hF, upd_same, hP⟩ fun a ha => .inl ha
/-- one's own list at slot i settled, as P -/
theorem Sl.settleP {i : Nat} {Ps : List MP} {P : MP} {l : Addr} {vs : List V} (h : Sl H0 Φ σ F H) (s : Ex F H) (e : Φ[i]? = some (.ow Ps)) (hσ : σ[i]? = some (some (.ref l))) (hF : F l = none) (hH : H l = some (.lst vs)) (hP : P.p (upd F l (.lst vs)) (.ref l)) :
    Sl H0 (Φ.set i (.im P)) σ (upd F l (.lst vs)) H := by
  obtain ⟨x1, x2⟩ := Gr.settle s hF hH
  exact h.change e hσ x1 (fun j c o' a hj x y q => ⟨rfl, by rw [upd_ne (h.ow_out hj e hσ x y q)]; exact (SD.alive (h.at_ j c o' x y) q).2.1⟩) ⟨_, rfl, hP⟩ fun a ha => by cases ha
theorem Sl.settle {i : Nat} {Ps : List MP} {l : Addr} {vs : List V} (h : Sl H0 Φ σ F H) (s : Ex F H) (e : Φ[i]? = some (.ow Ps)) (hσ : σ[i]? = some (some (.ref l))) (hF : F l = none) (hH : H l = some (.lst vs)) (hP : AllP Ps F vs) :
    Sl H0 (Φ.set i (.im (lstP Ps))) σ (upd F l (.lst vs)) H := h.settleP s e hσ hF hH ⟨l, vs, rfl, upd_same, hP.mono (Gr.settle s hF hH).1⟩
end
end GL

set_option Elab.async false
set_option linter.all false
set_option maxRecDepth 100000
set_option maxHeartbeats 4000000
namespace GL
open PySem L2
open Evl (Ex ex_l ex_t)

/-! ### data of a type -/
class Py (α : Type) where
  enc : α → PyData
  dep : Nat
  deep : ∀ x : α, (enc x).depth ≤ dep
abbrev enc {α : Type} [Py α] (x : α) : PyData := Py.enc x
/-- == is = -/
class PyQ (α : Type) [Py α] where
  eqv : ∀ x y : α, PyData.eqv (enc x) (enc y) = true ↔ x = y
  can : ∀ x : α, (enc x).canLay0 = true
theorem eqv_dec {α : Type} [Py α] [PyQ α] [DecidableEq α] (x y : α) : PyData.eqv (enc x) (enc y) = decide (x = y) := by
  by_cases h : x = y
  · rw [(PyQ.eqv x y).mpr h, decide_eq_true h]
  · rw [decide_eq_false h]
    cases q : PyData.eqv (enc x) (enc y) with
    | false => rfl
    | true => exact absurd ((PyQ.eqv x y).mp q) h
theorem shaped_of {α : Type} [Py α] [PyQ α] (h : Py.dep α ≤ 64) (x : α) : SeqAt.shaped (enc x) = true := by
  unfold SeqAt.shaped
  rw [PyQ.can x, Bool.true_and]
  exact decide_eq_true (Nat.le_trans (Py.deep x) h)

instance : Py Int := ⟨.int, 0, fun _ => by simp [PyData.depth]⟩
instance : PyQ Int := ⟨fun x y => by simp [enc, Py.enc, PyData.eqv], fun x => by simp [enc, Py.enc, PyData.canLay0]⟩
instance : Py Bool := ⟨.bool, 0, fun _ => by simp [PyData.depth]⟩
instance : PyQ Bool := ⟨fun x y => by simp [enc, Py.enc, PyData.eqv], fun x => by simp [enc, Py.enc, PyData.canLay0]⟩
instance : Py Unit := ⟨fun _ => .none, 0, fun _ => by simp [PyData.depth]⟩
instance : PyQ Unit := ⟨fun x y => by simp [enc, Py.enc, PyData.eqv], fun x => by simp [enc, Py.enc, PyData.canLay0]⟩
theorem canAll {α : Type} [Py α] [PyQ α] : ∀ xs : List α, PyData.canLayAll0 (xs.map enc) = true
  | [] => by simp [PyData.canLayAll0]
  | x :: xs => by simp [PyData.canLayAll0, canAll xs, enc, (show (Py.enc x).canLay0 = true from PyQ.can x)]
theorem depAll {α : Type} [Py α] : ∀ xs : List α, PyData.depthAll (xs.map enc) ≤ Py.dep α
  | [] => by simp [PyData.depthAll]
  | x :: xs => by
    have h1 := Py.deep x
    have h2 := depAll xs
    simp only [List.map_cons, PyData.depthAll, enc] at *
    omega
theorem eqvAll_iff {α : Type} [Py α] [PyQ α] : ∀ xs ys : List α, PyData.eqvAll (xs.map enc) (ys.map enc) = true ↔ xs = ys
  | [], [] => by simp [PyData.eqvAll]
  | [], y :: ys => by simp [PyData.eqvAll]
  | x :: xs, [] => by simp [PyData.eqvAll]
  | x :: xs, y :: ys => by
    have h1 := PyQ.eqv x y
    have h2 := eqvAll_iff xs ys
    simp only [List.map_cons, PyData.eqvAll, Bool.and_eq_true, h1, h2, List.cons.injEq]
instance {α : Type} [Py α] : Py (List α) := ⟨fun xs => .list (xs.map enc), Py.dep α + 1, fun xs => by
  have := depAll xs
  simp only [PyData.depth]; omega⟩
instance {α : Type} [Py α] [PyQ α] : PyQ (List α) := ⟨fun xs ys => by
  show PyData.eqv (.list (xs.map enc)) (.list (ys.map enc)) = true ↔ _
  rw [PyData.eqv]; exact eqvAll_iff xs ys, fun xs => by
  show PyData.canLay0 (.list (xs.map enc)) = true
  simpa [PyData.canLay0] using canAll xs⟩
/-- a tuple of any length -/
structure Tup (α : Type) where
  l : List α
  deriving DecidableEq, Inhabited
instance {α : Type} [Py α] : Py (Tup α) := ⟨fun xs => .tuple (xs.l.map enc), Py.dep α + 1, fun xs => by
  have := depAll xs.l
  simp only [PyData.depth]; omega⟩
instance {α : Type} [Py α] [PyQ α] : PyQ (Tup α) := ⟨fun xs ys => by
  show PyData.eqv (.tuple (xs.l.map enc)) (.tuple (ys.l.map enc)) = true ↔ _
  rw [PyData.eqv, eqvAll_iff]
  cases xs; cases ys; simp, fun xs => by
  show PyData.canLay0 (.tuple (xs.l.map enc)) = true
  simpa [PyData.canLay0] using canAll xs.l⟩
instance {α β : Type} [Py α] [Py β] : Py (α × β) := ⟨fun p => .tuple [enc p.1, enc p.2], max (Py.dep α) (Py.dep β) + 1, fun p => by
  have := Py.deep p.1
  have := Py.deep p.2
  simp only [PyData.depth, PyData.depthAll, enc]; omega⟩
instance {α β : Type} [Py α] [Py β] [PyQ α] [PyQ β] : PyQ (α × β) := ⟨fun p q => by
  show PyData.eqv (.tuple [enc p.1, enc p.2]) (.tuple [enc q.1, enc q.2]) = true ↔ _
  have h1 := PyQ.eqv p.1 q.1
  have h2 := PyQ.eqv p.2 q.2
  simp only [PyData.eqv, PyData.eqvAll, Bool.and_true, Bool.and_eq_true, h1, h2]
  cases p; cases q; simp, fun p => by
  show PyData.canLay0 (.tuple [enc p.1, enc p.2]) = true
  simp only [PyData.canLay0, PyData.canLayAll0, PyQ.can, Bool.and_true]⟩
structure T3 (α β γ : Type) where
  a : α
  b : β
  c : γ
  deriving DecidableEq, Inhabited
structure T4 (α β γ δ : Type) where
  a : α
  b : β
  c : γ
  d : δ
  deriving DecidableEq, Inhabited
structure T5 (α β γ δ ε : Type) where
  a : α
  b : β
  c : γ
  d : δ
  e : ε
  deriving DecidableEq, Inhabited
instance {α β γ : Type} [Py α] [Py β] [Py γ] : Py (T3 α β γ) := ⟨fun p => .tuple [enc p.a, enc p.b, enc p.c], max (max (Py.dep α) (Py.dep β)) (Py.dep γ) + 1, fun p => by
  have := Py.deep p.a
  have := Py.deep p.b
  have := Py.deep p.c
  simp only [PyData.depth, PyData.depthAll, enc]; omega⟩
instance {α β γ : Type} [Py α] [Py β] [Py γ] [PyQ α] [PyQ β] [PyQ γ] : PyQ (T3 α β γ) := ⟨fun p q => by
  show PyData.eqv (.tuple [enc p.a, enc p.b, enc p.c]) (.tuple [enc q.a, enc q.b, enc q.c]) = true ↔ _
  have h1 := PyQ.eqv p.a q.a
  have h2 := PyQ.eqv p.b q.b
  have h3 := PyQ.eqv p.c q.c
  simp only [PyData.eqv, PyData.eqvAll, Bool.and_true, Bool.and_eq_true, h1, h2, h3]
  cases p; cases q; simp, fun p => by
  show PyData.canLay0 (.tuple [enc p.a, enc p.b, enc p.c]) = true
  simp only [PyData.canLay0, PyData.canLayAll0, PyQ.can, Bool.and_true]⟩
instance {α β γ δ : Type} [Py α] [Py β] [Py γ] [Py δ] : Py (T4 α β γ δ) := ⟨fun p => .tuple [enc p.a, enc p.b, enc p.c, enc p.d], max (max (Py.dep α) (Py.dep β)) (max (Py.dep γ) (Py.dep δ)) + 1, fun p => by
  have := Py.deep p.a
  have := Py.deep p.b
  have := Py.deep p.c
  have := Py.deep p.d
  simp only [PyData.depth, PyData.depthAll, enc]; omega⟩
instance {α β γ δ : Type} [Py α] [Py β] [Py γ] [Py δ] [PyQ α] [PyQ β] [PyQ γ] [PyQ δ] : PyQ (T4 α β γ δ) := ⟨fun p q => by
  show PyData.eqv (.tuple [enc p.a, enc p.b, enc p.c, enc p.d]) (.tuple [enc q.a, enc q.b, enc q.c, enc q.d]) = true ↔ _
  have h1 := PyQ.eqv p.a q.a
  have h2 := PyQ.eqv p.b q.b
  have h3 := PyQ.eqv p.c q.c
  have h4 := PyQ.eqv p.d q.d
  simp only [PyData.eqv, PyData.eqvAll, Bool.and_true, Bool.and_eq_true, h1, h2, h3, h4]
  cases p; cases q; simp, fun p => by
  show PyData.canLay0 (.tuple [enc p.a, enc p.b, enc p.c, enc p.d]) = true
  simp only [PyData.canLay0, PyData.canLayAll0, PyQ.can, Bool.and_true]⟩
instance {α β γ δ ε : Type} [Py α] [Py β] [Py γ] [Py δ] [Py ε] : Py (T5 α β γ δ ε) := ⟨fun p => .tuple [enc p.a, enc p.b, enc p.c, enc p.d, enc p.e], max (max (max (Py.dep α) (Py.dep β)) (max (Py.dep γ) (Py.dep δ))) (Py.dep ε) + 1, fun p => by
  have := Py.deep p.a
  have := Py.deep p.b
  have := Py.deep p.c
  have := Py.deep p.d
  have := Py.deep p.e
  simp only [PyData.depth, PyData.depthAll, enc]; omega⟩
instance {α β γ δ ε : Type} [Py α] [Py β] [Py γ] [Py δ] [Py ε] [PyQ α] [PyQ β] [PyQ γ] [PyQ δ] [PyQ ε] : PyQ (T5 α β γ δ ε) := ⟨fun p q => by
  show PyData.eqv (.tuple [enc p.a, enc p.b, enc p.c, enc p.d, enc p.e]) (.tuple [enc q.a, enc q.b, enc q.c, enc q.d, enc q.e]) = true ↔ _
  have h1 := PyQ.eqv p.a q.a
  have h2 := PyQ.eqv p.b q.b
  have h3 := PyQ.eqv p.c q.c
  have h4 := PyQ.eqv p.d q.d
  have h5 := PyQ.eqv p.e q.e
  simp only [PyData.eqv, PyData.eqvAll, Bool.and_true, Bool.and_eq_true, h1, h2, h3, h4, h5]
  cases p; cases q; simp, fun p => by
  show PyData.canLay0 (.tuple [enc p.a, enc p.b, enc p.c, enc p.d, enc p.e]) = true
  simp only [PyData.canLay0, PyData.canLayAll0, PyQ.can, Bool.and_true]⟩
/-- x or None -/
instance {α : Type} [Py α] : Py (Option α) := ⟨fun o => match o with | none => .none | some x => enc x, Py.dep α, fun o => by
  cases o with
  | none => simp [PyData.depth]
  | some x => exact Py.deep x⟩

abbrev rp (K : Fg) {α : Type} [Py α] (x : α) : MP := py K (enc x)
abbrev rps (K : Fg) {α : Type} [Py α] (xs : List α) : List MP := xs.map fun x => py K (enc x)
abbrev sI (K : Fg) {α : Type} [Py α] (x : α) : SD := .im (py K (enc x))
abbrev sO (K : Fg) {α : Type} [Py α] (xs : List α) : SD := .ow (xs.map fun x => py K (enc x))
theorem rps_map {K : Fg} {α : Type} [Py α] (xs : List α) : (xs.map enc).map (py K) = rps K xs := by simp [rps]
theorem py_lst {K : Fg} {F : Hp} {v : V} {α : Type} [Py α] {xs : List α} : (py K (enc xs)).p F v ↔ (lstP (rps K xs)).p F v := by
  rw [← rps_map]; exact py_list
theorem py_tup {K : Fg} {F : Hp} {v : V} {α : Type} [Py α] {xs : Tup α} : (py K (enc xs)).p F v ↔ (tupP K (rps K xs.l)).p F v := by
  rw [← rps_map]; exact py_tuple

/-! ### the judgements -/
section
variable (X : Cx)
def wE (e : Expr) : TE := fun σ H Q => ∀ pins s, Inv X pins σ H s → wpAny (model X.prog X.w) X.A (eval e X.env) (EP X pins σ Q) X.xe s
def wT (e : Expr) : TT := fun σ H Q => ∀ pins s, Inv X pins σ H s → wpAny (model X.prog X.w) X.A (isTrue e X.env (eval e X.env)) (TP X pins σ Q) X.xe s
def wW (e : Expr) : TT := fun σ H Q => ∀ (whole : Sem Value) pins s, Inv X pins σ H s → wpAny (model X.prog X.w) X.A (isTrue e X.env whole) (TP X pins σ Q) X.xe s
def wA (es : List Expr) : TA := fun σ H Q => ∀ (pos : Pos) pins s, Inv X pins σ H s → wpAny (model X.prog X.w) X.A (spliced (backTo pos (starEach es X.env))) (AP X pins σ Q) X.xe s
def wS (st : Stmt) : TS := fun D σ H => ∀ pins s, Inv X pins σ H s → wpAny (model X.prog X.w) X.A (exec st X.env) (SP X pins D) X.xe s
def wSs (st : List Stmt) : TS := fun D σ H => ∀ pins s, Inv X pins σ H s → wpAny (model X.prog X.w) X.A (execs st X.env) (SP X pins D) X.xe s
def wG (tg : Expr) : TG := fun v σ H Q => ∀ pins s u, Inv X pins σ H s → RelV v u → wpAny (model X.prog X.w) X.A (assign tg X.env u) (fun _ s' => ∃ σ' H', Inv X pins σ' H' s' ∧ Q σ' H') X.xe s
def wI (tg iter : Expr) : TI := fun σ H R => ∀ pins s, Inv X pins σ H s → wpAny (model X.prog X.w) X.A (eval iter X.env) (fun v s1 => wpAny (model X.prog X.w) X.A (pyIter v) (PIE X pins σ tg R) X.xe s1) X.xe s
variable {X}
theorem peW {e : Expr} : PE X e (wE X e) := ⟨fun pins s _ _ _ I h => h pins s I⟩
theorem ptW {e : Expr} : PT X e (wT X e) := ⟨fun pins s _ _ _ I h => h pins s I⟩
theorem pwW {e : Expr} : PW X e (wW X e) := ⟨fun whole pins s _ _ _ I h => h whole pins s I⟩
theorem paW {es : List Expr} : PA X es (wA X es) := ⟨fun pos pins s _ _ _ I h => h pos pins s I⟩
theorem psW {st : Stmt} : PS X st (wS X st) := ⟨fun pins s _ _ _ I h => h pins s I⟩
theorem pssW {st : List Stmt} : PSs X st (wSs X st) := ⟨fun pins s _ _ _ I h => h pins s I⟩
theorem pgW {tg : Expr} : PG X tg (wG X tg) := ⟨fun pins s _ _ _ u _ I r h => h pins s u I r⟩
theorem piW {tg iter : Expr} : PI X tg iter (wI X tg iter) := ⟨fun pins s _ _ _ I h => h pins s I⟩
theorem wE_of {e : Expr} {t : TE} {σ : St} {H : Hp} {Q : VK} (p : PE X e t) (h : t σ H Q) : wE X e σ H Q := fun pins s I => p.run pins s σ H Q I h
theorem wT_of {e : Expr} {t : TT} {σ : St} {H : Hp} {Q : Bool → Hp → Prop} (p : PT X e t) (h : t σ H Q) : wT X e σ H Q := fun pins s I => p.run pins s σ H Q I h
theorem wW_of {e : Expr} {t : TT} {σ : St} {H : Hp} {Q : Bool → Hp → Prop} (p : PW X e t) (h : t σ H Q) : wW X e σ H Q := fun whole pins s I => p.run whole pins s σ H Q I h
theorem wA_of {es : List Expr} {t : TA} {σ : St} {H : Hp} {Q : List V → Hp → Prop} (p : PA X es t) (h : t σ H Q) : wA X es σ H Q := fun pos pins s I => p.run pos pins s σ H Q I h
theorem wS_of {st : Stmt} {t : TS} {σ : St} {H : Hp} {D : Ends} (p : PS X st t) (h : t D σ H) : wS X st D σ H := fun pins s I => p.run pins s σ H D I h
theorem wSs_of {st : List Stmt} {t : TS} {σ : St} {H : Hp} {D : Ends} (p : PSs X st t) (h : t D σ H) : wSs X st D σ H := fun pins s I => p.run pins s σ H D I h
theorem wG_of {tg : Expr} {t : TG} {v : V} {σ : St} {H : Hp} {Q : St → Hp → Prop} (p : PG X tg t) (h : t v σ H Q) : wG X tg v σ H Q := fun pins s u I r => p.run pins s σ H v u Q I r h
theorem wI_of {tg iter : Expr} {t : TI} {σ : St} {H : Hp} {R : It → Hp → Prop} (p : PI X tg iter t) (h : t σ H R) : wI X tg iter σ H R := fun pins s I => p.run pins s σ H R I h
variable (X)
/-- e gives a settled value | a new list of one's own | a list that may be read | arguments | a truth -/
structure PEv (Φ : List SD) (e : Expr) (P : MP) : Prop where
  run : ∀ (H0 : Hp) (σ : St) (F H : Hp) (Q : VK), Ex F H → Sl H0 Φ σ F H → (∀ v F' H', Gr F H F' H' → P.p F' v → Q v H') → wE X e σ H Q
instance {Φ : List SD} {e : Expr} {P : MP} : CoeFun (PEv X Φ e P) (fun _ => ∀ (H0 : Hp) (σ : St) (F H : Hp) (Q : VK), Ex F H → Sl H0 Φ σ F H → (∀ v F' H', Gr F H F' H' → P.p F' v → Q v H') → wE X e σ H Q) := ⟨PEv.run⟩
structure PEn (Φ : List SD) (e : Expr) (Ps : List MP) : Prop where
  run : ∀ (H0 : Hp) (σ : St) (F H : Hp) (Q : VK), Ex F H → Sl H0 Φ σ F H → (∀ a vs F' H', Gr F H F' H' → H a = none → F' a = none → H' a = some (.lst vs) → AllP Ps F' vs → Q (.ref a) H') → wE X e σ H Q
instance {Φ : List SD} {e : Expr} {Ps : List MP} : CoeFun (PEn X Φ e Ps) (fun _ => ∀ (H0 : Hp) (σ : St) (F H : Hp) (Q : VK), Ex F H → Sl H0 Φ σ F H → (∀ a vs F' H', Gr F H F' H' → H a = none → F' a = none → H' a = some (.lst vs) → AllP Ps F' vs → Q (.ref a) H') → wE X e σ H Q) := ⟨PEn.run⟩
structure PEl (Φ : List SD) (e : Expr) (Ps : List MP) : Prop where
  run : ∀ (H0 : Hp) (σ : St) (F H : Hp) (Q : VK), Ex F H → Sl H0 Φ σ F H → (∀ a vs F' H', Gr F H F' H' → SqL X.K H' a vs → AllP Ps F' vs → Q (.ref a) H') → wE X e σ H Q
instance {Φ : List SD} {e : Expr} {Ps : List MP} : CoeFun (PEl X Φ e Ps) (fun _ => ∀ (H0 : Hp) (σ : St) (F H : Hp) (Q : VK), Ex F H → Sl H0 Φ σ F H → (∀ a vs F' H', Gr F H F' H' → SqL X.K H' a vs → AllP Ps F' vs → Q (.ref a) H') → wE X e σ H Q) := ⟨PEl.run⟩
structure PEk (Φ : List SD) (e : Expr) (Ps : List MP) : Prop where
  run : ∀ (H0 : Hp) (σ : St) (F H : Hp) (Q : VK), Ex F H → Sl H0 Φ σ F H → (∀ a vs F' H', Gr F H F' H' → H' a = some (.lst vs) → AllP Ps F' vs → Q (.ref a) H') → wE X e σ H Q
instance {Φ : List SD} {e : Expr} {Ps : List MP} : CoeFun (PEk X Φ e Ps) (fun _ => ∀ (H0 : Hp) (σ : St) (F H : Hp) (Q : VK), Ex F H → Sl H0 Φ σ F H → (∀ a vs F' H', Gr F H F' H' → H' a = some (.lst vs) → AllP Ps F' vs → Q (.ref a) H') → wE X e σ H Q) := ⟨PEk.run⟩
structure PAs (Φ : List SD) (es : List Expr) (Ps : List MP) : Prop where
  run : ∀ (H0 : Hp) (σ : St) (F H : Hp) (Q : List V → Hp → Prop), Ex F H → Sl H0 Φ σ F H → (∀ vs F' H', Gr F H F' H' → AllP Ps F' vs → Q vs H') → wA X es σ H Q
instance {Φ : List SD} {es : List Expr} {Ps : List MP} : CoeFun (PAs X Φ es Ps) (fun _ => ∀ (H0 : Hp) (σ : St) (F H : Hp) (Q : List V → Hp → Prop), Ex F H → Sl H0 Φ σ F H → (∀ vs F' H', Gr F H F' H' → AllP Ps F' vs → Q vs H') → wA X es σ H Q) := ⟨PAs.run⟩
structure PTv (Φ : List SD) (e : Expr) (b : Bool) : Prop where
  run : ∀ (H0 : Hp) (σ : St) (F H : Hp) (Q : Bool → Hp → Prop), Ex F H → Sl H0 Φ σ F H → (∀ F' H', Gr F H F' H' → Q b H') → wT X e σ H Q
instance {Φ : List SD} {e : Expr} {b : Bool} : CoeFun (PTv X Φ e b) (fun _ => ∀ (H0 : Hp) (σ : St) (F H : Hp) (Q : Bool → Hp → Prop), Ex F H → Sl H0 Φ σ F H → (∀ F' H', Gr F H F' H' → Q b H') → wT X e σ H Q) := ⟨PTv.run⟩
structure PWv (Φ : List SD) (e : Expr) (b : Bool) : Prop where
  run : ∀ (H0 : Hp) (σ : St) (F H : Hp) (Q : Bool → Hp → Prop), Ex F H → Sl H0 Φ σ F H → (∀ F' H', Gr F H F' H' → Q b H') → wW X e σ H Q
instance {Φ : List SD} {e : Expr} {b : Bool} : CoeFun (PWv X Φ e b) (fun _ => ∀ (H0 : Hp) (σ : St) (F H : Hp) (Q : Bool → Hp → Prop), Ex F H → Sl H0 Φ σ F H → (∀ F' H', Gr F H F' H' → Q b H') → wW X e σ H Q) := ⟨PWv.run⟩
abbrev PV (Φ : List SD) (e : Expr) {α : Type} [Py α] (x : α) : Prop := PEv X Φ e (py X.K (enc x))
abbrev PN (Φ : List SD) (e : Expr) {α : Type} [Py α] (xs : List α) : Prop := PEn X Φ e (xs.map fun x => py X.K (enc x))
abbrev PK (Φ : List SD) (e : Expr) {α : Type} [Py α] (xs : List α) : Prop := PEk X Φ e (xs.map fun x => py X.K (enc x))
abbrev PD (Φ : List SD) (e : Expr) {α : Type} [Py α] (x : α) : Prop := PEv X Φ e (dp X.K (enc x))
abbrev PL (Φ : List SD) (e : Expr) {α : Type} [Py α] (xs : List α) : Prop := PEl X Φ e (xs.map fun x => py X.K (enc x))
end

section
variable {X : Cx} {Φ : List SD} {a b c e : Expr} {es : List Expr} {pos p p2 : Pos} {P : MP} {Ps : List MP} {i j k : Int}
/-! ### from one to the other -/
theorem PEn.xk (h : PEn X Φ e Ps) : PEk X Φ e Ps := .mk fun H0 σ F H Q s sl q => h H0 σ F H Q s sl fun a vs F' H' g _ _ h2 h3 => q a vs F' H' g h2 h3
theorem PEk.l (h : PEk X Φ e Ps) : PEl X Φ e Ps := .mk fun H0 σ F H Q s sl q => h H0 σ F H Q s sl fun a vs F' H' g h2 h3 => q a vs F' H' g (SqL.of h2) h3
theorem PEn.v (h : PEn X Φ e Ps) : PEv X Φ e (lstP Ps) := .mk fun H0 σ F H Q s sl q => h H0 σ F H Q s sl fun a vs F' H' g h1 h2 h3 h4 => by
  obtain ⟨x1, x2⟩ := Gr.settle g.s h2 h3
  refine q (.ref a) _ H' ⟨g.f.trans x1, g.h, x2, fun b z1 z2 => ?_⟩ ⟨a, vs, rfl, upd_same, h4.mono x1⟩
  have hb : b ≠ a := fun w => z2 (by rw [w]; exact h1)
  rw [upd_ne hb]; exact g.n b z1 z2
theorem PEv.xk (h : PEv X Φ e (lstP Ps)) : PEk X Φ e Ps := .mk fun H0 σ F H Q s sl q => h H0 σ F H Q s sl fun v F' H' g ⟨a, vs, h1, h2, h3⟩ => by
  subst h1; exact q a vs F' H' g (g.s _ _ h2) h3
theorem PN.xk {α : Type} [Py α] {xs : List α} (h : PN X Φ e xs) : PK X Φ e xs := PEn.xk h
theorem PK.l {α : Type} [Py α] {xs : List α} (h : PK X Φ e xs) : PL X Φ e xs := PEk.l h
theorem PEv.imp {P' : MP} (h : PEv X Φ e P) (w : ∀ F v, P.p F v → P'.p F v) : PEv X Φ e P' := .mk fun H0 σ F H Q s sl q => h H0 σ F H Q s sl fun v F' H' g z => q v F' H' g (w _ _ z)
theorem PN.v {α : Type} [Py α] {xs : List α} (h : PN X Φ e xs) : PV X Φ e xs := (PEn.v h).imp fun _ _ z => py_lst.mpr z
theorem PV.xk {α : Type} [Py α] {xs : List α} (h : PV X Φ e xs) : PK X Φ e xs := PEv.xk (PEv.imp h fun _ _ z => py_lst.mp z)
theorem PV.d {α : Type} [Py α] [PyQ α] {x : α} (h : PV X Φ e x) : PD X Φ e x := PEv.imp h fun _ _ z => dq_dp _ _ (PyQ.can x) z
/-! ### leaves -/
theorem v_im (n : Nat) {x : Str} (h : Φ[n]? = some (.im P) := by rfl) (hN : X.N[n]? = some x := by rfl) (hv : Vis X.env.scope x := by first | exact Or.inl rfl | exact Or.inr (Or.inl rfl) | exact Or.inr (Or.inr rfl)) (hd : (x == ("__debug__" : Str)) = false := by decide)
    (hcd : (x == ("__classdict__" : Str)) = false := by decide) : PEv X Φ (.Name x pos) P := .mk fun H0 σ F H Q s sl q => by
  obtain ⟨v, h1, h2⟩ := sl.im h
  exact wE_of (pe_var hN hv hd hcd) ⟨v, h1, q v F H (Gr.refl s) h2⟩
theorem v_int : PV X Φ (.Constant (.int i) 0 pos) i := .mk fun H0 σ F H Q s sl q => wE_of pe_int (q _ _ _ (Gr.refl s) (.int i))
theorem v_bl {k : Bool} : PV X Φ (.Constant (.bool k) 0 pos) k := .mk fun H0 σ F H Q s sl q => wE_of pe_bl (q _ _ _ (Gr.refl s) (.bl k))
theorem v_non : PV X Φ (.Constant .none 0 pos) () := .mk fun H0 σ F H Q s sl q => wE_of pe_non (q _ _ _ (Gr.refl s) .non)
theorem v_gint {x : Str} {t : Tok} (hg : Gl X x) (hm : X.mg x = some (.int i t)) (hd : (x == ("__debug__" : Str)) = false := by decide) : PV X Φ (.Name x pos) i := .mk fun H0 σ F H Q s sl q =>
  wE_of (pe_glob (v := .int i) hg hm ⟨t, rfl⟩ hd) (q _ _ _ (Gr.refl s) (.int i))
/-! ### ints -/
theorem v_op2 {op : Operator} {C : Int → Int → Prop} {f : Int → Int → Int} (ho : OpR X (binaryOp op) (rI C fun i j => .int (f i j))) (ha : PV X Φ a i) (hb : PV X Φ b j) (hc : C i j) : PV X Φ (.BinOp a op b pos) (f i j) := .mk fun H0 σ F H Q s sl q =>
  wE_of (pe_op ho peW peW) (ha H0 σ F H _ s sl fun x F1 H1 g1 p1 => hb H0 σ F1 H1 _ g1.s (sl.gr g1) fun y F2 H2 g2 p2 => by
    cases p1; cases p2
    exact ⟨i, j, rfl, rfl, hc, q _ _ _ (g1.trans g2) (.int _)⟩)
theorem v_op0 {op : Operator} {f : Int → Int → Int} (ho : OpR X (binaryOp op) (rI0 fun i j => .int (f i j))) (ha : PV X Φ a i) (hb : PV X Φ b j) : PV X Φ (.BinOp a op b pos) (f i j) := .mk fun H0 σ F H Q s sl q =>
  wE_of (pe_op ho peW peW) (ha H0 σ F H _ s sl fun x F1 H1 g1 p1 => hb H0 σ F1 H1 _ g1.s (sl.gr g1) fun y F2 H2 g2 p2 => by
    cases p1; cases p2
    exact ⟨i, j, rfl, rfl, q _ _ _ (g1.trans g2) (.int _)⟩)
theorem v_add (ha : PV X Φ a i) (hb : PV X Φ b j) : PV X Φ (.BinOp a .Add b pos) (i + j) := v_op0 op_add ha hb
theorem v_sub (ha : PV X Φ a i) (hb : PV X Φ b j) : PV X Φ (.BinOp a .Sub b pos) (i - j) := v_op0 op_sub ha hb
theorem v_mul (ha : PV X Φ a i) (hb : PV X Φ b j) (hc : CMul i j) : PV X Φ (.BinOp a .Mult b pos) (i * j) := v_op2 op_mul ha hb hc
theorem v_div (ha : PV X Φ a i) (hb : PV X Φ b j) (hc : CDivW i j) : PV X Φ (.BinOp a .FloorDiv b pos) (i / j) := v_op2 op_fdivW ha hb hc
theorem v_mod (ha : PV X Φ a i) (hb : PV X Φ b j) (hc : 0 < j) : PV X Φ (.BinOp a .Mod b pos) (i % j) := v_op2 (C := fun _ j => 0 < j) op_mod ha hb hc
theorem v_pow (ha : PV X Φ a i) (hb : PV X Φ b j) (hc : CPow i j) : PV X Φ (.BinOp a .Pow b pos) (i ^ j.toNat) := v_op2 op_pow ha hb hc
theorem v_neg (ha : PV X Φ a i) : PV X Φ (.UnaryOp .USub a pos) (-i) := .mk fun H0 σ F H Q s sl q =>
  wE_of (pe_un un_neg peW) (ha H0 σ F H _ s sl fun x F1 H1 g1 p1 => by cases p1; exact ⟨i, rfl, q _ _ _ g1 (.int _)⟩)
/-! ### comparisons, tests -/
/-- a <= b < c and the like -/
theorem v_chain {op op' : CmpOp} {f f' : Int → Int → Bool} (ho : OpR X (compareOp op) (rI0 fun i j => .bl (f i j))) (ho' : OpR X (compareOp op') (rI0 fun i j => .bl (f' i j))) (ha : PV X Φ a i) (hb : PV X Φ b j) (hc : f i j = true → PV X Φ c k)
    (hm : lastMarks [op, op'] [b, c] = false := by with_unfolding_all rfl) : PV X Φ (.Compare a [op, op'] [b, c] pos) (f i j && f' j k) := .mk fun H0 σ F H Q s sl q =>
  wE_of (pe_chain ho ho' peW peW peW hm) (ha H0 σ F H _ s sl fun x F1 H1 g1 p1 => hb H0 σ F1 H1 _ g1.s (sl.gr g1) fun y F2 H2 g2 p2 => by
    cases p1; cases p2
    refine ⟨i, j, rfl, rfl, f i j, rfl, ?_⟩
    cases e : f i j with
    | true =>
      refine iteT (hc e H0 σ F2 H2 _ g2.s ((sl.gr g1).gr g2) fun z F3 H3 g3 p3 => ?_)
      cases p3
      exact ⟨j, k, rfl, rfl, by
        have := q (.bl (f' j k)) F3 H3 ((g1.trans g2).trans g3) (by rw [e, Bool.true_and]; exact .bl _)
        exact this⟩
    | false => exact iteF (by
        have := q (.bl false) F2 H2 (g1.trans g2) (by rw [e, Bool.false_and]; exact .bl _)
        exact this))
theorem v_eq {α : Type} [Py α] [PyQ α] [DecidableEq α] {x y : α} (hu : X.A.units + 64 < cLine) (hd : Py.dep α ≤ 64) (ha : PD X Φ a x) (hb : PD X Φ b y) : PV X Φ (.Compare a [.Eq] [b] pos) (decide (x = y)) := .mk fun H0 σ F H Q s sl q =>
  wE_of (pe_cmpR (op_eqD hu) peW peW (nomark _)) (ha H0 σ F H _ s sl fun x F1 H1 g1 p1 => hb H0 σ F1 H1 _ g1.s (sl.gr g1) fun y F2 H2 g2 p2 =>
    ⟨_, _, dp_mono (g2.f.trans g2.s) _ _ p1, dp_mono g2.s _ _ p2, shaped_of hd _, shaped_of hd _, q _ _ _ (g1.trans g2) (by rw [eqv_dec]; exact .bl _)⟩)
theorem v_not {k : Bool} (ha : PTv X Φ a k) : PTv X Φ (.UnaryOp .Not a pos) (!k) := .mk fun H0 σ F H Q s sl q =>
  wT_of (pt_not ptW) (ha H0 σ F H _ s sl fun F1 H1 g1 => q _ _ g1)
theorem v_notV {k : Bool} (ha : PV X Φ a k) : PV X Φ (.UnaryOp .Not a pos) (!k) := .mk fun H0 σ F H Q s sl q =>
  wE_of (pe_not peW) (ha H0 σ F H _ s sl fun x F1 H1 g1 p1 => by cases p1; exact ⟨k, rfl, q _ _ _ g1 (.bl _)⟩)
theorem t_val {k : Bool} (ha : PV X Φ e k) (he : ∀ whole, isTrue e X.env whole = (do let v ← whole; standAt e.pos; holding [v] (truthy v)) := by intro _; rfl) : PTv X Φ e k := .mk fun H0 σ F H Q s sl q =>
  wT_of (pt_val peW he) (ha H0 σ F H _ s sl fun x F1 H1 g1 p1 => by cases p1; exact ⟨k, rfl, q _ _ g1⟩)
theorem t_cmp {op : CmpOp} {f : Int → Int → Bool} (ho : OpR X (compareOp op) (rI0 fun i j => .bl (f i j))) (ha : PV X Φ a i) (hb : PV X Φ b j) (hm : behindInMarks op b = false := by first | exact nomark _ | rfl) : PTv X Φ (.Compare a [op] [b] pos) (f i j) := .mk fun H0 σ F H Q s sl q =>
  wT_of (pt_cmpR ho peW peW hm) (ha H0 σ F H _ s sl fun x F1 H1 g1 p1 => hb H0 σ F1 H1 _ g1.s (sl.gr g1) fun y F2 H2 g2 p2 => by
    cases p1; cases p2
    exact ⟨i, j, rfl, rfl, _, rfl, q _ _ (g1.trans g2)⟩)
theorem t_lt (ha : PV X Φ a i) (hb : PV X Φ b j) : PTv X Φ (.Compare a [.Lt] [b] pos) (decide (i < j)) := t_cmp op_lt ha hb (nomark _)
theorem t_gt (ha : PV X Φ a i) (hb : PV X Φ b j) : PTv X Φ (.Compare a [.Gt] [b] pos) (decide (j < i)) := t_cmp op_gt ha hb (nomark _)
theorem t_chain {op op' : CmpOp} {f f' : Int → Int → Bool} (ho : OpR X (compareOp op) (rI0 fun i j => .bl (f i j))) (ho' : OpR X (compareOp op') (rI0 fun i j => .bl (f' i j))) (ha : PV X Φ a i) (hb : PV X Φ b j) (hc : f i j = true → PV X Φ c k)
    (hm : lastMarks [op, op'] [b, c] = false := by with_unfolding_all rfl) : PTv X Φ (.Compare a [op, op'] [b, c] pos) (f i j && f' j k) := .mk fun H0 σ F H Q s sl q =>
  wT_of (pt_chain ho ho' peW peW peW hm) (ha H0 σ F H _ s sl fun x F1 H1 g1 p1 => hb H0 σ F1 H1 _ g1.s (sl.gr g1) fun y F2 H2 g2 p2 => by
    cases p1; cases p2
    refine ⟨i, j, rfl, rfl, f i j, rfl, ?_⟩
    cases e : f i j with
    | true =>
      refine iteT (hc e H0 σ F2 H2 _ g2.s ((sl.gr g1).gr g2) fun z F3 H3 g3 p3 => ?_)
      cases p3
      exact ⟨j, k, rfl, rfl, _, rfl, by
        have := q F3 H3 ((g1.trans g2).trans g3)
        rw [e, Bool.true_and] at this
        exact this⟩
    | false => exact iteF (by
        have := q F2 H2 (g1.trans g2)
        rw [e, Bool.false_and] at this
        exact ⟨_, rfl, this⟩))
theorem t_eq {α : Type} [Py α] [PyQ α] [DecidableEq α] {x y : α} (hu : X.A.units + 64 < cLine) (hd : Py.dep α ≤ 64) (ha : PD X Φ a x) (hb : PD X Φ b y) : PTv X Φ (.Compare a [.Eq] [b] pos) (decide (x = y)) := .mk fun H0 σ F H Q s sl q =>
  wT_of (pt_cmpR (op_eqD hu) peW peW (nomark _)) (ha H0 σ F H _ s sl fun x F1 H1 g1 p1 => hb H0 σ F1 H1 _ g1.s (sl.gr g1) fun y F2 H2 g2 p2 =>
    ⟨_, _, dp_mono (g2.f.trans g2.s) _ _ p1, dp_mono g2.s _ _ p2, shaped_of hd _, shaped_of hd _, _, rfl, by rw [eqv_dec]; exact q _ _ (g1.trans g2)⟩)
theorem t_ne {α : Type} [Py α] [PyQ α] [DecidableEq α] {x y : α} (hu : X.A.units + 64 < cLine) (hd : Py.dep α ≤ 64) (ha : PD X Φ a x) (hb : PD X Φ b y) : PTv X Φ (.Compare a [.NotEq] [b] pos) (!decide (x = y)) := .mk fun H0 σ F H Q s sl q =>
  wT_of (pt_cmpR (op_neD hu) peW peW (nomark _)) (ha H0 σ F H _ s sl fun x F1 H1 g1 p1 => hb H0 σ F1 H1 _ g1.s (sl.gr g1) fun y F2 H2 g2 p2 =>
    ⟨_, _, dp_mono (g2.f.trans g2.s) _ _ p1, dp_mono g2.s _ _ p2, shaped_of hd _, shaped_of hd _, _, rfl, by rw [eqv_dec]; exact q _ _ (g1.trans g2)⟩)
theorem v_and {l m : Bool} (ha : PV X Φ a l) (hb : l = true → PV X Φ (.BoolOp .And (b :: es) pos) m) : PV X Φ (.BoolOp .And (a :: b :: es) pos) (l && m) := .mk fun H0 σ F H Q s sl q =>
  wE_of (pe_and peW peW) (ha H0 σ F H _ s sl fun x F1 H1 g1 p1 => by
    cases p1
    refine ⟨l, rfl, ?_⟩
    cases l with
    | true => exact iteT (hb rfl H0 σ F1 H1 _ g1.s (sl.gr g1) fun y F2 H2 g2 p2 => q y F2 H2 (g1.trans g2) p2)
    | false => exact iteF (q _ _ _ g1 (.bl false)))
theorem v_one {op : BoolOp} {l : Bool} (ha : PV X Φ a l) : PV X Φ (.BoolOp op [a] pos) l := .mk fun H0 σ F H Q s sl q => wE_of (pe_one peW) (ha H0 σ F H Q s sl q)
theorem w_or1 {l : Bool} (ha : PTv X Φ a l) : PWv X Φ (.BoolOp .Or [a] pos) l := .mk fun H0 σ F H Q s sl q => wW_of (pw_or1 ptW) (ha H0 σ F H Q s sl q)
theorem w_or {l m : Bool} (ha : PTv X Φ a l) (hb : l = false → PWv X Φ (.BoolOp .Or (b :: es) pos) m) : PWv X Φ (.BoolOp .Or (a :: b :: es) pos) (l || m) := .mk fun H0 σ F H Q s sl q =>
  wW_of (pw_or ptW pwW) (ha H0 σ F H _ s sl fun F1 H1 g1 => by
    cases l with
    | true => exact iteT (q _ _ g1)
    | false => exact iteF (hb rfl H0 σ F1 H1 _ g1.s (sl.gr g1) fun F2 H2 g2 => q F2 H2 (g1.trans g2)))
theorem PWv.t {l : Bool} (h : PWv X Φ e l) : PTv X Φ e l := .mk fun H0 σ F H Q s sl q => wT_of (PW.pt pwW) (h H0 σ F H Q s sl q)
end
end GL

set_option Elab.async false
set_option linter.all false
set_option maxRecDepth 100000
set_option maxHeartbeats 4000000
namespace GL
open PySem L2
open Evl (Ex ex_l ex_t)
section
variable {X : Cx} {Φ : List SD} {a b c e : Expr} {es : List Expr} {pos p p2 : Pos} {P : MP} {Ps Qs : List MP} {i j k : Int}
/-! ### arguments, displays -/
def nst : Expr → Bool
  | .Starred .. => false
  | _ => true
theorem star_cons {env : Env} (h : nst e = true) : starEach (e :: es) env = (false, eval e env) :: starEach es env := by
  cases e with
  | Starred => cases h
  | _ => rfl
theorem star_plain {env : Env} {pos : Pos} : ∀ {es : List Expr}, es.all nst = true → (backTo pos (starEach es env)).any (·.1) = false
  | [], _ => rfl
  | e :: es, h => by
    rw [List.all_cons, Bool.and_eq_true] at h
    rw [star_cons h.1]
    show (false || (backTo pos (starEach es env)).any (·.1)) = false
    rw [star_plain h.2]; rfl
theorem as_nil : PAs X Φ [] [] := .mk fun H0 σ F H Q s sl q => wA_of pa_nil (q [] F H (Gr.refl s) .nil)
theorem as_cons (ha : PEv X Φ e P) (hs : PAs X Φ es Ps) (hst : nst e = true := by rfl) : PAs X Φ (e :: es) (P :: Ps) := .mk fun H0 σ F H Q s sl q =>
  wA_of (pa_cons peW paW (star_cons hst)) (ha H0 σ F H _ s sl fun v F1 H1 g1 p1 => hs H0 σ F1 H1 _ g1.s (sl.gr g1) fun vs F2 H2 g2 p2 => q _ F2 H2 (g1.trans g2) (.cons (P.mono _ _ _ g2.f p1) p2))
theorem v_tuple {x1} (h : PAs X Φ es Ps) (hl : Ps.length ≤ sizeLine := by exact Nat.le_of_ble_eq_true rfl) : PEv X Φ (.Tuple es x1 pos) (tupP X.K Ps) := .mk fun H0 σ F H Q s sl q =>
  wE_of (pe_tup paW) (h H0 σ F H _ s sl fun vs F1 H1 g1 p1 => ⟨by rw [p1.1]; exact hl, fun t ht => q _ _ _ (g1.trans (Gr.new g1.s ht)) ⟨t, vs, rfl, SqT.of upd_same, p1.mono (Gr.new (o := .tup vs) g1.s ht).f⟩⟩)
theorem v_list (h : PAs X Φ es Ps) (hl : Ps.length ≤ sizeLine := by exact Nat.le_of_ble_eq_true rfl) : PEn X Φ (.List es pos) Ps := .mk fun H0 σ F H Q s sl q =>
  wE_of (pe_lst paW) (h H0 σ F H _ s sl fun vs F1 H1 g1 p1 => ⟨by rw [p1.1]; exact hl, fun t ht => by
    have ft : F1 t = none := by
      cases z : F1 t with
      | none => rfl
      | some u => rw [g1.s t u z] at ht; cases ht
    have h0 : H t = none := by
      cases z : H t with
      | none => rfl
      | some u => rw [g1.h t u z] at ht; cases ht
    exact q t vs F1 _ (g1.trans (Gr.own g1.s ht)) h0 ft upd_same p1⟩)
theorem v_tup {α : Type} [Py α] {x1} {xs : List α} (h : PAs X Φ es (xs.map fun x => py X.K (enc x))) (hl : xs.length ≤ sizeLine := by exact Nat.le_of_ble_eq_true rfl) : PV X Φ (.Tuple es x1 pos) (Tup.mk xs) :=
  (v_tuple h (by simpa using hl)).imp fun _ _ z => py_tup.mpr z
/-! ### items -/
def ix {α : Type} [Inhabited α] (xs : List α) (i : Int) : α := xs.getD i.toNat default
theorem allP_at {Ps : List MP} {F : Hp} {vs : List V} {n : Nat} {P : MP} (h : AllP Ps F vs) (hp : Ps[n]? = some P) : ∃ v, vs[n]? = some v ∧ P.p F v := by
  have hn : n < vs.length := by rw [h.1]; exact (List.getElem?_eq_some_iff.mp hp).1
  exact ⟨vs[n], List.getElem?_eq_getElem hn, h.2 n P _ hp (List.getElem?_eq_getElem hn)⟩
theorem v_ixP {n : Nat} (ha : PEl X Φ a Ps) (hb : PV X Φ b i) (hn : i = (n : Int)) (hp : Ps[n]? = some P) (hs : PlainIx b := by exact fun _ _ => rfl) : PEv X Φ (.Subscript a b pos) P := .mk fun H0 σ F H Q s sl q =>
  wE_of (pe_ix ix_list peW peW hs) (ha H0 σ F H _ s sl fun l vs F1 H1 g1 h1 p1 => hb H0 σ F1 H1 _ g1.s (sl.gr g1) fun y F2 H2 g2 p2 => by
    cases p2
    obtain ⟨v, hv, pv⟩ := allP_at p1 hp
    exact ⟨l, vs, i, v, rfl, rfl, ex_l g2.h h1, by rw [hn]; exact atI_nat hv, q v F2 H2 (g1.trans g2) (P.mono _ _ _ g2.f pv)⟩)
theorem v_ix {α : Type} [Py α] [Inhabited α] {xs : List α} (ha : PL X Φ a xs) (hb : PV X Φ b i) (h : 0 ≤ i ∧ i < xs.length) (hs : PlainIx b := by exact fun _ _ => rfl) : PV X Φ (.Subscript a b pos) (ix xs i) :=
  v_ixP (n := i.toNat) ha hb (by omega) (by
    have hi : i.toNat < xs.length := by omega
    rw [List.getElem?_map, List.getElem?_eq_getElem hi]
    simp [ix, List.getD, List.getElem?_eq_getElem hi]) hs
/-- xs[-1] -/
def lastD {α : Type} [Inhabited α] (xs : List α) : α := xs.getD (xs.length - 1) default
/-! ### slices -/
def slc {α : Type} (xs : List α) (lo hi : Option Int) : List α := (xs.drop (HT.sIx xs.length 0 lo)).take (HT.sIx xs.length xs.length hi - HT.sIx xs.length 0 lo)
theorem AllP.slc {Ps : List MP} {F : Hp} {vs : List V} (h : AllP Ps F vs) (lo hi : Option Int) : AllP (slc Ps lo hi) F (cutV vs lo hi) := by
  unfold GL.slc cutV
  rw [h.1]
  generalize HT.sIx Ps.length 0 lo = m
  generalize HT.sIx Ps.length Ps.length hi - m = n
  refine ⟨by simp [h.1], fun i P v h1 h2 => ?_⟩
  rw [List.getElem?_take] at h1 h2
  split at h1
  · rename_i hi
    rw [if_pos hi, List.getElem?_drop] at h2
    rw [List.getElem?_drop] at h1
    exact h.2 _ P v h1 h2
  · cases h1
theorem slc_map {α β : Type} (f : α → β) (xs : List α) (lo hi : Option Int) : slc (xs.map f) lo hi = (slc xs lo hi).map f := by
  unfold slc
  rw [List.length_map, List.map_take, List.map_drop]
/-- a slice's ends -/
def PO' (X : Cx) (Φ : List SD) (o : Option Expr) (v : Option Int) : Prop := match o, v with
  | none, none => True
  | some e, some i => PV X Φ e i
  | _, _ => False
theorem v_slP {lo hi : Option Expr} {l h : Option Int} (ha : PEl X Φ a Ps) (h1 : PO' X Φ lo l) (h2 : PO' X Φ hi h) : PEn X Φ (.Subscript a (.Slice lo hi none p2) pos) (slc Ps l h) := .mk fun H0 σ F H Q s sl q => by
  have step : ∀ (o : Option Expr) (v : Option Int), PO' X Φ o v → ∃ t : TO, PO X o t ∧ ∀ (F H : Hp) (R : Option Int → Hp → Prop), Ex F H → Sl H0 Φ σ F H → (∀ F' H', Gr F H F' H' → R v H') → t σ H R := fun o v hv => by
    cases o with
    | none =>
      cases v with
      | none => exact ⟨_, po_none, fun F H R s sl r => r F H (Gr.refl s)⟩
      | some i => exact hv.elim
    | some e =>
      cases v with
      | none => exact hv.elim
      | some i => exact ⟨_, po_some peW, fun F H R s sl r => (show PV X Φ e i from hv) H0 σ F H _ s sl fun v F' H' g z => by cases z; exact ⟨i, rfl, r F' H' g⟩⟩
  obtain ⟨t1, k1, r1⟩ := step _ _ h1
  obtain ⟨t2, k2, r2⟩ := step _ _ h2
  refine wE_of (pe_slice sl_list peW k1 k2) (ha H0 σ F H _ s sl fun x vs F1 H1 g1 hx p1 => r1 F1 H1 _ g1.s (sl.gr g1) fun F2 H2 g2 => r2 F2 H2 _ g2.s ((sl.gr g1).gr g2) fun F3 H3 g3 => ⟨x, vs, rfl, ex_l (g2.trans g3).h hx, fun t ht => ?_⟩)
  have g := (g1.trans g2).trans g3
  have ft : F3 t = none := by
    cases z : F3 t with
    | none => rfl
    | some u => rw [g.s t u z] at ht; cases ht
  have h0 : H t = none := by
    cases z : H t with
    | none => rfl
    | some u => rw [g.h t u z] at ht; cases ht
  exact q t _ F3 _ (g.trans (Gr.own g.s ht)) h0 ft upd_same ((p1.mono (g2.trans g3).f).slc l h)
theorem v_sl {α : Type} [Py α] {xs : List α} {lo hi : Option Expr} {l h : Option Int} (ha : PL X Φ a xs) (h1 : PO' X Φ lo l) (h2 : PO' X Φ hi h) : PN X Φ (.Subscript a (.Slice lo hi none p2) pos) (slc xs l h) := by
  have := v_slP (pos := pos) (p2 := p2) ha h1 h2
  rw [slc_map] at this
  exact this
theorem AllP.reverse {Ps : List MP} {F : Hp} {vs : List V} (h : AllP Ps F vs) : AllP Ps.reverse F vs.reverse := by
  refine ⟨by simp [h.1], fun i P v h1 h2 => ?_⟩
  have hi : i < vs.length := by
    have := (List.getElem?_eq_some_iff.mp h2).1
    simpa using this
  rw [List.getElem?_reverse (by rw [← h.1]; exact hi)] at h1
  rw [List.getElem?_reverse hi] at h2
  rw [← h.1] at h1
  exact h.2 _ P v h1 h2
theorem fresh_of {F H F' H' : Hp} (g : Gr F H F' H') {t : Addr} (ht : H' t = none) : F' t = none ∧ H t = none := by
  constructor
  · cases z : F' t with
    | none => rfl
    | some u => rw [g.s t u z] at ht; cases ht
  · cases z : H t with
    | none => rfl
    | some u => rw [g.h t u z] at ht; cases ht
/-! ### list + list, list * int -/
theorem AllP.append : ∀ {Ps Qs : List MP} {F : Hp} {vs ws : List V}, AllP Ps F vs → AllP Qs F ws → AllP (Ps ++ Qs) F (vs ++ ws)
  | [], _, _, vs, _, h, h' => by rw [h.inv0]; exact h'
  | P :: Ps, _, _, vs, _, h, h' => by
    obtain ⟨v, us, rfl, h1, h2⟩ := h.inv
    exact .cons h1 (AllP.append h2 h')
theorem v_cat {α : Type} [Py α] {xs ys : List α} (ha : PK X Φ a xs) (hb : PK X Φ b ys) (hz : xs.length + ys.length ≤ sizeLine) : PN X Φ (.BinOp a .Add b pos) (xs ++ ys) := .mk fun H0 σ F H Q s sl q =>
  wE_of (pe_op op_cat peW peW) (ha H0 σ F H _ s sl fun l vs F1 H1 g1 h1 p1 => hb H0 σ F1 H1 _ g1.s (sl.gr g1) fun m ws F2 H2 g2 h2 p2 => by
    have e1 : vs.length = xs.length := by simpa using p1.1
    have e2 : ws.length = ys.length := by simpa using p2.1
    have g := g1.trans g2
    exact ⟨l, m, vs, ws, rfl, rfl, g2.h _ _ h1, h2, by omega, fun t ht => q t _ F2 _ (g.trans (Gr.own g.s ht)) (fresh_of g ht).2 (fresh_of g ht).1 upd_same (by rw [List.map_append]; exact (p1.mono g2.f).append p2)⟩)
theorem AllP.rep {Ps : List MP} {F : Hp} {vs : List V} (h : AllP Ps F vs) : ∀ n : Nat, AllP (List.replicate n Ps).flatten F (List.replicate n vs).flatten
  | 0 => by simpa using AllP.nil
  | n + 1 => by
    rw [List.replicate_succ, List.replicate_succ, List.flatten_cons, List.flatten_cons]
    exact h.append (AllP.rep h n)
def lrep {α : Type} (xs : List α) (k : Int) : List α := (List.replicate k.toNat xs).flatten
theorem map_flat_rep {α β : Type} (f : α → β) (xs : List α) : ∀ n : Nat, (List.replicate n (xs.map f)).flatten = ((List.replicate n xs).flatten).map f
  | 0 => rfl
  | n + 1 => by rw [List.replicate_succ, List.replicate_succ, List.flatten_cons, List.flatten_cons, List.map_append, map_flat_rep f xs n]
theorem v_rep {α : Type} [Py α] {xs : List α} (ha : PK X Φ a xs) (hb : PV X Φ b k) (h0 : -(2 ^ 63) ≤ k ∧ k < 2 ^ 63) (hz : xs.length * k.toNat ≤ sizeLine) : PN X Φ (.BinOp a .Mult b pos) (lrep xs k) := .mk fun H0 σ F H Q s sl q =>
  wE_of (pe_op op_rep peW peW) (ha H0 σ F H _ s sl fun l vs F1 H1 g1 h1 p1 => hb H0 σ F1 H1 _ g1.s (sl.gr g1) fun y F2 H2 g2 p2 => by
    cases p2
    have e1 : vs.length = xs.length := by simpa using p1.1
    have g := g1.trans g2
    exact ⟨l, k, vs, rfl, rfl, g2.h _ _ h1, h0.1, h0.2, by rw [e1]; exact hz, fun t ht => q t _ F2 _ (g.trans (Gr.own g.s ht)) (fresh_of g ht).2 (fresh_of g ht).1 upd_same (by
      show AllP (((List.replicate k.toNat xs).flatten).map _) _ _
      rw [← map_flat_rep]; exact (p1.mono g2.f).rep _)⟩)
/-! ### built-ins -/
/-- the built-in names are nobody else's -/
structure Blt (mg : Str → Option Value) : Prop where
  len : mg "len" = none
  range : mg "range" = none
  list : mg "list" = none
  tuple : mg "tuple" = none
  isinstance : mg "isinstance" = none
  int : mg "int" = none
  bool : mg "bool" = none
  max : mg "max" = none
  min : mg "min" = none
  sorted : mg "sorted" = none
  enumerate : mg "enumerate" = none
  zip : mg "zip" = none
  sum : mg "sum" = none
  all : mg "all" = none
  any : mg "any" = none
  set : mg "set" = none
  abs : mg "abs" = none
  reversed : mg "reversed" = none
  str : mg "str" = none
  dict : mg "dict" = none
  ve : mg "ValueError" = none
theorem wA_one {σ : St} {H : Hp} {Q : List V → Hp → Prop} (hst : nst e = true) (h : wE X e σ H fun v H1 => Q [v] H1) : wA X [e] σ H Q := wA_of (pa_cons peW pa_nil (star_cons hst)) h
section
variable {x : Str} {id T : String} {r : List V → Hp → VK → Prop}
theorem wE_callB (hc : CallR X (.builtin id) r) (hg : Gl X x) (hm : X.mg x = none) (hv : bootBuiltins x = some (.builtin id)) (hn : x ≠ "__name__") (hd : (x == ("__debug__" : Str)) = false) (hst : (e :: es).all nst = true)
    {σ : St} {H : Hp} {Q : VK} (h : wA X (e :: es) σ H fun vs H1 => r vs H1 Q) : wE X (.Call (.Name x p) (e :: es) [] pos) σ H Q := by
  have h2 := hst
  rw [List.all_cons, Bool.and_eq_true] at h2
  exact wE_of (pe_callB hc hg hm hv paW hn hd (star_cons h2.1) (star_plain h2.2)) h
theorem wE_callT (hc : CallR X (.type T) r) (hg : Gl X x) (hm : X.mg x = none) (hv : bootBuiltins x = some (.type T)) (hn : x ≠ "__name__") (hd : (x == ("__debug__" : Str)) = false) (hst : (e :: es).all nst = true)
    {σ : St} {H : Hp} {Q : VK} (h : wA X (e :: es) σ H fun vs H1 => r vs H1 Q) : wE X (.Call (.Name x p) (e :: es) [] pos) σ H Q := by
  have h2 := hst
  rw [List.all_cons, Bool.and_eq_true] at h2
  exact wE_of (pe_callTy hc hg hm hv paW hn hd (star_cons h2.1) (star_plain h2.2)) h
end
theorem v_lenP (B : Blt X.mg) (ha : PEl X Φ e Ps) (hg : Gl X "len" := by rfl) (hst : nst e = true := by rfl) : PV X Φ (.Call (.Name "len" p) [e] [] pos) (Ps.length : Int) := .mk fun H0 σ F H Q s sl q =>
  wE_callB call_len_seq hg B.len PySem.boot_len (by decide +kernel) (by decide +kernel) (by simp [hst]) (wA_one hst (ha H0 σ F H _ s sl fun l vs F1 H1 g1 h1 p1 => ⟨l, vs, rfl, .inl h1, by rw [p1.1]; exact q _ F1 H1 g1 (.int _)⟩))
theorem v_len {α : Type} [Py α] {xs : List α} (B : Blt X.mg) (ha : PL X Φ e xs) (hg : Gl X "len" := by rfl) (hst : nst e = true := by rfl) : PV X Φ (.Call (.Name "len" p) [e] [] pos) (xs.length : Int) := by
  have := v_lenP (p := p) (pos := pos) B ha hg hst
  rw [List.length_map] at this
  exact this
def iabs (i : Int) : Int := if i < 0 then -i else i
def imax (i j : Int) : Int := if j > i then j else i
def imin (i j : Int) : Int := if j < i then j else i
def b2i (k : Bool) : Int := if k then 1 else 0
/-- list(xs) -/
theorem v_listOfP (B : Blt X.mg) (ha : PEl X Φ e Ps) (hg : Gl X "list" := by rfl) (hst : nst e = true := by rfl) : PEn X Φ (.Call (.Name "list" p) [e] [] pos) Ps := .mk fun H0 σ F H Q s sl q =>
  wE_callT call_list_of hg B.list (by decide +kernel) (by decide +kernel) (by decide +kernel) (by simp [hst]) (wA_one hst (ha H0 σ F H _ s sl fun l vs F1 H1 g1 h1 p1 => ⟨l, vs, rfl, .inl h1, fun t ht => q t vs F1 _ (g1.trans (Gr.own g1.s ht)) (fresh_of g1 ht).2 (fresh_of g1 ht).1 upd_same p1⟩))
theorem v_listOf {α : Type} [Py α] {xs : List α} (B : Blt X.mg) (ha : PL X Φ e xs) (hg : Gl X "list" := by rfl) (hst : nst e = true := by rfl) : PN X Φ (.Call (.Name "list" p) [e] [] pos) xs := v_listOfP B ha hg hst
/-- sum, all, any of a list -/
theorem allP_vals {α : Type} [Py α] (f : α → V) (hf : ∀ (K : Fg) (F : Hp) (v : V) (x : α), Dq K F v (enc x) → v = f x) {K : Fg} {F : Hp} : ∀ {xs : List α} {vs : List V}, AllP (xs.map fun x => py K (enc x)) F vs → vs = xs.map f
  | [], vs, h => h.inv0
  | x :: xs, vs, h => by
    obtain ⟨v, us, rfl, h1, h2⟩ := AllP.inv (P := py K (enc x)) (Ps := xs.map fun x => py K (enc x)) h
    rw [hf K F v x h1, allP_vals f hf h2]; rfl
theorem allP_bools {K : Fg} {F : Hp} {xs : List Bool} {vs : List V} (h : AllP (xs.map fun x => py K (enc x)) F vs) : vs = xs.map V.bl := allP_vals V.bl (fun _ _ _ _ h => by cases h; rfl) h
theorem ints_allP {K : Fg} {F : Hp} : ∀ {xs : List Int}, AllP (xs.map fun x => py K (enc x)) F (xs.map V.int)
  | [] => .nil
  | x :: xs => .cons (.int x) ints_allP
theorem v_all {xs : List Bool} (B : Blt X.mg) (hc : X.calm = true) (ha : PL X Φ e xs) (hg : Gl X "all" := by rfl) (hst : nst e = true := by rfl) : PV X Φ (.Call (.Name "all" p) [e] [] pos) (xs.all id) := .mk fun H0 σ F H Q s sl q =>
  wE_callB (cr_all hc) hg B.all (by decide +kernel) (by decide +kernel) (by decide +kernel) (by simp [hst]) (wA_one hst (ha H0 σ F H _ s sl fun l vs F1 H1 g1 h1 p1 => ⟨l, xs, rfl, by rw [← allP_bools p1]; exact h1, q _ F1 H1 g1 (.bl _)⟩))
def maxL (xs : List Int) : Int := xs.foldl imax (xs.getD 0 0)
def minL (xs : List Int) : Int := xs.foldl imin (xs.getD 0 0)
end
end GL

set_option Elab.async false
set_option linter.all false
set_option maxRecDepth 100000
set_option maxHeartbeats 4000000
namespace GL
open PySem L2
open Evl (Ex ex_l ex_t)
/-! ### what a def hands back -/
/-- what is said of a value, over the ground H0, the settled part F and the heap H -/
structure RC where
  c : Hp → Hp → Hp → V → Prop
  mono : ∀ H0 H1 F H v, Ex H0 H1 → c H1 F H v → c H0 F H v
inductive RS where
  | val (P : MP)
  | new (Ps : List MP)
  | ob (P : OP)
  | fre (C : RC)
  | err (C : Value) (P : Option Addr → Hp → Hp → Prop)
/-- W: what is wanted of an error -/
def RS.sat (F0 H0 : Hp) (Q : VK) (W : XK) : RS → Prop
  | .val P => ∀ v F H, Gr F0 H0 F H → P.p F v → Q v H
  | .new Ps => ∀ a vs F H, Gr F0 H0 F H → H0 a = none → F a = none → H a = some (.lst vs) → AllP Ps F vs → Q (.ref a) H
  | .ob P => ∀ a F H, Gr F0 H0 F H → (P.fp H a).Nodup → (∀ b ∈ P.fp H a, H0 b = none ∧ F b = none ∧ H b ≠ none) → P.p F H a → Q (.ref a) H
  | .fre C => ∀ v F H, Gr F0 H0 F H → C.c H0 F H v → Q v H
  | .err C P => ∀ d F H, Gr F0 H0 F H → (∀ a, d = some a → H0 a = none) → P d F H → W C d H
def spG {A : Type} (argP : A → List MP) (pre : A → Prop) (res : A → RS) : Sp := fun vs H Q E => ∃ (x : A) (F : Hp), Ex F H ∧ AllP (argP x) F vs ∧ pre x ∧ (res x).sat F H Q E
structure FnG (P : Program) (w : World) (K : Fg) (mg : Str → Option Value) (base : Heap) (CX : CXT) (k : Nat) (x : Str) (sp : Sp) : Prop where
  ex : ∃ (f : Addr) (fd : FuncData) (ps : List Str), FnOk P w K mg base CX k f fd ps sp ∧ mg x = some (.ref f) ∧ PySem.W.keepIn K (.ref f) = true ∧ Binds K fd ps []
theorem FnG.mono {P : Program} {w : World} {K : Fg} {mg : Str → Option Value} {base : Heap} {CX : CXT} {j k : Nat} {x : Str} {sp : Sp} (G : FnG P w K mg base CX j x sp) (h : j ≤ k) : FnG P w K mg base CX k x sp :=
  let ⟨f, fd, ps, a, b, c, d⟩ := G.ex
  ⟨f, fd, ps, a.mono h, b, c, d⟩
/-! ### what a loop takes -/
/-- J gives, from any settled part F on, the items of which Ps says -/
structure Src (J : It) (F : Hp) (Ps : List MP) : Prop where
  go : ∀ (i : Nat) (P : MP) (F' H' : Hp), Ps[i]? = some P → Ex F F' → Ex F' H' → J.go i H' ∧ ∀ v H'', J.yld i H' v H'' → ∃ F'', Gr F' H' F'' H'' ∧ P.p F'' v
  stop : ∀ (F' H' : Hp), Ex F F' → Ex F' H' → J.stop Ps.length H'
structure PIv (X : Cx) (Φ : List SD) (tg iter : Expr) (Ps : List MP) : Prop where
  run : ∀ (H0 : Hp) (σ : St) (F H : Hp) (R : It → Hp → Prop), Ex F H → Sl H0 Φ σ F H → (∀ J F' H', Gr F H F' H' → Src J F' Ps → R J H') → wI X tg iter σ H R
instance {X : Cx} {Φ : List SD} {tg iter : Expr} {Ps : List MP} : CoeFun (PIv X Φ tg iter Ps) (fun _ => ∀ (H0 : Hp) (σ : St) (F H : Hp) (R : It → Hp → Prop), Ex F H → Sl H0 Φ σ F H → (∀ J F' H', Gr F H F' H' → Src J F' Ps → R J H') → wI X tg iter σ H R) := ⟨PIv.run⟩
abbrev PIt (X : Cx) (Φ : List SD) (tg iter : Expr) {α : Type} [Py α] (xs : List α) : Prop := PIv X Φ tg iter (xs.map fun x => py X.K (enc x))
def setAll (Φ : List SD) : List (Nat × SD) → List SD
  | [] => Φ
  | (i, d) :: r => setAll (Φ.set i d) r
/-- a target: of a value of P its slots are us -/
structure PGv (X : Cx) (tg : Expr) (P : MP) (us : List (Nat × SD)) : Prop where
  run : ∀ (H0 : Hp) (Φ : List SD) (σ : St) (F H : Hp) (v : V) (Q : St → Hp → Prop), Ex F H → Sl H0 Φ σ F H → P.p F v → (∀ σ', Sl H0 (setAll Φ us) σ' F H → (∀ (j : Nat), (∀ u ∈ us, u.1 ≠ j) → σ'[j]? = σ[j]?) → Q σ' H) → wG X tg v σ H Q
instance {X : Cx} {tg : Expr} {P : MP} {us : List (Nat × SD)} : CoeFun (PGv X tg P us) (fun _ => ∀ (H0 : Hp) (Φ : List SD) (σ : St) (F H : Hp) (v : V) (Q : St → Hp → Prop), Ex F H → Sl H0 Φ σ F H → P.p F v → (∀ σ', Sl H0 (setAll Φ us) σ' F H → (∀ (j : Nat), (∀ u ∈ us, u.1 ≠ j) → σ'[j]? = σ[j]?) → Q σ' H) → wG X tg v σ H Q) := ⟨PGv.run⟩
abbrev PGt (X : Cx) (tg : Expr) {α : Type} [Py α] (x : α) (us : List (Nat × SD)) : Prop := PGv X tg (py X.K (enc x)) us
section
variable {X : Cx} {Φ : List SD} {a b c e : Expr} {es : List Expr} {pos p p2 : Pos} {P : MP} {Ps Qs : List MP} {i j k : Int} {tg : Expr}
/-! ### a def called -/
theorem wE_call {x : Str} {CX : CXT} {n : Nat} {sp : Sp} (G : FnG X.prog X.w X.K X.mg X.base CX n x sp) (hr : Room n X.A) (hx : Passes CX X E0) (hg : Gl X x) (hd : (x == ("__debug__" : Str)) = false) (hst : (e :: es).all nst = true)
    {σ : St} {H : Hp} {Q : VK} (h : wA X (e :: es) σ H fun vs H1 => sp vs H1 Q E0) : wE X (.Call (.Name x p) (e :: es) [] pos) σ H Q := by
  obtain ⟨f, fd, ps, h1, h2, h3, h4⟩ := G.ex
  have h2' := hst
  rw [List.all_cons, Bool.and_eq_true] at h2'
  refine wE_of (pe_call h1 hr hg h2 h3 h4 .nil hx paW hd (star_cons h2'.1) (star_plain h2'.2)) ?_
  show wA X (e :: es) σ H fun vs H1 => sp (vs ++ []) H1 Q E0
  have ee : (fun (vs : List V) (H1 : Hp) => sp (vs ++ []) H1 Q E0) = fun vs H1 => sp vs H1 Q E0 := by funext vs H1; rw [List.append_nil]
  rw [ee]; exact h
theorem v_call {A : Type} {argP : A → List MP} {pre : A → Prop} {res : A → RS} {x : Str} {CX : CXT} {n : Nat} (G : FnG X.prog X.w X.K X.mg X.base CX n x (spG argP pre res)) (hr : Room n X.A) (hx : Passes CX X E0) (z : A) (hp : pre z) (hv : res z = .val P)
    (ha : PAs X Φ (e :: es) (argP z)) (hg : Gl X x := by rfl) (hd : (x == ("__debug__" : Str)) = false := by decide) (hst : (e :: es).all nst = true := by rfl) : PEv X Φ (.Call (.Name x p) (e :: es) [] pos) P := .mk fun H0 σ F H Q s sl q =>
  wE_call G hr hx hg hd hst (ha H0 σ F H _ s sl fun vs F1 H1 g1 p1 => ⟨z, F1, g1.s, p1, hp, by rw [hv]; exact fun v F2 H2 g2 p2 => q v F2 H2 (g1.trans g2) p2⟩)
theorem v_callN {A : Type} {argP : A → List MP} {pre : A → Prop} {res : A → RS} {x : Str} {CX : CXT} {n : Nat} (G : FnG X.prog X.w X.K X.mg X.base CX n x (spG argP pre res)) (hr : Room n X.A) (hx : Passes CX X E0) (z : A) (hp : pre z) (hv : res z = .new Ps)
    (ha : PAs X Φ (e :: es) (argP z)) (hg : Gl X x := by rfl) (hd : (x == ("__debug__" : Str)) = false := by decide) (hst : (e :: es).all nst = true := by rfl) : PEn X Φ (.Call (.Name x p) (e :: es) [] pos) Ps := .mk fun H0 σ F H Q s sl q =>
  wE_call G hr hx hg hd hst (ha H0 σ F H _ s sl fun vs F1 H1 g1 p1 => ⟨z, F1, g1.s, p1, hp, by
    rw [hv]
    exact fun a vs F2 H2 g2 h1 h2 h3 p2 => q a vs F2 H2 (g1.trans g2) (by
      cases w : H a with
      | none => rfl
      | some u => rw [g1.h a u w] at h1; cases h1) h2 h3 p2⟩)
/-! ### sources -/
theorem i_list {α : Type} [Py α] {xs : List α} (ha : PV X Φ e xs) : PIt X Φ tg e xs := .mk fun H0 σ F H R s sl q =>
  wI_of (pi_list peW) (ha H0 σ F H _ s sl fun v F1 H1 g1 p1 => by
    obtain ⟨l, vs, rfl, h1, p2⟩ := py_lst.mp p1
    refine ⟨l, rfl, ⟨vs, SqL.of (g1.s _ _ h1)⟩, q _ F1 H1 g1 ⟨fun n P F2 H2 hp e1 e2 => ?_, fun F2 H2 e1 e2 => ⟨vs, SqL.of (e2 _ _ (e1 _ _ h1)), by rw [p2.1]; exact Nat.le_refl _⟩⟩⟩
    obtain ⟨v, hv, pv⟩ := allP_at p2 hp
    refine ⟨⟨vs, v, SqL.of (e2 _ _ (e1 _ _ h1)), hv⟩, fun u H3 y => ?_⟩
    obtain ⟨rfl, z⟩ := y
    have z2 := z vs (SqL.of (e2 _ _ (e1 _ _ h1)))
    rw [hv] at z2; cases z2
    exact ⟨F2, Gr.refl e2, P.mono _ _ _ e1 pv⟩)
/-- lo, lo + 1, .. below hi -/
def rng (lo hi : Int) : List Int := (List.range (hi - lo).toNat).map fun (n : Nat) => lo + (n : Int)
theorem rng_length (lo hi : Int) : (rng lo hi).length = (hi - lo).toNat := by simp [rng]
theorem rng_get {K : Fg} {lo hi : Int} {n : Nat} {P : MP} (h : ((rng lo hi).map fun x => py K (enc x))[n]? = some P) : n < (hi - lo).toNat ∧ P = py K (.int (lo + (n : Int))) := by
  have hn := (List.getElem?_eq_some_iff.mp h).1
  rw [List.length_map, rng_length] at hn
  refine ⟨hn, ?_⟩
  simp only [rng, List.map_map, List.getElem?_map, List.getElem?_range hn, Option.map_some, Option.some.injEq] at h
  exact h.symm
theorem src_range {K : Fg} {F : Hp} {lo hi : Int} : Src (Itr lo (hi - lo).toNat) F ((rng lo hi).map fun x => py K (enc x)) := by
  refine ⟨fun n P F2 H2 hp e1 e2 => ?_, fun F2 H2 _ _ => ?_⟩
  · obtain ⟨hn, rfl⟩ := rng_get hp
    refine ⟨hn, fun v H3 y => ?_⟩
    obtain ⟨rfl, rfl⟩ := y
    exact ⟨F2, Gr.refl e2, .int _⟩
  · show (hi - lo).toNat ≤ _
    rw [List.length_map, rng_length]; exact Nat.le_refl _
def small62 (i : Int) : Prop := -(2 ^ 62) ≤ i ∧ i < 2 ^ 62
theorem i_range1 (B : Blt X.mg) (ha : PV X Φ a i) (hi : small62 i) (hg : Gl X "range" := by rfl) (h1 : nst a = true := by rfl) : PIt X Φ tg (.Call (.Name "range" p) [a] [] pos) (rng 0 i) := .mk fun H0 σ F H R s sl q =>
  wI_of (pi_range1 hg B.range paW (by rw [star_cons h1]; rfl)) (wA_one h1 (ha H0 σ F H _ s sl fun v F1 H1 g1 p1 => by
    cases p1
    refine ⟨i, rfl, hi.1, hi.2, q _ F1 H1 g1 ?_⟩
    have := src_range (K := X.K) (F := F1) (lo := 0) (hi := i)
    rw [Int.sub_zero] at this
    exact this))
/-- the pairs of enumerate, of zip -/
def enumL {α : Type} (xs : List α) : List (Int × α) := (rng 0 xs.length).zip xs
theorem enumL_length {α : Type} (xs : List α) : (enumL xs).length = xs.length := by
  unfold enumL
  rw [List.length_zip, rng_length]; omega
/-! ### targets -/
theorem g_name (n : Nat) {x : Str} (hN : X.N.Nodup) (hi : X.N[n]? = some x := by rfl) (hx : Loc X.env.scope x := by first | exact Or.inl rfl | exact Or.inr rfl) (hf : X.fn x = true ∨ X.env.scope.names.lookup x = some .local := by first | exact .inl rfl | exact .inr rfl) : PGv X (.Name x pos) P [(n, .im P)] :=
  .mk fun H0 Φ σ F H v Q s sl hp q => wG_of (pg_name hN hi hx hf) (q _ (sl.set ⟨v, rfl, hp⟩ rfl) fun j hj => List.getElem?_set_ne (hj _ (List.mem_singleton.mpr rfl)))
/-- several targets, one after another -/
def wGs (X : Cx) (ts : List Expr) : TGs := fun vs σ H Q => ∀ pins s us, Inv X pins σ H s → Vals vs us → wpAny (model X.prog X.w) X.A (assignInOrder ((assignEach ts X.env).map (·.2)) us) (fun _ s' => ∃ σ' H', Inv X pins σ' H' s' ∧ Q σ' H') X.xe s
structure PGsv (X : Cx) (ts : List Expr) (Ps : List MP) (us : List (Nat × SD)) : Prop where
  run : ∀ (H0 : Hp) (Φ : List SD) (σ : St) (F H : Hp) (vs : List V) (Q : St → Hp → Prop), Ex F H → Sl H0 Φ σ F H → AllP Ps F vs → (∀ σ', Sl H0 (setAll Φ us) σ' F H → (∀ (j : Nat), (∀ u ∈ us, u.1 ≠ j) → σ'[j]? = σ[j]?) → Q σ' H) → wGs X ts vs σ H Q
instance {X : Cx} {ts : List Expr} {Ps : List MP} {us : List (Nat × SD)} : CoeFun (PGsv X ts Ps us) (fun _ => ∀ (H0 : Hp) (Φ : List SD) (σ : St) (F H : Hp) (vs : List V) (Q : St → Hp → Prop), Ex F H → Sl H0 Φ σ F H → AllP Ps F vs → (∀ σ', Sl H0 (setAll Φ us) σ' F H → (∀ (j : Nat), (∀ u ∈ us, u.1 ≠ j) → σ'[j]? = σ[j]?) → Q σ' H) → wGs X ts vs σ H Q) := ⟨PGsv.run⟩
def ntg : Expr → Bool
  | .Starred .. => false
  | _ => true
end
end GL

set_option Elab.async false
set_option linter.all false
set_option maxRecDepth 100000
set_option maxHeartbeats 4000000
namespace GL
open PySem L2
open Evl (Ex ex_l ex_t)
/-! ### comprehensions -/
def wipeS (Φ : List SD) : List Nat → List SD
  | [] => Φ
  | v :: vs => (wipeS Φ vs).set v .un
theorem Sl.wipe {H0 F H : Hp} {Φ : List SD} {σ : St} (h : Sl H0 Φ σ F H) : ∀ vs : List Nat, Sl H0 (wipeS Φ vs) (wipe σ vs) F H
  | [] => h
  | v :: vs => by
    have := (Sl.wipe h vs).set (i := v) (d := .un) (o := none) trivial rfl
    exact this
theorem wipe_out {σ : St} {j : Nat} : ∀ {vs : List Nat}, j ∉ vs → (wipe σ vs)[j]? = σ[j]?
  | [], _ => rfl
  | v :: vs, h => by
    unfold L2.wipe
    rw [List.getElem?_set_ne (fun z => h (by simp [z]))]
    exact wipe_out fun z => h (by simp [z])
theorem wipe_in {σ : St} {j : Nat} : ∀ {vs : List Nat}, j ∈ vs → j < σ.length → (wipe σ vs)[j]? = some none
  | [], h, _ => by simp at h
  | v :: vs, h, hl => by
    unfold L2.wipe
    by_cases q : v = j
    · subst q
      rw [List.getElem?_set_self (by rw [wipe_length]; exact hl)]
    · rw [List.getElem?_set_ne q]
      exact wipe_in (by
        rcases List.mem_cons.mp h with z | z
        · exact absurd z.symm q
        · exact z) hl
theorem wipe_eq {σ σ2 : St} {vs : List Nat} (hl : σ2.length = σ.length) (h : ∀ j, j ∉ vs → σ2[j]? = (wipe σ vs)[j]?) : wipe σ2 vs = wipe σ vs := by
  apply List.ext_getElem?
  intro j
  by_cases q : j ∈ vs
  · by_cases hj : j < σ.length
    · rw [wipe_in q hj, wipe_in q (by omega)]
    · rw [List.getElem?_eq_none (by rw [wipe_length]; omega), List.getElem?_eq_none (by rw [wipe_length]; omega)]
  · rw [wipe_out q, h j q]
section
variable {X : Cx} {Φ : List SD} {a b c e : Expr} {es : List Expr} {pos p p2 : Pos} {P : MP} {Ps Qs : List MP} {i j k : Int} {tg iter elt : Expr} {scope : Scope} {own : List (Str × Nat)}
def Blk (X : Cx) (scope : Scope) (Y : Cx) : Prop := ∃ (s : Shared) (H : Hp) (C : Addr) (cl : List (Str × Addr)) (fp : List Addr), Y = X.blk s H scope (compEnvC scope cl C X.env) fp
/-- the block's readings -/
def gB (X : Cx) (scope : Scope) (tg : Expr) : TG := fun v σ H Q => ∀ (s : Shared) (H' : Hp) (C : Addr) (cl : List (Str × Addr)) (fp : List Addr), wG (X.blk s H' scope (compEnvC scope cl C X.env) fp) tg v σ H Q
def eB (X : Cx) (scope : Scope) (e : Expr) : TE := fun σ H Q => ∀ (s : Shared) (H' : Hp) (C : Addr) (cl : List (Str × Addr)) (fp : List Addr), wE (X.blk s H' scope (compEnvC scope cl C X.env) fp) e σ H Q
def tB' (X : Cx) (scope : Scope) (e : Expr) : TT := fun σ H Q => ∀ (s : Shared) (H' : Hp) (C : Addr) (cl : List (Str × Addr)) (fp : List Addr), wT (X.blk s H' scope (compEnvC scope cl C X.env) fp) e σ H Q
theorem pgB (s : Shared) (H : Hp) (C : Addr) (cl : List (Str × Addr)) (fp : List Addr) : PG (X.blk s H scope (compEnvC scope cl C X.env) fp) tg (gB X scope tg) := ⟨fun pins s' _ _ _ u _ I r h => h s H C cl fp pins s' u I r⟩
theorem peB (s : Shared) (H : Hp) (C : Addr) (cl : List (Str × Addr)) (fp : List Addr) : PE (X.blk s H scope (compEnvC scope cl C X.env) fp) e (eB X scope e) := ⟨fun pins s' _ _ _ I h => h s H C cl fp pins s' I⟩
theorem ptB (s : Shared) (H : Hp) (C : Addr) (cl : List (Str × Addr)) (fp : List Addr) : PT (X.blk s H scope (compEnvC scope cl C X.env) fp) e (tB' X scope e) := ⟨fun pins s' _ _ _ I h => h s H C cl fp pins s' I⟩
/-- a comprehension's reading, its test at tt -/
theorem lc_ok {α β : Type} [Py α] [Py β] {xs : List α} {cnd : α → Bool} {f : α → β} {us : α → List (Nat × SD)} {tt : TT} {vs : List Nat} {H0 : Hp} {σ : St} {F H : Hp} {Q : VK} (s : Ex F H) (sl : Sl H0 Φ σ F H)
    (hi : PIt X Φ tg iter xs) (hz : xs.length ≤ sizeLine)
    (hg : ∀ x, ∀ (s : Shared) (H : Hp) (C : Addr) (cl : List (Str × Addr)) (fp : List Addr), PGt (X.blk s H scope (compEnvC scope cl C X.env) fp) tg x (us x))
    (hu : ∀ x, ∀ u ∈ us x, u.1 ∈ vs)
    (ht : ∀ x, x ∈ xs → ∀ (σ' : St) (F' H' : Hp) (R : Bool → Hp → Prop), Ex F' H' → Sl H0 (setAll (wipeS Φ vs) (us x)) σ' F' H' → (∀ F'' H'', Gr F' H' F'' H'' → R (cnd x) H'') → tt σ' H' R)
    (he : ∀ x, x ∈ xs → cnd x = true → ∀ (s : Shared) (H : Hp) (C : Addr) (cl : List (Str × Addr)) (fp : List Addr), PEv (X.blk s H scope (compEnvC scope cl C X.env) fp) (setAll (wipeS Φ vs) (us x)) elt (py X.K (enc (f x))))
    (q : ∀ a vs F' H', Gr F H F' H' → H a = none → F' a = none → H' a = some (.lst vs) → AllP (((xs.filter cnd).map f).map fun x => py X.K (enc x)) F' vs → Q (.ref a) H') :
    tLc (wI X tg iter) (gB X scope tg) tt (eB X scope elt) vs σ H Q := by
  refine hi H0 σ F H _ s sl fun J F1 H1 g1 src D hD => ?_
  have fD := (fresh_of g1 hD)
  have hlen : (xs.map fun x => py X.K (enc x)).length = xs.length := List.length_map _
  refine ⟨fun n m H' => m = xs.length - n ∧ n ≤ xs.length ∧ ∃ F' acc, Gr F1 H1 F' H' ∧ F' D = none ∧ H' D = some (.lst acc) ∧ acc.length ≤ n ∧ AllP ((((xs.take n).filter cnd).map f).map fun x => py X.K (enc x)) F' acc,
    ⟨xs.length, by simp, Nat.zero_le _, F1, [], Gr.own g1.s hD, fD.1, upd_same, Nat.le_refl _, by simpa using AllP.nil⟩, ?_⟩
  rintro n m H' ⟨rfl, hn, F', acc, g, fd, hd, hal, hacc⟩
  by_cases hlt : n < xs.length
  · have hx : xs[n]? = some xs[n] := List.getElem?_eq_getElem hlt
    obtain ⟨go, yl⟩ := src.go n _ F' H' (by rw [List.getElem?_map, hx]; rfl) g.f g.s
    refine .inr ⟨go, fun H2 => (fun n m H' => m = xs.length - n ∧ n ≤ xs.length ∧ ∃ F' acc, Gr F1 H1 F' H' ∧ F' D = none ∧ H' D = some (.lst acc) ∧ acc.length ≤ n ∧ AllP ((((xs.take n).filter cnd).map f).map fun x => py X.K (enc x)) F' acc) (n + 1) (xs.length - (n + 1)) H2, fun H2 h => ⟨_, by omega, h⟩, fun v H2 y => ?_⟩
    obtain ⟨F2, g2, pv⟩ := yl v H2 y
    have hmem : xs[n] ∈ xs := List.getElem_mem hlt
    have tk : xs.take (n + 1) = xs.take n ++ [xs[n]] := by rw [List.take_succ, hx]; rfl
    have sl2 : Sl H0 (wipeS Φ vs) (wipe σ vs) F2 H2 := ((sl.gr g1).gr (g.trans g2)).wipe vs
    intro s' Hs C cl fp
    refine hg xs[n] s' Hs C cl fp H0 (wipeS Φ vs) (wipe σ vs) F2 H2 v _ g2.s sl2 pv fun σ2 sl3 keep => ⟨wipe_eq ?_ fun j hj => keep j fun u hu' z => hj (by rw [← z]; exact hu _ u hu'), ?_⟩
    · have l1 := sl3.len
      have l2 : ∀ (us : List (Nat × SD)) (Φ : List SD), (setAll Φ us).length = Φ.length := by
        intro us
        induction us with
        | nil => intro Φ; rfl
        | cons u us ih => intro Φ; exact (ih _).trans (List.length_set)
      rw [l2] at l1
      have l3 := sl2.len
      rw [wipe_length] at l3
      omega
    · refine ht xs[n] hmem σ2 F2 H2 _ g2.s sl3 fun F3 H3 g3 => ?_
      have fd3 : F3 D = none := g3.n D (g2.n D fd (ne_none hd)) (ne_none (g2.h _ _ hd))
      have hd3 : H3 D = some (.lst acc) := g3.h _ _ (g2.h _ _ hd)
      cases hc : cnd xs[n] with
      | false =>
        rw [if_neg (by simp)]
        refine ⟨rfl, by omega, F3, acc, (g.trans g2).trans g3, fd3, hd3, by omega, ?_⟩
        rw [tk, List.filter_append, List.filter_cons, hc]
        simpa using hacc.mono (g2.f.trans g3.f)
      | true =>
        rw [if_pos rfl]
        intro s'' Hs' C' cl' fp'
        refine he xs[n] hmem hc s'' Hs' C' cl' fp' H0 σ2 F3 H3 _ g3.s (sl3.gr g3) fun y F4 H4 g4 py4 => ?_
        have fd4 : F4 D = none := g4.n D fd3 (ne_none hd3)
        have hd4 : H4 D = some (.lst acc) := g4.h _ _ hd3
        have gg := ((g.trans g2).trans g3).trans g4
        refine ⟨acc, hd4, by omega, rfl, by omega, F4, acc ++ [y], ⟨gg.f, fun b o z => ?_, fun b o z => ?_, fun b z1 z2 => gg.n b z1 z2⟩, fd4, upd_same, by simp; omega, ?_⟩
        · rw [upd_ne (ne_of_none z hD)]; exact gg.h b o z
        · rw [upd_ne (ne_of_none z fd4)]; exact gg.s b o z
        · rw [tk, List.filter_append, List.filter_cons, hc]
          simp only [List.filter_nil, if_true, List.map_append, List.map_cons, List.map_nil]
          exact (hacc.mono ((g2.f.trans g3.f).trans g4.f)).snoc py4
  · have e : n = xs.length := by omega
    subst e
    refine .inl ⟨by have := src.stop F' H' g.f g.s; rw [hlen] at this; exact this, ?_⟩
    rw [List.take_length] at hacc
    exact q D acc F' H' (g1.trans g) fD.2 fd hd hacc
variable {x1 : Nat}
theorem filter_true {α : Type} (xs : List α) : xs.filter (fun _ => true) = xs := by simp
theorem v_lc {α β : Type} [Py α] [Py β] {xs : List α} {f : α → β} (own : List (Str × Nat)) (us : α → List (Nat × SD)) (hc : X.calm = true) (hN : X.N.Nodup) (ok : BlkOk X.N X.env.scope scope own) (hi : PIt X Φ tg iter xs) (hz : xs.length ≤ sizeLine)
    (hg : ∀ x, ∀ (s : Shared) (H : Hp) (C : Addr) (cl : List (Str × Addr)) (fp : List Addr), PGt (X.blk s H scope (compEnvC scope cl C X.env) fp) tg x (us x)) (hu : ∀ x, ∀ u ∈ us x, u.1 ∈ own.map (·.2))
    (he : ∀ x, x ∈ xs → ∀ (s : Shared) (H : Hp) (C : Addr) (cl : List (Str × Addr)) (fp : List Addr), PEv (X.blk s H scope (compEnvC scope cl C X.env) fp) (setAll (wipeS Φ (own.map (·.2))) (us x)) elt (py X.K (enc (f x))))
    (hs : ∀ x, foldedSetIterable iter X.env x = pure x := by intro _; rfl) : PN X Φ (.ListComp elt [⟨tg, iter, [], 0⟩] scope pos) (xs.map f) := .mk fun H0 σ F H Q s sl q =>
  wE_of (pe_lc (own := own) hc hN piW ok pgB (fun _ _ _ _ _ => pts_nil) peB hs) (lc_ok (cnd := fun _ => true) s sl hi hz hg hu (fun x hx σ' F' H' R s' _ r => r F' H' (Gr.refl s')) (fun x hx _ => he x hx) (by rw [filter_true]; exact q))
theorem v_lcIf {α β : Type} [Py α] [Py β] {xs : List α} {cnd : α → Bool} {f : α → β} (own : List (Str × Nat)) (us : α → List (Nat × SD)) (hc : X.calm = true) (hN : X.N.Nodup) (ok : BlkOk X.N X.env.scope scope own) (hi : PIt X Φ tg iter xs) (hz : xs.length ≤ sizeLine)
    (hg : ∀ x, ∀ (s : Shared) (H : Hp) (C : Addr) (cl : List (Str × Addr)) (fp : List Addr), PGt (X.blk s H scope (compEnvC scope cl C X.env) fp) tg x (us x)) (hu : ∀ x, ∀ u ∈ us x, u.1 ∈ own.map (·.2))
    (ht : ∀ x, x ∈ xs → ∀ (s : Shared) (H : Hp) (C : Addr) (cl : List (Str × Addr)) (fp : List Addr), PTv (X.blk s H scope (compEnvC scope cl C X.env) fp) (setAll (wipeS Φ (own.map (·.2))) (us x)) c (cnd x))
    (he : ∀ x, x ∈ xs → cnd x = true → ∀ (s : Shared) (H : Hp) (C : Addr) (cl : List (Str × Addr)) (fp : List Addr), PEv (X.blk s H scope (compEnvC scope cl C X.env) fp) (setAll (wipeS Φ (own.map (·.2))) (us x)) elt (py X.K (enc (f x))))
    (hs : ∀ x, foldedSetIterable iter X.env x = pure x := by intro _; rfl) : PN X Φ (.ListComp elt [⟨tg, iter, [c], 0⟩] scope pos) ((xs.filter cnd).map f) := .mk fun H0 σ F H Q s sl q =>
  wE_of (pe_lc (own := own) hc hN piW ok pgB (fun s H C cl fp => pts_one (ptB s H C cl fp)) peB hs) (lc_ok s sl hi hz hg hu (fun x hx σ' F' H' R s' sl' r s2 Hs C cl fp => ht x hx s2 Hs C cl fp H0 σ' F' H' R s' sl' r) he q)
end

/-! ### statements -/
inductive Ctl (S R : Type) where
  | nx (s : S)
  | ct (s : S)
  | bk (s : S)
  | rt (r : R)
/-- blocks, one behind another -/
def wK (X : Cx) : List (List Stmt) → TS
  | [] => fun D σ H => D.nx σ H
  | A :: r => fun D σ H => wSs X A { D with nx := fun σ' H' => wK X r D σ' H' } σ H
def Ctl.post {S R : Type} (F0 H0 : Hp) (D : Ends) (W : XK) (M : S → List SD) (T : R → RS) : Ctl S R → Prop
  | .nx s => ∀ σ F H, Gr F0 H0 F H → Sl H0 (M s) σ F H → D.nx σ H
  | .ct s => ∀ σ F H, Gr F0 H0 F H → Sl H0 (M s) σ F H → D.ct σ H
  | .bk s => ∀ σ F H, Gr F0 H0 F H → Sl H0 (M s) σ F H → D.bk σ H
  | .rt r => (T r).sat F0 H0 D.rt W
structure HB (X : Cx) (W : XK) {S R : Type} (ks : List (List Stmt)) (Φ : List SD) (M : S → List SD) (T : R → RS) (o : Ctl S R) : Prop where
  run : ∀ (F0 H0 : Hp) (D : Ends) (σ : St) (F H : Hp), Gr F0 H0 F H → Sl H0 Φ σ F H → o.post F0 H0 D W M T → wK X ks D σ H
instance {X : Cx} {W : XK} {S R : Type} {ks : List (List Stmt)} {Φ : List SD} {M : S → List SD} {T : R → RS} {o : Ctl S R} : CoeFun (HB X W ks Φ M T o) (fun _ => ∀ (F0 H0 : Hp) (D : Ends) (σ : St) (F H : Hp), Gr F0 H0 F H → Sl H0 Φ σ F H → o.post F0 H0 D W M T → wK X ks D σ H) := ⟨HB.run⟩
/-- fewer slots known -/
inductive Wk : List SD → List SD → Prop
  | nil : Wk [] []
  | keep {d : SD} {Φ Ψ : List SD} (h : Wk Φ Ψ) : Wk (d :: Φ) (d :: Ψ)
  | drop {d : SD} {Φ Ψ : List SD} (h : Wk Φ Ψ) : Wk (d :: Φ) (.un :: Ψ)
theorem Wk.get : ∀ {Φ Ψ : List SD}, Wk Φ Ψ → Φ.length = Ψ.length ∧ ∀ (i : Nat) (d : SD), Ψ[i]? = some d → d = .un ∨ Φ[i]? = some d
  | _, _, .nil => ⟨rfl, fun i d h => by simp at h⟩
  | _, _, .keep h => by
    obtain ⟨h1, h2⟩ := h.get
    refine ⟨by simp [h1], fun i d e => ?_⟩
    cases i with
    | zero => exact .inr e
    | succ i => exact h2 i d (by simpa using e)
  | _, _, .drop h => by
    obtain ⟨h1, h2⟩ := h.get
    refine ⟨by simp [h1], fun i d e => ?_⟩
    cases i with
    | zero => left; simpa using e.symm
    | succ i => exact h2 i d (by simpa using e)
theorem Sl.wk {H0 F H : Hp} {Φ Ψ : List SD} {σ : St} (h : Sl H0 Φ σ F H) (w : Wk Φ Ψ) : Sl H0 Ψ σ F H := by
  obtain ⟨w1, w2⟩ := w.get
  refine ⟨by rw [h.len, w1], fun i d o a b => ?_, fun i j d e o o' l hij a b f g p q => ?_⟩
  · rcases w2 i d a with z | z
    · subst z; trivial
    · exact h.at_ i d o z b
  · rcases w2 i d a with z | z
    · subst z; cases p
    · rcases w2 j e b with z' | z'
      · subst z'; cases q
      · exact h.apart i j d e o o' l hij z z' f g p q
section
variable {X : Cx} {W : XK} {S R : Type} {Φ : List SD} {M : S → List SD} {T : R → RS} {o o1 o2 : Ctl S R} {a b c e : Expr} {es : List Expr} {pos p p2 : Pos} {P : MP} {Ps Qs : List MP} {i j : Int} {tg iter : Expr} {A A1 A2 : List Stmt} {r : List (List Stmt)} {st : Stmt}
theorem wK_cons {D : Ends} {σ : St} {H : Hp} (h : wS X st { D with nx := fun σ' H' => wK X (A :: r) D σ' H' } σ H) : wK X ((st :: A) :: r) D σ H := wSs_of (pss_cons psW pssW) h
theorem h_nil {s : S} (w : Wk Φ (M s)) : HB X W [] Φ M T (.nx s) := .mk fun F0 H0 D σ F H g sl k => k σ F H g (sl.wk w)
theorem h_end (h : HB X W r Φ M T o) : HB X W ([] :: r) Φ M T o := .mk fun F0 H0 D σ F H g sl k => wSs_of pss_nil (h F0 H0 D σ F H g sl k)
theorem h_set (n : Nat) {x : Str} (hN : X.N.Nodup) (he : PEv X Φ e P) (h : HB X W (A :: r) (Φ.set n (.im P)) M T o) (hi : X.N[n]? = some x := by rfl) (hx : Loc X.env.scope x := by first | exact Or.inl rfl | exact Or.inr rfl) (hs : swapsWith e (some (.Name x p)) pos.line X.env = pure false := by rfl)
    (hf : X.fn x = true ∨ X.env.scope.names.lookup x = some .local := by first | exact .inl rfl | exact .inr rfl) : HB X W ((.Assign [.Name x p] e pos :: A) :: r) Φ M T o := .mk fun F0 H0 D σ F H g sl k =>
  wK_cons (wS_of (ps_set hN hi hx peW hs hf) (he H0 σ F H _ g.s sl fun v F1 H1 g1 p1 => h F0 H0 D _ F1 H1 (g.trans g1) ((sl.gr g1).set ⟨v, rfl, p1⟩ rfl) k))
theorem h_setN (n : Nat) {x : Str} (hN : X.N.Nodup) (he : PEn X Φ e Ps) (h : HB X W (A :: r) (Φ.set n (.ow Ps)) M T o) (hi : X.N[n]? = some x := by rfl) (hx : Loc X.env.scope x := by first | exact Or.inl rfl | exact Or.inr rfl) (hs : swapsWith e (some (.Name x p)) pos.line X.env = pure false := by rfl)
    (hf : X.fn x = true ∨ X.env.scope.names.lookup x = some .local := by first | exact .inl rfl | exact .inr rfl) : HB X W ((.Assign [.Name x p] e pos :: A) :: r) Φ M T o := .mk fun F0 H0 D σ F H g sl k =>
  wK_cons (wS_of (ps_set hN hi hx peW hs hf) (he H0 σ F H _ g.s sl fun l vs F1 H1 g1 h1 h2 h3 h4 => h F0 H0 D _ F1 H1 (g.trans g1) (Sl.setOw (sl.gr g1) (by
      cases z : H0 l with
      | none => rfl
      | some u => rw [g.h l u z] at h1; cases h1) h2 h3 h4 (sl.new g1 h1)) k))
theorem h_settle {α : Type} [Py α] (n : Nat) {xs : List α} (ho : Φ[n]? = some (sO X.K xs) := by rfl) (h : HB X W r (Φ.set n (sI X.K xs)) M T o) : HB X W r Φ M T o := .mk fun F0 H0 D σ F H g sl k => by
  obtain ⟨l, vs, h1, h2, h3, h4, h5⟩ := sl.ow ho
  obtain ⟨x1, x2⟩ := Gr.settle g.s h3 h4
  have g1 : Gr F0 H0 (upd F l (.lst vs)) H := ⟨g.f.trans x1, g.h, x2, fun b z1 z2 => by
    have hb : b ≠ l := fun w => z2 (by rw [w]; exact h2)
    rw [upd_ne hb]; exact g.n b z1 z2⟩
  exact h F0 H0 D σ _ H g1 (sl.settleP g.s ho h1 h3 h4 (py_lst.mpr ⟨l, vs, rfl, upd_same, h5.mono x1⟩)) k
theorem h_ret {v : R} (he : PEv X Φ e P) (hT : T v = .val P := by rfl) : HB X W ((.Return (some e) pos :: A) :: r) Φ M T (.rt v) := .mk fun F0 H0 D σ F H g sl k =>
  wK_cons (wS_of (ps_ret peW) (he H0 σ F H _ g.s sl fun u F1 H1 g1 p1 => by
    have k' : (T v).sat F0 H0 D.rt W := k
    rw [hT] at k'
    exact k' u F1 H1 (g.trans g1) p1))
theorem h_retN {v : R} (he : PEn X Φ e Ps) (hT : T v = .new Ps := by rfl) : HB X W ((.Return (some e) pos :: A) :: r) Φ M T (.rt v) := .mk fun F0 H0 D σ F H g sl k =>
  wK_cons (wS_of (ps_ret peW) (he H0 σ F H _ g.s sl fun l vs F1 H1 g1 h1 h2 h3 h4 => by
    have k' : (T v).sat F0 H0 D.rt W := k
    rw [hT] at k'
    exact k' l vs F1 H1 (g.trans g1) (by
      cases z : H0 l with
      | none => rfl
      | some u => rw [g.h l u z] at h1; cases h1) h2 h3 h4))
/-- return x, x one's own list -/
theorem h_retOw (n : Nat) {v : R} {x : Str} (ho : Φ[n]? = some (.ow Ps) := by rfl) (hT : T v = .new Ps := by rfl) (hN : X.N[n]? = some x := by rfl) (hv : Vis X.env.scope x := by first | exact Or.inl rfl | exact Or.inr (Or.inl rfl) | exact Or.inr (Or.inr rfl)) (hd : (x == ("__debug__" : Str)) = false := by decide)
    (hcd : (x == ("__classdict__" : Str)) = false := by decide) : HB X W ((.Return (some (.Name x p)) pos :: A) :: r) Φ M T (.rt v) := .mk fun F0 H0 D σ F H g sl k => by
  obtain ⟨l, vs, h1, h2, h3, h4, h5⟩ := sl.ow ho
  have k' : (T v).sat F0 H0 D.rt W := k
  rw [hT] at k'
  exact wK_cons (wS_of (ps_ret (pe_var hN hv hd hcd)) ⟨_, h1, k' l vs F H g h2 h3 h4 h5⟩)
theorem h_if {k : Bool} (hc : PTv X Φ c k) (h1 : k = true → HB X W (A1 :: A :: r) Φ M T o1) (h2 : k = false → HB X W (A2 :: A :: r) Φ M T o2) : HB X W ((.If c A1 A2 pos :: A) :: r) Φ M T (cond k o1 o2) := .mk fun F0 H0 D σ F H g sl kp =>
  wK_cons (wS_of (ps_if ptW pssW pssW) (hc H0 σ F H _ g.s sl fun F1 H1 g1 => by
    cases k with
    | true => exact iteT (h1 rfl F0 H0 D σ F1 H1 (g.trans g1) (sl.gr g1) kp)
    | false => exact iteF (h2 rfl F0 H0 D σ F1 H1 (g.trans g1) (sl.gr g1) kp)))
/-- an if whose ways meet: what each leaves is told at once -/
theorem h_ifM {S' : Type} {M' : S' → List SD} {k : Bool} {s1 s2 : S'} (hc : PTv X Φ c k) (h1 : k = true → HB X W [A1] Φ M' T (.nx s1)) (h2 : k = false → HB X W [A2] Φ M' T (.nx s2)) (h : HB X W (A :: r) (M' (cond k s1 s2)) M T o) : HB X W ((.If c A1 A2 pos :: A) :: r) Φ M T o := .mk fun F0 H0 D σ F H g sl kp =>
  wK_cons (wS_of (ps_if ptW pssW pssW) (hc H0 σ F H _ g.s sl fun F1 H1 g1 => by
    cases k with
    | true => exact iteT (h1 rfl F0 H0 { D with nx := fun σ' H' => wK X (A :: r) D σ' H' } σ F1 H1 (g.trans g1) (sl.gr g1) fun σ2 F2 H2 g2 sl2 => h F0 H0 D σ2 F2 H2 g2 sl2 kp)
    | false => exact iteF (h2 rfl F0 H0 { D with nx := fun σ' H' => wK X (A :: r) D σ' H' } σ F1 H1 (g.trans g1) (sl.gr g1) fun σ2 F2 H2 g2 sl2 => h F0 H0 D σ2 F2 H2 g2 sl2 kp)))
end
end GL

set_option Elab.async false
set_option linter.all false
set_option maxRecDepth 100000
set_option maxHeartbeats 4000000
namespace GL
open PySem PySem.Spec PyProof.Rows L2
open Evl (Ex ex_l ex_t)
/-- the ground may be taken later -/
theorem Gr.base {F0 H0 F1 H1 F2 H2 : Hp} (a : Gr F0 H0 F1 H1) (b : Gr F1 H0 F2 H2) : Gr F0 H0 F2 H2 := ⟨a.f.trans b.f, b.h, b.s, fun x h1 h2 => b.n x (a.n x h1 h2) h2⟩
theorem Gr.rebase {F0 H0 F1 H1 : Hp} (a : Gr F0 H0 F1 H1) : Gr F1 H0 F1 H1 := ⟨Ex.refl _, a.h, a.s, fun _ h _ => h⟩
theorem RS.sat_base {F0 H0 F1 H1 : Hp} {Q : VK} {W : XK} {r : RS} (a : Gr F0 H0 F1 H1) (h : r.sat F0 H0 Q W) : r.sat F1 H0 Q W := by
  cases r with
  | val P => exact fun v F H g p => h v F H (a.base g) p
  | new Ps => exact fun l vs F H g => h l vs F H (a.base g)
  | ob P => exact fun l F H g => h l F H (a.base g)
  | fre C => exact fun v F H g => h v F H (a.base g)
  | err C P => exact fun d F H g => h d F H (a.base g)
/-! ### loops, as functions -/
def forL {α S R : Type} (f : S → α → Ctl S R) : S → List α → Sum S R
  | s, [] => .inl s
  | s, x :: xs => match f s x with
    | .nx s' => forL f s' xs
    | .ct s' => forL f s' xs
    | .bk s' => .inl s'
    | .rt r => .inr r
/-- the state behind so many turns, none of them the last -/
def steps {α S R : Type} (f : S → α → Ctl S R) : S → List α → Option S
  | s, [] => some s
  | s, x :: xs => match f s x with
    | .nx s' => steps f s' xs
    | .ct s' => steps f s' xs
    | _ => none
def forK {α S S' R : Type} (f : S' → α → Ctl S' R) (s0 : S') (xs : List α) (k : S' → Ctl S R) : Ctl S R := match forL f s0 xs with
  | .inl s => k s
  | .inr r => .rt r
theorem steps_snoc {α S R : Type} {f : S → α → Ctl S R} : ∀ {xs : List α} {s s1 s2 : S} {x : α}, steps f s xs = some s1 → (f s1 x = .nx s2 ∨ f s1 x = .ct s2) → steps f s (xs ++ [x]) = some s2
  | [], s, s1, s2, x, h, h2 => by
    have e : s = s1 := Option.some.inj h
    subst e
    rcases h2 with h2 | h2 <;> · simp [steps, h2]
  | y :: ys, s, s1, s2, x, h, h2 => by
    simp only [List.cons_append, steps] at h ⊢
    cases q : f s y with
    | nx s' => rw [q] at h; exact steps_snoc h h2
    | ct s' => rw [q] at h; exact steps_snoc h h2
    | bk s' => rw [q] at h; cases h
    | rt r => rw [q] at h; cases h
/-- while c: .. -/
def whileL {S R : Type} (c : S → Bool) (f : S → Ctl S R) : Nat → S → Sum S R
  | 0, s => .inl s
  | n + 1, s => match c s with
    | false => .inl s
    | true => match f s with
      | .nx s' => whileL c f n s'
      | .ct s' => whileL c f n s'
      | .bk s' => .inl s'
      | .rt r => .inr r
def whileK {S S' R : Type} (c : S' → Bool) (f : S' → Ctl S' R) (n : Nat) (s0 : S') (k : S' → Ctl S R) : Ctl S R := match whileL c f n s0 with
  | .inl s => k s
  | .inr r => .rt r
section
variable {X : Cx} {W : XK} {S R : Type} {Φ : List SD} {M : S → List SD} {T : R → RS} {o o1 o2 : Ctl S R} {a b c e : Expr} {es : List Expr} {pos p p2 : Pos} {P : MP} {Ps Qs : List MP} {i j : Int} {tg iter : Expr} {A A1 A2 body : List Stmt} {r : List (List Stmt)} {st : Stmt}
theorem h_for {α S' : Type} [Py α] {xs : List α} {M' : S' → List SD} (us : α → List (Nat × SD)) (f : S' → α → Ctl S' R) (s0 : S') {k : S' → Ctl S R} (hp : PassesOwn (model X.prog X.w) X.A X.env X.xe) (hc : X.calm = true)
    (hi : PIt X Φ tg iter xs) (hg : ∀ x, PGt X tg x (us x)) (w0 : Wk Φ (M' s0))
    (hb : ∀ n s x, xs[n]? = some x → steps f s0 (xs.take n) = some s → HB X W [body] (setAll (M' s) (us x)) M' T (f s x))
    (hr : ∀ s, forL f s0 xs = .inl s → HB X W (A :: r) (M' s) M T (k s)) (hs : ∀ x, foldedSetIterable iter X.env x = pure x := by intro _; rfl) :
    HB X W ((.For tg iter body [] pos :: A) :: r) Φ M T (forK f s0 xs k) := .mk fun F0 H0 D σ F H g sl kp => by
  refine wK_cons (wS_of (ps_for hp hc piW pgW pssW hs) (hi H0 σ F H _ g.s sl fun J F1 H1 g1 src => ?_))
  have hlen : (xs.map fun x => py X.K (enc x)).length = xs.length := List.length_map _
  have ga := g.trans g1
  refine ⟨fun n m σ' H' => m = xs.length - n ∧ n ≤ xs.length ∧ ∃ s F', Gr F1 H0 F' H' ∧ Sl H0 (M' s) σ' F' H' ∧ forL f s (xs.drop n) = forL f s0 xs ∧ steps f s0 (xs.take n) = some s,
    ⟨xs.length, by simp, Nat.zero_le _, s0, F1, ga.rebase, (sl.gr g1).wk w0, by simp, by simp [steps]⟩, ?_⟩
  rintro n m σ' H' ⟨rfl, hn, s, F', gg, sl', fe, hst⟩
  by_cases hlt : n < xs.length
  · have hx : xs[n]? = some xs[n] := List.getElem?_eq_getElem hlt
    have dr : xs.drop n = xs[n] :: xs.drop (n + 1) := List.drop_eq_getElem_cons hlt
    obtain ⟨go, yl⟩ := src.go n _ F' H' (by rw [List.getElem?_map, hx]; rfl) gg.f gg.s
    refine .inr ⟨go, fun σ2 H2 => ∃ s2 F2, (f s xs[n] = .nx s2 ∨ f s xs[n] = .ct s2) ∧ Gr F1 H0 F2 H2 ∧ Sl H0 (M' s2) σ2 F2 H2, fun σ2 H2 hN => ?_, fun v H2 y => ?_⟩
    · obtain ⟨s2, F2, hf, g2, sl2⟩ := hN
      refine ⟨xs.length - (n + 1), by omega, rfl, by omega, s2, F2, g2, sl2, ?_, ?_⟩
      · rw [← fe, dr]
        rcases hf with hf | hf <;> · simp only [forL, hf]
      · have tk : xs.take (n + 1) = xs.take n ++ [xs[n]] := by rw [List.take_succ, hx]; rfl
        rw [tk]; exact steps_snoc hst hf
    · obtain ⟨F2, g2, pv⟩ := yl v H2 y
      refine hg xs[n] H0 (M' s) σ' F2 H2 v _ g2.s (sl'.gr g2) pv fun σ2 sl2 _ => ?_
      rw [dr] at fe
      have post : (f s xs[n]).post F1 H0 ⟨fun σ2 H2 => ∃ s2 F2, (f s xs[n] = .nx s2 ∨ f s xs[n] = .ct s2) ∧ Gr F1 H0 F2 H2 ∧ Sl H0 (M' s2) σ2 F2 H2, D.rt, fun σ' H' => wK X (A :: r) D σ' H', fun σ2 H2 => ∃ s2 F2, (f s xs[n] = .nx s2 ∨ f s xs[n] = .ct s2) ∧ Gr F1 H0 F2 H2 ∧ Sl H0 (M' s2) σ2 F2 H2⟩ W M' T := by
        cases hf : f s xs[n] with
        | nx s2 => exact fun σ3 F3 H3 g3 sl3 => ⟨s2, F3, .inl rfl, g3, sl3⟩
        | ct s2 => exact fun σ3 F3 H3 g3 sl3 => ⟨s2, F3, .inr rfl, g3, sl3⟩
        | bk s2 =>
          simp only [forL, hf] at fe
          refine fun σ3 F3 H3 g3 sl3 => hr s2 fe.symm F0 H0 D σ3 F3 H3 (ga.base g3) sl3 ?_
          have kp' : (forK f s0 xs k).post F0 H0 D W M T := kp
          unfold forK at kp'
          rw [← fe] at kp'
          exact kp'
        | rt rr =>
          simp only [forL, hf] at fe
          have kp' : (forK f s0 xs k).post F0 H0 D W M T := kp
          unfold forK at kp'
          rw [← fe] at kp'
          exact RS.sat_base ga kp'
      exact hb n s xs[n] hx hst F1 H0 ⟨fun σ2 H2 => ∃ s2 F2, (f s xs[n] = .nx s2 ∨ f s xs[n] = .ct s2) ∧ Gr F1 H0 F2 H2 ∧ Sl H0 (M' s2) σ2 F2 H2, D.rt, fun σ' H' => wK X (A :: r) D σ' H', fun σ2 H2 => ∃ s2 F2, (f s xs[n] = .nx s2 ∨ f s xs[n] = .ct s2) ∧ Gr F1 H0 F2 H2 ∧ Sl H0 (M' s2) σ2 F2 H2⟩ σ2 F2 H2 (gg.trans g2) sl2 post
  · have en : n = xs.length := by omega
    subst en
    refine .inl ⟨by have := src.stop F' H' gg.f gg.s; rw [hlen] at this; exact this, ?_⟩
    rw [List.drop_length] at fe
    have fe' : forL f s0 xs = .inl s := fe.symm
    refine hr s fe' F0 H0 D σ' F' H' (ga.base gg) sl' ?_
    have kp' : (forK f s0 xs k).post F0 H0 D W M T := kp
    unfold forK at kp'
    rw [fe'] at kp'
    exact kp'
/-! ### one's own lists changed -/
theorem few1 {cpos : Pos} (h : nst e = true) : ((backTo cpos (starEach [e] X.env)).all (fun x => !x.1) && (backToKw cpos (keywordEach [] X.env)).all (fun x => x.1.isSome)
      && decide ([e].length + ([] : List Keyword).length + (if ([] : List Keyword).isEmpty then 0 else 1) < 30)) = true := by
  rw [star_cons h]; rfl
theorem Gr.write {F0 H0 F H : Hp} {l : Addr} {o : HO} (g : Gr F0 H0 F H) (h0 : H0 l = none) (hf : F l = none) : Gr F0 H0 F (upd H l o) := ⟨g.f, fun b u z => by rw [upd_ne (ne_of_none z h0)]; exact g.h b u z, fun b u z => by rw [upd_ne (ne_of_none z hf)]; exact g.s b u z, g.n⟩
/-- xs.append(e) -/
theorem h_app {α : Type} [Py α] (n : Nat) {x : Str} {xs : List α} {v : α} {np apos : Pos} (he : PV X Φ e v) (hz : xs.length < sizeLine) (h : HB X W (A :: r) (Φ.set n (sO X.K (xs ++ [v]))) M T o) (ho : Φ[n]? = some (sO X.K xs) := by rfl) (hN : X.N[n]? = some x := by rfl)
    (hv : Vis X.env.scope x := by first | exact Or.inl rfl | exact Or.inr (Or.inl rfl) | exact Or.inr (Or.inr rfl)) (hd : (x == ("__debug__" : Str)) = false := by decide) (hcd : (x == ("__classdict__" : Str)) = false := by decide)
    (hst : nst e = true := by rfl) (hl : (apos.endLine == p.line) = true := by rfl) : HB X W ((.Expr (.Call (.Attribute (.Name x np) "append" apos) [e] [] p) pos :: A) :: r) Φ M T o := .mk fun F0 H0 D σ F H g sl k => by
  obtain ⟨l, vs, h1, h2, h3, h4, h5⟩ := sl.ow ho
  have hlen : vs.length = xs.length := by simpa using h5.1
  refine wK_cons (wS_of (ps_expr (pe_bm PySem.F.plainAttrs_list PySem.F.slot_list_append PySem.F.type_list_append mt_append (pe_var hN hv hd hcd) (pa_cons peW pa_nil (star_cons hst)) rfl (few1 hst) hl (star_cons hst) rfl) rfl)
    ⟨_, h1, .inl ⟨rfl, vs, SqL.of h4⟩, he H0 σ F H _ g.s sl fun u F1 H1 g1 p1 => ⟨l, vs, u, rfl, rfl, g1.h _ _ h4, by omega, ?_⟩⟩)
  have f1 : F1 l = none := g1.n l h3 (ne_none h4)
  refine h F0 H0 D σ F1 _ ((g.trans g1).write h2 f1) (Sl.write (sl.gr g1) ho h1 h2 f1 ?_) k
  rw [List.map_append]; exact (h5.mono g1.f).snoc p1
end
/-! ### defs -/
/-- the slots at the entry -/
def enter (Ps : List MP) (n : Nat) : List SD := Ps.map SD.im ++ List.replicate n .un
theorem sl_start {N : List Str} {Ps : List MP} {n : Nat} {F H : Hp} {vs : List V} (h : AllP Ps F vs) (hn : N.length = Ps.length + n) : Sl H (enter Ps n) (L2.start N vs) F H := by
  have hl : vs.length = Ps.length := h.1
  unfold L2.start enter
  refine ⟨by simp [hl]; omega, fun i d o a b => ?_, fun i j d e o o' l hij a b f g p q => ?_⟩
  · by_cases hi : i < Ps.length
    · rw [List.getElem?_append_left (by simpa using hi), List.getElem?_map] at a
      rw [List.getElem?_append_left (by simpa [hl] using hi), List.getElem?_map] at b
      rw [List.getElem?_eq_getElem hi] at a
      rw [List.getElem?_eq_getElem (by omega : i < vs.length)] at b
      cases a; cases b
      exact ⟨_, rfl, h.2 i _ _ (List.getElem?_eq_getElem hi) (List.getElem?_eq_getElem (by omega))⟩
    · rw [List.getElem?_append_right (by simpa using hi), List.getElem?_replicate] at a
      split at a
      · cases a; trivial
      · cases a
  · by_cases hi : i < Ps.length
    · rw [List.getElem?_append_left (by simpa using hi), List.getElem?_map, List.getElem?_eq_getElem hi] at a
      cases a; cases p
    · rw [List.getElem?_append_right (by simpa using hi), List.getElem?_replicate] at a
      split at a
      · cases a; cases p
      · cases a
section
variable {P : Program} {w : World} {K : Fg} {mg : Str → Option Value} {base : Heap}
theorem run_body {X : Cx} {S R : Type} {ks : List Stmt} {Ps : List MP} {M : S → List SD} {T : R → RS} {o : Ctl S R} {W : XK} {F H : Hp} {vs : List V} {Q : VK} {n : Nat} (s0 : Ex F H) (ha : AllP Ps F vs) (hn : X.N.length = Ps.length + n)
    (h : HB X W [ks] (enter Ps n) M T o) (ho : o.post F H { nx := fun _ H' => Q .non H', rt := Q } W M T) : wSs X ks { nx := fun _ H' => Q .non H', rt := Q } (L2.start X.N vs) H :=
  h F H { nx := fun _ H' => Q .non H', rt := Q } (L2.start X.N vs) F H (Gr.refl s0) (sl_start ha hn) ho
abbrev bx (P : Program) (w : World) (K : Fg) (mg : Str → Option Value) (base : Heap) (N : List Str) (qual : Str) (st : Stmt) (f : Addr) (cdv : Value) (A : Around) (outer : List Env) (s : Shared) (H : Hp) (E : XK) : Cx := (cxOf CX0 P w K mg base N qual (defScope st) f cdv A outer s H E).nox
abbrev bxX (P : Program) (w : World) (K : Fg) (mg : Str → Option Value) (base : Heap) (N : List Str) (qual : Str) (st : Stmt) (f : Addr) (cdv : Value) (A : Around) (outer : List Env) (s : Shared) (H : Hp) (E : XK) : Cx := cxOf (L2.CX P w) P w K mg base N qual (defScope st) f cdv A outer s H E
abbrev DefOf (K : Fg) (x qual : Str) (st : Stmt) (f : Addr) (fd : FuncData) : Prop := FunD K x qual (defArgs st) (defBody st) (defScope st) [] [] f fd
def RS.isErr : RS → Bool
  | .err _ _ => true
  | _ => false
/-- a def that lets nothing out: its body's derivation, for all arguments -/
theorem def_ok {x qual : Str} {st : Stmt} {f : Addr} {fd : FuncData} {N ps : List Str} {k : Nat} {Ar ρ : Type} {argP : Ar → List MP} {pre : Ar → Prop} {T : ρ → RS} {fv : Ar → ρ} (F : DefOf K x qual st f fd) (S : FnScope N ps (defScope st)) (n : Nat) (hlen : ∀ z, (argP z).length = ps.length) (hN : N.length = ps.length + n)
    (hT : ∀ r, (T r).isErr = false)
    (hb : ∀ (cdv : Value) (A : Around) (outer : List Env) (s : Shared) (H : Hp) (E : XK), Room k (A.deeper (envOfC qual (defScope st) s.heap.objs.size f cdv)) → ∀ z, pre z →
      HB (S := Unit) (bx P w K mg base N qual st f cdv A outer s H E) (fun _ _ _ => False) [defBody st] (enter (argP z) n) (fun _ => []) T (.rt (fv z))) : FnOk P w K mg base CX0 (k + 1) f fd ps (spG argP pre fun z => T (fv z)) := by
  refine FunD.ok F S (fun vs H Q E h => ?_) fun cdv A outer s H vs Q E hr h => ?_
  · obtain ⟨z, F, _, ha, _⟩ := h
    rw [ha.1, hlen]
  · obtain ⟨z, G, s0, ha, hp, hs⟩ := h
    refine ⟨_, PSs.nox pssW, run_body (X := bx P w K mg base N qual st f cdv A outer s H E) (W := fun _ _ _ => False) s0 ha (by rw [hlen]; exact hN) (hb cdv A outer s H E hr z hp) ?_⟩
    show (T (fv z)).sat G H Q _
    have ht := hT (fv z)
    have hs2 : (T (fv z)).sat G H Q E := hs
    revert hs2 ht
    cases T (fv z) with
    | val P => exact fun _ h => h
    | new Ps => exact fun _ h => h
    | ob P => exact fun _ h => h
    | fre C => exact fun _ h => h
    | err C P => exact fun h _ => by cases h
theorem fn_mk {x : Str} {f : Addr} {fd : FuncData} {ps : List Str} {k : Nat} {CX : CXT} {sp : Sp} {qual : Str} {st : Stmt} (F : DefOf K x qual st f fd) (G : FnOk P w K mg base CX k f fd ps sp) (hm : mg x = some (.ref f))
    (hb : ∀ (kV doc pm : Value) (an : Option Addr) (cdv ct : Value) (us : List Value), us.length = ps.length → bindArgs (PySem.W.fnOf x qual (defArgs st) (defBody st) (defScope st) .none kV doc pm an cdv ct) ⟨us, []⟩ = pure (ps.zip us)) : FnG P w K mg base CX k x sp :=
  ⟨f, fd, ps, G, hm, F.kp, FunD.bindsN F hb⟩
end
end GL

set_option Elab.async false
set_option linter.all false
set_option maxRecDepth 100000
set_option maxHeartbeats 4000000
namespace GL
open PySem PySem.Spec PyProof.Rows L2
open Evl (Ex ex_l ex_t)
/-! ### sorted -/
section
variable {X : Cx} {pins : List (Addr × Obj)} {σ : L2.St} {H : Hp} {s : Shared}
/-- sorted(xs), xs read as data of one make -/
def rSortG (X : Cx) {β : Type} (en : β → PyData) (bs : List β) : List V → Hp → VK → Prop := fun vs H Q => ∃ (a : Addr) (ws : List V), vs = [V.ref a] ∧ SqL X.K H a ws ∧ DpAll X.K H ws (bs.map en) ∧
  ∀ (ys : List V) (p : Addr), H p = none → ys.length = bs.length → (∀ (i : Nat) v b, ys[i]? = some v → (bs.mergeSort (PySem.W.dataLe false en))[i]? = some b → ∃ j : Nat, ws[j]? = some v ∧ bs[j]? = some b) → Q (.ref p) (upd H p (.lst ys))
end
/-- data of one make -/
class PyS (α : Type) [Py α] : Prop where
  alike : ∀ x y : α, PySem.W.alike (enc x) (enc y) = true
  sort : (∀ x : α, ∃ a r, enc x = .tuple (a :: r)) ∨ ∀ x : α, enc x ≠ .none ∧ ∀ xs, enc x ≠ .tuple xs
def srt {α : Type} [Py α] (xs : List α) : List α := xs.mergeSort (PySem.W.dataLe false enc)
instance : PyS Int := ⟨fun x y => by simp [enc, Py.enc, PySem.W.alike], .inr fun x => ⟨by simp [enc, Py.enc], by simp [enc, Py.enc]⟩⟩
theorem alikeAll_of {α : Type} [Py α] [PyS α] : ∀ xs ys : List α, PySem.W.alikeAll (xs.map enc) (ys.map enc) = true
  | [], [] => by simp [PySem.W.alikeAll]
  | [], y :: ys => by simp [PySem.W.alikeAll]
  | x :: xs, [] => by simp [PySem.W.alikeAll]
  | x :: xs, y :: ys => by
    have h1 := PyS.alike x y
    have h2 := alikeAll_of xs ys
    simp only [List.map_cons, PySem.W.alikeAll, h1, h2, Bool.and_self]
instance {α β : Type} [Py α] [Py β] [PyS α] [PyS β] : PyS (α × β) := ⟨fun x y => by
  have h1 := PyS.alike x.1 y.1
  have h2 := PyS.alike x.2 y.2
  show PySem.W.alike (.tuple [enc x.1, enc x.2]) (.tuple [enc y.1, enc y.2]) = true
  simp only [PySem.W.alike, PySem.W.alikeAll, h1, h2, Bool.and_self], .inl fun x => ⟨_, _, rfl⟩⟩
section
variable {X : Cx} {Φ : List SD} {a b c d e : Expr} {es : List Expr} {pos p p2 : Pos} {P : MP} {Ps Qs : List MP} {i j k : Int}
/-! ### isinstance -/
/-- the built-in class of a datum -/
def tyN : PyData → String
  | .none => "NoneType"
  | .bool _ => "bool"
  | .int _ => "int"
  | .str _ => "str"
  | .list _ => "list"
  | .tuple _ => "tuple"
  | .dict _ => "dict"
theorem tyX_of {K : Fg} {F H : Hp} {v : V} {d : PyData} (s : Ex F H) (h : Dq K F v d) : TyX K H v (.type (tyN d)) := by
  cases h with
  | non => exact .base .non
  | bl b => exact .base (.bl b)
  | int i => exact .base (.int i)
  | str x => exact .base (.str x)
  | dct h1 => exact .base (.dK (s _ _ h1))
  | lst h1 h2 => exact .base (.lst (s _ _ h1))
  | tup h1 h2 =>
    rcases h1 with (h1 | ⟨o, h1⟩) | ⟨o, its, n, h1, h3, _⟩
    · exact .base (.tup (s _ _ h1))
    · exact .fTuple (s _ _ h1)
    · exact .kTuple h1 h3
/-- a built-in class's name -/
theorem wE_bty {x : Str} {T : String} {σ : L2.St} {H : Hp} {Q : VK} (hg : Gl X x) (hm : X.mg x = none) (hv : bootBuiltins x = some (.type T)) (hn : x ≠ "__name__") (hd : (x == ("__debug__" : Str)) = false) (h : Q (.ty T) H) : wE X (.Name x p) σ H Q :=
  wE_of (pe_bltn (v := .ty T) hg hm hv rfl hn hd) h
theorem v_isi {x : Str} {T : String} {dd : PyData} {k : Bool} (B : Blt X.mg) (ha : PEv X Φ a (py X.K dd)) (hk : kitB (tyN dd) T = some k) (hmx : X.mg x = none) (hv : bootBuiltins x = some (.type T)) (hgx : Gl X x := by rfl) (hg : Gl X "isinstance" := by rfl) (h1 : nst a = true := by rfl)
    (hn : x ≠ "__name__" := by decide +kernel) (hd : (x == ("__debug__" : Str)) = false := by decide +kernel) : PV X Φ (.Call (.Name "isinstance" p) [a, .Name x p2] [] pos) k := .mk fun H0 σ F H Q s sl q =>
  wE_callB call_isi hg B.isinstance (by decide +kernel) (by decide +kernel) (by decide +kernel) (by rw [List.all_cons, h1]; rfl) (wA_of (pa_cons peW (pa_cons peW pa_nil (star_cons rfl)) (star_cons h1)) (ha H0 σ F H _ s sl fun v F1 H1 g1 p1 => wE_bty hgx hmx hv hn hd
    ⟨v, .ty T, .type (tyN dd), .type T, k, rfl, .ty T, tyX_of g1.s p1, kit_ty hk, q _ F1 H1 g1 (.bl _)⟩))
theorem v_isiInt {dd : PyData} {k : Bool} (B : Blt X.mg) (ha : PEv X Φ a (py X.K dd)) (hk : kitB (tyN dd) "int" = some k := by rfl) (hgx : Gl X "int" := by rfl) (hg : Gl X "isinstance" := by rfl) (h1 : nst a = true := by rfl) : PV X Φ (.Call (.Name "isinstance" p) [a, .Name "int" p2] [] pos) k := v_isi B ha hk B.int (by decide +kernel) hgx hg h1
theorem v_isiBool {dd : PyData} {k : Bool} (B : Blt X.mg) (ha : PEv X Φ a (py X.K dd)) (hk : kitB (tyN dd) "bool" = some k := by rfl) (hgx : Gl X "bool" := by rfl) (hg : Gl X "isinstance" := by rfl) (h1 : nst a = true := by rfl) : PV X Φ (.Call (.Name "isinstance" p) [a, .Name "bool" p2] [] pos) k := v_isi B ha hk B.bool (by decide +kernel) hgx hg h1
/-! ### x is True, the script, chains of three -/
theorem scr_l {ns : List Int} (h : PEv X Φ e (scrP X.K ns)) : PL X Φ e ns := .mk fun H0 σ F H Q s sl q => h H0 σ F H Q s sl fun v F' H' g ⟨a, h1, h2⟩ => by
  subst h1
  exact q a _ F' H' g (ex_l g.s h2) ints_allP
/-! ### a compare as a test, from its value -/
theorem t_cmpV {op : CmpOp} {r : R2} {k : Bool} (ho : OpR X (compareOp op) r) (hm : behindInMarks op b = false) (h : ∀ (H0 : Hp) (σ : L2.St) (F H : Hp) (Q : VK), Ex F H → Sl H0 Φ σ F H → (∀ v F' H', Gr F H F' H' → (py X.K (enc k)).p F' v → Q v H') → tOp r (wE X a) (wE X b) σ H Q) : PTv X Φ (.Compare a [op] [b] pos) k := .mk fun H0 σ F H Q s sl q =>
  wT_of (pt_cmpR ho peW peW hm) (h H0 σ F H _ s sl fun v F1 H1 g1 p1 => by cases p1; exact ⟨k, rfl, q F1 H1 g1⟩)
end
end GL

set_option Elab.async false
set_option linter.all false
set_option maxRecDepth 100000
set_option maxHeartbeats 4000000
namespace GL
open PySem PySem.Spec PyProof.Rows L2
open Evl (Ex ex_l ex_t)
/-! ### the printed rules: values named as they come; V: the block hands back a value, C: a loop's turn -/
def bindV {α β : Type} (a : α) (k : α → β) : β := k a
def forR {α S R : Type} (f : S → α → Ctl S R) (s0 : S) (xs : List α) (k : S → R) : R := match forL f s0 xs with
  | .inl s => k s
  | .inr r => r
def whileR {S R : Type} (c : S → Bool) (f : S → Ctl S R) (n : Nat) (s0 : S) (k : S → R) : R := match whileL c f n s0 with
  | .inl s => k s
  | .inr r => r
section
variable {X : Cx} {W : XK} {S R β : Type} {Φ : List SD} {M : S → List SD} {T : R → RS} {a b c e : Expr} {es : List Expr} {pos p p2 : Pos} {P : MP} {Ps Qs : List MP} {i j : Int} {tg iter : Expr} {A A1 A2 body : List Stmt} {r : List (List Stmt)} {st : Stmt}
/-! x = e -/
theorem h_setC {α : Type} [Py α] (n : Nat) {x : Str} {v : α} {k : α → Ctl S R} (hN : X.N.Nodup) (he : PV X Φ e v) (h : ∀ x, x = v → HB X W (A :: r) (Φ.set n (sI X.K x)) M T (k x)) (hi : X.N[n]? = some x := by rfl) (hx : Loc X.env.scope x := by first | exact Or.inl rfl | exact Or.inr rfl) (hs : swapsWith e (some (.Name x p)) pos.line X.env = pure false := by rfl)
    (hf : X.fn x = true ∨ X.env.scope.names.lookup x = some .local := by first | exact .inl rfl | exact .inr rfl) : HB X W ((.Assign [.Name x p] e pos :: A) :: r) Φ M T (bindV v k) := h_set n hN he (h v rfl) hi hx hs hf
/-! x = e, a list of one's own -/
theorem h_ownC {α : Type} [Py α] (n : Nat) {x : Str} {v : List α} {k : List α → Ctl S R} (hN : X.N.Nodup) (he : PN X Φ e v) (h : ∀ x, x = v → HB X W (A :: r) (Φ.set n (sO X.K x)) M T (k x)) (hi : X.N[n]? = some x := by rfl) (hx : Loc X.env.scope x := by first | exact Or.inl rfl | exact Or.inr rfl) (hs : swapsWith e (some (.Name x p)) pos.line X.env = pure false := by rfl)
    (hf : X.fn x = true ∨ X.env.scope.names.lookup x = some .local := by first | exact .inl rfl | exact .inr rfl) : HB X W ((.Assign [.Name x p] e pos :: A) :: r) Φ M T (bindV v k) := h_setN n hN he (h v rfl) hi hx hs hf
/-! x = [..] on one line -/
variable {elt : Expr} {scope : Scope}
/-! tests -/
/-! loops -/
/-! a pair of targets and the like: the parts come as they are -/
theorem v_powC {n : Int} (ha : PV X Φ a i) (hb : PV X Φ b j) (hc : CPow i j := by exact ⟨by decide, by decide, by decide⟩) (hn : i ^ j.toNat = n := by decide) : PV X Φ (.BinOp a .Pow b pos) n := by
  subst hn; exact v_pow ha hb hc
end
end GL

set_option Elab.async false
set_option linter.all false
set_option maxRecDepth 100000
set_option maxHeartbeats 4000000
namespace GL
open PySem PySem.Spec PyProof.Rows L2
open Evl (Ex ex_l ex_t)

theorem AllP.take {Ps : List MP} {F : Hp} {vs : List V} (h : AllP Ps F vs) (n : Nat) : AllP (Ps.take n) F (vs.take n) := by
  refine ⟨by simp [h.1], fun i P v h1 h2 => ?_⟩
  rw [List.getElem?_take] at h1 h2
  split at h1
  · rename_i hi
    rw [if_pos hi] at h2
    exact h.2 _ P v h1 h2
  · cases h1
theorem AllP.drop {Ps : List MP} {F : Hp} {vs : List V} (h : AllP Ps F vs) (n : Nat) : AllP (Ps.drop n) F (vs.drop n) := by
  refine ⟨by simp [h.1], fun i P v h1 h2 => ?_⟩
  rw [List.getElem?_drop] at h1 h2
  exact h.2 _ P v h1 h2

/-! ### None or a value -/
class PyN (α : Type) [Py α] : Prop where
  nn : ∀ x : α, enc x ≠ .none
instance : PyN Int := ⟨fun x h => by simp [enc, Py.enc] at h⟩
instance : PyN Bool := ⟨fun x h => by simp [enc, Py.enc] at h⟩
instance {α : Type} [Py α] : PyN (List α) := ⟨fun x h => by simp [enc, Py.enc] at h⟩
instance {α : Type} [Py α] : PyN (Tup α) := ⟨fun x h => by simp [enc, Py.enc] at h⟩
instance {α β : Type} [Py α] [Py β] : PyN (α × β) := ⟨fun x h => by simp [enc, Py.enc] at h⟩
instance {α β γ : Type} [Py α] [Py β] [Py γ] : PyN (T3 α β γ) := ⟨fun x h => by simp [enc, Py.enc] at h⟩
instance {α β γ δ : Type} [Py α] [Py β] [Py γ] [Py δ] : PyN (T4 α β γ δ) := ⟨fun x h => by simp [enc, Py.enc] at h⟩
instance {α β γ δ ε : Type} [Py α] [Py β] [Py γ] [Py δ] [Py ε] : PyN (T5 α β γ δ ε) := ⟨fun x h => by simp [enc, Py.enc] at h⟩
theorem eqv_none_l {d : PyData} (h : d ≠ .none) : PyData.eqv .none d = false := by
  cases d <;> first | exact absurd rfl h | simp [PyData.eqv]
theorem eqv_none_r {d : PyData} (h : d ≠ .none) : PyData.eqv d .none = false := by
  cases d <;> first | exact absurd rfl h | simp [PyData.eqv]
instance {α : Type} [Py α] [PyQ α] [PyN α] : PyQ (Option α) := ⟨fun x y => by
  cases x with
  | none =>
    cases y with
    | none => simp [enc, Py.enc, PyData.eqv]
    | some y =>
      have h := eqv_none_l (PyN.nn y)
      show PyData.eqv .none (enc y) = true ↔ _
      rw [h]; simp
  | some x =>
    cases y with
    | none =>
      have h := eqv_none_r (PyN.nn x)
      show PyData.eqv (enc x) .none = true ↔ _
      rw [h]; simp
    | some y =>
      have h := PyQ.eqv x y
      show PyData.eqv (enc x) (enc y) = true ↔ _
      rw [h]; simp, fun o => by
  cases o with
  | none => simp [enc, Py.enc, PyData.canLay0]
  | some x => exact PyQ.can x⟩
/-! ### what leans on no object -/
class Fl (α : Type) [Py α] : Prop where
  fl : ∀ (K : Fg) (F F' : Hp) (v : V) (x : α), Dq K F v (enc x) → Dq K F' v (enc x)
instance : Fl Int := ⟨fun K F F' v x h => by cases h; exact .int _⟩
instance : Fl Bool := ⟨fun K F F' v x h => by cases h; exact .bl _⟩
instance : Fl Unit := ⟨fun K F F' v x h => by cases h; exact .non⟩
instance {α : Type} [Py α] [Fl α] : Fl (Option α) := ⟨fun K F F' v x h => by
  cases x with
  | none => cases h; exact .non
  | some x => exact Fl.fl K F F' v x h⟩
section
variable {X : Cx} {W : XK} {S R : Type} {Φ : List SD} {M : S → List SD} {T : R → RS} {a b c d e : Expr} {es : List Expr} {pos p p2 : Pos} {P : MP} {Ps Qs : List MP} {i j k : Int} {tg iter : Expr} {A : List Stmt} {r : List (List Stmt)}
/-! ### facts of a loop's items -/
theorem rng_memF {lo hi x : Int} (h : x ∈ rng lo hi) : lo ≤ x ∧ x < hi := by
  unfold rng at h
  obtain ⟨n, hn, rfl⟩ := List.mem_map.mp h
  have := List.mem_range.mp hn
  omega
/-! ### chains of three -/
/-! ### list(range(..)), tuples' slices and sums -/
def slcT {α : Type} (t : Tup α) (lo hi : Option Int) : Tup α := ⟨slc t.l lo hi⟩
/-! ### more statements -/
theorem h_appC {α : Type} [Py α] (n : Nat) {x : Str} {xs : List α} {v : α} {np apos : Pos} {k : List α → Ctl S R} (he : PV X Φ e v) (hz : xs.length < sizeLine) (h : ∀ nm, nm = (xs ++ [v]) → HB X W (A :: r) (Φ.set n (sO X.K nm)) M T (k nm)) (ho : Φ[n]? = some (sO X.K xs) := by rfl) (hN : X.N[n]? = some x := by rfl) (hv : Vis X.env.scope x := by first | exact Or.inl rfl | exact Or.inr (Or.inl rfl) | exact Or.inr (Or.inr rfl)) (hd : (x == ("__debug__" : Str)) = false := by decide) (hcd : (x == ("__classdict__" : Str)) = false := by decide) (hst : nst e = true := by rfl) (hl : (apos.endLine == p.line) = true := by rfl) : HB X W ((.Expr (.Call (.Attribute (.Name x np) "append" apos) [e] [] p) pos :: A) :: r) Φ M T (bindV (xs ++ [v]) k) := h_app n he hz (h _ rfl) ho hN hv hd hcd hst hl
end
end GL

set_option Elab.async false
set_option linter.all false
set_option maxRecDepth 100000
set_option maxHeartbeats 4000000
namespace GL
open PySem PySem.Spec PyProof.Rows L2
open Evl (Ex ex_l ex_t)
theorem us_in {α : Type} {us : α → List (Nat × SD)} {own : List (Str × Nat)} (h : ∀ x, (us x).all (fun u => (own.map (·.2)).contains u.1) = true) : ∀ x, ∀ u ∈ us x, u.1 ∈ own.map (·.2) := fun x u hu => by
  have := List.all_eq_true.mp (h x) u hu
  exact List.contains_iff_mem.mp this
theorem cdiv_of {i j : Int} (h : 0 < j) (h2 : j < 2 ^ 64) : CDivW i j := ⟨h, by
  have : j.natAbs < 2 ^ 64 := by omega
  have h0 : j.natAbs ≠ 0 := by omega
  have := (Nat.log2_lt h0).mpr this
  omega⟩
/-! ### max, min with default= -/
def maxDf (xs : List Int) (d : Int) : Int := if xs.isEmpty then d else maxL xs
def minDf (xs : List Int) (d : Int) : Int := if xs.isEmpty then d else minL xs
section
variable {X : Cx}
def rDf (X : Cx) (f : List Int → Int → Int) : List V → List V → Hp → VK → Prop := fun vs zs H Q => ∃ (a : Addr) (ns : List Int) (d : Int), vs = [.ref a] ∧ zs = [.int d] ∧ SqL X.K H a (ns.map V.int) ∧ Q (.int (f ns d)) H
variable {Φ : List SD} {a b c e : Expr} {pos p kp : Pos} {i j k : Int} {tg : Expr}
/-! ### range(i, j, -1) -/
/-- i, i - 1, .. above j -/
def dwn (i j : Int) : List Int := (List.range (i - j).toNat).map fun (n : Nat) => i - (n : Int)
theorem dwn_length (i j : Int) : (dwn i j).length = (i - j).toNat := by simp [dwn]
end

/-! ### targets of tuples -/
section
variable {X : Cx} {e1 e2 e3 e4 e5 : Expr} {pos : Pos} {kk : Nat} {us u1 u2 u3 u4 u5 : List (Nat × SD)}
end
/-! ### an invariant of a fold -/
theorem mod_ix {a n : Int} (h : 0 < n) : 0 ≤ a % n ∧ a % n < n := ⟨Int.emod_nonneg _ (by omega), Int.emod_lt_of_pos _ h⟩
theorem pos_len {α : Type} [DecidableEq α] {xs : List α} (h : decide (xs = []) = false) : 0 < (xs.length : Int) := by
  have := List.length_pos_iff.mpr (of_decide_eq_false h)
  omega
theorem imin_eq (i j : Int) : imin i j = min i j := by unfold imin; split <;> omega
theorem imax_eq (i j : Int) : imax i j = max i j := by unfold imax; split <;> omega
theorem iabs_eq (i : Int) : iabs i = (i.natAbs : Int) := by unfold iabs; split <;> omega
theorem ix_mem {α : Type} [Inhabited α] {xs : List α} {i : Int} (h : 0 ≤ i ∧ i < xs.length) : ix xs i ∈ xs := by
  have hi : i.toNat < xs.length := by omega
  simp only [ix, List.getD, List.getElem?_eq_getElem hi, Option.getD_some]
  exact List.getElem_mem hi
/-! ### loops that only look -/
theorem mem_rng {lo hi x : Int} : x ∈ rng lo hi ↔ lo ≤ x ∧ x < hi := ⟨rng_memF, fun h => by
  unfold rng
  exact List.mem_map.mpr ⟨(x - lo).toNat, List.mem_range.mpr (by omega), by omega⟩⟩
section
variable {X : Cx} {W : XK} {S R : Type} {Φ : List SD} {M : S → List SD} {T : R → RS} {e : Expr} {pos : Pos} {A : List Stmt} {r : List (List Stmt)}
end
/-! ### sorted, of numbers and of pairs -/
theorem srt_length {α : Type} [Py α] (xs : List α) : (srt xs).length = xs.length := List.length_mergeSort ..
/-- the order of pairs -/
def le2 (p q : Int × Int) : Prop := p.1 < q.1 ∨ (p.1 = q.1 ∧ p.2 ≤ q.2)
/-! ### slices, counts -/
theorem slc_to {α : Type} (xs : List α) {k : Int} (h : 0 ≤ k) : slc xs none (some k) = xs.take k.toNat := by
  unfold slc HT.sIx
  simp only [if_neg (show ¬ k < 0 by omega), List.drop_zero, Nat.sub_zero]
  by_cases q : k.toNat ≤ xs.length
  · rw [Nat.min_eq_left q]
  · rw [Nat.min_eq_right (by omega), List.take_length, List.take_of_length_le (by omega)]
theorem slc_from {α : Type} (xs : List α) {k : Int} (h : 0 ≤ k) : slc xs (some k) none = xs.drop k.toNat := by
  unfold slc HT.sIx
  simp only [if_neg (show ¬ k < 0 by omega)]
  by_cases q : k.toNat ≤ xs.length
  · rw [Nat.min_eq_left q, List.take_of_length_le (by simp)]
  · rw [Nat.min_eq_right (by omega), List.drop_eq_nil_of_le (Nat.le_refl _), List.drop_eq_nil_of_le (by omega)]; simp
theorem slc_len {α : Type} (xs : List α) (lo hi : Option Int) : (slc xs lo hi).length ≤ xs.length := by
  unfold slc
  rw [List.length_take, List.length_drop]; omega
theorem slc_mem {α : Type} {xs : List α} {lo hi : Option Int} {x : α} (h : x ∈ slc xs lo hi) : x ∈ xs := List.mem_of_mem_drop (List.mem_of_mem_take h)
/-! ### t[n], typed -/
section
variable {X : Cx} {Φ : List SD} {a : Expr} {pos q1 : Pos}
end

section
variable {X : Cx} {W : XK} {S R : Type} {Φ : List SD} {M : S → List SD} {T : R → RS} {o : Ctl S R} {a e : Expr} {pos p : Pos} {r : List (List Stmt)}
end
/-! ### a while without exits -/
def whileP {S : Type} (c : S → Bool) (f : S → S) : Nat → S → S
  | 0, s => s
  | n + 1, s => match c s with
    | false => s
    | true => whileP c f n (f s)
section
variable {X : Cx} {W : XK} {S R : Type} {Φ : List SD} {M : S → List SD} {T : R → RS} {c : Expr} {pos : Pos} {A body : List Stmt} {r : List (List Stmt)}
end
end GL

set_option Elab.async false
set_option linter.all false
set_option maxRecDepth 100000
set_option maxHeartbeats 4000000
namespace GL
open PySem PySem.Spec PyProof.Rows L2
open Evl (Ex ex_l ex_t)
section
variable {X : Cx}
/-! ### x in t -/
def rInTD (K : Fg) : R2 := fun x y H Q => ∃ d ds, Dp K H x d ∧ Dp K H y (.tuple ds) ∧ d.canLay0 = true ∧ PyData.canLayAll0 ds = true ∧ PyData.depth d ≤ 64 ∧ Q (.bl (ds.any fun z => PyData.eqv z d)) H
def rNotInTD (K : Fg) : R2 := fun x y H Q => ∃ d ds, Dp K H x d ∧ Dp K H y (.tuple ds) ∧ d.canLay0 = true ∧ PyData.canLayAll0 ds = true ∧ PyData.depth d ≤ 64 ∧ Q (.bl (!ds.any fun z => PyData.eqv z d)) H
/-! ### order of data of one make -/
def ltD {α : Type} [Py α] (x y : α) : Bool := PySem.W.dataLt (enc x) (enc y)
def rCmpD (K : Fg) (f : PyData → PyData → Bool) : R2 := fun x y H Q => ∃ d e, Dp K H x d ∧ Dp K H y e ∧ PySem.W.alike d e = true ∧ d ≠ .none ∧ PyData.depth d ≤ 64 ∧ Q (.bl (f d e)) H
end
section
variable {X : Cx} {Φ : List SD} {a b : Expr} {pos p p2 pos' : Pos} {i j : Int}
variable {α : Type} [Py α] [PyS α] [PyN α] {x y : α}
end
instance : PyS Bool := ⟨fun x y => by simp [enc, Py.enc, PySem.W.alike], .inr fun x => ⟨by simp [enc, Py.enc], by simp [enc, Py.enc]⟩⟩
instance {α : Type} [Py α] [PyS α] : PyS (List α) := ⟨fun x y => by
  show PySem.W.alike (.list (x.map enc)) (.list (y.map enc)) = true
  simp only [PySem.W.alike, alikeAll_of], .inr fun x => ⟨by simp [enc, Py.enc], by simp [enc, Py.enc]⟩⟩
instance {α β γ : Type} [Py α] [Py β] [Py γ] [PyS α] [PyS β] [PyS γ] : PyS (T3 α β γ) := ⟨fun x y => by
  have h1 := PyS.alike x.a y.a
  have h2 := PyS.alike x.b y.b
  have h3 := PyS.alike x.c y.c
  show PySem.W.alike (.tuple [enc x.a, enc x.b, enc x.c]) (.tuple [enc y.a, enc y.b, enc y.c]) = true
  simp only [PySem.W.alike, PySem.W.alikeAll, h1, h2, h3, Bool.and_self], .inl fun x => ⟨_, _, rfl⟩⟩
instance {α β γ δ : Type} [Py α] [Py β] [Py γ] [Py δ] [PyS α] [PyS β] [PyS γ] [PyS δ] : PyS (T4 α β γ δ) := ⟨fun x y => by
  have h1 := PyS.alike x.a y.a
  have h2 := PyS.alike x.b y.b
  have h3 := PyS.alike x.c y.c
  have h4 := PyS.alike x.d y.d
  show PySem.W.alike (.tuple [enc x.a, enc x.b, enc x.c, enc x.d]) (.tuple [enc y.a, enc y.b, enc y.c, enc y.d]) = true
  simp only [PySem.W.alike, PySem.W.alikeAll, h1, h2, h3, h4, Bool.and_self], .inl fun x => ⟨_, _, rfl⟩⟩
instance {α β γ δ ε : Type} [Py α] [Py β] [Py γ] [Py δ] [Py ε] [PyS α] [PyS β] [PyS γ] [PyS δ] [PyS ε] : PyS (T5 α β γ δ ε) := ⟨fun x y => by
  have h1 := PyS.alike x.a y.a
  have h2 := PyS.alike x.b y.b
  have h3 := PyS.alike x.c y.c
  have h4 := PyS.alike x.d y.d
  have h5 := PyS.alike x.e y.e
  show PySem.W.alike (.tuple [enc x.a, enc x.b, enc x.c, enc x.d, enc x.e]) (.tuple [enc y.a, enc y.b, enc y.c, enc y.d, enc y.e]) = true
  simp only [PySem.W.alike, PySem.W.alikeAll, h1, h2, h3, h4, h5, Bool.and_self], .inl fun x => ⟨_, _, rfl⟩⟩
/-! ### tuple(range(n)) -/
section
variable {X : Cx} {Φ : List SD} {a b : Expr} {pos p p2 pos' : Pos} {i j : Int}
end

/-! ### sorted, of tuples of any length: none empty, or one alone -/
section
variable {X : Cx} {Φ : List SD} {e : Expr} {pos p : Pos}
end

section
variable {X : Cx} {Φ : List SD} {e : Expr} {pos p : Pos}
end
end GL

set_option Elab.async false
set_option linter.all false
set_option maxRecDepth 100000
set_option maxHeartbeats 4000000
namespace GL
open PySem PySem.Spec PyProof.Rows L2
open Evl (Ex ex_l ex_t)
/-! ### instances, their attributes settled -/
def insP (C : Addr) (fs : List (Str × MP)) : MP where
  p F v := ∃ a dx us, v = .ref a ∧ F a = some (.ins C dx ((fs.map (·.1)).zip us)) ∧ AllP (fs.map (·.2)) F us
  mono := by
    rintro F F' v e ⟨a, dx, us, h1, h2, h3⟩
    exact ⟨a, dx, us, h1, e _ _ h2, h3.mono e⟩
theorem zip_lookup {β : Type} {f : Str} : ∀ {ns : List Str} {us : List β} {n : Nat}, ns.Nodup → ns[n]? = some f → us.length = ns.length → (ns.zip us).lookup f = us[n]?
  | [], _, n, _, h, _ => by simp at h
  | m :: ns, [], _, _, _, h => by simp at h
  | m :: ns, u :: us, 0, hd, h, hl => by
    simp at h
    subst h
    simp [List.zip_cons_cons, List.lookup]
  | m :: ns, u :: us, n + 1, hd, h, hl => by
    rw [List.nodup_cons] at hd
    have hm : (f == m) = false := by
      rw [beq_eq_false_iff_ne]
      intro e
      subst e
      exact hd.1 (List.mem_of_getElem? (by simpa using h))
    simp only [List.zip_cons_cons, List.lookup, hm, List.getElem?_cons_succ]
    exact zip_lookup hd.2 (by simpa using h) (by simpa using hl)
theorem zip_lookup_none {β : Type} {f : Str} : ∀ {ns : List Str} {us : List β}, f ∉ ns → (ns.zip us).lookup f = none
  | [], us, _ => by simp [List.lookup]
  | m :: ns, [], _ => by simp [List.lookup]
  | m :: ns, u :: us, h => by
    have hm : (f == m) = false := by
      rw [beq_eq_false_iff_ne]
      intro e; subst e; exact h (by simp)
    simp only [List.zip_cons_cons, List.lookup, hm]
    exact zip_lookup_none fun z => h (by simp [z])
theorem putF_zip {f : Str} {y : V} : ∀ {ns : List Str} {us : List V}, f ∉ ns → us.length = ns.length → putF f y (ns.zip us) = (ns ++ [f]).zip (us ++ [y])
  | [], [], _, _ => rfl
  | [], _ :: _, _, h => by simp at h
  | _ :: _, [], _, h => by simp at h
  | m :: ns, u :: us, h, hl => by
    have hm : ¬ m = f := fun e => h (by simp [e])
    simp only [List.zip_cons_cons, List.cons_append, putF, if_neg hm]
    rw [putF_zip (fun z => h (by simp [z])) (by simpa using hl)]
section
variable {X : Cx} {Φ : List SD} {o e : Expr} {es : List Expr} {pos apos p : Pos} {P : MP} {Qs : List MP} {C : Addr} {fs : List (Str × MP)}
/-- o.f -/
theorem v_att {f : Str} (n : Nat) (c : Cls X.K C) (na : NoAttr X.K C f) (he : PEv X Φ o (insP C fs)) (hn : fs[n]? = some (f, P) := by rfl) (hd : (fs.map (·.1)).Nodup := by decide +kernel) (hb : attributeBase o f X.env (eval o X.env) = eval o X.env := by rfl) : PEv X Φ (.Attribute o f pos) P := .mk fun H0 σ F H Q s sl q =>
  wE_of (pe_fld peW hb) (he H0 σ F H _ s sl fun v F1 H1 g1 ⟨a, dx, us, e1, h1, p1⟩ => by
    subst e1
    have hp : (fs.map (·.2))[n]? = some P := by rw [List.getElem?_map, hn]; rfl
    obtain ⟨u, hu, pu⟩ := allP_at p1 hp
    exact ⟨a, C, dx, _, u, rfl, g1.s _ _ h1, c, na, by rw [zip_lookup hd (by rw [List.getElem?_map, hn]; rfl) (by rw [p1.1]; simp), hu], q u F1 H1 g1 pu⟩)
/-- a method of a class -/
structure MthG (P : Program) (w : World) (K : Fg) (mg : Str → Option Value) (base : Heap) (CX : CXT) (k : Nat) (C : Addr) (m : Str) (sp : Sp) : Prop where
  ex : ∃ (f : Addr) (fd : FuncData) (ps : List Str), FnOk P w K mg base CX k f fd ps sp ∧ Meth K C m f ∧ Cls K C ∧ Binds K fd ps []
theorem v_meth {A : Type} {argP : A → List MP} {pre : A → Prop} {res : A → RS} {m : Str} {CX : CXT} {n : Nat} {pl : Sem Bool} (G : MthG X.prog X.w X.K X.mg X.base CX n C m (spG argP pre res)) (hr : Room n X.A) (hx : Passes CX X E0) (z : A) (hp : pre z) (hv : res z = .val P)
    (he : PEv X Φ o (insP C fs)) (ha : PAs X Φ (e :: es) Qs) (hz : argP z = insP C fs :: Qs := by rfl) (hm : (fs.map (·.1)).contains m = false := by decide +kernel) (hst : (e :: es).all nst = true := by rfl)
    (ht : eval (.Call (.Attribute o m apos) (e :: es) [] pos) X.env = (do
      let ov ← eval o X.env
      standAt apos.atName
      let (f, first) ← holding [ov] (getMethod ov m pl)
      callWith pos f first (backTo pos (starEach (e :: es) X.env)) (backToKw pos (keywordEach [] X.env))) := by rfl) : PEv X Φ (.Call (.Attribute o m apos) (e :: es) [] pos) P := .mk fun H0 σ F H Q s sl q => by
  obtain ⟨f, fd, ps, h1, h2, h3, h4⟩ := G.ex
  have hst2 := hst
  rw [List.all_cons, Bool.and_eq_true] at hst2
  have hm' : m ∉ fs.map (·.1) := fun z => by rw [List.contains_iff_mem.mpr z] at hm; cases hm
  refine wE_of (pe_meth (pl := pl) peW h3 h2 h1 hr h4 .nil hx paW (star_cons hst2.1) (star_plain hst2.2) ht) (he H0 σ F H _ s sl fun v F1 H1 g1 ⟨a, dx, us, e1, k1, p1⟩ => ?_)
  subst e1
  refine ⟨a, dx, _, rfl, g1.s _ _ k1, zip_lookup_none hm', ha H0 σ F1 H1 _ g1.s (sl.gr g1) fun vs F2 H2 g2 p2 => ⟨z, F2, g2.s, ?_, hp, ?_⟩⟩
  · rw [hz, List.append_nil]
    exact .cons ⟨a, dx, us, rfl, g2.f _ _ k1, p1.mono g2.f⟩ p2
  · rw [hv]
    exact fun v F3 H3 g3 p3 => q v F3 H3 ((g1.trans g2).trans g3) p3
theorem v_meth0 {A : Type} {argP : A → List MP} {pre : A → Prop} {res : A → RS} {m : Str} {CX : CXT} {n : Nat} {pl : Sem Bool} (G : MthG X.prog X.w X.K X.mg X.base CX n C m (spG argP pre res)) (hr : Room n X.A) (hx : Passes CX X E0) (z : A) (hp : pre z) (hv : res z = .val P)
    (he : PEv X Φ o (insP C fs)) (hz : argP z = [insP C fs] := by rfl) (hm : (fs.map (·.1)).contains m = false := by decide +kernel)
    (ht : eval (.Call (.Attribute o m apos) [] [] pos) X.env = (do
      let ov ← eval o X.env
      standAt apos.atName
      let (f, first) ← holding [ov] (getMethod ov m pl)
      callWith pos f first (backTo pos (starEach [] X.env)) (backToKw pos (keywordEach [] X.env))) := by rfl) : PEv X Φ (.Call (.Attribute o m apos) [] [] pos) P := .mk fun H0 σ F H Q s sl q => by
  obtain ⟨f, fd, ps, h1, h2, h3, h4⟩ := G.ex
  have hm' : m ∉ fs.map (·.1) := fun z => by rw [List.contains_iff_mem.mpr z] at hm; cases hm
  refine wE_of (pe_meth0 (pl := pl) peW h3 h2 h1 hr h4 .nil hx ht) (he H0 σ F H _ s sl fun v F1 H1 g1 ⟨a, dx, us, e1, k1, p1⟩ => ?_)
  subst e1
  refine ⟨a, dx, _, rfl, g1.s _ _ k1, zip_lookup_none hm', z, F1, g1.s, ?_, hp, ?_⟩
  · rw [hz]
    exact .cons ⟨a, dx, us, rfl, k1, p1⟩ .nil
  · rw [hv]
    exact fun v F3 H3 g3 p3 => q v F3 H3 (g1.trans g3) p3
theorem v_meth0N {A : Type} {argP : A → List MP} {pre : A → Prop} {res : A → RS} {m : Str} {CX : CXT} {n : Nat} {pl : Sem Bool} {Ps : List MP} (G : MthG X.prog X.w X.K X.mg X.base CX n C m (spG argP pre res)) (hr : Room n X.A) (hx : Passes CX X E0) (z : A) (hp : pre z) (hv : res z = .new Ps)
    (he : PEv X Φ o (insP C fs)) (hz : argP z = [insP C fs] := by rfl) (hm : (fs.map (·.1)).contains m = false := by decide +kernel)
    (ht : eval (.Call (.Attribute o m apos) [] [] pos) X.env = (do
      let ov ← eval o X.env
      standAt apos.atName
      let (f, first) ← holding [ov] (getMethod ov m pl)
      callWith pos f first (backTo pos (starEach [] X.env)) (backToKw pos (keywordEach [] X.env))) := by rfl) : PEn X Φ (.Call (.Attribute o m apos) [] [] pos) Ps := .mk fun H0 σ F H Q s sl q => by
  obtain ⟨f, fd, ps, h1, h2, h3, h4⟩ := G.ex
  have hm' : m ∉ fs.map (·.1) := fun z => by rw [List.contains_iff_mem.mpr z] at hm; cases hm
  refine wE_of (pe_meth0 (pl := pl) peW h3 h2 h1 hr h4 .nil hx ht) (he H0 σ F H _ s sl fun v F1 H1 g1 ⟨a, dx, us, e1, k1, p1⟩ => ?_)
  subst e1
  refine ⟨a, dx, _, rfl, g1.s _ _ k1, zip_lookup_none hm', z, F1, g1.s, ?_, hp, ?_⟩
  · rw [hz]
    exact .cons ⟨a, dx, us, rfl, k1, p1⟩ .nil
  · rw [hv]
    exact fun a vs F3 H3 g3 k1 k2 k3 p3 => q a vs F3 H3 (g1.trans g3) (by
      cases w : H a with
      | none => rfl
      | some u => rw [g1.h a u w] at k1; cases k1) k2 k3 p3
end
/-! ### an object under construction: x's, unsettled -/
structure GrX (x : Addr) (F H F' H' : Hp) : Prop where
  f : Ex F F'
  h : ∀ a o, a ≠ x → H a = some o → H' a = some o
  s : Ex F' H'
  n : ∀ a, F a = none → H a ≠ none → F' a = none
theorem GrX.refl {x : Addr} {F H : Hp} (s : Ex F H) : GrX x F H F H := ⟨Ex.refl F, fun _ _ _ h => h, s, fun _ h _ => h⟩
theorem GrX.gr {x : Addr} {F H F1 H1 F2 H2 : Hp} (a : GrX x F H F1 H1) (b : Gr F1 H1 F2 H2) (hx : F1 x = none) (hx2 : H1 x ≠ none) : GrX x F H F2 H2 :=
  ⟨a.f.trans b.f, fun y o h1 h2 => b.h y o (a.h y o h1 h2), b.s, fun y h1 h2 => by
    by_cases q : y = x
    · subst q; exact b.n y hx hx2
    · refine b.n y (a.n y h1 h2) ?_
      cases e : H y with
      | none => exact absurd e h2
      | some o => rw [a.h y o q e]; exact fun z => nomatch z⟩
theorem GrX.write {x : Addr} {F H F1 H1 : Hp} {o : HO} (a : GrX x F H F1 H1) (hx : F1 x = none) : GrX x F H F1 (upd H1 x o) :=
  ⟨a.f, fun y u h1 h2 => by rw [upd_ne h1]; exact a.h y u h1 h2, fun y u z => by rw [upd_ne (ne_of_none z hx)]; exact a.s y u z, a.n⟩
theorem GrX.trans {x : Addr} {F H F1 H1 F2 H2 : Hp} (a : GrX x F H F1 H1) (b : GrX x F1 H1 F2 H2) (hx : F1 x = none) (hx2 : H1 x ≠ none) : GrX x F H F2 H2 :=
  ⟨a.f.trans b.f, fun y o h1 h2 => b.h y o h1 (a.h y o h1 h2), b.s, fun y h1 h2 => by
    by_cases q : y = x
    · subst q; exact b.n y hx hx2
    · refine b.n y (a.n y h1 h2) ?_
      cases e : H y with
      | none => exact absurd e h2
      | some o => rw [a.h y o q e]; exact fun z => nomatch z⟩
/-- self -/
def selfP (x : Addr) : MP := ⟨fun _ v => v = .ref x, fun _ _ _ _ h => h⟩
/-- what an __init__ does -/
def spI {A : Type} (C : Addr) (argP : A → List MP) (pre : A → Prop) (fs : A → List (Str × MP)) : Sp := fun vs H Q E => ∃ (z : A) (F : Hp) (x dx : Addr) (us : List V), H x = some (.ins C dx []) ∧ F x = none ∧ Ex F H ∧ vs = .ref x :: us ∧ AllP (argP z) F us ∧ pre z ∧
  ∀ F' H' dx' ws, GrX x F H F' H' → H' x = some (.ins C dx' (((fs z).map (·.1)).zip ws)) → F' x = none → AllP ((fs z).map (·.2)) F' ws → Q .non H'
theorem Sl.any {H0 H0' F H H' : Hp} {Φ : List SD} {σ : L2.St} (h : Sl H0 Φ σ F H) (hΦ : Φ.all (fun d => !d.isOw) = true) : Sl H0' Φ σ F H' := by
  have no : ∀ (i : Nat) (d : SD), Φ[i]? = some d → d.isOw = false := fun i d e => by
    have := List.all_eq_true.mp hΦ d (List.mem_of_getElem? e)
    simpa using this
  refine ⟨h.len, fun i d o a b => ?_, fun i j d e o o' l hij a b f g p q => ?_⟩
  · have k := h.at_ i d o a b
    have kn := no i d a
    cases d with
    | un => trivial
    | im P => exact k
    | ow Ps => cases kn
    | ob P => cases kn
  · rw [SD.fo_un (no i d a)] at p; cases p
structure HI (X : Cx) (ks : List (List Stmt)) (Φ : List SD) (x C : Addr) (fs fin : List (Str × MP)) : Prop where
  run : ∀ (F0 H0 : Hp) (D : Ends) (σ : L2.St) (F H : Hp) (dx : Addr) (us : List V), GrX x F0 H0 F H → Sl H0 Φ σ F H → H x = some (.ins C dx ((fs.map (·.1)).zip us)) → F x = none → AllP (fs.map (·.2)) F us →
    (∀ σ' F' H' dx' ws, GrX x F0 H0 F' H' → H' x = some (.ins C dx' ((fin.map (·.1)).zip ws)) → F' x = none → AllP (fin.map (·.2)) F' ws → D.nx σ' H') → wK X ks D σ H
section
variable {X : Cx} {Φ : List SD} {a b c e : Expr} {es : List Expr} {pos apos p np : Pos} {P : MP} {Ps Qs : List MP} {x C : Addr} {fs fin : List (Str × MP)} {A A1 A2 : List Stmt} {r : List (List Stmt)}
theorem hi_nil : HI X [] Φ x C fs fs := ⟨fun F0 H0 D σ F H dx us g sl hx fx ha k => k σ F H dx us g hx fx ha⟩
theorem hi_end (h : HI X r Φ x C fs fin) : HI X ([] :: r) Φ x C fs fin := ⟨fun F0 H0 D σ F H dx us g sl hx fx ha k => wSs_of pss_nil (h.run F0 H0 D σ F H dx us g sl hx fx ha k)⟩
theorem keep_x {F H F' H' : Hp} (g : Gr F H F' H') {o : HO} (hx : H x = some o) (fx : F x = none) : H' x = some o ∧ F' x = none := ⟨g.h _ _ hx, g.n x fx (ne_none hx)⟩
/-- self.f = e -/
theorem hi_fld {f s0 : Str} (cl : Cls X.K C) (na : NoAttr X.K C f) (he : PEv X Φ e P) (hΦ : Φ.all (fun d => !d.isOw) = true) (h : HI X (A :: r) Φ x C (fs ++ [(f, P)]) fin) (hfr : (fs.map (·.1)).contains f = false := by decide +kernel) (hlen : fs.length < 900 := by decide) (h0 : Φ[0]? = some (.im (selfP x)) := by rfl)
    (hN : X.N[0]? = some s0 := by rfl) (hv : Vis X.env.scope s0 := by first | exact Or.inl rfl | exact Or.inr (Or.inl rfl) | exact Or.inr (Or.inr rfl)) (hd : (s0 == ("__debug__" : Str)) = false := by decide) (hcd : (s0 == ("__classdict__" : Str)) = false := by decide)
    (hs : swapsWith e (some (.Attribute (.Name s0 np) f apos)) pos.line X.env = pure false := by rfl) : HI X ((.Assign [.Attribute (.Name s0 np) f apos] e pos :: A) :: r) Φ x C fs fin := ⟨fun F0 H0 D σ F H dx us g sl hx fx ha k => by
  have hm' : f ∉ fs.map (·.1) := fun z => by rw [List.contains_iff_mem.mpr z] at hfr; cases hfr
  refine wK_cons (wS_of (ps_fld (pe_var hN hv hd hcd) peW hs) (he H0 σ F H _ g.s sl fun u F1 H1 g1 p1 => ?_))
  obtain ⟨kx, kf⟩ := keep_x g1 hx fx
  obtain ⟨w, h1, h2⟩ := (sl.gr g1).im h0
  have h2 : w = .ref x := h2
  subst h2
  refine ⟨_, h1, x, C, dx, _, rfl, kx, cl, na, ?_, ?_⟩
  · have := ha.1
    rw [List.length_zip]; simp at this ⊢; omega
  · have hl : us.length = (fs.map (·.1)).length := by rw [ha.1]; simp
    rw [putF_zip hm' hl]
    have g2 := (g.gr g1 fx (ne_none hx)).write (o := .ins C dx ((fs.map (·.1) ++ [f]).zip (us ++ [u]))) kf
    refine h.run F0 H0 D σ F1 _ dx (us ++ [u]) g2 ((sl.gr g1).any hΦ) (by rw [upd_same, List.map_append]; rfl) kf ?_ k
    rw [List.map_append]
    exact (ha.mono g1.f).snoc p1⟩
/-- an expression, its value dropped -/
theorem hi_drop (he : PEv X Φ e P) (h : HI X (A :: r) Φ x C fs fin) (hs : swapsWith e none pos.line X.env = pure false := by rfl) : HI X ((.Expr e pos :: A) :: r) Φ x C fs fin := ⟨fun F0 H0 D σ F H dx us g sl hx fx ha k =>
  wK_cons (wS_of (ps_expr peW hs) (he H0 σ F H _ g.s sl fun v F1 H1 g1 _ => h.run F0 H0 D σ F1 H1 dx us (g.gr g1 fx (ne_none hx)) (sl.gr g1) (keep_x g1 hx fx).1 (keep_x g1 hx fx).2 (ha.mono g1.f) k))⟩
/-- a test that is false, its road not taken -/
theorem hi_ifno (hc : PTv X Φ c false) (h : HI X (A2 :: A :: r) Φ x C fs fin) : HI X ((.If c A1 A2 pos :: A) :: r) Φ x C fs fin := ⟨fun F0 H0 D σ F H dx us g sl hx fx ha k =>
  wK_cons (wS_of (ps_if ptW pssW pssW) (hc H0 σ F H _ g.s sl fun F1 H1 g1 => iteF (h.run F0 H0 D σ F1 H1 dx us (g.gr g1 fx (ne_none hx)) (sl.gr g1) (keep_x g1 hx fx).1 (keep_x g1 hx fx).2 (ha.mono g1.f) k)))⟩
variable {S R : Type} {M : S → List SD} {T : R → RS} {W : XK} {o : Ctl S R}
end
end GL

set_option Elab.async false
set_option linter.all false
set_option maxRecDepth 100000
set_option maxHeartbeats 4000000
namespace GL
open PySem PySem.Spec PyProof.Rows L2
open Evl (Ex ex_l ex_t)
/-! ### C.m(x, ..): a def read off its class -/
/-- what of the head is wanted for it -/
def cfunB (K : Fg) (C f : Addr) (m : Str) : Bool := PySem.W.readsIn K C (.type "type") && (decide (PySem.W.specialIn K (.ref C) "__getattribute__" = some (some (.builtin "type.__getattribute__"))) && (match PySem.W.findCls K (.ref C) (.type "type") m with
  | some (.val (.ref a)) => decide (a = f)
  | _ => false))
structure CFn (K : Fg) (C f : Addr) (m : Str) : Prop where
  rd : ClX.CRead K C (.type "type")
  vl : ClX.CVal K C (.type "type") m (.ref f) (.ref f)
theorem cfn_of {K : Fg} {C f : Addr} {m : Str} (h : cfunB K C f m = true) : CFn K C f m := by
  unfold cfunB at h
  rw [Bool.and_eq_true, Bool.and_eq_true] at h
  obtain ⟨h1, h2, h3⟩ := h
  refine ⟨⟨h1, of_decide_eq_true h2⟩, ?_, rfl⟩
  cases e : PySem.W.findCls K (.ref C) (.type "type") m with
  | none => rw [e] at h3; cases h3
  | some r =>
    rw [e] at h3
    cases r with
    | get g a o t => cases h3
    | val v =>
      cases v with
      | ref a => rw [of_decide_eq_true h3]
      | _ => cases h3
section
variable {X : Cx} {CX : CXT} {k : Nat} {C f : Addr} {fd : FuncData} {ps : List Str} {sp : Sp} {E : XK} {c m : Str} {p pos apos cp : Pos} {e : Expr} {es : List Expr} {t : TA}
theorem pe_cfun {pl : Sem Bool} (hg : Gl X c) (hm : X.mg c = some (.ref C)) (cf : CFn X.K C f m) (F : FnOk X.prog X.w X.K X.mg X.base CX k f fd ps sp) (hr : Room k X.A) (hb : Binds X.K fd ps []) (hk : PySem.W.keepIn X.K (.ref f) = true) (hx : Passes CX X E) (ha : PA X (e :: es) t)
    (hd : (c == ("__debug__" : Str)) = false) (hst : starEach (e :: es) X.env = (false, eval e X.env) :: starEach es X.env) (hpl : (backTo pos (starEach es X.env)).any (·.1) = false)
    (ht : eval (.Call (.Attribute (.Name c cp) m apos) (e :: es) [] pos) X.env = (do
      let ov ← eval (.Name c cp) X.env
      standAt apos.atName
      let (f, first) ← holding [ov] (getMethod ov m pl)
      callWith pos f first (backTo pos (starEach (e :: es) X.env)) (backToKw pos (keywordEach [] X.env)))) :
    PE X (.Call (.Attribute (.Name c cp) m apos) (e :: es) [] pos) (fun σ H Q => t σ H fun vs H1 => sp vs H1 Q E) := by
  refine ⟨fun pins s σ H Q I h => ?_⟩
  refine PySem.W.methodCall_KW (pl := pl) (ld_glob I hg hm ?_ hd) ht
  refine PySem.W.method_cls I.kIn cf.rd.ga (ClX.getcval_ok I cf.rd cf.vl fun s1 I1 => ?_)
  refine PySem.W.callWith_K (first := []) (h₀ := X.base) I1.ok.mod.kin hk (thn (ha.run pos pins s1 σ H _ I1 h) fun us s2 ⟨vs, H2, I2, r, q2⟩ => ⟨I2.kIn, ?_⟩) hst hpl
  exact run_fn (us := us) (vs := vs) (dvs := []) F hr hb .nil hx I2 r (by rw [List.append_nil]; exact q2)
end
/-! ### a class that is made; its __init__ -/
structure IniG (P : Program) (w : World) (K : Fg) (mg : Str → Option Value) (base : Heap) (CX : CXT) (k : Nat) (f : Addr) (sp : Sp) : Prop where
  ex : ∃ (fd : FuncData) (ps : List Str), FnOk P w K mg base CX k f fd ps sp ∧ Binds K fd ps [] ∧ PySem.W.keepIn K (.ref f) = true
section
variable {X : Cx} {Φ : List SD} {e : Expr} {es : List Expr} {pos apos p np cp : Pos} {C f : Addr} {A : List Stmt} {r : List (List Stmt)}
end
section
variable {P : Program} {w : World} {K : Fg} {mg : Str → Option Value} {base : Heap}
theorem ini_mk {x : Str} {f : Addr} {fd : FuncData} {ps : List Str} {k : Nat} {CX : CXT} {sp : Sp} {qual : Str} {st : Stmt} (F : DefOf K x qual st f fd) (G : FnOk P w K mg base CX k f fd ps sp)
    (hb : ∀ (kV doc pm : Value) (an : Option Addr) (cdv ct : Value) (us : List Value), us.length = ps.length → bindArgs (PySem.W.fnOf x qual (defArgs st) (defBody st) (defScope st) .none kV doc pm an cdv ct) ⟨us, []⟩ = pure (ps.zip us)) : IniG P w K mg base CX k f sp :=
  ⟨fd, ps, G, FunD.bindsN F hb, F.kp⟩
theorem mth_mk {C : Addr} {x m : Str} {f : Addr} {fd : FuncData} {ps : List Str} {k : Nat} {CX : CXT} {sp : Sp} {qual : Str} {st : Stmt} (c : Cls K C) (hm : Meth K C m f) (F : DefOf K x qual st f fd) (G : FnOk P w K mg base CX k f fd ps sp)
    (hb : ∀ (kV doc pm : Value) (an : Option Addr) (cdv ct : Value) (us : List Value), us.length = ps.length → bindArgs (PySem.W.fnOf x qual (defArgs st) (defBody st) (defScope st) .none kV doc pm an cdv ct) ⟨us, []⟩ = pure (ps.zip us)) : MthG P w K mg base CX k C m sp :=
  ⟨f, fd, ps, G, hm, c, FunD.bindsN F hb⟩
end
end GL

set_option Elab.async false
set_option linter.all false
set_option maxRecDepth 100000
set_option maxHeartbeats 4000000
namespace GL
open PySem PySem.Spec PyProof.Rows L2
open Evl (Ex ex_l ex_t)
section
variable {P : Program} {w : World} {K : Fg} {mg : Str → Option Value} {base : Heap}
end
/-! ### lists of a written make -/
structure H2 (α β : Type) where
  a : α
  b : β
  deriving DecidableEq, Inhabited
instance {α β : Type} [Py α] [Py β] : Py (H2 α β) := ⟨fun p => .list [enc p.a, enc p.b], max (Py.dep α) (Py.dep β) + 1, fun p => by
  have := Py.deep p.a
  have := Py.deep p.b
  simp only [PyData.depth, PyData.depthAll, enc]; omega⟩
instance {α β : Type} [Py α] [Py β] [PyQ α] [PyQ β] : PyQ (H2 α β) := ⟨fun p q => by
  show PyData.eqv (.list [enc p.a, enc p.b]) (.list [enc q.a, enc q.b]) = true ↔ _
  have h0 := PyQ.eqv p.a q.a
  have h1 := PyQ.eqv p.b q.b
  simp only [PyData.eqv, PyData.eqvAll, Bool.and_true, Bool.and_eq_true, h0, h1]
  cases p; cases q; simp, fun p => by
  show PyData.canLay0 (.list [enc p.a, enc p.b]) = true
  simp only [PyData.canLay0, PyData.canLayAll0, PyQ.can, Bool.and_true]⟩
structure H3 (α β γ : Type) where
  a : α
  b : β
  c : γ
  deriving DecidableEq, Inhabited
instance {α β γ : Type} [Py α] [Py β] [Py γ] : Py (H3 α β γ) := ⟨fun p => .list [enc p.a, enc p.b, enc p.c], max (max (Py.dep α) (Py.dep β)) (Py.dep γ) + 1, fun p => by
  have := Py.deep p.a
  have := Py.deep p.b
  have := Py.deep p.c
  simp only [PyData.depth, PyData.depthAll, enc]; omega⟩
instance {α β γ : Type} [Py α] [Py β] [Py γ] [PyQ α] [PyQ β] [PyQ γ] : PyQ (H3 α β γ) := ⟨fun p q => by
  show PyData.eqv (.list [enc p.a, enc p.b, enc p.c]) (.list [enc q.a, enc q.b, enc q.c]) = true ↔ _
  have h0 := PyQ.eqv p.a q.a
  have h1 := PyQ.eqv p.b q.b
  have h2 := PyQ.eqv p.c q.c
  simp only [PyData.eqv, PyData.eqvAll, Bool.and_true, Bool.and_eq_true, h0, h1, h2]
  cases p; cases q; simp, fun p => by
  show PyData.canLay0 (.list [enc p.a, enc p.b, enc p.c]) = true
  simp only [PyData.canLay0, PyData.canLayAll0, PyQ.can, Bool.and_true]⟩
structure H4 (α β γ δ : Type) where
  a : α
  b : β
  c : γ
  d : δ
  deriving DecidableEq, Inhabited
instance {α β γ δ : Type} [Py α] [Py β] [Py γ] [Py δ] : Py (H4 α β γ δ) := ⟨fun p => .list [enc p.a, enc p.b, enc p.c, enc p.d], max (max (Py.dep α) (Py.dep β)) (max (Py.dep γ) (Py.dep δ)) + 1, fun p => by
  have := Py.deep p.a
  have := Py.deep p.b
  have := Py.deep p.c
  have := Py.deep p.d
  simp only [PyData.depth, PyData.depthAll, enc]; omega⟩
instance {α β γ δ : Type} [Py α] [Py β] [Py γ] [Py δ] [PyQ α] [PyQ β] [PyQ γ] [PyQ δ] : PyQ (H4 α β γ δ) := ⟨fun p q => by
  show PyData.eqv (.list [enc p.a, enc p.b, enc p.c, enc p.d]) (.list [enc q.a, enc q.b, enc q.c, enc q.d]) = true ↔ _
  have h0 := PyQ.eqv p.a q.a
  have h1 := PyQ.eqv p.b q.b
  have h2 := PyQ.eqv p.c q.c
  have h3 := PyQ.eqv p.d q.d
  simp only [PyData.eqv, PyData.eqvAll, Bool.and_true, Bool.and_eq_true, h0, h1, h2, h3]
  cases p; cases q; simp, fun p => by
  show PyData.canLay0 (.list [enc p.a, enc p.b, enc p.c, enc p.d]) = true
  simp only [PyData.canLay0, PyData.canLayAll0, PyQ.can, Bool.and_true]⟩
section
variable {X : Cx} {Φ : List SD} {a b : Expr} {es : List Expr} {pos q1 : Pos}
end
end GL

set_option Elab.async false
set_option linter.all false
set_option maxRecDepth 100000
set_option maxHeartbeats 4000000
namespace GL
open PySem PySem.Spec PyProof.Rows L2
/-! ### the head's hook, one more place of the heap in its part -/
def asY (g : Addr → Option Obj) (n : Nat) : List Addr := PySem.cStatics :: He.asD g n
def obsY (n : Nat) (fa : List He.Fa) (fn : List He.DefD) (ex : Fg → Bool) (g : Addr → Option Obj) : He.AlD × Bool :=
  (He.obsD fa fn (He.frG g (asY g n)), ex (He.frG g (asY g n)))
def hookY (n : Nat) (fa : List He.Fa) (fn : List He.DefD) (ex : Fg → Bool) : PySem.W.Hook where
  α := He.AlD × Bool
  obs := fun s => obsY n fa fn ex s.heap.get?
  val := fun _ => (He.valD fn, true)
  says := fun _ h => ∃ K : Fg, K.In h ∧ He.SaysD fa fn K ∧ ex K = true
  of := fun _ _ e => ⟨_, He.frG_in, congrArg (fun z : He.AlD × Bool => z.1) e, congrArg (fun z : He.AlD × Bool => z.2) e⟩
  keeps := fun _ _ _ ⟨K, hK, c⟩ k => ⟨K, PySem.W.Frag.In.keeps hK k, c⟩
theorem obsY_eq {n : Nat} {fa : List He.Fa} {fn : List He.DefD} {ex : Fg → Bool} {g : Addr → Option Obj} {s : Shared} (h : ∀ a, g a = s.heap.get? a) : obsY n fa fn ex g = (hookY n fa fn ex).obs s := by
  have e : g = s.heap.get? := funext h
  rw [e]; rfl
end GL

set_option Elab.async false
set_option linter.all false
set_option maxRecDepth 100000
set_option maxHeartbeats 4000000
namespace GL
open PySem PySem.Spec PyProof.Rows L2
open Evl (Ex ex_l ex_t)
/-! ### one of two makes, told apart by their class -/
inductive Alt (α β : Type) where
  | l (x : α)
  | r (y : β)
  deriving DecidableEq
instance {α β : Type} [Inhabited α] : Inhabited (Alt α β) := ⟨.l default⟩
def Alt.isL {α β : Type} : Alt α β → Bool
  | .l _ => true
  | .r _ => false
def Alt.isR {α β : Type} : Alt α β → Bool
  | .l _ => false
  | .r _ => true
def Alt.getL {α β : Type} [Inhabited α] : Alt α β → α
  | .l x => x
  | .r _ => default
def Alt.getR {α β : Type} [Inhabited β] : Alt α β → β
  | .l _ => default
  | .r y => y
instance {α β : Type} [Py α] [Py β] : Py (Alt α β) := ⟨fun x => match x with
  | .l x => enc x
  | .r y => enc y, max (Py.dep α) (Py.dep β), fun x => by
  cases x with
  | l x => exact Nat.le_trans (Py.deep x) (Nat.le_max_left _ _)
  | r y => exact Nat.le_trans (Py.deep y) (Nat.le_max_right _ _)⟩
section
variable {X : Cx} {Φ : List SD} {a e : Expr} {p p2 pos : Pos}
end
end GL

set_option Elab.async false
set_option linter.all false
set_option maxRecDepth 100000
set_option maxHeartbeats 4000000
namespace GL
open PySem PySem.Spec PyProof.Rows L2
open Evl (Ex ex_l ex_t)
/-! ### values that may fail: .ok, .ex (an own exception), .st (nothing is said) -/
inductive Exn where
  | noRules | noPlace | notFree | tooMany | noRow
  | noTime (flight time : Int) | noPlan (crowd : List Int) | noSheet (row : Int)
  deriving DecidableEq, Inhabited
inductive M (α : Type) where
  | ok (a : α)
  | ex (e : Exn)
  | st
namespace M
def get {α : Type} [Inhabited α] : M α → α
  | .ok a => a
  | _ => default
def Ok {α : Type} (m : M α) : Prop := ∃ a, m = .ok a
def map {α β : Type} (f : α → β) : M α → M β
  | .ok a => .ok (f a)
  | .ex e => .ex e
  | .st => .st
theorem Ok.get {α : Type} [Inhabited α] {m : M α} (h : m.Ok) : m = .ok m.get := by
  obtain ⟨a, rfl⟩ := h; rfl
end M
def bindM {α β : Type} (m : M α) (k : α → M β) : M β := match m with
  | .ok a => k a
  | .ex e => .ex e
  | .st => .st
/-- nothing is said of an exception here -/
def bindO {α β : Type} (m : M α) (k : α → M β) : M β := match m with
  | .ok a => k a
  | _ => .st
open Classical in
noncomputable def asr {β : Type} (c : Prop) (o : M β) : M β := if c then o else .st
theorem asr_pos {β : Type} {c : Prop} {o : M β} (h : c) : asr c o = o := if_pos h
theorem asr_neg {β : Type} {c : Prop} {o : M β} (h : ¬ c) : asr c o = .st := if_neg h
theorem bindO_ok {α β : Type} {a : α} {k : α → M β} : bindO (.ok a) k = k a := rfl
def ctlOk {S R : Type} : Ctl S R → Ctl S (Except Exn R)
  | .nx s => .nx s
  | .ct s => .ct s
  | .bk s => .bk s
  | .rt r => .rt (.ok r)
def lift {S R β : Type} (j : β → Ctl S R) : M β → Option (Ctl S (Except Exn R))
  | .ok b => some (ctlOk (j b))
  | .ex e => some (.rt (.error e))
  | .st => none
/-- a block's promise: as far as the mirror says something -/
structure HM (X : Cx) (W : XK) {S R β : Type} (j : β → Ctl S R) (ks : List (List Stmt)) (Φ : List SD) (Mm : S → List SD) (T : Except Exn R → RS) (o : M β) : Prop where
  run : ∀ c, lift j o = some c → HB X W ks Φ Mm T c
/-! ### loops -/
def forLM {α S R : Type} (f : S → α → M (Ctl S R)) : S → List α → M (Sum S R)
  | s, [] => .ok (.inl s)
  | s, x :: xs => match f s x with
    | .ok (.nx s') => forLM f s' xs
    | .ok (.ct s') => forLM f s' xs
    | .ok (.bk s') => .ok (.inl s')
    | .ok (.rt r) => .ok (.inr r)
    | .ex e => .ex e
    | .st => .st
def forM' {α S R β : Type} (f : S → α → M (Ctl S R)) (s0 : S) (xs : List α) (rt : R → β) (k : S → M β) : M β := match forLM f s0 xs with
  | .ok (.inl s) => k s
  | .ok (.inr r) => .ok (rt r)
  | .ex e => .ex e
  | .st => .st
def foldM' {α S : Type} (f : S → α → M S) : S → List α → M S
  | s, [] => .ok s
  | s, x :: xs => bindM (f s x) fun s' => foldM' f s' xs
@[irreducible] def fuelN : Nat := 2 ^ 64
theorem fuel_ge : 2 ^ 64 ≤ fuelN := by unfold fuelN; exact Nat.le_refl _
def whileLM {S R : Type} (c : S → M Bool) (f : S → M (Ctl S R)) : Nat → S → M (Sum S R)
  | 0, _ => .st
  | n + 1, s => match c s with
    | .ok false => .ok (.inl s)
    | .ok true => match f s with
      | .ok (.nx s') => whileLM c f n s'
      | .ok (.ct s') => whileLM c f n s'
      | .ok (.bk s') => .ok (.inl s')
      | .ok (.rt r) => .ok (.inr r)
      | .ex e => .ex e
      | .st => .st
    | _ => .st
def whileM' {S R β : Type} (c : S → M Bool) (f : S → M (Ctl S R)) (s0 : S) (rt : R → β) (k : S → M β) : M β := match whileLM c f fuelN s0 with
  | .ok (.inl s) => k s
  | .ok (.inr r) => .ok (rt r)
  | .ex e => .ex e
  | .st => .st
/-- a while without break, return -/
def whileS {S : Type} (c : S → M Bool) (f : S → M S) : Nat → S → M S
  | 0, _ => .st
  | n + 1, s => match c s with
    | .ok false => .ok s
    | .ok true => bindM (f s) fun s' => whileS c f n s'
    | _ => .st
def tot {S R : Type} (s : S) (m : M (Ctl S R)) : Ctl S (Except Exn R) := (lift id m).getD (.bk s)
def sumX {S R : Type} : M (Sum S R) → Option (Sum S (Except Exn R))
  | .ok (.inl s) => some (.inl s)
  | .ok (.inr r) => some (.inr (.ok r))
  | .ex e => some (.inr (.error e))
  | .st => none
theorem forL_of {α S R : Type} {f : S → α → M (Ctl S R)} : ∀ (xs : List α) (s : S) {u}, sumX (forLM f s xs) = some u → forL (fun s x => tot s (f s x)) s xs = u
  | [], s, u, h => by simpa [forLM, sumX, forL] using h
  | x :: xs, s, u, h => by
    simp only [forLM] at h
    simp only [forL, tot]
    cases e : f s x with
    | ok c =>
      rw [e] at h
      cases c with
      | nx s' => exact forL_of xs s' h
      | ct s' => exact forL_of xs s' h
      | bk s' => simpa [sumX, lift, ctlOk] using h
      | rt r => simpa [sumX, lift, ctlOk] using h
    | ex e' => rw [e] at h; simpa [sumX, lift] using h
    | st => rw [e] at h; simp [sumX] at h
theorem steps_of {α S R : Type} {f : S → α → M (Ctl S R)} : ∀ (xs : List α) (s : S) (n : Nat) {s' : S}, n ≤ xs.length → forLM f s xs ≠ .st → steps (fun s x => tot s (f s x)) s (xs.take n) = some s' → forLM f s' (xs.drop n) = forLM f s xs
  | xs, s, 0, s', _, _, h => by
    have e : s = s' := Option.some.inj (by simpa [steps] using h)
    subst e; rfl
  | [], s, n + 1, s', hn, _, h => by simp at hn
  | x :: xs, s, n + 1, s', hn, hs, h => by
    simp only [List.take_succ_cons, steps, tot] at h
    simp only [forLM] at hs ⊢
    cases e : f s x with
    | ok c =>
      rw [e] at h hs
      cases c with
      | nx s2 => exact steps_of xs s2 n (by simpa using hn) hs h
      | ct s2 => exact steps_of xs s2 n (by simpa using hn) hs h
      | bk s2 => simp [lift, ctlOk] at h
      | rt r => simp [lift, ctlOk] at h
    | ex e' => rw [e] at h; simp [lift] at h
    | st => rw [e] at hs; exact absurd rfl hs
section
variable {X : Cx} {W : XK} {S R β : Type} {j : β → Ctl S R} {Φ : List SD} {Mm : S → List SD} {T : Except Exn R → RS} {o o1 o2 : M β} {a b c e : Expr} {es : List Expr} {pos p p2 : Pos} {P : MP} {Ps Qs : List MP} {i : Int} {tg iter : Expr} {A A1 A2 body : List Stmt} {r ks : List (List Stmt)} {st : Stmt}
theorem k_lift {ks1 : List (List Stmt)} {Φ1 : List SD} (hh : ∀ c, HB X W ks1 Φ1 Mm T c → HB X W ks Φ Mm T c) (h : HM X W j ks1 Φ1 Mm T o) : HM X W j ks Φ Mm T o := ⟨fun c hc => hh c (h.run c hc)⟩
theorem k_C {α : Type} {v : α} {k : α → M β} {ks1 : List (List Stmt)} {Φ1 : α → List SD} (hh : ∀ c, (∀ nm, nm = v → HB X W ks1 (Φ1 nm) Mm T c) → HB X W ks Φ Mm T (bindV v fun _ => c)) (h : ∀ nm, nm = v → HM X W j ks1 (Φ1 nm) Mm T (k nm)) : HM X W j ks Φ Mm T (bindV v k) :=
  ⟨fun c hc => hh c fun nm e => (h nm e).run c (by subst e; exact hc)⟩
theorem k_asr {q : Prop} (h : q → HM X W j ks Φ Mm T o) : HM X W j ks Φ Mm T (asr q o) := ⟨fun c hc => by
  by_cases hq : q
  · rw [asr_pos hq] at hc; exact (h hq).run c hc
  · rw [asr_neg hq] at hc; cases hc⟩
theorem k_bindO {α : Type} {m : M α} {k : α → M β} (h : ∀ t, m = .ok t → HM X W j ks Φ Mm T (k t)) : HM X W j ks Φ Mm T (bindO m k) := ⟨fun c hc => by
  cases e : m with
  | ok t => rw [e] at hc; exact (h t e).run c hc
  | ex e' => rw [e] at hc; cases hc
  | st => rw [e] at hc; cases hc⟩
theorem k_end (h : HM X W j r Φ Mm T o) : HM X W j ([] :: r) Φ Mm T o := k_lift (fun _ z => h_end z) h
theorem k_nil {v : β} {s : S} (w : Wk Φ (Mm s)) (hj : j v = .nx s := by rfl) : HM X W j [] Φ Mm T (.ok v) := ⟨fun c hc => by
  simp only [lift, hj, ctlOk, Option.some.injEq] at hc
  subst hc; exact h_nil w⟩
theorem k_ret {v : β} {u : R} (he : PEv X Φ e P) (hj : j v = .rt u := by rfl) (hT : T (.ok u) = .val P := by rfl) : HM X W j ((.Return (some e) pos :: A) :: r) Φ Mm T (.ok v) := ⟨fun c hc => by
  simp only [lift, hj, ctlOk, Option.some.injEq] at hc
  subst hc; exact h_ret he hT⟩
theorem k_retN {v : β} {u : R} (he : PEn X Φ e Ps) (hj : j v = .rt u := by rfl) (hT : T (.ok u) = .new Ps := by rfl) : HM X W j ((.Return (some e) pos :: A) :: r) Φ Mm T (.ok v) := ⟨fun c hc => by
  simp only [lift, hj, ctlOk, Option.some.injEq] at hc
  subst hc; exact h_retN he hT⟩
theorem k_retOw (n : Nat) {v : β} {u : R} {x : Str} (ho : Φ[n]? = some (.ow Ps) := by rfl) (hj : j v = .rt u := by rfl) (hT : T (.ok u) = .new Ps := by rfl) (hN : X.N[n]? = some x := by rfl) (hv : Vis X.env.scope x := by first | exact Or.inl rfl | exact Or.inr (Or.inl rfl) | exact Or.inr (Or.inr rfl)) (hd : (x == ("__debug__" : Str)) = false := by decide)
    (hcd : (x == ("__classdict__" : Str)) = false := by decide) : HM X W j ((.Return (some (.Name x p)) pos :: A) :: r) Φ Mm T (.ok v) := ⟨fun c hc => by
  simp only [lift, hj, ctlOk, Option.some.injEq] at hc
  subst hc; exact h_retOw n ho hT hN hv hd hcd⟩
theorem k_if {k : Bool} (hc : PTv X Φ c k) (h1 : k = true → HM X W j (A1 :: A :: r) Φ Mm T o1) (h2 : k = false → HM X W j (A2 :: A :: r) Φ Mm T o2) : HM X W j ((.If c A1 A2 pos :: A) :: r) Φ Mm T (cond k o1 o2) := ⟨fun x hx => by
  cases k with
  | true => exact h_if (o2 := .rt (.error default)) hc (fun _ => (h1 rfl).run x hx) (fun h => nomatch h)
  | false => exact h_if (o1 := .rt (.error default)) hc (fun h => nomatch h) (fun _ => (h2 rfl).run x hx)⟩
theorem hb_exit {S' : Type} {M' : S' → List SD} {x : Except Exn R} (h : HB X W (S := S') [A1] Φ M' T (.rt x)) : HB X W (A1 :: r) Φ Mm T (.rt x) := .mk fun F0 H0 D σ F H g sl k =>
  h F0 H0 { D with nx := fun σ' H' => wK X r D σ' H' } σ F H g sl k
/-- an if whose ways meet -/
theorem k_ifM {S' : Type} (M' : S' → List SD) {k : Bool} {m1 m2 : M S'} {kk : S' → M β} (hc : PTv X Φ c k) (h1 : k = true → HM X W (Ctl.nx (R := R)) [A1] Φ M' T m1) (h2 : k = false → HM X W (Ctl.nx (R := R)) [A2] Φ M' T m2)
    (h : ∀ s, cond k m1 m2 = .ok s → HM X W j (A :: r) (M' s) Mm T (kk s)) : HM X W j ((.If c A1 A2 pos :: A) :: r) Φ Mm T (bindM (cond k m1 m2) kk) := ⟨fun x hx => by
  cases k with
  | true =>
    simp only [cond_true] at hx h
    cases e : m1 with
    | ok s =>
      rw [e] at hx
      exact h_ifM (s2 := s) hc (fun _ => (h1 rfl).run _ (by rw [e]; rfl)) (fun h => nomatch h) ((h s e).run x hx)
    | ex x' =>
      rw [e] at hx; cases hx
      exact h_if (o2 := .rt (.error default)) hc (fun _ => hb_exit ((h1 rfl).run (.rt (.error x')) (by rw [e]; rfl))) (fun h => nomatch h)
    | st => rw [e] at hx; cases hx
  | false =>
    simp only [cond_false] at hx h
    cases e : m2 with
    | ok s =>
      rw [e] at hx
      exact h_ifM (s1 := s) hc (fun h => nomatch h) (fun _ => (h2 rfl).run _ (by rw [e]; rfl)) ((h s e).run x hx)
    | ex x' =>
      rw [e] at hx; cases hx
      exact h_if (o1 := .rt (.error default)) hc (fun h => nomatch h) (fun _ => hb_exit ((h2 rfl).run (.rt (.error x')) (by rw [e]; rfl)))
    | st => rw [e] at hx; cases hx⟩
/-- a for, in general -/
theorem k_forG {α S' : Type} [Py α] {xs : List α} (M' : S' → List SD) (us : α → List (Nat × SD)) {f : S' → α → M (Ctl S' R)} {s0 : S'} {k : S' → M β} (hp : PassesOwn (model X.prog X.w) X.A X.env X.xe) (hc : X.calm = true)
    (hi : PIt X Φ tg iter xs) (hg : ∀ x, PGt X tg x (us x)) (w0 : Wk Φ (M' s0))
    (hb : ∀ s x, HM X W id [body] (setAll (M' s) (us x)) M' T (f s x))
    (hr : ∀ s, HM X W j (A :: r) (M' s) Mm T (k s))
    (q1 : ∀ s, forLM f s0 xs = .ok (.inl s) → o = k s) (q2 : ∀ u, forLM f s0 xs = .ok (.inr u) → ∃ v, o = .ok v ∧ j v = .rt u) (q3 : ∀ x, forLM f s0 xs = .ex x → o = .ex x) (q4 : forLM f s0 xs = .st → o = .st)
    (hs : ∀ x, foldedSetIterable iter X.env x = pure x) : HM X W j ((.For tg iter body [] pos :: A) :: r) Φ Mm T o := ⟨fun x hx => by
  have nst : forLM f s0 xs ≠ .st := fun z => by rw [q4 z] at hx; cases hx
  have h := h_for (W := W) (S := S) (R := Except Exn R) (M := Mm) (T := T) (pos := pos) (A := A) (r := r) (k := fun _ => x) (M' := M') us (fun s x => tot s (f s x)) s0 hp hc hi hg w0 (fun n s y hy hst => by
    have hn : n ≤ xs.length := Nat.le_of_lt (List.getElem?_eq_some_iff.mp hy).1
    have e := steps_of xs s0 n hn nst hst
    have hlt := (List.getElem?_eq_some_iff.mp hy).1
    rw [List.drop_eq_getElem_cons hlt, (List.getElem?_eq_some_iff.mp hy).2] at e
    simp only [forLM] at e
    cases e2 : f s y with
    | ok c => exact (hb s y).run _ (by rw [e2]; rfl)
    | ex e' => exact (hb s y).run _ (by rw [e2]; rfl)
    | st => rw [e2] at e; exact absurd e.symm nst) (fun s hs => by
    have key : forLM f s0 xs = .ok (.inl s) := by
      cases e : forLM f s0 xs with
      | ok u =>
        have := forL_of xs s0 (u := (match u with | .inl s => .inl s | .inr r => .inr (.ok r))) (by rw [e]; cases u <;> rfl)
        rw [this] at hs
        cases u with
        | inl s' => simp at hs; rw [hs]
        | inr r => simp at hs
      | ex e' =>
        have := forL_of xs s0 (u := .inr (.error e')) (by rw [e]; rfl)
        rw [this] at hs; cases hs
      | st => exact absurd e nst
    refine (hr s).run x ?_
    rw [← q1 s key]; exact hx) hs
  have e : forK (S := S) (fun s x => tot s (f s x)) s0 xs (fun _ => x) = x := by
    unfold forK
    cases e : forLM f s0 xs with
    | ok u =>
      have h2 := forL_of xs s0 (u := (match u with | .inl s => .inl s | .inr r => .inr (.ok r))) (by rw [e]; cases u <;> rfl)
      rw [h2]
      cases u with
      | inl s => rfl
      | inr u =>
        obtain ⟨v, ho, hj⟩ := q2 u e
        rw [ho] at hx
        simp only [lift, hj, ctlOk, Option.some.injEq] at hx
        exact hx
    | ex x' =>
      have h2 := forL_of xs s0 (u := .inr (.error x')) (by rw [e]; rfl)
      rw [h2]
      rw [q3 _ e] at hx
      simp only [lift, Option.some.injEq] at hx
      exact hx
    | st => exact absurd e nst
  rw [e] at h
  exact h⟩
theorem k_for {α S' : Type} [Py α] {xs : List α} (M' : S' → List SD) (us : α → List (Nat × SD)) {f : S' → α → M (Ctl S' R)} {s0 : S'} {rt : R → β} {k : S' → M β} (hp : PassesOwn (model X.prog X.w) X.A X.env X.xe) (hc : X.calm = true)
    (hi : PIt X Φ tg iter xs) (hg : ∀ x, PGt X tg x (us x)) (w0 : Wk Φ (M' s0))
    (hb : ∀ s x, HM X W id [body] (setAll (M' s) (us x)) M' T (f s x))
    (hr : ∀ s, HM X W j (A :: r) (M' s) Mm T (k s)) (hj : ∀ u, j (rt u) = .rt u := by intro _; rfl) (hs : ∀ x, foldedSetIterable iter X.env x = pure x := by intro _; rfl) : HM X W j ((.For tg iter body [] pos :: A) :: r) Φ Mm T (forM' f s0 xs rt k) :=
  k_forG M' us hp hc hi hg w0 hb hr (fun s h => by unfold forM'; rw [h]) (fun u h => ⟨rt u, by unfold forM'; rw [h], hj u⟩) (fun x h => by unfold forM'; rw [h]) (fun h => by unfold forM'; rw [h]) hs
theorem forLM_fold {α S R : Type} {f : S → α → M S} : ∀ (xs : List α) (s : S), forLM (R := R) (fun s x => (f s x).map .nx) s xs = (foldM' f s xs).map .inl
  | [], s => rfl
  | x :: xs, s => by
    simp only [forLM, foldM']
    cases e : f s x with
    | ok s' => exact forLM_fold xs s'
    | ex e' => rfl
    | st => rfl
theorem k_fold {α S' : Type} [Py α] {xs : List α} (M' : S' → List SD) (us : α → List (Nat × SD)) {f : S' → α → M S'} {s0 : S'} {k : S' → M β} (hp : PassesOwn (model X.prog X.w) X.A X.env X.xe) (hc : X.calm = true)
    (hi : PIt X Φ tg iter xs) (hg : ∀ x, PGt X tg x (us x)) (w0 : Wk Φ (M' s0))
    (hb : ∀ s x, HM X W (Ctl.nx (R := R)) [body] (setAll (M' s) (us x)) M' T (f s x))
    (hr : ∀ s, HM X W j (A :: r) (M' s) Mm T (k s)) (hs : ∀ x, foldedSetIterable iter X.env x = pure x := by intro _; rfl) : HM X W j ((.For tg iter body [] pos :: A) :: r) Φ Mm T (bindM (foldM' f s0 xs) k) :=
  k_forG (f := fun s x => (f s x).map .nx) M' us hp hc hi hg w0 (fun s x => ⟨fun c hc => (hb s x).run c (by cases e : f s x <;> rw [e] at hc <;> exact hc)⟩) hr
    (fun s h => by rw [forLM_fold] at h; cases e : foldM' f s0 xs <;> rw [e] at h <;> simp [M.map] at h; rw [h]; rfl)
    (fun u h => by rw [forLM_fold] at h; cases e : foldM' f s0 xs <;> rw [e] at h <;> simp [M.map] at h)
    (fun x h => by rw [forLM_fold] at h; cases e : foldM' f s0 xs <;> rw [e] at h <;> simp [M.map] at h; rw [h]; rfl)
    (fun h => by rw [forLM_fold] at h; cases e : foldM' f s0 xs <;> rw [e] at h <;> simp [M.map] at h; rfl) hs
/-! tests that may fail -/
structure KT (X : Cx) (Φ : List SD) (e : Expr) (m : M Bool) : Prop where
  run : ∀ b, m = .ok b → PTv X Φ e b
end
/-! ### while -/
section
variable {S R : Type} {c : S → M Bool} {f : S → M (Ctl S R)}
def testB (c : S → M Bool) (s : S) : Bool := (c s).get
/-- it ends within some turns -/
def Ends' (c : S → M Bool) (f : S → M (Ctl S R)) (s : S) : Prop := ∃ n, whileLM c f n s ≠ .st
theorem least_nat {p : Nat → Prop} : ∀ (k n : Nat), p n → n ≤ k → ∃ m, p m ∧ ∀ i, p i → m ≤ i
  | 0, n, h, hk => ⟨n, h, fun i _ => by omega⟩
  | k + 1, n, h, hk => by
    by_cases q : ∃ i, p i ∧ i < n
    · obtain ⟨i, hi, hl⟩ := q
      exact least_nat k i hi (by omega)
    · exact ⟨n, h, fun i hi => by
        by_cases z : i < n
        · exact absurd ⟨i, hi, z⟩ q
        · omega⟩
theorem ends_least {s : S} (h : Ends' c f s) : ∃ m, whileLM c f m s ≠ .st ∧ ∀ i, whileLM c f i s ≠ .st → m ≤ i := by
  obtain ⟨n, hn⟩ := h
  exact least_nat n n hn (Nat.le_refl _)
open Classical in
noncomputable def endN (c : S → M Bool) (f : S → M (Ctl S R)) (s : S) : Nat := if h : Ends' c f s then Classical.choose (ends_least h) else 0
end
section
variable {X : Cx} {W : XK} {S R β : Type} {j : β → Ctl S R} {Φ : List SD} {Mm : S → List SD} {T : Except Exn R → RS} {o o1 o2 : M β} {a b e : Expr} {es : List Expr} {pos p p2 : Pos} {P : MP} {Ps Qs : List MP} {i : Int} {tg iter ce : Expr} {A A1 A2 body : List Stmt} {r ks : List (List Stmt)} {st : Stmt}
/-! ### calls -/
theorem v_callK {A ρ : Type} [Py ρ] [Inhabited ρ] {argP : A → List MP} {m : A → M ρ} {x : Str} {CX : CXT} {n : Nat} {p1 : Pos} {t : ρ} (G : FnG X.prog X.w X.K X.mg X.base CX n x (spG argP (fun z => (m z).Ok) fun z => .val (py X.K (enc (m z).get)))) (hr : Room n X.A) (hx : Passes CX X E0) (z : A) (ht : m z = .ok t)
    (ha : PAs X Φ (e :: es) (argP z)) (hg : Gl X x := by rfl) (hd : (x == ("__debug__" : Str)) = false := by decide) (hst : (e :: es).all nst = true := by rfl) : PV X Φ (.Call (.Name x p1) (e :: es) [] pos) t :=
  v_call G hr hx z ⟨t, ht⟩ (congrArg (fun y => RS.val (py X.K (enc (M.get y)))) ht) ha hg hd hst
theorem v_callKN {A ρ : Type} [Py ρ] {argP : A → List MP} {m : A → M (List ρ)} {x : Str} {CX : CXT} {n : Nat} {p1 : Pos} {t : List ρ} (G : FnG X.prog X.w X.K X.mg X.base CX n x (spG argP (fun z => (m z).Ok) fun z => .new (rps X.K (m z).get))) (hr : Room n X.A) (hx : Passes CX X E0) (z : A) (ht : m z = .ok t)
    (ha : PAs X Φ (e :: es) (argP z)) (hg : Gl X x := by rfl) (hd : (x == ("__debug__" : Str)) = false := by decide) (hst : (e :: es).all nst = true := by rfl) : PN X Φ (.Call (.Name x p1) (e :: es) [] pos) t :=
  v_callN G hr hx z ⟨t, ht⟩ (congrArg (fun y => RS.new (rps X.K (M.get y))) ht) ha hg hd hst
/-! ### defs -/
/-- what a def hands back: T0 of a value, ER of an own exception -/
def TE {R : Type} (T0 : R → RS) (ER : Exn → RS) : Except Exn R → RS
  | .ok v => T0 v
  | .error x => ER x
def noER : Exn → RS := fun _ => .val ⟨fun _ _ => False, fun _ _ _ _ h => h⟩
end
section
variable {P : Program} {w : World} {K : Fg} {mg : Str → Option Value} {base : Heap}
/-- a def that lets nothing out -/
theorem def_okK {x qual : Str} {st : Stmt} {f : Addr} {fd : FuncData} {N ps : List Str} {k : Nat} {Ar ρ : Type} [Inhabited ρ] {argP : Ar → List MP} {T0 : ρ → RS} {m : Ar → M ρ} (F : DefOf K x qual st f fd) (S : FnScope N ps (defScope st)) (n : Nat) (hlen : ∀ z, (argP z).length = ps.length) (hN : N.length = ps.length + n)
    (hT : ∀ r, (T0 r).isErr = false)
    (hb : ∀ (cdv : Value) (A : Around) (outer : List Env) (s : Shared) (H : Hp) (E : XK), Room k (A.deeper (envOfC qual (defScope st) s.heap.objs.size f cdv)) → ∀ z,
      HM (S := Unit) (bx P w K mg base N qual st f cdv A outer s H E) (fun _ _ _ => False) Ctl.rt [defBody st] (enter (argP z) n) (fun _ => []) (TE T0 noER) (m z)) : FnOk P w K mg base CX0 (k + 1) f fd ps (spG argP (fun z => (m z).Ok) fun z => T0 (m z).get) :=
  def_ok (T := T0) (fv := fun z => (m z).get) F S n hlen hN hT fun cdv A outer s Hq E hr z hp => .mk fun F0 H0 D σ F H g sl k =>
    ((hb cdv A outer s Hq E hr z).run (.rt (.ok (m z).get)) (by rw [hp.get]; rfl)) F0 H0 D σ F H g sl k
end
end GL

set_option Elab.async false
set_option linter.all false
set_option maxRecDepth 100000
set_option maxHeartbeats 4000000
namespace GL
open PySem PySem.Spec PyProof.Rows L2
section
variable {X : Cx} {W : XK} {S R β : Type} {j : β → Ctl S R} {Φ : List SD} {Mm : S → List SD} {T : Except Exn R → RS} {ks : List (List Stmt)}
theorem k_nilS {s : S} (w : Wk Φ (Mm s)) : HM X W (Ctl.nx (R := R)) [] Φ Mm T (.ok s) := k_nil w
theorem k_nilC {s : S} (w : Wk Φ (Mm s)) : HM X W (id : Ctl S R → Ctl S R) [] Φ Mm T (.ok (.nx s)) := k_nil w
variable {e : Expr} {pos : Pos} {A : List Stmt} {r : List (List Stmt)} {P : MP} {Ps : List MP}
theorem k_retTV {v : R} [Py R] (he : PV X Φ e v) (hT : T (.ok v) = .val (py X.K (enc v)) := by rfl) : HM X W (Ctl.rt (S := S)) ((.Return (some e) pos :: A) :: r) Φ Mm T (.ok v) := k_ret he rfl hT
theorem k_retTC {v : R} [Py R] (he : PV X Φ e v) (hT : T (.ok v) = .val (py X.K (enc v)) := by rfl) : HM X W (id : Ctl S R → Ctl S R) ((.Return (some e) pos :: A) :: r) Φ Mm T (.ok (.rt v)) := k_ret he rfl hT
end
end GL

set_option Elab.async false
set_option linter.all false
set_option maxRecDepth 100000
set_option maxHeartbeats 4000000
namespace GL
open PySem L2
/-! ### plain law: what a mirror gives -/
/-- m gives a value of which Q -/
def Y {α : Type} (m : M α) (Q : α → Prop) : Prop := ∃ a, m = .ok a ∧ Q a
namespace Y
variable {α β S R : Type} {Q : β → Prop} {P : α → Prop}
theorem ok {a : β} (h : Q a) : Y (.ok a) Q := ⟨a, rfl, h⟩
theorem of {m : M β} {a : β} (e : m = .ok a) (h : Q a) : Y m Q := ⟨a, e, h⟩
theorem eq {m : M β} {a : β} (h : Y m fun x => x = a) : m = .ok a := by obtain ⟨x, e, rfl⟩ := h; exact e
theorem asr {c : Prop} {m : M β} (h : c) (q : Y m Q) : Y (asr c m) Q := by rw [asr_pos h]; exact q
theorem bindO {m : M α} {k : α → M β} (h : Y m P) (q : ∀ a, P a → Y (k a) Q) : Y (bindO m k) Q := by
  obtain ⟨a, e, p⟩ := h; rw [e]; exact q a p
theorem bindM {m : M α} {k : α → M β} (h : Y m P) (q : ∀ a, P a → Y (k a) Q) : Y (bindM m k) Q := by
  obtain ⟨a, e, p⟩ := h; rw [e]; exact q a p
theorem bindOe {m : M α} {k : α → M β} {a : α} (e : m = .ok a) (q : Y (k a) Q) : Y (GL.bindO m k) Q := by rw [e]; exact q
theorem let_ {v : α} {k : α → M β} (q : Y (k v) Q) : Y (bindV v k) Q := q
theorem cond {b : Bool} {m1 m2 : M β} (h1 : b = true → Y m1 Q) (h2 : b = false → Y m2 Q) : Y (cond b m1 m2) Q := by
  cases b with
  | true => exact h1 rfl
  | false => exact h2 rfl
theorem imp {m : M β} {P : β → Prop} (h : Y m P) (w : ∀ a, P a → Q a) : Y m Q := by obtain ⟨a, e, p⟩ := h; exact ⟨a, e, w a p⟩
theorem Ok {m : M β} (h : Y m Q) : m.Ok := by obtain ⟨a, e, _⟩ := h; exact ⟨a, e⟩
theorem get [Inhabited β] {m : M β} (h : Y m Q) : m = .ok m.get ∧ Q m.get := by obtain ⟨a, e, p⟩ := h; rw [e]; exact ⟨rfl, p⟩
/-- a loop that only carries a state -/
theorem fold {f : S → α → M S} : ∀ {xs : List α} {s0 : S} (I : Nat → S → Prop), I 0 s0 → (∀ n s x, xs[n]? = some x → I n s → Y (f s x) (I (n + 1))) → Y (foldM' f s0 xs) (I xs.length)
  | [], s0, I, h0, _ => ⟨s0, rfl, h0⟩
  | x :: xs, s0, I, h0, hs => by
    obtain ⟨s1, e, h1⟩ := hs 0 s0 x rfl h0
    have := fold (xs := xs) (s0 := s1) (fun n s => I (n + 1) s) h1 fun n s y hy hI => hs (n + 1) s y (by simpa using hy) hI
    unfold foldM'
    rw [e]
    exact this
theorem foldK {f : S → α → M S} {xs : List α} {s0 : S} {k : S → M β} (I : Nat → S → Prop) (h0 : I 0 s0) (hs : ∀ n s x, xs[n]? = some x → I n s → Y (f s x) (I (n + 1))) (q : ∀ s, I xs.length s → Y (k s) Q) : Y (GL.bindM (foldM' f s0 xs) k) Q := bindM (fold I h0 hs) q
/-- what a turn may leave -/
def Turn (N : S → Prop) (B : S → Prop) (E : R → Prop) : Ctl S R → Prop
  | .nx s => N s
  | .ct s => N s
  | .bk s => B s
  | .rt r => E r
theorem forL {f : S → α → M (Ctl S R)} {B : S → Prop} {E : R → Prop} : ∀ {xs : List α} {s0 : S} (I : Nat → S → Prop), I 0 s0 → (∀ n s x, xs[n]? = some x → I n s → Y (f s x) (Turn (I (n + 1)) B E)) → (∀ s, I xs.length s → B s) →
    Y (forLM f s0 xs) fun u => match u with | .inl s => B s | .inr r => E r
  | [], s0, I, h0, _, hb => ⟨.inl s0, rfl, hb s0 h0⟩
  | x :: xs, s0, I, h0, hs, hb => by
    obtain ⟨c, e, h1⟩ := hs 0 s0 x rfl h0
    unfold forLM
    rw [e]
    cases c with
    | nx s1 => exact forL (xs := xs) (fun n s => I (n + 1) s) h1 (fun n s y hy hI => hs (n + 1) s y (by simpa using hy) hI) (fun s h => hb s (by simpa using h))
    | ct s1 => exact forL (xs := xs) (fun n s => I (n + 1) s) h1 (fun n s y hy hI => hs (n + 1) s y (by simpa using hy) hI) (fun s h => hb s (by simpa using h))
    | bk s1 => exact ⟨_, rfl, h1⟩
    | rt r => exact ⟨_, rfl, h1⟩
/-- a while that only carries a state -/
theorem whileS_ {c : S → M Bool} {f : S → M S} (I : S → Prop) (mz : S → Nat) (hc : ∀ s, I s → ∃ b, c s = .ok b) (hf : ∀ s, I s → c s = .ok true → Y (f s) fun s' => I s' ∧ mz s' < mz s) : ∀ (n : Nat) (s : S), I s → mz s < n → Y (GL.whileS c f n s) fun s' => I s' ∧ c s' = .ok false
  | 0, s, _, h => by omega
  | n + 1, s, hI, h => by
    obtain ⟨b, e⟩ := hc s hI
    unfold GL.whileS
    rw [e]
    cases b with
    | false => exact ⟨s, rfl, hI, e⟩
    | true =>
      obtain ⟨s', e2, i2, m2⟩ := hf s hI e
      simp only []
      rw [e2]
      exact whileS_ I mz hc hf n s' i2 (by omega)
theorem whileK {c : S → M Bool} {f : S → M S} {s0 : S} {k : S → M β} (I : S → Prop) (mz : S → Nat) (h0 : I s0) (hz : mz s0 < 2 ^ 64) (hc : ∀ s, I s → ∃ b, c s = .ok b) (hf : ∀ s, I s → c s = .ok true → Y (f s) fun s' => I s' ∧ mz s' < mz s)
    (q : ∀ s, I s → c s = .ok false → Y (k s) Q) : Y (GL.bindM (GL.whileS c f fuelN s0) k) Q :=
  bindM (whileS_ I mz hc hf fuelN s0 h0 (Nat.lt_of_lt_of_le hz fuel_ge)) fun s h => q s h.1 h.2
/-- a while with exits -/
theorem whileL {c : S → M Bool} {f : S → M (Ctl S R)} {B : S → Prop} {E : R → Prop} (I : S → Prop) (mz : S → Nat) (hc : ∀ s, I s → ∃ b, c s = .ok b) (hf : ∀ s, I s → c s = .ok true → Y (f s) (Turn (fun s' => I s' ∧ mz s' < mz s) B E))
    (hb : ∀ s, I s → c s = .ok false → B s) : ∀ (n : Nat) (s : S), I s → mz s < n → Y (whileLM c f n s) fun u => match u with | .inl s => B s | .inr r => E r
  | 0, s, _, h => by omega
  | n + 1, s, hI, h => by
    obtain ⟨b, e⟩ := hc s hI
    unfold whileLM
    rw [e]
    cases b with
    | false => exact ⟨.inl s, rfl, hb s hI e⟩
    | true =>
      obtain ⟨u, e2, h2⟩ := hf s hI e
      simp only []
      rw [e2]
      cases u with
      | nx s' => exact whileL I mz hc hf hb n s' h2.1 (by have := h2.2; omega)
      | ct s' => exact whileL I mz hc hf hb n s' h2.1 (by have := h2.2; omega)
      | bk s' => exact ⟨_, rfl, h2⟩
      | rt r => exact ⟨_, rfl, h2⟩
end Y
/-! equations -/
section
variable {α β S R : Type}
end
end GL

set_option Elab.async false
set_option linter.all false
set_option maxRecDepth 100000
set_option maxHeartbeats 4000000
/-! isinstance of a caught exception that has fields -/
namespace PySem.W
open PySem PySem.Spec PySem.Calls PyProof.Rows
section
variable {prog : Program} {w : World} {A : Around} {E : Value → Shared → Prop} {s : Shared} {K : Frag} {x D : Addr} {ox : Obj} {od : Option Obj}
theorem findObj_dataO {C : Addr} {name : Str} {a g : Value} (hc : (clsIn K C).isSome = true) (ha : findIn K (.ref C) name = some (some a)) (hg : specialIn K a "__get__" = some (some g)) (ht : takesIn K a = some true) : findObj K C od name = some (.bind g a) := by
  obtain ⟨cd, hc⟩ := Option.isSome_iff_exists.mp hc
  unfold findObj
  rw [hc, Option.bind_some, ha, Option.bind_some]
  simp [hg, ht]
theorem kin_classO {Q : Option Value → Shared → Prop} (hga : findIn K (.ref D) "__getattribute__" = some (some (.builtin "BaseException.__getattribute__"))) (hgt : findIn K (.ref D) "__getattr__" = some none) (hsub : subIn K (.ref D) (.type "BaseException") = some true)
    (hdct : hasDictIn K D = true) (ha : findIn K (.ref D) "__class__" = some (some (.builtin "object.__class__")))
    (hn : specialIn K (.builtin "object.__class__") "__get__" = some (some (.builtin "getset_descriptor.__get__"))) (htk : takesIn K (.builtin "object.__class__") = some true) (hm : mroIn K D (.type "object") = some true)
    (X : K.In s.heap) (I : InstAt s.heap x ox D od) (h : Q (some (.ref D)) { s with toks := s.toks + 1 }) : wpAny (model prog w) A (getAttr? (.ref x) "__class__") Q E s := by
  have hf : findObj K D od "__class__" = some (.bind (.builtin "getset_descriptor.__get__") (.builtin "object.__class__")) := findObj_dataO (by obtain ⟨cd, hc, _⟩ := any_some hdct; rw [hc]; rfl) ha hn htk
  obtain ⟨hp, g, d, t, os⟩ := s
  have L0 := I.type (M := model prog w)
  have L1 := looks_findIn (M := model prog w) X hga
  have L2 := looks_findIn (M := model prog w) X hgt
  have L3 := looks_find (M := model prog w) X I hf
  have sub : Looks (model prog w) hp (isInstance (.ref x) (.type "BaseException")) true := L0.andThen (looks_subIn X hsub)
  have hx0 : (false && onTheHeap (Value.builtin "BaseException.__getattribute__")) = false := rfl
  have hx2 : (Value.builtin "BaseException.__getattribute__" == Value.builtin "object.__getattribute__") = false := by decide +kernel
  have hx1 : (onTheHeap (Value.ref D) && Value.builtin "BaseException.__getattribute__" == Value.builtin "object.__getattribute__") = false := by rw [hx2]; rfl
  unfold getAttr? getAttrBy? getAttrBy
  refine wpAny_bind (wpAny_mkText (wpAny_bind (wpAny_attempt (wpAny_holding (wpAny_bind (L0.at (wpAny_bind (L1.at ?_))))))))
  show wpAny _ _ (if (onTheHeap (Value.ref D) && Value.builtin "BaseException.__getattribute__" == Value.builtin "object.__getattribute__") = true then _ else _) _ _ _
  rw [hx1, if_neg Bool.false_ne_true]
  unfold getAttrByItsOwn hookBefore
  refine wpAny_bind ?_
  rw [if_pos (show onTheHeap (Value.ref D) = true from rfl)]
  refine L2.at ?_
  refine wpAny_bind (wpAny_attempt (wpAny_holding ?_))
  unfold callGetattribute
  rw [hx0, if_neg Bool.false_ne_true]
  unfold boundAndCalled
  rw [PySem.F.excAttr_ValueError.ga.bind (.ref x)]
  refine wpAny_bind (wpAny_pure ?_)
  show wpAny _ _ (call (.builtin "BaseException.__getattribute__") [.ref x, .str "__class__" t]) _ _ _
  refine wpAny_call (codeAny_call_builtin PySem.F.excAttr_ValueError.ga.plain PySem.F.entry_bexc_ga ?_)
  refine @check_slot (model prog w) _ _ ⟨hp, g, d, t + 1, os⟩ "BaseException.__getattribute__" "BaseException" "__getattribute__" (.ref x) [.str "__class__" t] [] _ (by decide +kernel) (by decide +kernel) sub (PySem.F.args_bexc_ga (.ref x) (.str "__class__" t)) ?_
  unfold Builtin.«object.__getattribute__»
  refine wpAny_bind (wpAny_of_eq (a := ((Value.ref x : Value), [Value.str "__class__" t])) (by first | rfl | (simp only [slotArgs]; rfl)) ?_)
  refine wpAny_bind (wpAny_pure (wpAny_bind (L0.at (wpAny_bind (L3.at ?_)))))
  show wpAny _ _ (holding [Value.builtin "object.__class__"] (call (.builtin "getset_descriptor.__get__") [.builtin "object.__class__", .ref x, .ref D]) >>= ret) _ _ _
  refine wpAny_bind (wpAny_holding (wpAny_call (class_get (s := ⟨hp, g, d, t + 1, os⟩) (ox := ox) (od := od) X I hm ?_)))
  refine wpAny_pure ?_
  show wpAny _ _ (handedOut (.ref D)) _ _ _
  rw [handedOut_of (v := .ref D) rfl]
  first
    | exact wpAny_pure (wpAny_pure h)
    | exact wpAny_pure h
    | exact wpAny_pure (wpAny_bind (wpAny_pure (wpAny_pure h)))
theorem kitx_excO (hga : findIn K (.ref D) "__getattribute__" = some (some (.builtin "BaseException.__getattribute__"))) (hgt : findIn K (.ref D) "__getattr__" = some none) (hsub : subIn K (.ref D) (.type "BaseException") = some true) (hdct : hasDictIn K D = true) (ha : findIn K (.ref D) "__class__" = some (some (.builtin "object.__class__")))
    (hn : specialIn K (.builtin "object.__class__") "__get__" = some (some (.builtin "getset_descriptor.__get__"))) (htk : takesIn K (.builtin "object.__class__") = some true) (hm : mroIn K D (.type "object") = some true) :
    KitX K (.ref x) (.ref D) (fun h => ∃ od, InstAt h x ox D od) where
  ty := fun _ _ _ ⟨_, I⟩ => I.type
  it := fun _ _ X _ => by
    obtain ⟨cdD, hcD, _⟩ := any_some hdct
    unfold clsIn at hcD
    split at hcD
    · rename_i c' d' cd' sl' ho
      intro A' Q' E' s' k q
      unfold isType loadHead
      exact wpAny_bind (wpAny_loadPart (k _ _ (X _ _ ho)) (wpAny_pure q))
    · cases hcD
  ne := fun h tp dd its n sl X htp => by
    obtain ⟨cdD, hcD, _⟩ := any_some hdct
    refine Bool.eq_false_iff.mpr fun q => ?_
    have e : D = tp := Value.ref.inj (beq_iff_eq.mp q)
    subst e
    unfold clsIn at hcD
    split at hcD
    · rename_i c' d' cd' sl' ho
      have z := (X _ _ ho).symm.trans htp
      cases z
    · cases hcD
  ca := fun X I k => by
    obtain ⟨od, I⟩ := I
    exact kin_classO hga hgt hsub hdct ha hn htk hm X I k
end
end PySem.W
namespace GL
open PySem PySem.Spec PyProof.Rows L2
/-- the exception's object stands, with its fields -/
theorem call_isO {X : Cx} {a D : Addr} {oe : Obj} {pn : List (Addr × Obj)} {d : Option Addr} (C : ExcC X.K D) (hz : Zc (.ref D) d oe) (hf : ∃ vs, oe.data = .fields vs) :
    CallR (X.suite a ((a, oe) :: pn)) (.builtin "isinstance") (fun xs H Q => (∀ dd, d = some dd → ∃ fs, H dd = some (.xd fs)) ∧ rIsE X.K D a xs H Q) := by
  intro pins s σ H xs us Q I r h
  obtain ⟨hd, c, cv, b, rfl, hcv, e, q⟩ := h
  cases r with
  | cons rx rr =>
    cases rr with
    | cons rt rr =>
      cases rr
      cases rx
      have ec := hcv _ rt
      subst ec
      obtain ⟨hget, _⟩ := I.pin (a, oe) (List.mem_append.mpr (.inl List.mem_cons_self))
      obtain ⟨vs, hv⟩ := hf
      have J : ∃ od, PySem.W.InstAt s.heap a oe D od := by
        cases d with
        | none =>
          obtain ⟨oc, od, oda, osl⟩ := oe
          obtain ⟨h1, h2⟩ := hz
          dsimp only at h1 h2 hv
          subst h1 h2 hv
          exact ⟨none, hget, rfl, rfl, trivial⟩
        | some dd =>
          obtain ⟨fs, ea⟩ := hd dd rfl
          have hx : ObjOk X.prog X.w H s.heap dd (.xd fs) := I.hok dd _ ea
          obtain ⟨mA, hns, hr⟩ := hx
          obtain ⟨od, ho, hl⟩ := lookIn_ns hns
          exact ⟨some od, hget, hz.1, by unfold PySem.W.notCls; rw [hv] <;> rfl, by rw [hz.2]; exact ho⟩
      exact PySem.W.kia_one (PySem.W.kitx_excO C.hg C.hk C.hs C.hd C.ha C.hn C.ht C.hm) I.kIn J e (fun z => nomatch z) fun tk => ⟨.bl b, H, I.kept (t' := tk) fun _ _ z => z, rfl, q⟩
/-- .. of a tuple of classes -/
theorem vals_refs : ∀ {Ds : List Addr} {us : List Value}, Vals (Ds.map V.ref) us → us = Ds.map Value.ref
  | [], _, .nil => rfl
  | D :: Ds, _, .cons r t => by
    have h1 : _ = Value.ref D := r
    rw [h1, vals_refs t]; rfl
theorem call_isOs {X : Cx} {a D : Addr} {oe : Obj} {pn : List (Addr × Obj)} {d : Option Addr} (C : ExcC X.K D) (hz : Zc (.ref D) d oe) (hf : ∃ vs, oe.data = .fields vs) :
    CallR (X.suite a ((a, oe) :: pn)) (.builtin "isinstance") (fun xs H Q => (∀ dd, d = some dd → ∃ fs, H dd = some (.xd fs)) ∧ ∃ (t : Addr) (Ds : List Addr) (b : Bool), xs = [.ref a, .ref t] ∧ SqT X.K H t (Ds.map V.ref) ∧ PySem.W.kitAny X.K (.ref D) (Ds.map Value.ref) = some b ∧ Q (.bl b) H) := by
  intro pins s σ H xs us Q I r h
  obtain ⟨hd, t, Ds, b, rfl, hs, e, q⟩ := h
  cases r with
  | cons rx rr =>
    cases rr with
    | cons rt rr =>
      cases rr
      cases rx
      cases (show _ = Value.ref t from rt)
      obtain ⟨hget, _⟩ := I.pin (a, oe) (List.mem_append.mpr (.inl List.mem_cons_self))
      obtain ⟨vs, hv⟩ := hf
      have J : ∃ od, PySem.W.InstAt s.heap a oe D od := by
        cases d with
        | none =>
          obtain ⟨oc, od, oda, osl⟩ := oe
          obtain ⟨h1, h2⟩ := hz
          dsimp only at h1 h2 hv
          subst h1 h2 hv
          exact ⟨none, hget, rfl, rfl, trivial⟩
        | some dd =>
          obtain ⟨fs, ea⟩ := hd dd rfl
          have hx : ObjOk X.prog X.w H s.heap dd (.xd fs) := I.hok dd _ ea
          obtain ⟨mA, hns, hr⟩ := hx
          obtain ⟨od, ho, hl⟩ := lookIn_ns hns
          exact ⟨some od, hget, hz.1, by unfold PySem.W.notCls; rw [hv] <;> rfl, by rw [hz.2]; exact ho⟩
      obtain ⟨its, rv, ⟨o, h1, h2, n, h3⟩, _⟩ := I.tuple hs
      have e3 := vals_refs rv
      subst e3
      obtain ⟨oc, od, dt, sl⟩ := o
      simp only at h2 h3
      subst h2 h3
      exact PySem.W.kia_tup (PySem.W.kitx_excO C.hg C.hk C.hs C.hd C.ha C.hn C.ht C.hm) I.kIn J h1 e (fun z => nomatch z) fun tk => ⟨.bl b, H, I.kept (t' := tk) fun _ _ z => z, rfl, q⟩
/-! StripError.__init__(self, ..) -/
structure SeI (K : Fg) (C0 : Addr) : Prop where
  rd : ClX.CRead K C0 (.type "type")
  at_ : PySem.W.findCls K (.ref C0) (.type "type") "__init__" = some (.val (.builtin "ValueError.__init__"))
end GL

set_option Elab.async false
set_option linter.all false
set_option maxRecDepth 100000
set_option maxHeartbeats 4000000
namespace GL
open PySem PySem.Spec PyProof.Rows L2
open Evl (Ex ex_l ex_t)
/-! ### the program's exceptions -/
def Exn.cls : Exn → Str
  | .noRules => "NoRules"
  | .noPlace => "NoPlace"
  | .notFree => "NotFree"
  | .tooMany => "TooMany"
  | .noRow => "NoRow"
  | .noTime _ _ => "NoTime"
  | .noPlan _ => "NoPlan"
  | .noSheet _ => "NoSheet"
/-- its fields, the last one set first -/
def Exn.pay : Exn → List (Str × PyData)
  | .noTime f t => [("time", .int t), ("flight", .int f)]
  | .noPlan c => [("crowd", enc c)]
  | .noSheet r => [("row", .int r)]
  | _ => []
/-- d: its dict, G: the heap where it stands, F: where its fields are data -/
def PayP (K : Fg) (G F : Hp) (d : Option Addr) : List (Str × PyData) → Prop
  | [] => d = none
  | p :: ps => ∃ dd vs, d = some dd ∧ G dd = some (.xd (((p :: ps).map (·.1)).zip vs)) ∧ DqAll K F vs ((p :: ps).map (·.2))
theorem PayP.mono {K : Fg} {G F G' F' : Hp} {d : Option Addr} (g : Ex G G') (f : Ex F F') : ∀ {ps : List (Str × PyData)}, PayP K G F d ps → PayP K G' F' d ps
  | [], h => h
  | p :: ps, ⟨dd, vs, h1, h2, h3⟩ => ⟨dd, vs, h1, g _ _ h2, dqAll_mono f _ _ h3⟩
theorem PayP.xd {K : Fg} {G F : Hp} {d : Option Addr} : ∀ {ps : List (Str × PyData)}, PayP K G F d ps → ∀ dd, d = some dd → ∃ fs, G dd = some (.xd fs)
  | [], h, dd, e => by rw [show d = none from h] at e; cases e
  | p :: ps, ⟨d2, vs, h1, h2, h3⟩, dd, e => by rw [h1] at e; cases e; exact ⟨_, h2⟩
def ER (K : Fg) (x : Exn) : RS := .err (.ref (He.ga K x.cls)) fun d F H => PayP K H F d x.pay
def resM {ρ : Type} (T0 : ρ → RS) (E : Exn → RS) : M ρ → RS
  | .ok r => T0 r
  | .ex e => E e
  | .st => .val ⟨fun _ _ => False, fun _ _ _ _ h => h⟩
/-- the caught exception, as its name's value -/
def excP (K : Fg) (a : Addr) (x : Exn) (d : Option Addr) : MP := ⟨fun F v => v = .ref a ∧ PayP K F F d x.pay, fun _ _ _ e ⟨h1, h2⟩ => ⟨h1, h2.mono e e⟩⟩
/-! ### what raises -/
section
variable (X : Cx)
/-- e raises x -/
structure PR (Wx : WX) (Φ : List SD) (e : Expr) (x : Exn) : Prop where
  run : ∀ (H0 : Hp) (σ : L2.St) (F H : Hp) (Q : VK), Ex F H → Sl H0 Φ σ F H → (∀ d F' H', Gr F H F' H' → (∀ a, d = some a → H a = none) → PayP X.K H' F' d x.pay → Wx (.ref (He.ga X.K x.cls)) d σ H') → wE X e σ H Q
structure PRa (Wx : WX) (Φ : List SD) (es : List Expr) (x : Exn) : Prop where
  run : ∀ (H0 : Hp) (σ : L2.St) (F H : Hp) (Q : List V → Hp → Prop), Ex F H → Sl H0 Φ σ F H → (∀ d F' H', Gr F H F' H' → (∀ a, d = some a → H a = none) → PayP X.K H' F' d x.pay → Wx (.ref (He.ga X.K x.cls)) d σ H') → wA X es σ H Q
end
section
variable {X : Cx} {Wx : WX} {Φ : List SD} {a b c e : Expr} {es : List Expr} {pos p p2 : Pos} {P : MP} {Ps Qs : List MP} {i j k : Int} {tg : Expr} {x : Exn}
theorem fresh_up {F H F' H' : Hp} (g : Gr F H F' H') {d : Option Addr} (h : ∀ a, d = some a → H' a = none) : ∀ a, d = some a → H a = none := fun a e => by
  cases w : H a with
  | none => rfl
  | some u => have := g.h a u w; rw [h a e] at this; cases this
theorem pr_call {A ρ : Type} {argP : A → List MP} {m : A → M ρ} {T0 : ρ → RS} {y : Str} {n : Nat} (G : FnG X.prog X.w X.K X.mg X.base (L2.CX X.prog X.w) n y (spG argP (fun z => m z ≠ .st) fun z => resM T0 (ER X.K) (m z))) (hr : Room n X.A) (tk : Takes X Wx) (z : A) (hx : m z = .ex x)
    (ha : PAs X Φ (e :: es) (argP z)) (hg : Gl X y := by rfl) (hd : (y == ("__debug__" : Str)) = false := by decide) (hst : (e :: es).all nst = true := by rfl) : PR X Wx Φ (.Call (.Name y p) (e :: es) [] pos) x := .mk fun H0 σ F H Q s sl q => by
  obtain ⟨f, fd, ps, h1, h2, h3, h4⟩ := G.ex
  have h2' := hst
  rw [List.all_cons, Bool.and_eq_true] at h2'
  refine wE_of (pe_callS h1 hr hg h2 h3 h4 (fun σ => passAt tk σ) paW hd (star_cons h2'.1) (star_plain h2'.2)) (ha H0 σ F H _ s sl fun vs F1 H1 g1 p1 => ⟨z, F1, g1.s, p1, (show m z ≠ .st by rw [hx]; exact fun z => (nomatch z)), ?_⟩)
  show (resM T0 (ER X.K) (m z)).sat F1 H1 Q (WE Wx σ)
  rw [hx]
  exact fun d F' H' g hn hp => q d F' H' (g1.trans g) (fresh_up g1 hn) hp
theorem v_callX {A ρ : Type} [Py ρ] {argP : A → List MP} {m : A → M ρ} {y : Str} {n : Nat} {t : ρ} (G : FnG X.prog X.w X.K X.mg X.base (L2.CX X.prog X.w) n y (spG argP (fun z => m z ≠ .st) fun z => resM (fun r => .val (py X.K (enc r))) (ER X.K) (m z))) (hr : Room n X.A) (z : A) (ht : m z = .ok t)
    (ha : PAs X Φ (e :: es) (argP z)) (hg : Gl X y := by rfl) (hd : (y == ("__debug__" : Str)) = false := by decide) (hst : (e :: es).all nst = true := by rfl) : PV X Φ (.Call (.Name y p) (e :: es) [] pos) t :=
  v_call G hr passL z (by rw [ht]; exact fun z => nomatch z) (by rw [ht]; rfl) ha hg hd hst
/-! through what stands around -/
end
/-! ### blocks that raise -/
section
variable {X : Cx} {W : XK} {S R : Type} {Φ : List SD} {Mm : S → List SD} {T : Except Exn R → RS} {a b c e : Expr} {es : List Expr} {pos p p2 : Pos} {P : MP} {A A1 A2 : List Stmt} {r : List (List Stmt)} {x : Exn} {tg : Expr}
theorem er_sat {F0 H0 F H : Hp} {D : Ends} (hT : T (.error x) = ER X.K x) (g : Gr F0 H0 F H) (kp : (T (.error x)).sat F0 H0 D.rt W) : ∀ (σ : L2.St) d F' H', Gr F H F' H' → (∀ a, d = some a → H a = none) → PayP X.K H' F' d x.pay → W (.ref (He.ga X.K x.cls)) d H' := by
  rw [hT] at kp
  exact fun σ d F' H' g' hn hp => kp d F' H' (g.trans g') (fresh_up g hn) hp
end
/-! ### raise C(e, ..), C with an own __init__ -/
/-- what __init__ keeps: n arguments become the fields names -/
def spOx (C : Addr) (names : List Str) : Sp := fun vs H Q _ => ∃ (a : Addr) (us : List V), vs = .ref a :: us ∧ us.length = names.length ∧ H a = some (exo a C none) ∧
  ∀ (d : Addr) (H' : Hp), H d = none → d ≠ a → H' a = some (exo a C (some d)) → H' d = some (exd d (names.reverse.zip us.reverse)) → (∀ b, b ≠ a → b ≠ d → H' b = H b) → Q .non H'
structure OxG (P : Program) (w : World) (K : Fg) (mg : Str → Option Value) (base : Heap) (k : Nat) (c : Str) (names : List Str) : Prop where
  T : OexC K (He.ga K c)
  g : mg c = some (.ref (He.ga K c))
  iC : PySem.W.findIn K (.ref (He.ga K c)) "__init__" = some (some (.ref (He.ma K (He.ga K c) "__init__")))
  tI : PySem.W.typeIn K (.ref (He.ma K (He.ga K c) "__init__")) = some (.type "function")
  ex : ∃ (fd : FuncData) (ps : List Str), FnOk P w K mg base CX0 k (He.ma K (He.ga K c) "__init__") fd ps (spOx (He.ga K c) names) ∧ Binds K fd ps []
section
variable {X : Cx} {W : XK} {S R : Type} {Φ : List SD} {Mm : S → List SD} {T : Except Exn R → RS} {e : Expr} {es : List Expr} {pos p p2 : Pos} {A : List Stmt} {r : List (List Stmt)} {x : Exn} {rpos : Pos}
/-! raises, as blocks of mirrors -/
theorem k_ex {β : Type} {j : β → Ctl S R} {ks : List (List Stmt)} (h : HB X W ks Φ Mm T (.rt (.error x))) : HM X W j ks Φ Mm T (.ex x) := ⟨fun c hc => by cases hc; exact h⟩
end
/-! ### __init__ of such a class -/
section
variable {X : Cx} {C C0 a : Addr} {se f1 f2 : Str} {m : Str} {j : Nat} {p1 p2 p3 p4 p5 p6 q1 q2 q3 q4 s1 s2 s3 s4 : Pos} {pl : Sem Bool} {D : Ends} {u1 u2 : V} {H : Hp}
end
/-! ### try: .. except C as n: .. -/
/-- a block of one statement that may raise: the slots stand as they stood -/
structure TB {S : Type} (X : Cx) (Wx : WX) (bs : List Stmt) (Φ : List SD) (Mm : S → List SD) (m : M S) : Prop where
  run : ∀ (F0 H0 : Hp) (D : Ends) (σ : L2.St) (F H : Hp), Gr F0 H0 F H → Sl H0 Φ σ F H → m ≠ .st →
    (∀ s, m = .ok s → ∀ σ' F' H', Gr F0 H0 F' H' → Sl H0 (Mm s) σ' F' H' → D.nx σ' H') →
    (∀ x, m = .ex x → ∀ σ' d F' H', Gr F0 H0 F' H' → Sl H0 Φ σ' F' H' → (∀ a, d = some a → H0 a = none) → PayP X.K H' F' d x.pay → Wx (.ref (He.ga X.K x.cls)) d σ' H') → wSs X bs D σ H
def tryM {S : Type} (m : M S) (hn : Exn → M S) : M S := match m with
  | .ok s => .ok s
  | .ex x => hn x
  | .st => .st
section
variable {X : Cx} {Wx : WX} {S : Type} {Φ : List SD} {Mm : S → List SD} {e c : Expr} {pos p : Pos} {P : MP} {A1 A2 : List Stmt}
theorem tb_drop {α : Type} {m : M α} {s : S} {P : α → MP} (hok : ∀ t, m = .ok t → PEv X Φ e (P t)) (hex : ∀ x, m = .ex x → PR X Wx Φ e x) (hM : Mm s = Φ := by rfl) (hs : swapsWith e none pos.line X.env = pure false := by rfl) : TB X Wx [.Expr e pos] Φ Mm (bindM m fun _ => .ok s) := ⟨fun F0 H0 D σ F H g sl hn h1 h2 =>
  wSs_of (pss_one (ps_expr peW hs)) (by
    cases q : m with
    | ok t => exact hok t q H0 σ F H _ g.s sl fun v F1 H1 g1 p1 => h1 s (by rw [q]; rfl) _ F1 H1 (g.trans g1) (by rw [hM]; exact sl.gr g1)
    | ex x => exact (hex x q).run H0 σ F H _ g.s sl fun d F' H' g1 hn hp => h2 x (by rw [q]; rfl) σ d F' H' (g.trans g1) (sl.gr g1) (fresh_up g hn) hp
    | st => rw [q] at hn; exact absurd rfl hn)⟩
theorem tb_if {k : Bool} {m1 m2 : M S} (hc : PTv X Φ c k) (h1 : k = true → TB X Wx A1 Φ Mm m1) (h2 : k = false → TB X Wx A2 Φ Mm m2) : TB X Wx [.If c A1 A2 pos] Φ Mm (cond k m1 m2) := ⟨fun F0 H0 D σ F H g sl hn k1 k2 =>
  wSs_of (pss_one (ps_if ptW pssW pssW)) (hc H0 σ F H _ g.s sl fun F1 H1 g1 => by
    cases k with
    | true => exact iteT ((h1 rfl).run F0 H0 D σ F1 H1 (g.trans g1) (sl.gr g1) hn k1 k2)
    | false => exact iteF ((h2 rfl).run F0 H0 D σ F1 H1 (g.trans g1) (sl.gr g1) hn k1 k2))⟩
end
section
variable {X : Cx} {W : XK} {S R β S' : Type} {j : β → Ctl S R} {Φ : List SD} {Mm : S → List SD} {T : Except Exn R → RS} {pos np pos' : Pos} {A body suite : List Stmt} {b₀ : Stmt} {r : List (List Stmt)}
theorem suite_run {a : Addr} {oe : Obj} {pn : List (Addr × Obj)} {x : Exn} {d : Option Addr} {i : Nat} (M' : S' → List SD) {m : M S'} {F0 H0 : Hp} {D : Ends} {σ : L2.St} {F H : Hp} (g : Gr F0 H0 F H) (sl : Sl H0 Φ σ F H) (fr : ∀ a, d = some a → H0 a = none) (hp : PayP X.K H F d x.pay)
    (i0 : i < σ.length) (hs : HM (X.suite a ((a, oe) :: pn)) W (Ctl.nx (R := R)) [b₀ :: suite] (Φ.set i (.im (excP X.K a x d))) M' T m) (o : L2.St) (ho : o = σ.set i (some (.ref a)))
    (h1 : ∀ s, m = .ok s → ∀ σ' F' H', Gr F0 H0 F' H' → Sl H0 (M' s) σ' F' H' → D.nx σ' H') (h2 : ∀ y, m = .ex y → (T (.error y)).sat F0 H0 D.rt W) (h3 : m ≠ .st) : wSs (X.suite a ((a, oe) :: pn)) (b₀ :: suite) D o H := by
  subst ho
  have fin : ∀ F2, Gr F0 H0 F2 H → Sl H0 Φ σ F2 H → PayP X.K F2 F2 d x.pay → wSs (X.suite a ((a, oe) :: pn)) (b₀ :: suite) D (σ.set i (some (.ref a))) H := fun F2 g2 sl2 hp2 => by
    have sl3 : Sl H0 (Φ.set i (.im (excP X.K a x d))) (σ.set i (some (.ref a))) F2 H := sl2.set ⟨.ref a, rfl, rfl, hp2⟩ rfl
    cases e : m with
    | ok s => exact (hs.run (.nx s) (by rw [e]; rfl)) F0 H0 D _ F2 H g2 sl3 (h1 s e)
    | ex y => exact (hs.run (.rt (.error y)) (by rw [e]; rfl)) F0 H0 D _ F2 H g2 sl3 (h2 y e)
    | st => exact absurd e h3
  cases q : x.pay with
  | nil => rw [q] at hp; exact fin F g sl (by rw [q]; exact hp)
  | cons p0 ps =>
    rw [q] at hp
    obtain ⟨dd, vs, e1, e2, e3⟩ := hp
    subst e1
    have n0 := fr dd rfl
    have eF : Ex F (upd F dd (.xd (((p0 :: ps).map (·.1)).zip vs))) := fun b u z => by
      by_cases hb : b = dd
      · subst hb; rw [upd_same, ← e2, g.s b u z]
      · rw [upd_ne hb]; exact z
    have eH : Ex (upd F dd (.xd (((p0 :: ps).map (·.1)).zip vs))) H := fun b u z => by
      by_cases hb : b = dd
      · subst hb; rw [upd_same] at z; rw [e2]; exact z
      · rw [upd_ne hb] at z; exact g.s b u z
    refine fin _ ⟨g.f.trans eF, g.h, eH, fun b z1 z2 => ?_⟩ ⟨sl.len, fun k D' o a b => ?_, sl.apart⟩ (by rw [q]; exact ⟨dd, vs, rfl, upd_same, dqAll_mono eF _ _ e3⟩)
    · have hb : b ≠ dd := fun w => z2 (by rw [w]; exact n0)
      rw [upd_ne hb]; exact g.n b z1 z2
    · have z := sl.at_ k D' o a b
      cases D' with
      | un => trivial
      | im P => obtain ⟨v, z1, z2⟩ := z; exact ⟨v, z1, P.mono _ _ _ eF z2⟩
      | ow Ps =>
        obtain ⟨l, ws, z1, z2, z3, z4, z5⟩ := z
        have hl : l ≠ dd := fun w => by rw [w, e2] at z4; cases z4
        exact ⟨l, ws, z1, z2, by rw [upd_ne hl]; exact z3, z4, z5.mono eF⟩
      | ob P =>
        obtain ⟨l, z1, z2, z3, z4⟩ := z
        exact ⟨l, z1, z2, fun a ha => ⟨(z3 a ha).1, by
          rw [upd_ne fun w => P.lay _ _ _ z4 a ha _ (by rw [w]; exact e2)]
          exact (z3 a ha).2.1, (z3 a ha).2.2⟩, P.frame _ _ _ _ _ eF (fun _ _ => rfl) z4⟩
theorem set_un {α : Type} : ∀ {l : List α} {i : Nat} {u : α}, l[i]? = some u → l.set i u = l := fun {l i u} h => by
  apply List.ext_getElem?
  intro k
  by_cases q : i = k
  · subst q
    rw [List.getElem?_set_self (List.getElem?_eq_some_iff.mp h).1, h]
  · rw [List.getElem?_set_ne q]
theorem k_tryAs (i : Nat) {n y : Str} {C : Addr} (M' : S' → List SD) {m : M S'} {hn : Exn → M S'} {kk : S' → M β} (hN : X.N.Nodup) (hC : X.mg y = some (.ref C))
    (hb : ∀ W' pn xe, Takes (X.tr pn xe) W' → PassesOwn (model X.prog X.w) X.A X.env xe → TB (X.tr pn xe) W' body Φ M' m)
    (hsu : ∀ x, hn x ≠ .st → PySem.W.exmOne X.K (.ref (He.ga X.K x.cls)) (.ref C) = some true ∧ ∀ a oe d pn, Zc (.ref (He.ga X.K x.cls)) d oe → (∃ vs, oe.data = .fields vs) → HM (X.suite a ((a, oe) :: pn)) W (Ctl.nx (R := R)) [b₀ :: suite] (Φ.set i (.im (excP X.K a x d))) M' T (hn x))
    (hun : ∀ s, (M' s)[i]? = some .un) (hr : ∀ s, HM X W j (A :: r) (M' s) Mm T (kk s))
    (hi : X.N[i]? = some n := by rfl) (hΦ : Φ[i]?.isSome = true := by rfl) (hs : X.stack = X.env :: X.outer := by rfl) (hf : X.env.frame = some X.env.locals := by rfl) (hln : X.env.kindOf n = some .local := by rfl) (hg : Gl X y := by rfl) (hd : (y == ("__debug__" : Str)) = false := by decide) :
    HM X W j ((.Try body [.ExceptHandler (some (.Name y np)) (some n) (b₀ :: suite) pos'] [] [] pos :: A) :: r) Φ Mm T (bindM (tryM m hn) kk) := ⟨fun c hc => .mk fun F0 H0 D σ F H g sl kp => by
  have key : ∀ s, tryM m hn = .ok s → ∀ σ' F' H', Gr F0 H0 F' H' → Sl H0 (M' s) σ' F' H' → wK X (A :: r) D σ' H' := fun s es σ' F' H' g' sl' => by
    rw [es] at hc
    exact ((hr s).run c hc) F0 H0 D σ' F' H' g' sl' kp
  have kex : ∀ x, tryM m hn = .ex x → (T (.error x)).sat F0 H0 D.rt W := fun x es => by
    rw [es] at hc; cases hc; exact kp
  have nst : tryM m hn ≠ .st := fun es => by rw [es] at hc; cases hc
  refine wK_cons (wS_of (ps_try_as (tb := fun W D σ H => ∀ pn xe, Takes (X.tr pn xe) W → PassesOwn (model X.prog X.w) X.A X.env xe → wSs (X.tr pn xe) body D σ H) (ts := fun a cls d D σ H => ∀ oe pn, Zc cls d oe → (∃ vs, oe.data = .fields vs) → wSs (X.suite a ((a, oe) :: pn)) (b₀ :: suite) D σ H)
    hs hf hN hi hln ⟨hg, hd, .inl hC⟩ takes0 (fun W' pn xe tk po => ⟨fun pins s σ H D I h => (h pn xe tk po) pins s I⟩) (fun a oe cls d pn hz hf => ⟨fun pins s σ H D I h => (h oe pn hz hf) pins s I⟩)) ?_)
  intro pn xe tk po
  refine (hb _ pn xe tk po).run F0 H0 _ σ F H g sl (fun e => nst (by unfold tryM; rw [e])) (fun s e => key s (by unfold tryM; rw [e])) fun x e σ' d F' H' g' sl' fr hp => ?_
  have htry : tryM m hn = hn x := by unfold tryM; rw [e]
  obtain ⟨hex, hsu⟩ := hsu x (fun z => nst (htry.trans z))
  refine ⟨true, hex, fun _ a na oe pn hz hf => ?_, fun h => nomatch h⟩
  have hi' : i < σ'.length := by
    rw [sl'.len]
    cases q : Φ[i]? with
    | none => rw [q] at hΦ; cases hΦ
    | some u => exact (List.getElem?_eq_some_iff.mp q).1
  refine suite_run M' g' sl' fr hp hi' (hsu a oe d pn hz hf) _ rfl (fun s es σ3 F3 H3 g3 sl3 => ?_) (fun y es => kex y (by rw [htry, es])) (fun es => nst (by rw [htry, es]))
  refine key s (by rw [htry, es]) _ F3 H3 g3 ?_
  have := sl3.set (i := i) (d := .un) (o := none) trivial rfl
  rwa [set_un (hun s)] at this⟩
end
end GL

set_option Elab.async false
set_option linter.all false
set_option maxRecDepth 100000
set_option maxHeartbeats 4000000
namespace GL
open PySem PySem.Spec PyProof.Rows L2
open Evl (Ex ex_l ex_t)
/-! ### in an except suite -/
/-- a class, as a value -/
def clsP (D : Addr) : MP := ⟨fun _ v => v = .ref D, fun _ _ _ _ h => h⟩
section
variable {X : Cx} {Φ : List SD} {e : Expr} {es : List Expr} {pos p p2 : Pos} {a D : Addr} {oe : Obj} {pn : List (Addr × Obj)} {x : Exn} {d : Option Addr} {b : Bool}
theorem v_cls {y : Str} (hg : Gl X y) (hm : X.mg y = some (.ref D)) (hd : (y == ("__debug__" : Str)) = false := by decide) : PEv X Φ (.Name y pos) (clsP D) := .mk fun H0 σ F H Q s sl q =>
  wE_of (pe_glob (v := .ref D) hg hm rfl hd) (q _ _ _ (Gr.refl s) rfl)
theorem exc_dict {K : Fg} {F H : Hp} {v : V} (s : Ex F H) (h : (excP K a x d).p F v) : ∀ dd, d = some dd → ∃ fs, H dd = some (.xd fs) := fun dd e => by
  obtain ⟨fs, h2⟩ := h.2.xd dd e
  exact ⟨fs, s _ _ h2⟩
theorem x_is {y : Str} (B : Blt X.mg) (C : ExcC X.K (He.ga X.K x.cls)) (hz : Zc (.ref (He.ga X.K x.cls)) d oe) (hf : ∃ vs, oe.data = .fields vs) (he : PEv (X.suite a ((a, oe) :: pn)) Φ e (excP X.K a x d)) (hm : X.mg y = some (.ref D)) (hk : PySem.W.kitOne X.K (.ref (He.ga X.K x.cls)) (.ref D) = some b)
    (hy : Gl X y := by rfl) (hg : Gl X "isinstance" := by rfl) (h1 : nst e = true := by rfl) (hd : (y == ("__debug__" : Str)) = false := by decide) : PV (X.suite a ((a, oe) :: pn)) Φ (.Call (.Name "isinstance" p) [e, .Name y p2] [] pos) b := .mk fun H0 σ F H Q s sl q =>
  wE_callB (X := X.suite a ((a, oe) :: pn)) (call_isO C hz hf) hg B.isinstance (by decide +kernel) (by decide +kernel) (by decide +kernel) (by rw [List.all_cons, h1]; rfl) (wA_of (pa_cons peW (pa_cons peW pa_nil (star_cons rfl)) (star_cons h1)) (he H0 σ F H _ s sl fun v F1 H1 g1 p1 =>
    wE_of (pe_glob (X := X.suite a ((a, oe) :: pn)) (v := .ref D) hy hm rfl hd) ⟨exc_dict g1.s p1, .ref D, .ref D, b, by rw [p1.1], fun u h => h, hk, q _ F1 H1 g1 (.bl _)⟩))
theorem x_isV {T : String} {y : Str} (B : Blt X.mg) (C : ExcC X.K (He.ga X.K x.cls)) (hz : Zc (.ref (He.ga X.K x.cls)) d oe) (hf : ∃ vs, oe.data = .fields vs) (he : PEv (X.suite a ((a, oe) :: pn)) Φ e (excP X.K a x d)) (hm : X.mg y = none) (hv : bootBuiltins y = some (.type T)) (hk : PySem.W.kitOne X.K (.ref (He.ga X.K x.cls)) (.type T) = some b)
    (hy : Gl X y := by rfl) (hg : Gl X "isinstance" := by rfl) (h1 : nst e = true := by rfl) (hn : y ≠ "__name__" := by decide +kernel) (hd : (y == ("__debug__" : Str)) = false := by decide) : PV (X.suite a ((a, oe) :: pn)) Φ (.Call (.Name "isinstance" p) [e, .Name y p2] [] pos) b := .mk fun H0 σ F H Q s sl q =>
  wE_callB (X := X.suite a ((a, oe) :: pn)) (call_isO C hz hf) hg B.isinstance (by decide +kernel) (by decide +kernel) (by decide +kernel) (by rw [List.all_cons, h1]; rfl) (wA_of (pa_cons peW (pa_cons peW pa_nil (star_cons rfl)) (star_cons h1)) (he H0 σ F H _ s sl fun v F1 H1 g1 p1 =>
    wE_bty (X := X.suite a ((a, oe) :: pn)) hy hm hv hn hd ⟨exc_dict g1.s p1, .ty T, .type T, b, by rw [p1.1], fun u h => h, hk, q _ F1 H1 g1 (.bl _)⟩))
theorem allP_cls {F : Hp} : ∀ {Ds : List Addr} {vs : List V}, AllP (Ds.map clsP) F vs → vs = Ds.map V.ref
  | [], vs, h => h.inv0
  | D :: Ds, vs, h => by
    obtain ⟨v, us, rfl, h1, h2⟩ := AllP.inv (P := clsP D) (Ps := Ds.map clsP) h
    rw [show v = .ref D from h1, allP_cls h2]; rfl
theorem x_isT {Ds : List Addr} {e2 : Expr} (B : Blt X.mg) (C : ExcC X.K (He.ga X.K x.cls)) (hz : Zc (.ref (He.ga X.K x.cls)) d oe) (hf : ∃ vs, oe.data = .fields vs) (he : PEv (X.suite a ((a, oe) :: pn)) Φ e (excP X.K a x d)) (ht : PEv (X.suite a ((a, oe) :: pn)) Φ e2 (tupP X.K (Ds.map clsP))) (hk : PySem.W.kitAny X.K (.ref (He.ga X.K x.cls)) (Ds.map Value.ref) = some b)
    (hg : Gl X "isinstance" := by rfl) (h1 : nst e = true := by rfl) (h2 : nst e2 = true := by rfl) : PV (X.suite a ((a, oe) :: pn)) Φ (.Call (.Name "isinstance" p) [e, e2] [] pos) b := .mk fun H0 σ F H Q s sl q =>
  wE_callB (X := X.suite a ((a, oe) :: pn)) (call_isOs C hz hf) hg B.isinstance (by decide +kernel) (by decide +kernel) (by decide +kernel) (by rw [List.all_cons, List.all_cons, h1, h2]; rfl) (wA_of (pa_cons peW (pa_cons peW pa_nil (star_cons h2)) (star_cons h1)) (he H0 σ F H _ s sl fun v F1 H1 g1 p1 =>
    ht H0 σ F1 H1 _ g1.s (sl.gr g1) fun u F2 H2 g2 p2 => by
      obtain ⟨t, vs, rfl, h3, h4⟩ := p2
      have ev := allP_cls h4
      subst ev
      exact ⟨exc_dict (g2.f.trans g2.s) p1, t, Ds, b, by rw [p1.1], ex_t g2.s h3, hk, q _ F2 H2 (g1.trans g2) (.bl _)⟩))
end
/-! ### what the head tells of the classes -/
inductive XF where
  | base (c : Str) | plain (c : Str) | oex (c : Str) | fld (c f : Str) | se (c : Str) | is_ (c d : Str) (b : Bool) | isV (c : Str) (b : Bool) | exm (c d : Str) (b : Bool) | insk (c : Str)
def oexB (K : Fg) (C : Addr) : Bool := match K.lookup C with
  | some ⟨.type "type", _, .cls cd, sl⟩ => (match cd.mro, sl.toList with
    | .ref C' :: bm, [_, _, _, _, some (.builtin n), _] => C' == C && (n == "ValueError.__new__" && (!cd.hasDel && (cd.hasDict && PySem.HandSPX.refsVE bm)))
    | _, _ => false)
  | _ => false
def XF.ok (K : Fg) : XF → Bool
  | .base c => PySem.W.keepIn K (.ref (He.ga K c)) && (decide (PySem.W.subIn K (.ref (He.ga K c)) (.type "BaseException") = some true) && (decide (PySem.W.typeIn K (.ref (He.ga K c)) = some (.type "type")) && (decide (PySem.W.findIn K (.ref (He.ga K c)) "__getattribute__" = some (some (.builtin "BaseException.__getattribute__"))) &&
    (decide (PySem.W.findIn K (.ref (He.ga K c)) "__getattr__" = some none) && (PySem.W.hasDictIn K (He.ga K c) && (decide (PySem.W.findIn K (.ref (He.ga K c)) "__class__" = some (some (.builtin "object.__class__"))) && (decide (PySem.W.specialIn K (.builtin "object.__class__") "__get__" = some (some (.builtin "getset_descriptor.__get__"))) &&
    (decide (PySem.W.takesIn K (.builtin "object.__class__") = some true) && decide (PySem.W.mroIn K (He.ga K c) (.type "object") = some true)))))))))
  | .plain c => PySem.W.excIn K (He.ga K c) He.veBase "ValueError.__new__"
  | .oex c => oexB K (He.ga K c) && (decide (PySem.W.findIn K (.ref (He.ga K c)) "__setattr__" = some (some (.builtin "object.__setattr__"))) && (decide (PySem.W.findIn K (.ref (He.ga K c)) "__init__" = some (some (.ref (He.ma K (He.ga K c) "__init__")))) && decide (PySem.W.typeIn K (.ref (He.ma K (He.ga K c) "__init__")) = some (.type "function"))))
  | .fld c f => decide (PySem.W.findIn K (.ref (He.ga K c)) f = some none)
  | .se c => PySem.W.readsIn K (He.ga K c) (.type "type") && (decide (PySem.W.specialIn K (.ref (He.ga K c)) "__getattribute__" = some (some (.builtin "type.__getattribute__"))) && (match PySem.W.findCls K (.ref (He.ga K c)) (.type "type") "__init__" with
    | some (.val (.builtin n)) => n == "ValueError.__init__"
    | _ => false))
  | .is_ c d b => decide (PySem.W.kitOne K (.ref (He.ga K c)) (.ref (He.ga K d)) = some b)
  | .isV c b => decide (PySem.W.kitOne K (.ref (He.ga K c)) (.type "ValueError") = some b)
  | .exm c d b => decide (PySem.W.exmOne K (.ref (He.ga K c)) (.ref (He.ga K d)) = some b)
  | .insk c => decide (PySem.W.findIn K (.ref (He.ga K c)) "__class__" = some (some (.builtin "object.__class__"))) && (decide (PySem.W.specialIn K (.builtin "object.__class__") "__get__" = some (some (.builtin "getset_descriptor.__get__"))) && (decide (PySem.W.takesIn K (.builtin "object.__class__") = some true) && decide (PySem.W.mroIn K (He.ga K c) (.type "object") = some true)))
theorem XF.get {K : Fg} {fs : List XF} (h : (fs.all fun f => f.ok K) = true) (i : Nat) {f : XF} (e : fs[i]? = some f) : f.ok K = true := List.all_eq_true.mp h f (List.mem_of_getElem? e)
/-- a class of exceptions -/
structure XcB (K : Fg) (c : Str) : Prop where
  keep : PySem.W.keepIn K (.ref (He.ga K c)) = true
  ty : PySem.W.typeIn K (.ref (He.ga K c)) = some (.type "type")
  c : ExcC K (He.ga K c)
theorem xf_base {K : Fg} {c : Str} (h : (XF.base c).ok K = true) : XcB K c := by
  unfold XF.ok at h
  simp only [Bool.and_eq_true, decide_eq_true_eq] at h
  obtain ⟨h1, h2, h3, h4, h5, h6, h7, h8, h9, h10⟩ := h
  exact ⟨h1, h3, ⟨h4, h5, h2, h6, h7, h8, h9, h10⟩⟩
theorem XcB.raises {X : Cx} {c : Str} (h : XcB X.K c) : Raises X (.ref (He.ga X.K c)) := raises_own h.c.hs h.ty
/-! ### defs that may raise -/
section
variable {P : Program} {w : World} {K : Fg} {mg : Str → Option Value} {base : Heap}
theorem def_okXN {x qual : Str} {st : Stmt} {f : Addr} {fd : FuncData} {N ps : List Str} {k : Nat} {Ar : Type} {argP : Ar → List MP} {m : Ar → M Unit} (F : DefOf K x qual st f fd) (S : FnScope N ps (defScope st)) (n : Nat) (hlen : ∀ z, (argP z).length = ps.length) (hN : N.length = ps.length + n) (M0 : List SD)
    (hb : ∀ (cdv : Value) (A : Around) (outer : List Env) (s : Shared) (H : Hp) (E : XK), Room k (A.deeper (envOfC qual (defScope st) s.heap.objs.size f cdv)) → ∀ z,
      HM (S := Unit) (R := Unit) (bxX P w K mg base N qual st f cdv A outer s H E) E Ctl.nx [defBody st] (enter (argP z) n) (fun _ => M0) (TE (fun _ => .val (py K .none)) (ER K)) (m z)) : FnOk P w K mg base (L2.CX P w) (k + 1) f fd ps (spG argP (fun z => m z ≠ .st) fun z => resM (fun _ => .val (py K .none)) (ER K) (m z)) := by
  refine FunD.ok F S (fun vs H Q E h => ?_) fun cdv A outer s H vs Q E hr h => ?_
  · obtain ⟨z, F, _, ha, _⟩ := h
    rw [ha.1, hlen]
  · obtain ⟨z, G, s0, ha, hp, hs⟩ := h
    have hm := hb cdv A outer s H E hr z
    refine ⟨_, pssW, ?_⟩
    have hs' : (resM (fun _ => .val (py K .none)) (ER K) (m z)).sat G H Q E := hs
    cases e : m z with
    | ok v =>
      rw [e] at hs'
      exact run_body (X := bxX P w K mg base N qual st f cdv A outer s H E) (W := E) s0 ha (by rw [hlen]; exact hN) (hm.run (.nx v) (by rw [e]; rfl)) (fun σ F' H' g _ => hs' .non F' H' g .non)
    | ex y =>
      rw [e] at hs'
      exact run_body (X := bxX P w K mg base N qual st f cdv A outer s H E) (W := E) s0 ha (by rw [hlen]; exact hN) (hm.run (.rt (.error y)) (by rw [e]; rfl)) hs'
    | st => exact absurd e hp
end
section
variable {X : Cx} {W : XK} {S R : Type} {Φ : List SD} {Mm : S → List SD} {T : Except Exn R → RS} {e e1 e2 : Expr} {pos p p2 rpos : Pos} {A : List Stmt} {r : List (List Stmt)} {n : Nat}
theorem h_raiseC {c : Str} {x : Exn} {m : Str} {j : Nat} (hxc : x.cls = c) (hp : x.pay = []) (hc : X.calm = true) (tk : Takes X fun c d _ H => W c d H) (q : PySem.W.excIn X.K (He.ga X.K c) He.veBase "ValueError.__new__" = true) (gC : X.mg c = some (.ref (He.ga X.K c))) (hb : XcB X.K c)
    (hT : T (.error x) = ER X.K x := by rfl) (hg : Gl X c := by rfl) (hdb : (c == ("__debug__" : Str)) = false := by decide) :
    HB X W ((.Raise (some (.Call (.Name c p) [.Constant (.str m) j p2] [] pos)) none rpos :: A) :: r) Φ Mm T (.rt (.error x)) := .mk fun F0 H0 D σ F H g sl k => by
  subst hxc
  exact wK_cons (wS_of (ps_raise hc tk (pmk_own PySem.F.excBase_ValueError q gC hb.keep hb.raises hg hdb)) (er_sat hT g k σ none F H (Gr.refl g.s) (fun _ e => nomatch e) (by rw [hp]; rfl)))
end
/-! the fields, by name -/
/-! ### values of several makes -/
inductive Dy where
  | none
  | bool (b : Bool)
  | int (i : Int)
  deriving DecidableEq, Inhabited
def Dy.isInt : Dy → Bool
  | .int _ => true
  | _ => false
def Dy.toInt : Dy → Int
  | .int i => i
  | _ => 0
instance : Py Dy := ⟨fun d => match d with | .none => .none | .bool b => .bool b | .int i => .int i, 0, fun d => by cases d <;> simp [PyData.depth]⟩
instance : Fl Dy := ⟨fun K F F' v x h => by cases x <;> cases h <;> constructor⟩
section
variable {X : Cx} {Φ : List SD} {a b e : Expr} {pos : Pos}
/-- == of data of any two makes -/
def eqG {α β : Type} [Py α] [Py β] (x : α) (y : β) : Bool := PyData.eqv (enc x) (enc y)
/-! the rest of a call that raises -/
variable {Wx : WX} {x : Exn} {es : List Expr} {p : Pos}
end
end GL

set_option Elab.async false
set_option linter.all false
set_option maxRecDepth 100000
set_option maxHeartbeats 4000000
namespace GL
open PySem PySem.Spec PyProof.Rows L2
open Evl (Ex ex_l ex_t)
/-! ### min, max of a tuple of ints -/
section
variable {X : Cx}
def rTm (K : Fg) (f : List Int → Int) : List V → Hp → VK → Prop := fun vs H Q => ∃ (a : Addr) (ns : List Int), vs = [.ref a] ∧ SqT K H a (ns.map V.int) ∧ ns ≠ [] ∧ Q (.int (f ns)) H
variable {Φ : List SD} {e : Expr} {pos p : Pos}
end
/-! ### tuples of ints, of a fixed length and of any -/
def tup2 (t : Tup Int) : Int × Int := (t.l.getD 0 0, t.l.getD 1 0)
def tup3 (t : Tup Int) : T3 Int Int Int := ⟨t.l.getD 0 0, t.l.getD 1 0, t.l.getD 2 0⟩
def tup4 (t : Tup Int) : T4 Int Int Int Int := ⟨t.l.getD 0 0, t.l.getD 1 0, t.l.getD 2 0, t.l.getD 3 0⟩
def tup5 (t : Tup Int) : T5 Int Int Int Int Int := ⟨t.l.getD 0 0, t.l.getD 1 0, t.l.getD 2 0, t.l.getD 3 0, t.l.getD 4 0⟩
section
variable {X : Cx} {Φ : List SD} {e : Expr}
end
/-! ### a call that hands back one of two makes, the list a new one -/
def altRS {α β : Type} [Py α] [Py β] (K : Fg) : Alt α (List β) → RS
  | .l x => .val (py K (enc x))
  | .r y => .new (rps K y)
section
variable {X : Cx} {Φ : List SD} {e : Expr} {es : List Expr} {pos : Pos}
end
section
variable {X : Cx} {W : XK} {S R β : Type} {j : β → Ctl S R} {ks : List (List Stmt)} {Φ : List SD} {Mm : S → List SD} {T : Except Exn R → RS} {o1 o2 : M β}
theorem k_phi (Φ' : List SD) (e : Φ = Φ') (h : HM X W j ks Φ' Mm T o1) : HM X W j ks Φ Mm T o1 := e ▸ h
theorem k_of (o' : M β) (e : o1 = o') (h : HM X W j ks Φ Mm T o') : HM X W j ks Φ Mm T o1 := e ▸ h
end
end GL

set_option Elab.async false
set_option linter.all false
set_option maxRecDepth 100000
set_option maxHeartbeats 4000000
namespace GL
open PySem PySem.Spec PyProof.Rows L2
open Evl (Ex ex_l ex_t)
/-! ### numbers, and what stands in the place of one -/
inductive Od where
  | i (z : Int)
  | b (x : Bool)
  | n
  | t (s : Str)
  | l (xs : List Int)
  | u (x : Tup Int)
  | d
  deriving DecidableEq, Inhabited
def Od.e : Od → PyData
  | .i z => enc z
  | .b x => enc x
  | .n => .none
  | .t s => .str s
  | .l xs => enc xs
  | .u x => enc x
  | .d => .dict []
instance : Py Od := ⟨Od.e, 1, fun x => by
  cases x with
  | i z => exact Nat.le_trans (Py.deep z) (by decide)
  | b z => exact Nat.le_trans (Py.deep z) (by decide)
  | n => simp [Od.e, PyData.depth]
  | t s => simp [Od.e, PyData.depth]
  | l z => exact Nat.le_trans (Py.deep z) (by decide)
  | u z => exact Nat.le_trans (Py.deep z) (by decide)
  | d => simp [Od.e, PyData.depth, PyData.depthKv]⟩
def Od.isZ : Od → Bool
  | .i _ => true
  | _ => false
def Od.z : Od → Int
  | .i z => z
  | _ => 0
def Od.isInt : Od → Bool
  | .i _ => true
  | .b _ => true
  | _ => false
def Od.isBool : Od → Bool
  | .b _ => true
  | _ => false
section
variable {X : Cx} {Φ : List SD} {e a b : Expr} {pos p p2 : Pos} {j : Nat} {α β : Type} [Py α] [Py β]
theorem v_odI {z : Int} (h : PV X Φ e z) : PV X Φ e (Od.i z) := h
theorem v_odB {z : Bool} (h : PV X Φ e z) : PV X Φ e (Od.b z) := h
theorem v_odN (h : PV X Φ e ()) : PV X Φ e Od.n := h
theorem v_odL {z : List Int} (h : PV X Φ e z) : PV X Φ e (Od.l z) := h
theorem v_odU {z : Tup Int} (h : PV X Φ e z) : PV X Φ e (Od.u z) := h
theorem v_odT {x : Str} : PV X Φ (.Constant (.str x) j pos) (Od.t x) := .mk fun H0 σ F H Q s sl q => wE_of pe_str (q _ F H (Gr.refl s) (.str x))
theorem v_odD : PV X Φ (.Dict [] [] pos) Od.d := .mk fun H0 σ F H Q s sl q => wE_of pe_dnewK fun t ht => q (.ref t) (upd F t (.dK [])) _ (Gr.new s ht) (.dct upd_same)
theorem v_odZ {x : Od} (h : x.isZ = true) (he : PV X Φ e x) : PV X Φ e x.z := by
  cases x with
  | i z => exact he
  | _ => cases h
theorem v_odIsInt {x : Od} (B : Blt X.mg) (ha : PV X Φ a x) (hgx : Gl X "int" := by rfl) (hg : Gl X "isinstance" := by rfl) (h1 : nst a = true := by rfl) : PV X Φ (.Call (.Name "isinstance" p) [a, .Name "int" p2] [] pos) x.isInt := by
  cases x <;> exact v_isiInt B ha (by rfl) hgx hg h1
theorem v_odIsBool {x : Od} (B : Blt X.mg) (ha : PV X Φ a x) (hgx : Gl X "bool" := by rfl) (hg : Gl X "isinstance" := by rfl) (h1 : nst a = true := by rfl) : PV X Φ (.Call (.Name "isinstance" p) [a, .Name "bool" p2] [] pos) x.isBool := by
  cases x <;> exact v_isiBool B ha (by rfl) hgx hg h1
/-! ### data told as of another make -/
theorem map_cv {c : α → β} (hc : ∀ x, enc (c x) = enc x) (xs : List α) : (xs.map c).map enc = xs.map enc := by
  rw [List.map_map]
  exact List.map_congr_left fun x _ => hc x
theorem n_cv {xs : List α} {c : α → β} (hc : ∀ x, enc (c x) = enc x) (h : PN X Φ e xs) : PN X Φ e (xs.map c) := .mk fun H0 σ F H Q s sl q =>
  h H0 σ F H Q s sl fun a vs F1 H1 g n1 n2 n3 hp => q a vs F1 H1 g n1 n2 n3 (by
    have e : rps X.K (xs.map c) = rps X.K xs := by
      show (xs.map c).map (fun x => py X.K (enc x)) = xs.map fun x => py X.K (enc x)
      rw [List.map_map]
      exact List.map_congr_left fun x _ => congrArg _ (hc x)
    show AllP (rps X.K (xs.map c)) F1 vs
    rw [e]; exact hp)
end
theorem cv_od (x : Int) : enc (Od.i x) = enc x := rfl
theorem cv_odl (l : List Int) : enc (l.map Od.i) = enc l := by
  show PyData.list ((l.map Od.i).map enc) = PyData.list (l.map enc)
  rw [map_cv cv_od]
end GL

set_option Elab.async false
set_option linter.all false
set_option maxRecDepth 100000
set_option maxHeartbeats 4000000
namespace GL
open PySem PySem.Spec PyProof.Rows L2
open Evl (Ex ex_l ex_t)
/-! ### an __init__ that may raise, its fields settled -/
section
variable {X : Cx} {CX : CXT} {k : Nat} {f C : Addr} {fd : FuncData} {ps : List Str} {sp : Sp} {E : L2.St → XK} {x : Str} {p pos : Pos} {e : Expr} {es : List Expr} {t : L2.TA}
def tMakeS (C : Addr) (sp : Sp) (E : L2.St → XK) (t : L2.TA) : L2.TE := fun σ H Q => t σ H fun vs H1 => ∀ x dx, H1 x = Option.none → H1 dx = Option.none → dx ≠ x →
  sp (V.ref x :: vs) (upd (upd H1 dx (.own x)) x (.ins C dx [])) (fun v H2 => v = .non ∧ Q (.ref x) H2) (E σ)
theorem run_makeS {pins : List (Addr × Obj)} {σ : L2.St} {H : Hp} {s : Shared} {Q : VK} {us : List Value} {vs : List V} (M : Mk X.K C f) (F : FnOk X.prog X.w X.K X.mg X.base CX k f fd ps sp) (hr : Room (k + 1) X.A) (hb : Binds X.K fd ps []) (hx : PassesAt CX X σ (E σ)) (I : Inv X pins σ H s) (r : Vals vs us)
    (h : ∀ x dx, H x = Option.none → H dx = Option.none → dx ≠ x → sp (V.ref x :: vs) (upd (upd H dx (.own x)) x (.ins C dx [])) (fun v H2 => v = .non ∧ Q (.ref x) H2) (E σ)) :
    wpAny (model X.prog X.w) X.A (call (.ref C) us) (EP X pins σ Q) X.xe s := by
  have hq := h (s.heap.objs.size + 1) s.heap.objs.size (I.hok.fresh (Nat.le_succ _)) (I.hok.fresh (Nat.le_refl _)) (Nat.ne_of_lt (Nat.lt_succ_self _))
  have I2 := Inv.made (C := C) I
  have r2 : Vals (V.ref (s.heap.objs.size + 1) :: vs) (Value.ref (s.heap.objs.size + 1) :: us) := .cons rfl r
  have hl : (Value.ref (s.heap.objs.size + 1) :: us).length = ps.length := by
    have e := r2.length
    rw [F.len _ _ _ _ hq] at e
    exact e.symm
  refine wpAny_call (make_map (f := f) I.kIn M.makes M.init (beq_iff_eq.mp M.fn) (codeAny_mono (F.run _ X.stack _ _ ⟨Value.ref (s.heap.objs.size + 1) :: us, []⟩ (Value.ref (s.heap.objs.size + 1) :: us) _ _ (E σ) (hr.make C us [])
    (I2.env0.make C us []) (by have := hb _ (Value.ref (s.heap.objs.size + 1) :: us) I2.kIn (by rw [List.append_nil]; exact hl); rw [List.append_nil] at this; exact this) r2 hq) fun r s' hq' => ?_))
  cases r with
  | error e => exact hx pins _ _ e s' I2 hq'
  | ok fl =>
    cases fl with
    | ret u =>
      obtain ⟨v, H', I3, rv, ev, q3⟩ := I2.after hq'
      subst ev
      exact ⟨rv, ⟨V.ref (s.heap.objs.size + 1), H', I3, rfl, q3⟩⟩
    | next => exact False.elim hq'
    | brk => exact False.elim hq'
    | cont => exact False.elim hq'
theorem pe_makeS (M : Mk X.K C f) (F : FnOk X.prog X.w X.K X.mg X.base CX k f fd ps sp) (hr : Room (k + 1) X.A) (hg : Gl X x) (hm : X.mg x = some (.ref C)) (hb : Binds X.K fd ps []) (hx : ∀ σ, PassesAt CX X σ (E σ))
    (ha : PA X (e :: es) t) (hdb : (x == ("__debug__" : Str)) = false := by decide) (he : starEach (e :: es) X.env = (false, eval e X.env) :: starEach es X.env := by rfl) (hpl : (backTo pos (starEach es X.env)).any (·.1) = false := by rfl) :
    PE X (.Call (.Name x p) (e :: es) [] pos) (tMakeS C sp E t) := by
  refine ⟨fun pins s σ H Q I h => ?_⟩
  refine wpAny_Call_Name_kw (ld_glob I hg hm ?_ hdb)
  refine PySem.W.callWith_K (h₀ := X.base) I.ok.mod.kin M.kp (thn (ha.run pos pins s σ H _ I h) fun us s1 ⟨vs, H1, I1, r, q⟩ => ⟨I1.kIn, ?_⟩) he hpl
  exact run_makeS M F hr hb (hx σ) I1 r q
theorem pe_cfunS {c m : Str} {pos apos cp : Pos} {pl : Sem Bool} (hg : Gl X c) (hm : X.mg c = some (.ref C)) (cf : CFn X.K C f m) (F : FnOk X.prog X.w X.K X.mg X.base CX k f fd ps sp) (hr : Room k X.A) (hb : Binds X.K fd ps []) (hk : PySem.W.keepIn X.K (.ref f) = true) (hx : ∀ σ, PassesAt CX X σ (E σ)) (ha : PA X (e :: es) t)
    (hd : (c == ("__debug__" : Str)) = false) (hst : starEach (e :: es) X.env = (false, eval e X.env) :: starEach es X.env) (hpl : (backTo pos (starEach es X.env)).any (·.1) = false)
    (ht : eval (.Call (.Attribute (.Name c cp) m apos) (e :: es) [] pos) X.env = (do
      let ov ← eval (.Name c cp) X.env
      standAt apos.atName
      let (f, first) ← holding [ov] (getMethod ov m pl)
      callWith pos f first (backTo pos (starEach (e :: es) X.env)) (backToKw pos (keywordEach [] X.env)))) :
    PE X (.Call (.Attribute (.Name c cp) m apos) (e :: es) [] pos) (fun σ H Q => t σ H fun vs H1 => sp vs H1 Q (E σ)) := by
  refine ⟨fun pins s σ H Q I h => ?_⟩
  refine PySem.W.methodCall_KW (pl := pl) (ld_glob I hg hm ?_ hd) ht
  refine PySem.W.method_cls I.kIn cf.rd.ga (ClX.getcval_ok I cf.rd cf.vl fun s1 I1 => ?_)
  refine PySem.W.callWith_K (first := []) (h₀ := X.base) I1.ok.mod.kin hk (thn (ha.run pos pins s1 σ H _ I1 h) fun us s2 ⟨vs, H2, I2, r, q2⟩ => ⟨I2.kIn, ?_⟩) hst hpl
  exact run_fnS (us := us) (vs := vs) F hr hb (hx σ) I2 r q2
end
def spIX {A : Type} (K : Fg) (C : Addr) (argP : A → List MP) (m : A → M Unit) (fs : A → List (Str × MP)) : Sp := fun vs H Q E => ∃ (z : A) (F : Hp) (x dx : Addr) (us : List V), H x = some (.ins C dx []) ∧ F x = none ∧ Ex F H ∧ vs = .ref x :: us ∧ AllP (argP z) F us ∧ m z ≠ .st ∧
  (m z = .ok () → ∀ F' H' dx' ws, GrX x F H F' H' → H' x = some (.ins C dx' (((fs z).map (·.1)).zip ws)) → F' x = none → AllP ((fs z).map (·.2)) F' ws → Q .non H') ∧
  (∀ y, m z = .ex y → ∀ d F' H', GrX x F H F' H' → F' x = none → (∀ a, d = some a → H a = none) → PayP K H' F' d y.pay → E (.ref (He.ga K y.cls)) d H')
theorem gr_none {F H F' H' : Hp} (g : Gr F H F' H') {a : Addr} (h : H' a = none) : H a = none := by
  cases e : H a with
  | none => rfl
  | some u => rw [g.h a u e] at h; cases h
theorem grx_fresh {x : Addr} {F H F' H' : Hp} (g : GrX x F H F' H') (hx : H' x ≠ none) {a : Addr} (h : H' a = none) : H a = none := by
  by_cases q : a = x
  · subst q; exact absurd h hx
  · cases e : H a with
    | none => rfl
    | some o => rw [g.h a o q e] at h; cases h
section
variable {X : Cx} {Wx : WX} {Φ : List SD} {e : Expr} {es : List Expr} {pos p : Pos} {C f : Addr} {k : Nat} {cn : Str} {A : Type} {argP : A → List MP} {m : A → M Unit} {fs : A → List (Str × MP)}
theorem v_mkIX {u : Unit} (M : Mk X.K C f) (G : IniG X.prog X.w X.K X.mg X.base (L2.CX X.prog X.w) k f (spIX X.K C argP m fs)) (hr : Room (k + 1) X.A) (hm : X.mg cn = some (.ref C)) (z : A) (hz : m z = .ok u) (ha : PAs X Φ (e :: es) (argP z))
    (hg : Gl X cn := by rfl) (hd : (cn == ("__debug__" : Str)) = false := by decide) (hst : (e :: es).all nst = true := by rfl) : PEv X Φ (.Call (.Name cn p) (e :: es) [] pos) (insP C (fs z)) := .mk fun H0 σ F H Q s sl q => by
  obtain ⟨fd, ps, h1, h2, _⟩ := G.ex
  have hst2 := hst
  rw [List.all_cons, Bool.and_eq_true] at hst2
  refine wE_of (pe_make M h1 hr hg hm h2 .nil passL paW hd (star_cons hst2.1) (star_plain hst2.2)) (ha H0 σ F H _ s sl fun vs F1 H1 g1 p1 x dx hx0 hdx ne => ?_)
  have fx : F1 x = none := (fresh_of g1 hx0).1
  have fdx : F1 dx = none := (fresh_of g1 hdx).1
  have s1 : Ex F1 (upd (upd H1 dx (.own x)) x (.ins C dx [])) := fun b u z => by
    rw [upd_ne (ne_of_none z fx), upd_ne (ne_of_none z fdx)]; exact g1.s b u z
  refine ⟨z, F1, x, dx, vs, upd_same, fx, s1, by rw [List.append_nil], p1, (by rw [hz]; exact fun w => nomatch w), fun _ F' H' dx' ws g hx' fx' pw => ⟨rfl, ?_⟩, fun y ey => by rw [hz] at ey; cases ey⟩
  obtain ⟨k1, k2⟩ := Gr.settle g.s fx' hx'
  refine q (.ref x) (upd F' x (.ins C dx' (((fs z).map (·.1)).zip ws))) H' ⟨(g1.f.trans g.f).trans k1, fun b u zb => ?_, k2, fun b z1 z2 => ?_⟩ ⟨x, dx', ws, rfl, upd_same, pw.mono k1⟩
  · have hb : H1 b = some u := g1.h b u zb
    have n1 : b ≠ x := ne_of_none hb hx0
    refine g.h b u n1 ?_
    rw [upd_ne n1, upd_ne (ne_of_none hb hdx)]; exact hb
  · have n1 : b ≠ x := fun w => by
      subst w
      cases hb : H b with
      | none => exact z2 hb
      | some u => rw [g1.h b u hb] at hx0; cases hx0
    rw [upd_ne n1]
    refine g.n b (g1.n b z1 z2) ?_
    cases hb : H b with
    | none => exact absurd hb z2
    | some u =>
      have h3 := g1.h b u hb
      rw [upd_ne n1, upd_ne (ne_of_none h3 hdx), h3]; exact fun w => nomatch w
theorem pr_mkIX {y : Exn} (M : Mk X.K C f) (G : IniG X.prog X.w X.K X.mg X.base (L2.CX X.prog X.w) k f (spIX X.K C argP m fs)) (hr : Room (k + 1) X.A) (hm : X.mg cn = some (.ref C)) (tk : Takes X Wx) (z : A) (hz : m z = .ex y) (ha : PAs X Φ (e :: es) (argP z))
    (hg : Gl X cn := by rfl) (hd : (cn == ("__debug__" : Str)) = false := by decide) (hst : (e :: es).all nst = true := by rfl) : PR X Wx Φ (.Call (.Name cn p) (e :: es) [] pos) y := .mk fun H0 σ F H Q s sl q => by
  obtain ⟨fd, ps, h1, h2, _⟩ := G.ex
  have hst2 := hst
  rw [List.all_cons, Bool.and_eq_true] at hst2
  refine wE_of (pe_makeS M h1 hr hg hm h2 (fun σ => passAt tk σ) paW hd (star_cons hst2.1) (star_plain hst2.2)) (ha H0 σ F H _ s sl fun vs F1 H1 g1 p1 x dx hx0 hdx ne => ?_)
  have fx : F1 x = none := (fresh_of g1 hx0).1
  have fdx : F1 dx = none := (fresh_of g1 hdx).1
  have s1 : Ex F1 (upd (upd H1 dx (.own x)) x (.ins C dx [])) := fun b u z => by
    rw [upd_ne (ne_of_none z fx), upd_ne (ne_of_none z fdx)]; exact g1.s b u z
  have nn : ∀ a, upd (upd H1 dx (.own x)) x (.ins C dx []) a = none → H1 a = none := fun a z => by
    obtain ⟨z1, z2⟩ : a ≠ x ∧ upd H1 dx (.own x) a = none := by
      by_cases w : a = x
      · rw [w, upd_same] at z; cases z
      · rw [upd_ne w] at z; exact ⟨w, z⟩
    by_cases w : a = dx
    · rw [w, upd_same] at z2; cases z2
    · rw [upd_ne w] at z2; exact z2
  refine ⟨z, F1, x, dx, vs, upd_same, fx, s1, rfl, p1, (by rw [hz]; exact fun w => nomatch w), fun eb => (by rw [hz] at eb; cases eb), fun y' ey d F' H' g fx' hn hp => ?_⟩
  rw [hz] at ey
  cases ey
  have hh : Ex H H' := fun b u zb => by
    have hb : H1 b = some u := g1.h b u zb
    have n1 : b ≠ x := ne_of_none hb hx0
    refine g.h b u n1 ?_
    rw [upd_ne n1, upd_ne (ne_of_none hb hdx)]; exact hb
  refine q d F' H' ⟨g1.f.trans g.f, hh, g.s, fun b z1 z2 => ?_⟩ (fun a ea => gr_none g1 (nn a (hn a ea))) hp
  refine g.n b (g1.n b z1 z2) ?_
  cases hb : H b with
  | none => exact absurd hb z2
  | some u =>
    have hb := g1.h b u hb
    rw [upd_ne (ne_of_none hb hx0), upd_ne (ne_of_none hb hdx), hb]; exact fun z => nomatch z
end
/-- an __init__'s statements that raise -/
structure HE (X : Cx) (E : XK) (y : Exn) (ks : List (List Stmt)) (Φ : List SD) (x C : Addr) (fs : List (Str × MP)) : Prop where
  run : ∀ (F0 H0 : Hp) (D : Ends) (σ : L2.St) (F H : Hp) (dx : Addr) (us : List V), GrX x F0 H0 F H → Sl H0 Φ σ F H → H x = some (.ins C dx ((fs.map (·.1)).zip us)) → F x = none → AllP (fs.map (·.2)) F us →
    (∀ d F' H', GrX x F0 H0 F' H' → F' x = none → (∀ a, d = some a → H0 a = none) → PayP X.K H' F' d y.pay → E (.ref (He.ga X.K y.cls)) d H') → wK X ks D σ H
section
variable {X : Cx} {E : XK} {y : Exn} {Φ : List SD} {a b c e : Expr} {es : List Expr} {pos apos p p2 np cp rpos : Pos} {P : MP} {Ps Qs : List MP} {x C f : Addr} {fs : List (Str × MP)} {A A1 A2 : List Stmt} {r : List (List Stmt)}
theorem he_dropX (hr : PR X (fun c d _ H => E c d H) Φ e y) (hs : swapsWith e none pos.line X.env = pure false := by rfl) : HE X E y ((.Expr e pos :: A) :: r) Φ x C fs := ⟨fun F0 H0 D σ F H dx us g sl hx fx ha k =>
  wK_cons (wS_of (ps_expr peW hs) (hr.run H0 σ F H _ g.s sl fun d F1 H1 g1 hn hp => k d F1 H1 (g.gr g1 fx (ne_none hx)) (keep_x g1 hx fx).2 (fun a ea => grx_fresh g (ne_none hx) (hn a ea)) hp))⟩
theorem he_drop (he : PEv X Φ e P) (h : HE X E y (A :: r) Φ x C fs) (hs : swapsWith e none pos.line X.env = pure false := by rfl) : HE X E y ((.Expr e pos :: A) :: r) Φ x C fs := ⟨fun F0 H0 D σ F H dx us g sl hx fx ha k =>
  wK_cons (wS_of (ps_expr peW hs) (he H0 σ F H _ g.s sl fun v F1 H1 g1 _ => h.run F0 H0 D σ F1 H1 dx us (g.gr g1 fx (ne_none hx)) (sl.gr g1) (keep_x g1 hx fx).1 (keep_x g1 hx fx).2 (ha.mono g1.f) k))⟩
theorem he_ifyes (hc : PTv X Φ c true) (h : HE X E y (A1 :: A :: r) Φ x C fs) : HE X E y ((.If c A1 A2 pos :: A) :: r) Φ x C fs := ⟨fun F0 H0 D σ F H dx us g sl hx fx ha k =>
  wK_cons (wS_of (ps_if ptW pssW pssW) (hc H0 σ F H _ g.s sl fun F1 H1 g1 => iteT (h.run F0 H0 D σ F1 H1 dx us (g.gr g1 fx (ne_none hx)) (sl.gr g1) (keep_x g1 hx fx).1 (keep_x g1 hx fx).2 (ha.mono g1.f) k)))⟩
theorem he_raise {c : Str} {m : Str} {j : Nat} (hxc : y.cls = c) (hp : y.pay = []) (hc : X.calm = true) (tk : Takes X fun c d _ H => E c d H) (q : PySem.W.excIn X.K (He.ga X.K c) He.veBase "ValueError.__new__" = true) (gC : X.mg c = some (.ref (He.ga X.K c))) (hb : XcB X.K c)
    (hg : Gl X c := by rfl) (hdb : (c == ("__debug__" : Str)) = false := by decide) : HE X E y ((.Raise (some (.Call (.Name c p) [.Constant (.str m) j p2] [] pos)) none rpos :: A) :: r) Φ x C fs := ⟨fun F0 H0 D σ F H dx us g sl hx fx ha k => by
  subst hxc
  exact wK_cons (wS_of (ps_raise hc tk (pmk_own PySem.F.excBase_ValueError q gC hb.keep hb.raises hg hdb)) (k none F H g fx (fun _ e => nomatch e) (by rw [hp]; rfl)))⟩
section
variable {Ar : Type} {argP : Ar → List MP} {m : Ar → M Unit} {fsA : Ar → List (Str × MP)} {fin : List (Str × MP)} {k : Nat} {cn s0 : Str} {D0 : Addr} {pl : Sem Bool}
theorem superOk {u : Unit} (cf : CFn X.K D0 f "__init__") (G : IniG X.prog X.w X.K X.mg X.base (L2.CX X.prog X.w) k f (spIX X.K C argP m fsA)) (hr : Room k X.A) (hm : X.mg cn = some (.ref D0)) (z : Ar) (hz : m z = .ok u)
    (ha : PAs X Φ es (argP z)) (hΦ : Φ.all (fun d => !d.isOw) = true) (hg : Gl X cn) (hd : (cn == ("__debug__" : Str)) = false) (hst : es.all nst = true) (h0 : Φ[0]? = some (.im (selfP x)))
    (hN : X.N[0]? = some s0) (hv : Vis X.env.scope s0) (hd0 : (s0 == ("__debug__" : Str)) = false) (hcd : (s0 == ("__classdict__" : Str)) = false)
    (ht : eval (.Call (.Attribute (.Name cn cp) "__init__" apos) (.Name s0 np :: es) [] p) X.env = (do
      let ov ← eval (.Name cn cp) X.env
      standAt apos.atName
      let (f, first) ← holding [ov] (getMethod ov "__init__" pl)
      callWith p f first (backTo p (starEach (.Name s0 np :: es) X.env)) (backToKw p (keywordEach [] X.env))))
    (hs : swapsWith (.Call (.Attribute (.Name cn cp) "__init__" apos) (.Name s0 np :: es) [] p) none pos.line X.env = pure false)
    {F0 H0 : Hp} {D : Ends} {σ : L2.St} {F H : Hp} {dx : Addr} {us : List V} (g : GrX x F0 H0 F H) (sl : Sl H0 Φ σ F H) (hx0 : H x = some (.ins C dx ((([] : List (Str × MP)).map (·.1)).zip us))) (fx : F x = none) (hu : AllP (([] : List (Str × MP)).map (·.2)) F us)
    (k : ∀ F' H' dx' ws, GrX x F0 H0 F' H' → Sl H0 Φ σ F' H' → H' x = some (.ins C dx' (((fsA z).map (·.1)).zip ws)) → F' x = none → AllP ((fsA z).map (·.2)) F' ws → wK X (A :: r) D σ H') :
    wK X ((.Expr (.Call (.Attribute (.Name cn cp) "__init__" apos) (.Name s0 np :: es) [] p) pos :: A) :: r) D σ H := by
  obtain ⟨fd, ps, h1, h2, h3⟩ := G.ex
  obtain ⟨w, w1, w2⟩ := sl.im h0
  have w2 : w = .ref x := w2
  subst w2
  refine wK_cons (wS_of (ps_expr (pe_cfun (pl := pl) hg hm cf h1 hr h2 h3 passL (pa_cons (pe_var hN hv hd0 hcd) paW (star_cons rfl)) hd (star_cons rfl) (star_plain hst) ht) hs) ⟨_, w1, ha H0 σ F H _ g.s sl fun vs F1 H1 g1 p1 => ?_⟩)
  obtain ⟨kx, kf⟩ := keep_x g1 hx0 fx
  have g0 := g.gr g1 fx (ne_none hx0)
  have hus : us = [] := by
    have := hu.1; simp at this; exact this
  subst hus
  refine ⟨z, F1, x, dx, vs, by simpa using kx, kf, g1.s, rfl, p1, (by rw [hz]; exact fun w => nomatch w), fun _ F' H' dx' ws g2 hx2 fx2 pw => ?_, fun y ey => by rw [hz] at ey; cases ey⟩
  have hsl : Sl H0 Φ σ F' H' := by
    have e := (sl.gr g1)
    have no : ∀ (i : Nat) (d : SD), Φ[i]? = some d → d.isOw = false := fun i d a => by
      have := List.all_eq_true.mp hΦ d (List.mem_of_getElem? a)
      simpa using this
    refine ⟨e.len, fun i d o a b => ?_, fun i j d e2 o o' l hij a b f g p q => ?_⟩
    · have kk := e.at_ i d o a b
      have kn := no i d a
      cases d with
      | un => trivial
      | im P => obtain ⟨v, v1, v2⟩ := kk; exact ⟨v, v1, P.mono _ _ _ g2.f v2⟩
      | ow Ps => cases kn
      | ob P => cases kn
    · rw [SD.fo_un (no i d a)] at p; cases p
  exact k F' H' dx' ws (g0.trans g2 kf (ne_none kx)) hsl hx2 fx2 pw
theorem hi_superX {u : Unit} (cf : CFn X.K D0 f "__init__") (G : IniG X.prog X.w X.K X.mg X.base (L2.CX X.prog X.w) k f (spIX X.K C argP m fsA)) (hr : Room k X.A) (hm : X.mg cn = some (.ref D0)) (z : Ar) (hz : m z = .ok u)
    (ha : PAs X Φ es (argP z)) (hΦ : Φ.all (fun d => !d.isOw) = true) (h : HI X (A :: r) Φ x C (fsA z) fin) (hg : Gl X cn := by rfl) (hd : (cn == ("__debug__" : Str)) = false := by decide) (hst : es.all nst = true := by rfl) (h0 : Φ[0]? = some (.im (selfP x)) := by rfl)
    (hN : X.N[0]? = some s0 := by rfl) (hv : Vis X.env.scope s0 := by first | exact Or.inl rfl | exact Or.inr (Or.inl rfl) | exact Or.inr (Or.inr rfl)) (hd0 : (s0 == ("__debug__" : Str)) = false := by decide) (hcd : (s0 == ("__classdict__" : Str)) = false := by decide)
    (ht : eval (.Call (.Attribute (.Name cn cp) "__init__" apos) (.Name s0 np :: es) [] p) X.env = (do
      let ov ← eval (.Name cn cp) X.env
      standAt apos.atName
      let (f, first) ← holding [ov] (getMethod ov "__init__" pl)
      callWith p f first (backTo p (starEach (.Name s0 np :: es) X.env)) (backToKw p (keywordEach [] X.env))) := by rfl)
    (hs : swapsWith (.Call (.Attribute (.Name cn cp) "__init__" apos) (.Name s0 np :: es) [] p) none pos.line X.env = pure false := by rfl) :
    HI X ((.Expr (.Call (.Attribute (.Name cn cp) "__init__" apos) (.Name s0 np :: es) [] p) pos :: A) :: r) Φ x C [] fin := ⟨fun F0 H0 D σ F H dx us g sl hx0 fx hu k =>
  superOk (pl := pl) cf G hr hm z hz ha hΦ hg hd hst h0 hN hv hd0 hcd ht hs g sl hx0 fx hu fun F' H' dx' ws g1 s1 x1 f1 p1 => h.run F0 H0 D σ F' H' dx' ws g1 s1 x1 f1 p1 k⟩
theorem he_superOk {u : Unit} (cf : CFn X.K D0 f "__init__") (G : IniG X.prog X.w X.K X.mg X.base (L2.CX X.prog X.w) k f (spIX X.K C argP m fsA)) (hr : Room k X.A) (hm : X.mg cn = some (.ref D0)) (z : Ar) (hz : m z = .ok u)
    (ha : PAs X Φ es (argP z)) (hΦ : Φ.all (fun d => !d.isOw) = true) (h : HE X E y (A :: r) Φ x C (fsA z)) (hg : Gl X cn := by rfl) (hd : (cn == ("__debug__" : Str)) = false := by decide) (hst : es.all nst = true := by rfl) (h0 : Φ[0]? = some (.im (selfP x)) := by rfl)
    (hN : X.N[0]? = some s0 := by rfl) (hv : Vis X.env.scope s0 := by first | exact Or.inl rfl | exact Or.inr (Or.inl rfl) | exact Or.inr (Or.inr rfl)) (hd0 : (s0 == ("__debug__" : Str)) = false := by decide) (hcd : (s0 == ("__classdict__" : Str)) = false := by decide)
    (ht : eval (.Call (.Attribute (.Name cn cp) "__init__" apos) (.Name s0 np :: es) [] p) X.env = (do
      let ov ← eval (.Name cn cp) X.env
      standAt apos.atName
      let (f, first) ← holding [ov] (getMethod ov "__init__" pl)
      callWith p f first (backTo p (starEach (.Name s0 np :: es) X.env)) (backToKw p (keywordEach [] X.env))) := by rfl)
    (hs : swapsWith (.Call (.Attribute (.Name cn cp) "__init__" apos) (.Name s0 np :: es) [] p) none pos.line X.env = pure false := by rfl) :
    HE X E y ((.Expr (.Call (.Attribute (.Name cn cp) "__init__" apos) (.Name s0 np :: es) [] p) pos :: A) :: r) Φ x C [] := ⟨fun F0 H0 D σ F H dx us g sl hx0 fx hu k =>
  superOk (pl := pl) cf G hr hm z hz ha hΦ hg hd hst h0 hN hv hd0 hcd ht hs g sl hx0 fx hu fun F' H' dx' ws g1 s1 x1 f1 p1 => h.run F0 H0 D σ F' H' dx' ws g1 s1 x1 f1 p1 k⟩
theorem he_superX (cf : CFn X.K D0 f "__init__") (G : IniG X.prog X.w X.K X.mg X.base (L2.CX X.prog X.w) k f (spIX X.K C argP m fsA)) (hr : Room k X.A) (hm : X.mg cn = some (.ref D0)) (tk : Takes X fun c d _ H => E c d H) (z : Ar) (hz : m z = .ex y)
    (ha : PAs X Φ es (argP z)) (hg : Gl X cn := by rfl) (hd : (cn == ("__debug__" : Str)) = false := by decide) (hst : es.all nst = true := by rfl) (h0 : Φ[0]? = some (.im (selfP x)) := by rfl)
    (hN : X.N[0]? = some s0 := by rfl) (hv : Vis X.env.scope s0 := by first | exact Or.inl rfl | exact Or.inr (Or.inl rfl) | exact Or.inr (Or.inr rfl)) (hd0 : (s0 == ("__debug__" : Str)) = false := by decide) (hcd : (s0 == ("__classdict__" : Str)) = false := by decide)
    (ht : eval (.Call (.Attribute (.Name cn cp) "__init__" apos) (.Name s0 np :: es) [] p) X.env = (do
      let ov ← eval (.Name cn cp) X.env
      standAt apos.atName
      let (f, first) ← holding [ov] (getMethod ov "__init__" pl)
      callWith p f first (backTo p (starEach (.Name s0 np :: es) X.env)) (backToKw p (keywordEach [] X.env))) := by rfl)
    (hs : swapsWith (.Call (.Attribute (.Name cn cp) "__init__" apos) (.Name s0 np :: es) [] p) none pos.line X.env = pure false := by rfl) :
    HE X E y ((.Expr (.Call (.Attribute (.Name cn cp) "__init__" apos) (.Name s0 np :: es) [] p) pos :: A) :: r) Φ x C [] := ⟨fun F0 H0 D σ F H dx us g sl hx0 fx hu k => by
  obtain ⟨fd, ps, h1, h2, h3⟩ := G.ex
  obtain ⟨w, w1, w2⟩ := sl.im h0
  have w2 : w = .ref x := w2
  subst w2
  refine wK_cons (wS_of (ps_expr (pe_cfunS (pl := pl) hg hm cf h1 hr h2 h3 (fun σ => passAt tk σ) (pa_cons (pe_var hN hv hd0 hcd) paW (star_cons rfl)) hd (star_cons rfl) (star_plain hst) ht) hs) ⟨_, w1, ha H0 σ F H _ g.s sl fun vs F1 H1 g1 p1 => ?_⟩)
  obtain ⟨kx, kf⟩ := keep_x g1 hx0 fx
  have g0 := g.gr g1 fx (ne_none hx0)
  have hus : us = [] := by
    have := hu.1; simp at this; exact this
  subst hus
  refine ⟨z, F1, x, dx, vs, by simpa using kx, kf, g1.s, rfl, p1, (by rw [hz]; exact fun w => nomatch w), fun e => (by rw [hz] at e; cases e), fun y' ey d F' H' g2 fx2 hn hp => ?_⟩
  rw [hz] at ey
  cases ey
  exact k d F' H' (g0.trans g2 kf (ne_none kx)) fx2 (fun a ea => grx_fresh g0 (ne_none kx) (hn a ea)) hp⟩
end
end
section
variable {P : Program} {w : World} {K : Fg} {mg : Str → Option Value} {base : Heap}
theorem def_okIX {x qual : Str} {st : Stmt} {f C : Addr} {fd : FuncData} {N ps : List Str} {k : Nat} {Ar : Type} {argP : Ar → List MP} {m : Ar → M Unit} {fs : Ar → List (Str × MP)} (F : DefOf K x qual st f fd) (S : FnScope N ps (defScope st)) (n : Nat) (hlen : ∀ z, (argP z).length + 1 = ps.length) (hN : N.length = ps.length + n)
    (hb : ∀ (cdv : Value) (A : Around) (outer : List Env) (s : Shared) (H : Hp) (E : XK), Room k (A.deeper (envOfC qual (defScope st) s.heap.objs.size f cdv)) → ∀ z, m z = .ok () → ∀ o,
      HI (bxX P w K mg base N qual st f cdv A outer s H E) [defBody st] (enter (selfP o :: argP z) n) o C [] (fs z))
    (hx : ∀ (cdv : Value) (A : Around) (outer : List Env) (s : Shared) (H : Hp) (E : XK), Room k (A.deeper (envOfC qual (defScope st) s.heap.objs.size f cdv)) → ∀ z y, m z = .ex y → ∀ o,
      HE (bxX P w K mg base N qual st f cdv A outer s H E) E y [defBody st] (enter (selfP o :: argP z) n) o C []) : FnOk P w K mg base (L2.CX P w) (k + 1) f fd ps (spIX K C argP m fs) := by
  refine FunD.ok F S (fun vs H Q E h => ?_) fun cdv A outer s H vs Q E hr h => ?_
  · obtain ⟨z, F, o, dx, us, _, _, _, rfl, ha, _⟩ := h
    rw [List.length_cons, ha.1, hlen]
  · obtain ⟨z, G, o, dx, us, hx0, fx, s0, rfl, ha, hp, hs, he⟩ := h
    have hall : AllP (selfP o :: argP z) G (.ref o :: us) := .cons rfl ha
    refine ⟨_, pssW, ?_⟩
    cases e : m z with
    | ok b =>
      refine (hb cdv A outer s H E hr z e o).run G H { nx := fun _ H' => Q .non H', rt := Q } (L2.start N (.ref o :: us)) G H dx [] (GrX.refl s0) (sl_start hall (by rw [hN, List.length_cons, hlen])) (by simpa using hx0) fx .nil ?_
      exact fun σ' F' H' dx' ws g1 g2 g3 g4 => hs e F' H' dx' ws g1 g2 g3 g4
    | ex y =>
      refine (hx cdv A outer s H E hr z y e o).run G H { nx := fun _ H' => Q .non H', rt := Q } (L2.start N (.ref o :: us)) G H dx [] (GrX.refl s0) (sl_start hall (by rw [hN, List.length_cons, hlen])) (by simpa using hx0) fx .nil ?_
      exact he y e
    | st => exact absurd e hp
end
end GL

set_option Elab.async false
set_option linter.all false
set_option maxRecDepth 100000
set_option maxHeartbeats 4000000
namespace GL
open PySem PySem.Spec PyProof.Rows L2
open Evl (Ex ex_l ex_t)
/-! ### == of lists of lists in which numbers and other things stand -/
theorem dof_nil {P P' : Program} {w w' : World} {h : Heap} {a : Addr} (d : h.DictOf (mixKind P w) a []) : h.DictOf (mixKind P' w') a [] := by
  obtain ⟨o, es, ep, h1, h2, h3, h4, h5, h6⟩ := d
  have e : es = #[] := by
    have : es.toList = [] := by
      generalize es.toList = l at h5
      cases h5; rfl
    exact Array.toList_eq_nil_iff.mp this
  subst e
  exact ⟨o, #[], ep, h1, h2, h3, (by intro x hx; simp at hx), .nil, List.nodup_nil⟩
section
variable {X : Cx} {pins : List (Addr × Obj)} {σ : L2.St} {H : Hp} {s : Shared}
theorem od_eqAt (I : Inv X pins σ H s) {A : Around} (hu : A.units + 4 < cLine) (o : Od) {x y : V} {v u : Value} (hx : Dq X.K H x (enc o)) (hy : Dq X.K H y (enc o)) (rx : RelV x v) (ry : RelV y u) : SeqAt.EqAt A s v u true := by
  cases o with
  | i z => cases hx; cases hy; exact eqAt_same rx ry rfl
  | b z => cases hx; cases hy; exact eqAt_same rx ry rfl
  | n => cases hx; cases hy; exact eqAt_same rx ry rfl
  | t z => cases hx; cases hy; exact eqAt_same rx ry rfl
  | l z =>
    obtain ⟨as, r1⟩ := Dp.reads I _ x v (dq_dp _ _ (PyQ.can z) hx) rx
    obtain ⟨bs, r2⟩ := Dp.reads I _ y u (dq_dp _ _ (PyQ.can z) hy) ry
    have := SeqAt.eqAt_reads (enc z) (enc z) A s v u _ _ r1 r2 (PyQ.can z) (PyQ.can z) (by have := Py.deep z; have : Py.dep (List Int) = 1 := rfl; simp only [enc] at *; omega)
    rwa [(PyQ.eqv z z).mpr rfl] at this
  | u z =>
    obtain ⟨as, r1⟩ := Dp.reads I _ x v (dq_dp _ _ (PyQ.can z) hx) rx
    obtain ⟨bs, r2⟩ := Dp.reads I _ y u (dq_dp _ _ (PyQ.can z) hy) ry
    have := SeqAt.eqAt_reads (enc z) (enc z) A s v u _ _ r1 r2 (PyQ.can z) (PyQ.can z) (by have := Py.deep z; have : Py.dep (Tup Int) = 1 := rfl; simp only [enc] at *; omega)
    rwa [(PyQ.eqv z z).mpr rfl] at this
  | d =>
    obtain ⟨a, rfl, ha⟩ : ∃ a, x = .ref a ∧ H a = some (.dK []) := by
      have hx : Dq X.K H x (.dict []) := hx
      cases hx with
      | dct h => exact ⟨_, rfl, h⟩
    obtain ⟨b, rfl, hb⟩ : ∃ a, y = .ref a ∧ H a = some (.dK []) := by
      have hy : Dq X.K H y (.dict []) := hy
      cases hy with
      | dct h => exact ⟨_, rfl, h⟩
    cases (show v = Value.ref a from rx)
    cases (show u = Value.ref b from ry)
    by_cases q : a = b
    · subst q; exact SeqAt.EqAt.same _
    · obtain ⟨_, ya, va, ra, da⟩ := (show ObjOk X.prog X.w H s.heap a (.dK []) from I.hok a _ ha)
      obtain ⟨_, yb, vb, rb, db⟩ := (show ObjOk X.prog X.w H s.heap b (.dK []) from I.hok b _ hb)
      cases ra
      cases rb
      exact SeqAt.EqAt.of_refs q fun P w E Q h => PySem.W.rcP_dicts (knd := mixKind P w) (r := true) ya yb (dof_nil da) (dof_nil db) (by omega) (fun _ => .nil) E Q h
theorem items_eqAt {A : Around} {K : Fg} {F : Hp} : ∀ {ds : List PyData} {xs ys : List V} {us ws : List Value}, DqAll K F xs ds → DqAll K F ys ds → Vals xs us → Vals ys ws →
    (∀ d ∈ ds, ∀ x y v u, Dq K F x d → Dq K F y d → RelV x v → RelV y u → SeqAt.EqAt A s v u true) → us.length = ws.length ∧ ∀ j (h1 : j < us.length) (h2 : j < ws.length), SeqAt.EqAt A s us[j] ws[j] true
  | [], xs, ys, us, ws, hx, hy, rx, ry, _ => by
    cases hx; cases hy; cases rx; cases ry
    exact ⟨rfl, fun j h1 => absurd h1 (Nat.not_lt_zero j)⟩
  | d :: ds, xs, ys, us, ws, hx, hy, rx, ry, k => by
    cases hx with
    | cons a1 a2 =>
      cases hy with
      | cons b1 b2 =>
        cases rx with
        | cons r1 r2 =>
          cases ry with
          | cons q1 q2 =>
            obtain ⟨l, z⟩ := items_eqAt a2 b2 r2 q2 fun d' hd => k d' (List.mem_cons_of_mem _ hd)
            refine ⟨by simp [l], fun j h1 h2 => ?_⟩
            cases j with
            | zero => exact k d (List.mem_cons_self ..) _ _ _ _ a1 b1 r1 q1
            | succ j => exact z j (Nat.lt_of_succ_lt_succ h1) (Nat.lt_of_succ_lt_succ h2)
theorem all_true (n : Nat) : ((List.range n).all fun _ => true) = true := List.all_eq_true.mpr fun _ _ => rfl
theorem lst_rc (I : Inv X pins σ H s) {A : Around} (hu : A.units < cLine) {ds : List PyData} {x y : V} {v u : Value} (hx : Dq X.K H x (.list ds)) (hy : Dq X.K H y (.list ds)) (rx : RelV x v) (ry : RelV y u)
    (k : ∀ d ∈ ds, ∀ x y v u, Dq X.K H x d → Dq X.K H y d → RelV x v → RelV y u → SeqAt.EqAt A.in1 s v u true) : ∃ a b, v = .ref a ∧ u = .ref b ∧ SeqAt.RcAt A s (.ref a) (.ref b) true ∧ SeqAt.RcNeAt A s (.ref a) (.ref b) false := by
  cases hx with
  | @lst a xs _ ha hxs =>
    cases hy with
    | @lst b ys _ hb hys =>
      cases (show v = Value.ref a from rx)
      cases (show u = Value.ref b from ry)
      obtain ⟨us, r1, p1, _⟩ := I.list (SqL.of ha)
      obtain ⟨ws, r2, p2, _⟩ := I.list (SqL.of hb)
      obtain ⟨l, z⟩ := items_eqAt hxs hys r1 r2 k
      have hsz : us.toArray.size = ws.toArray.size := by simpa using l
      have he : ∀ j (h1 : j < us.toArray.size) (h2 : j < ws.toArray.size), SeqAt.EqAt A.in1 s us.toArray[j] ws.toArray[j] true := fun j h1 h2 => by
        have := z j (by simpa using h1) (by simpa using h2)
        simpa using this
      refine ⟨a, b, rfl, rfl, ?_, ?_⟩
      · have := SeqAt.RcAt.lists (e := fun _ => true) p1.isList p2.isList hsz hu he
        rwa [all_true] at this
      · have := SeqAt.RcNeAt.lists (e := fun _ => true) p1.isList p2.isList hsz hu he
        rwa [all_true] at this
theorem row_eqAt (I : Inv X pins σ H s) {A : Around} (hu : A.units + 8 < cLine) (os : List Od) {x y : V} {v u : Value} (hx : Dq X.K H x (enc os)) (hy : Dq X.K H y (enc os)) (rx : RelV x v) (ry : RelV y u) : SeqAt.EqAt A s v u true := by
  obtain ⟨a, b, rfl, rfl, h, _⟩ := lst_rc I (A := A) (by omega) (ds := os.map enc) hx hy rx ry fun d hd x y v u hx hy rx ry => by
    obtain ⟨o, _, rfl⟩ := List.mem_map.mp hd
    exact od_eqAt I (by show A.units + 1 + 4 < cLine; omega) o hx hy rx ry
  by_cases q : a = b
  · subst q; exact SeqAt.EqAt.same _
  · exact SeqAt.EqAt.of_refs q h
theorem rows_rc (I : Inv X pins σ H s) {A : Around} (hu : A.units + 16 < cLine) (os : List (List Od)) {x y : V} {v u : Value} (hx : Dq X.K H x (enc os)) (hy : Dq X.K H y (enc os)) (rx : RelV x v) (ry : RelV y u) : ∃ a b, v = .ref a ∧ u = .ref b ∧ SeqAt.RcAt A s (.ref a) (.ref b) true ∧ SeqAt.RcNeAt A s (.ref a) (.ref b) false :=
  lst_rc I (A := A) (by omega) (ds := os.map enc) hx hy rx ry fun d hd x y v u hx hy rx ry => by
    obtain ⟨o, _, rfl⟩ := List.mem_map.mp hd
    exact row_eqAt I (by show A.units + 1 + 8 < cLine; omega) o hx hy rx ry
end
def rSame (K : Fg) (b : Bool) : R2 := fun x y H Q => (∃ xs : List (List Od), Dq K H x (enc xs) ∧ Dq K H y (enc xs)) ∧ Q (.bl b) H
section
variable {X : Cx} {Φ : List SD} {a b : Expr} {pos : Pos}
theorem op_eqOd (hu : X.A.units + 64 < cLine) : OpR X (compareOp .Eq) (rSame X.K true) := by
  intro pins s σ H x y v u Q I rx ry h
  obtain ⟨⟨xs, h1, h2⟩, q⟩ := h
  obtain ⟨a, b, rfl, rfl, h, _⟩ := rows_rc I (A := X.A) (by omega) xs h1 h2 rx ry
  exact h X.prog X.w _ _ ⟨.bl true, H, I, rfl, q⟩
theorem op_neOd (hu : X.A.units + 64 < cLine) : OpR X (compareOp .NotEq) (rSame X.K false) := by
  intro pins s σ H x y v u Q I rx ry h
  obtain ⟨⟨xs, h1, h2⟩, q⟩ := h
  obtain ⟨a, b, rfl, rfl, _, h⟩ := rows_rc I (A := X.A) (by omega) xs h1 h2 rx ry
  exact h X.prog X.w _ _ ⟨.bl false, H, I, rfl, q⟩
variable {xs ys : List (List Od)}
theorem v_eqOd (hu : X.A.units + 64 < cLine) (h : xs = ys) (ha : PV X Φ a xs) (hb : PV X Φ b ys) : PV X Φ (.Compare a [.Eq] [b] pos) true := .mk fun H0 σ F H Q s sl q => by
  subst h
  exact wE_of (pe_cmpR (op_eqOd hu) peW peW (nomark _)) (ha H0 σ F H _ s sl fun x F1 H1 g1 p1 => hb H0 σ F1 H1 _ g1.s (sl.gr g1) fun y F2 H2 g2 p2 =>
    ⟨⟨xs, dq_mono (g2.f.trans g2.s) _ _ p1, dq_mono g2.s _ _ p2⟩, q _ _ _ (g1.trans g2) (.bl _)⟩)
theorem t_neOd (hu : X.A.units + 64 < cLine) (h : xs = ys) (ha : PV X Φ a xs) (hb : PV X Φ b ys) : PTv X Φ (.Compare a [.NotEq] [b] pos) false :=
  t_cmpV (op_neOd hu) (nomark _) (fun H0 σ F H Q s sl q => by
    subst h
    exact ha H0 σ F H _ s sl fun x F1 H1 g1 p1 => hb H0 σ F1 H1 _ g1.s (sl.gr g1) fun y F2 H2 g2 p2 => ⟨⟨xs, dq_mono (g2.f.trans g2.s) _ _ p1, dq_mono g2.s _ _ p2⟩, q _ _ _ (g1.trans g2) (.bl _)⟩)
end
end GL

set_option Elab.async false
set_option linter.all false
set_option maxRecDepth 100000
set_option maxHeartbeats 4000000
namespace LW
open PySem PySem.Spec PyProof.Rows L2 GL
local macro_rules | `(tactic| walk_at "sc") => `(tactic| first | trivial | omega | (subst_vars; simp +decide only [rng_length, enumL_length, dwn_length, List.length_map, List.length_append, List.length_set, List.length_cons, List.length_nil, List.length_reverse, List.length_zip, List.length_eraseIdx, decide_eq_true_eq, decide_eq_false_iff_not, imin_eq, imax_eq, iabs_eq, Bool.and_eq_true, Bool.or_eq_true, Bool.not_eq_true', srt_length, slc_to, slc_from, List.length_take, List.length_drop, true_and, and_true] at * <;> omega) | (refine mod_ix ?_; first | decide | omega | (subst_vars; simp +decide only [rng_length, enumL_length, dwn_length, List.length_map, List.length_append, List.length_set, List.length_cons, List.length_nil, List.length_reverse, List.length_zip, List.length_eraseIdx, decide_eq_true_eq, decide_eq_false_iff_not, imin_eq, imax_eq, iabs_eq, Bool.and_eq_true, Bool.or_eq_true, Bool.not_eq_true', srt_length, slc_to, slc_from, List.length_take, List.length_drop, true_and, and_true] at * <;> omega) | exact pos_len ‹_›) | exact pos_len ‹_›)
local macro_rules | `(tactic| walk_at "sc mul") => `(tactic| first | exact Or.inr (by decide) | exact Or.inl (by decide) | (unfold CMul; first | omega | (subst_vars; simp +decide only [rng_length, enumL_length, dwn_length, List.length_map, List.length_append, List.length_set, List.length_cons, List.length_nil, List.length_reverse, List.length_zip, List.length_eraseIdx, decide_eq_true_eq, decide_eq_false_iff_not, imin_eq, imax_eq, iabs_eq, Bool.and_eq_true, Bool.or_eq_true, Bool.not_eq_true', srt_length, slc_to, slc_from, List.length_take, List.length_drop, true_and, and_true] at * <;> omega)))
local macro_rules | `(tactic| walk_at "sc div") => `(tactic| first | exact ⟨by decide, by decide⟩ | (refine cdiv_of ?_ ?_ <;> first | omega | (subst_vars; simp +decide only [rng_length, enumL_length, dwn_length, List.length_map, List.length_append, List.length_set, List.length_cons, List.length_nil, List.length_reverse, List.length_zip, List.length_eraseIdx, decide_eq_true_eq, decide_eq_false_iff_not, imin_eq, imax_eq, iabs_eq, Bool.and_eq_true, Bool.or_eq_true, Bool.not_eq_true', srt_length, slc_to, slc_from, List.length_take, List.length_drop, true_and, and_true] at * <;> omega)))
local macro_rules | `(tactic| walk_at "sc size") => `(tactic| first | (rw [sizeLine_eq]; first | omega | (subst_vars; simp +decide only [rng_length, enumL_length, dwn_length, List.length_map, List.length_append, List.length_set, List.length_cons, List.length_nil, List.length_reverse, List.length_zip, List.length_eraseIdx, decide_eq_true_eq, decide_eq_false_iff_not, imin_eq, imax_eq, iabs_eq, Bool.and_eq_true, Bool.or_eq_true, Bool.not_eq_true', srt_length, slc_to, slc_from, List.length_take, List.length_drop, true_and, and_true] at * <;> omega)))
local macro_rules | `(tactic| walk_at "sc small") => `(tactic| first | (unfold small62; first | omega | (subst_vars; simp +decide only [rng_length, enumL_length, dwn_length, List.length_map, List.length_append, List.length_set, List.length_cons, List.length_nil, List.length_reverse, List.length_zip, List.length_eraseIdx, decide_eq_true_eq, decide_eq_false_iff_not, imin_eq, imax_eq, iabs_eq, Bool.and_eq_true, Bool.or_eq_true, Bool.not_eq_true', srt_length, slc_to, slc_from, List.length_take, List.length_drop, true_and, and_true] at * <;> omega)))

def top (i : Nat) : Stmt := PySem.Challenge.pw_wakeorder_k03_no_gaps.main.body.getD i (.Pass ⟨0, 0, 0, 0⟩)
/-! ### the rules, as objects -/
structure Rl where
  own : List (List Od)
  across : Option (List (List Od))
  deriving DecidableEq, Inhabited
def rlP (K : Fg) (r : Rl) : MP := match r.across with
  | none => insP (He.ga K "Rules") [("own", py K (enc r.own))]
  | some b => insP (He.ga K "Pair") [("own", py K (enc r.own)), ("across", py K (enc b))]
/-- what the head tells of the two classes -/
structure RlE (K : Fg) (mg : Str → Option Value) : Prop where
  cR : Cls K (He.ga K "Rules")
  cP : Cls K (He.ga K "Pair")
  nR : NoAttr K (He.ga K "Rules") "own"
  nP : NoAttr K (He.ga K "Pair") "own"
  nA : NoAttr K (He.ga K "Pair") "across"
  gR : mg "Rules" = some (.ref (He.ga K "Rules"))
  gP : mg "Pair" = some (.ref (He.ga K "Pair"))
  mR : Mk K (He.ga K "Rules") (He.ma K (He.ga K "Rules") "__init__")
  mP : Mk K (He.ga K "Pair") (He.ma K (He.ga K "Pair") "__init__")
  sup : CFn K (He.ga K "Rules") (He.ma K (He.ga K "Rules") "__init__") "__init__"
section
variable {X : Cx} {Φ : List SD} {o e : Expr} {es : List Expr} {pos apos p : Pos} {P : MP} {Ps Qs : List MP} {r : Rl}
theorem v_own (E : RlE X.K X.mg) (he : PEv X Φ o (rlP X.K r)) (hb : attributeBase o "own" X.env (eval o X.env) = eval o X.env := by rfl) : PV X Φ (.Attribute o "own" pos) r.own := by
  unfold rlP at he
  cases h : r.across with
  | none => rw [h] at he; exact v_att 0 E.cR E.nR he rfl (show (["own"] : List Str).Nodup by decide +kernel) hb
  | some b => rw [h] at he; exact v_att 0 E.cP E.nP he rfl (show (["own", "across"] : List Str).Nodup by decide +kernel) hb
theorem v_across {b : List (List Od)} (E : RlE X.K X.mg) (h : r.across = some b) (he : PEv X Φ o (rlP X.K r)) (hb : attributeBase o "across" X.env (eval o X.env) = eval o X.env := by rfl) : PV X Φ (.Attribute o "across" pos) b := by
  unfold rlP at he
  rw [h] at he
  exact v_att 1 E.cP E.nA he rfl (show (["own", "across"] : List Str).Nodup by decide +kernel) hb
theorem v_acrossD (E : RlE X.K X.mg) (he : PEv X Φ o (rlP X.K r)) (h : r.across.isSome = true) (hb : attributeBase o "across" X.env (eval o X.env) = eval o X.env := by rfl) : PV X Φ (.Attribute o "across" pos) (r.across.getD []) := by
  cases h2 : r.across with
  | none => rw [h2] at h; cases h
  | some b => exact v_across E h2 he hb
theorem v_rm {A : Type} {argR argP : A → List MP} {preR preP : A → Prop} {resR resP : A → RS} {m : Str} {n : Nat} {CX : CXT} {pl : Sem Bool} (GR : MthG X.prog X.w X.K X.mg X.base CX n (He.ga X.K "Rules") m (spG argR preR resR)) (GP : MthG X.prog X.w X.K X.mg X.base CX n (He.ga X.K "Pair") m (spG argP preP resP))
    (hr : Room n X.A) (hx : Passes CX X E0) (z : A) (hpR : r.across = none → preR z) (hpP : r.across.isSome = true → preP z) (hvR : r.across = none → resR z = .val P) (hvP : r.across.isSome = true → resP z = .val P) (he : PEv X Φ o (rlP X.K r)) (ha : PAs X Φ (e :: es) Qs)
    (hzR : argR z = rlP X.K r :: Qs := by rfl) (hzP : argP z = rlP X.K r :: Qs := by rfl) (hst : (e :: es).all nst = true := by rfl) (hm : (["own", "across"] : List Str).contains m = false := by decide +kernel)
    (ht : eval (.Call (.Attribute o m apos) (e :: es) [] pos) X.env = (do
      let ov ← eval o X.env
      standAt apos.atName
      let (f, first) ← holding [ov] (getMethod ov m pl)
      callWith pos f first (backTo pos (starEach (e :: es) X.env)) (backToKw pos (keywordEach [] X.env))) := by rfl) : PEv X Φ (.Call (.Attribute o m apos) (e :: es) [] pos) P := by
  have h2 : (["own"] : List Str).contains m = false := by
    simp only [List.contains_cons, Bool.or_eq_false_iff] at hm ⊢
    exact ⟨hm.1, rfl⟩
  cases h : r.across with
  | none =>
    have e1 : rlP X.K r = insP (He.ga X.K "Rules") [("own", py X.K (enc r.own))] := by unfold rlP; rw [h]
    rw [e1] at he hzR
    exact v_meth (pl := pl) GR hr hx z (hpR h) (hvR h) he ha hzR h2 hst ht
  | some b =>
    have e1 : rlP X.K r = insP (He.ga X.K "Pair") [("own", py X.K (enc r.own)), ("across", py X.K (enc b))] := by unfold rlP; rw [h]
    rw [e1] at he hzP
    exact v_meth (pl := pl) GP hr hx z (hpP (by rw [h]; rfl)) (hvP (by rw [h]; rfl)) he ha hzP hm hst ht
theorem v_rm0 {A : Type} {argR argP : A → List MP} {preR preP : A → Prop} {resR resP : A → RS} {m : Str} {n : Nat} {CX : CXT} {pl : Sem Bool} (GR : MthG X.prog X.w X.K X.mg X.base CX n (He.ga X.K "Rules") m (spG argR preR resR)) (GP : MthG X.prog X.w X.K X.mg X.base CX n (He.ga X.K "Pair") m (spG argP preP resP))
    (hr : Room n X.A) (hx : Passes CX X E0) (z : A) (hpR : r.across = none → preR z) (hpP : r.across.isSome = true → preP z) (hvR : r.across = none → resR z = .val P) (hvP : r.across.isSome = true → resP z = .val P) (he : PEv X Φ o (rlP X.K r))
    (hzR : argR z = [rlP X.K r] := by rfl) (hzP : argP z = [rlP X.K r] := by rfl) (hm : (["own", "across"] : List Str).contains m = false := by decide +kernel)
    (ht : eval (.Call (.Attribute o m apos) [] [] pos) X.env = (do
      let ov ← eval o X.env
      standAt apos.atName
      let (f, first) ← holding [ov] (getMethod ov m pl)
      callWith pos f first (backTo pos (starEach [] X.env)) (backToKw pos (keywordEach [] X.env))) := by rfl) : PEv X Φ (.Call (.Attribute o m apos) [] [] pos) P := by
  have h2 : (["own"] : List Str).contains m = false := by
    simp only [List.contains_cons, Bool.or_eq_false_iff] at hm ⊢
    exact ⟨hm.1, rfl⟩
  cases h : r.across with
  | none =>
    have e1 : rlP X.K r = insP (He.ga X.K "Rules") [("own", py X.K (enc r.own))] := by unfold rlP; rw [h]
    rw [e1] at he hzR
    exact v_meth0 (pl := pl) GR hr hx z (hpR h) (hvR h) he hzR h2 ht
  | some b =>
    have e1 : rlP X.K r = insP (He.ga X.K "Pair") [("own", py X.K (enc r.own)), ("across", py X.K (enc b))] := by unfold rlP; rw [h]
    rw [e1] at he hzP
    exact v_meth0 (pl := pl) GP hr hx z (hpP (by rw [h]; rfl)) (hvP (by rw [h]; rfl)) he hzP hm ht
theorem v_rm0N {A : Type} {argR argP : A → List MP} {preR preP : A → Prop} {resR resP : A → RS} {m : Str} {n : Nat} {CX : CXT} {pl : Sem Bool} (GR : MthG X.prog X.w X.K X.mg X.base CX n (He.ga X.K "Rules") m (spG argR preR resR)) (GP : MthG X.prog X.w X.K X.mg X.base CX n (He.ga X.K "Pair") m (spG argP preP resP))
    (hr : Room n X.A) (hx : Passes CX X E0) (z : A) (hpR : r.across = none → preR z) (hpP : r.across.isSome = true → preP z) (hvR : r.across = none → resR z = .new Ps) (hvP : r.across.isSome = true → resP z = .new Ps) (he : PEv X Φ o (rlP X.K r))
    (hzR : argR z = [rlP X.K r] := by rfl) (hzP : argP z = [rlP X.K r] := by rfl) (hm : (["own", "across"] : List Str).contains m = false := by decide +kernel)
    (ht : eval (.Call (.Attribute o m apos) [] [] pos) X.env = (do
      let ov ← eval o X.env
      standAt apos.atName
      let (f, first) ← holding [ov] (getMethod ov m pl)
      callWith pos f first (backTo pos (starEach [] X.env)) (backToKw pos (keywordEach [] X.env))) := by rfl) : PEn X Φ (.Call (.Attribute o m apos) [] [] pos) Ps := by
  have h2 : (["own"] : List Str).contains m = false := by
    simp only [List.contains_cons, Bool.or_eq_false_iff] at hm ⊢
    exact ⟨hm.1, rfl⟩
  cases h : r.across with
  | none =>
    have e1 : rlP X.K r = insP (He.ga X.K "Rules") [("own", py X.K (enc r.own))] := by unfold rlP; rw [h]
    rw [e1] at he hzR
    exact v_meth0N (pl := pl) GR hr hx z (hpR h) (hvR h) he hzR h2 ht
  | some b =>
    have e1 : rlP X.K r = insP (He.ga X.K "Pair") [("own", py X.K (enc r.own)), ("across", py X.K (enc b))] := by unfold rlP; rw [h]
    rw [e1] at he hzP
    exact v_meth0N (pl := pl) GP hr hx z (hpP (by rw [h]; rfl)) (hvP (by rw [h]; rfl)) he hzP hm ht
theorem t_false {c : Expr} {k : Bool} (h : PTv X Φ c k) (hk : k = false) : PTv X Φ c false := hk ▸ h
/-- a def read off the class Rules -/
structure CfnG (P : Program) (w : World) (K : Fg) (mg : Str → Option Value) (base : Heap) (CX : CXT) (k : Nat) (m : Str) (sp : Sp) : Prop where
  cf : CFn K (He.ga K "Rules") (He.ma K (He.ga K "Rules") m) m
  g : IniG P w K mg base CX k (He.ma K (He.ga K "Rules") m) sp
theorem v_cfun {A : Type} {argP : A → List MP} {pre : A → Prop} {res : A → RS} {m : Str} {n : Nat} {CX : CXT} {pl : Sem Bool} {cp : Pos} (E : RlE X.K X.mg) (G : CfnG X.prog X.w X.K X.mg X.base CX n m (spG argP pre res)) (hr : Room n X.A) (hx : Passes CX X E0) (z : A) (hp : pre z) (hv : res z = .val P) (ha : PAs X Φ (e :: es) (argP z))
    (hg : Gl X "Rules" := by rfl) (hst : (e :: es).all nst = true := by rfl)
    (ht : eval (.Call (.Attribute (.Name "Rules" cp) m apos) (e :: es) [] pos) X.env = (do
      let ov ← eval (.Name "Rules" cp) X.env
      standAt apos.atName
      let (f, first) ← holding [ov] (getMethod ov m pl)
      callWith pos f first (backTo pos (starEach (e :: es) X.env)) (backToKw pos (keywordEach [] X.env))) := by rfl) : PEv X Φ (.Call (.Attribute (.Name "Rules" cp) m apos) (e :: es) [] pos) P := .mk fun H0 σ F H Q s sl q => by
  obtain ⟨fd, ps, h1, h2, h3⟩ := G.g.ex
  have hst2 := hst
  rw [List.all_cons, Bool.and_eq_true] at hst2
  exact wE_of (pe_cfun (pl := pl) hg E.gR G.cf h1 hr h2 h3 hx paW (by decide) (star_cons hst2.1) (star_plain hst2.2) ht) (ha H0 σ F H _ s sl fun vs F1 H1 g1 p1 => ⟨z, F1, g1.s, p1, hp, by rw [hv]; exact fun v F2 H2 g2 p2 => q v F2 H2 (g1.trans g2) p2⟩)
theorem MthG.up {P : Program} {w : World} {K : Fg} {mg : Str → Option Value} {base : Heap} {CX : CXT} {j k : Nat} {C : Addr} {m : Str} {sp : Sp} (G : MthG P w K mg base CX j C m sp) (h : j ≤ k) : MthG P w K mg base CX k C m sp :=
  let ⟨f, fd, ps, a, b, c, d⟩ := G.ex
  ⟨f, fd, ps, a.mono h, b, c, d⟩
end

section
variable {X : Cx} {Φ : List SD} {o e : Expr} {es : List Expr} {pos apos p : Pos} {P : MP} {Ps Qs : List MP} {r : Rl}
theorem v_rmK {A ρ : Type} [Py ρ] [Inhabited ρ] {argR argP : A → List MP} {mR mP m' : A → M ρ} {m : Str} {n : Nat} {CX : CXT} {pl : Sem Bool} {t : ρ} (GR : MthG X.prog X.w X.K X.mg X.base CX n (He.ga X.K "Rules") m (spG argR (fun z => (mR z).Ok) fun z => .val (py X.K (enc (mR z).get)))) (GP : MthG X.prog X.w X.K X.mg X.base CX n (He.ga X.K "Pair") m (spG argP (fun z => (mP z).Ok) fun z => .val (py X.K (enc (mP z).get))))
    (hr : Room n X.A) (hx : Passes CX X E0) (z : A) (hR : r.across = none → mR z = .ok t) (hP : r.across.isSome = true → mP z = .ok t) (he : PEv X Φ o (rlP X.K r)) (ha : PAs X Φ (e :: es) Qs)
    (hzR : argR z = rlP X.K r :: Qs := by rfl) (hzP : argP z = rlP X.K r :: Qs := by rfl) (hst : (e :: es).all nst = true := by rfl) (hm : (["own", "across"] : List Str).contains m = false := by decide +kernel)
    (ht : eval (.Call (.Attribute o m apos) (e :: es) [] pos) X.env = (do
      let ov ← eval o X.env
      standAt apos.atName
      let (f, first) ← holding [ov] (getMethod ov m pl)
      callWith pos f first (backTo pos (starEach (e :: es) X.env)) (backToKw pos (keywordEach [] X.env))) := by rfl) : PV X Φ (.Call (.Attribute o m apos) (e :: es) [] pos) t :=
  v_rm GR GP hr hx z (fun h => ⟨t, hR h⟩) (fun h => ⟨t, hP h⟩) (fun h => congrArg (fun y => RS.val (py X.K (enc (M.get y)))) (hR h)) (fun h => congrArg (fun y => RS.val (py X.K (enc (M.get y)))) (hP h)) he ha hzR hzP hst hm ht
theorem v_rm0K {A ρ : Type} [Py ρ] [Inhabited ρ] {argR argP : A → List MP} {mR mP m' : A → M ρ} {m : Str} {n : Nat} {CX : CXT} {pl : Sem Bool} {t : ρ} (GR : MthG X.prog X.w X.K X.mg X.base CX n (He.ga X.K "Rules") m (spG argR (fun z => (mR z).Ok) fun z => .val (py X.K (enc (mR z).get)))) (GP : MthG X.prog X.w X.K X.mg X.base CX n (He.ga X.K "Pair") m (spG argP (fun z => (mP z).Ok) fun z => .val (py X.K (enc (mP z).get))))
    (hr : Room n X.A) (hx : Passes CX X E0) (z : A) (hR : r.across = none → mR z = .ok t) (hP : r.across.isSome = true → mP z = .ok t) (he : PEv X Φ o (rlP X.K r))
    (hzR : argR z = [rlP X.K r] := by rfl) (hzP : argP z = [rlP X.K r] := by rfl) (hm : (["own", "across"] : List Str).contains m = false := by decide +kernel)
    (ht : eval (.Call (.Attribute o m apos) [] [] pos) X.env = (do
      let ov ← eval o X.env
      standAt apos.atName
      let (f, first) ← holding [ov] (getMethod ov m pl)
      callWith pos f first (backTo pos (starEach [] X.env)) (backToKw pos (keywordEach [] X.env))) := by rfl) : PV X Φ (.Call (.Attribute o m apos) [] [] pos) t :=
  v_rm0 GR GP hr hx z (fun h => ⟨t, hR h⟩) (fun h => ⟨t, hP h⟩) (fun h => congrArg (fun y => RS.val (py X.K (enc (M.get y)))) (hR h)) (fun h => congrArg (fun y => RS.val (py X.K (enc (M.get y)))) (hP h)) he hzR hzP hm ht
theorem v_rm0NK {A ρ : Type} [Py ρ] {argR argP : A → List MP} {mR mP m' : A → M (List ρ)} {m : Str} {n : Nat} {CX : CXT} {pl : Sem Bool} {t : List ρ} (GR : MthG X.prog X.w X.K X.mg X.base CX n (He.ga X.K "Rules") m (spG argR (fun z => (mR z).Ok) fun z => .new (rps X.K (mR z).get))) (GP : MthG X.prog X.w X.K X.mg X.base CX n (He.ga X.K "Pair") m (spG argP (fun z => (mP z).Ok) fun z => .new (rps X.K (mP z).get)))
    (hr : Room n X.A) (hx : Passes CX X E0) (z : A) (hR : r.across = none → mR z = .ok t) (hP : r.across.isSome = true → mP z = .ok t) (he : PEv X Φ o (rlP X.K r))
    (hzR : argR z = [rlP X.K r] := by rfl) (hzP : argP z = [rlP X.K r] := by rfl) (hm : (["own", "across"] : List Str).contains m = false := by decide +kernel)
    (ht : eval (.Call (.Attribute o m apos) [] [] pos) X.env = (do
      let ov ← eval o X.env
      standAt apos.atName
      let (f, first) ← holding [ov] (getMethod ov m pl)
      callWith pos f first (backTo pos (starEach [] X.env)) (backToKw pos (keywordEach [] X.env))) := by rfl) : PN X Φ (.Call (.Attribute o m apos) [] [] pos) t :=
  v_rm0N GR GP hr hx z (fun h => ⟨t, hR h⟩) (fun h => ⟨t, hP h⟩) (fun h => congrArg (fun y => RS.new (rps X.K (M.get y))) (hR h)) (fun h => congrArg (fun y => RS.new (rps X.K (M.get y))) (hP h)) he hzR hzP hm ht
theorem v_rmX {A ρ : Type} {argR argP : A → List MP} {mR mP : A → M ρ} {T0 : ρ → RS} {t : ρ} {m : Str} {n : Nat} {pl : Sem Bool} (GR : MthG X.prog X.w X.K X.mg X.base (L2.CX X.prog X.w) n (He.ga X.K "Rules") m (spG argR (fun z => mR z ≠ .st) fun z => resM T0 (ER X.K) (mR z))) (GP : MthG X.prog X.w X.K X.mg X.base (L2.CX X.prog X.w) n (He.ga X.K "Pair") m (spG argP (fun z => mP z ≠ .st) fun z => resM T0 (ER X.K) (mP z)))
    (hr : Room n X.A) (z : A) (hR : r.across = none → mR z = .ok t) (hP : r.across.isSome = true → mP z = .ok t) (hT : T0 t = .val P) (he : PEv X Φ o (rlP X.K r)) (ha : PAs X Φ (e :: es) Qs)
    (hzR : argR z = rlP X.K r :: Qs := by rfl) (hzP : argP z = rlP X.K r :: Qs := by rfl) (hst : (e :: es).all nst = true := by rfl) (hm : (["own", "across"] : List Str).contains m = false := by decide +kernel)
    (ht : eval (.Call (.Attribute o m apos) (e :: es) [] pos) X.env = (do
      let ov ← eval o X.env
      standAt apos.atName
      let (f, first) ← holding [ov] (getMethod ov m pl)
      callWith pos f first (backTo pos (starEach (e :: es) X.env)) (backToKw pos (keywordEach [] X.env))) := by rfl) : PEv X Φ (.Call (.Attribute o m apos) (e :: es) [] pos) P :=
  v_rm GR GP hr passL z (fun h => by rw [hR h]; exact fun z => (nomatch z)) (fun h => by rw [hP h]; exact fun z => (nomatch z)) (fun h => by rw [hR h]; exact hT) (fun h => by rw [hP h]; exact hT) he ha hzR hzP hst hm ht
theorem v_cfunK {A ρ : Type} [Py ρ] [Inhabited ρ] {argP : A → List MP} {mm : A → M ρ} {m : Str} {n : Nat} {CX : CXT} {pl : Sem Bool} {cp : Pos} {t : ρ} (E : RlE X.K X.mg) (G : CfnG X.prog X.w X.K X.mg X.base CX n m (spG argP (fun z => (mm z).Ok) fun z => .val (py X.K (enc (mm z).get)))) (hr : Room n X.A) (hx : Passes CX X E0) (z : A) (ht1 : mm z = .ok t) (ha : PAs X Φ (e :: es) (argP z))
    (hg : Gl X "Rules" := by rfl) (hst : (e :: es).all nst = true := by rfl)
    (ht : eval (.Call (.Attribute (.Name "Rules" cp) m apos) (e :: es) [] pos) X.env = (do
      let ov ← eval (.Name "Rules" cp) X.env
      standAt apos.atName
      let (f, first) ← holding [ov] (getMethod ov m pl)
      callWith pos f first (backTo pos (starEach (e :: es) X.env)) (backToKw pos (keywordEach [] X.env))) := by rfl) : PV X Φ (.Call (.Attribute (.Name "Rules" cp) m apos) (e :: es) [] pos) t :=
  v_cfun E G hr hx z ⟨t, ht1⟩ (congrArg (fun y => RS.val (py X.K (enc (M.get y)))) ht1) ha hg hst ht
end
structure Env0 (K : Fg) (mg : Str → Option Value) : Prop where
  B : Blt mg
  R : RlE K mg
  xg_NoRules : mg "NoRules" = some (.ref (He.ga K "NoRules"))
  xg_StripError : mg "StripError" = some (.ref (He.ga K "StripError"))
  xg_NoPlace : mg "NoPlace" = some (.ref (He.ga K "NoPlace"))
  xg_NoPlan : mg "NoPlan" = some (.ref (He.ga K "NoPlan"))
  xg_NoRow : mg "NoRow" = some (.ref (He.ga K "NoRow"))
  xg_NoSheet : mg "NoSheet" = some (.ref (He.ga K "NoSheet"))
  xg_NoTime : mg "NoTime" = some (.ref (He.ga K "NoTime"))
  xg_NotFree : mg "NotFree" = some (.ref (He.ga K "NotFree"))
  xg_TooMany : mg "TooMany" = some (.ref (He.ga K "TooMany"))
  xb_NoRules : XcB K "NoRules"
  xp_NoRules : PySem.W.excIn K (He.ga K "NoRules") He.veBase "ValueError.__new__" = true
  is_NoRules_StripError : PySem.W.kitOne K (.ref (He.ga K "NoRules")) (.ref (He.ga K "StripError")) = some true
  isV_NoRules : PySem.W.kitOne K (.ref (He.ga K "NoRules")) (.type "ValueError") = some true
  is_NoRules_NoPlace : PySem.W.kitOne K (.ref (He.ga K "NoRules")) (.ref (He.ga K "NoPlace")) = some false
  is_NoRules_NoPlan : PySem.W.kitOne K (.ref (He.ga K "NoRules")) (.ref (He.ga K "NoPlan")) = some false
  is_NoRules_NoRow : PySem.W.kitOne K (.ref (He.ga K "NoRules")) (.ref (He.ga K "NoRow")) = some false
  is_NoRules_NoSheet : PySem.W.kitOne K (.ref (He.ga K "NoRules")) (.ref (He.ga K "NoSheet")) = some false
  is_NoRules_NoTime : PySem.W.kitOne K (.ref (He.ga K "NoRules")) (.ref (He.ga K "NoTime")) = some false
  is_NoRules_NotFree : PySem.W.kitOne K (.ref (He.ga K "NoRules")) (.ref (He.ga K "NotFree")) = some false
  is_NoRules_TooMany : PySem.W.kitOne K (.ref (He.ga K "NoRules")) (.ref (He.ga K "TooMany")) = some false
  exm_NoRules_NoRules : PySem.W.exmOne K (.ref (He.ga K "NoRules")) (.ref (He.ga K "NoRules")) = some true
  i_MOST_GAP : ∃ t, mg "MOST_GAP" = some (.int 1000000 t)
  i_MOST_KINDS : ∃ t, mg "MOST_KINDS" = some (.int 6 t)
abbrev s_is_gap : Stmt := top 14
noncomputable def m_is_gap (thing : Od) : M Bool :=
  asr (∀ (h1 : thing.isInt = true), ∀ (h2 : (!thing.isBool) = true), thing.isZ = true) <|
  (.ok ((thing.isInt && ((!thing.isBool) && (decide ((0 : Int) ≤ thing.z) && decide (thing.z ≤ (1000000 : Int)))))))
def sp_is_gap (K : Fg) : Sp := spG (A := Od) (fun z => [py K (enc (z : Od))]) (fun z => M.Ok (m_is_gap z)) (fun z => .val (py K (enc (m_is_gap z).get)))
theorem sc_is_gap : FnScope ["thing"] ["thing"] (defScope s_is_gap) := ⟨rfl, rfl, rfl, by decide +kernel, rfl, by decide +kernel, by decide +kernel⟩
theorem ok_is_gap {P : Program} {w : World} {K : Fg} {mg : Str → Option Value} {base : Heap} {f : Addr} {fd : FuncData} (F : DefOf K "is_gap" "is_gap" s_is_gap f fd) (hm : mg "is_gap" = some (.ref f)) (E0 : Env0 K mg)  :
    FnG P w K mg base CX0 1 "is_gap" (sp_is_gap K) := by
  have B := E0.B
  obtain ⟨t_MOST_GAP, i_MOST_GAP⟩ := E0.i_MOST_GAP
  exact fn_mk F (def_okK (Ar := Od) (T0 := fun (r : Bool) => .val (py K (enc r))) (m := fun z => m_is_gap z) F sc_is_gap 0 (fun _ => rfl) rfl (fun _ => rfl) fun cdv A outer s H E hr thing => by
    show HM (S := Unit) (bx P w K mg base ["thing"] "is_gap" s_is_gap f cdv A outer s H E) _ Ctl.rt [defBody s_is_gap] (enter [py K (enc (thing : Od))] 0) _ (TE (fun (r : Bool) => .val (py K (enc r))) noER) (m_is_gap thing)
    exact (k_asr fun a1 => (k_retTV (v_and (v_odIsInt B (v_im 0)) (fun h1 => (v_and (v_notV (v_odIsBool B (v_im 0))) (fun h2 => (v_one (v_chain op_le op_le v_int (v_odZ (a1 h1 h2) (v_im 0)) (fun h3 => (v_gint rfl i_MOST_GAP))))))))))) hm (fun _ _ _ _ _ _ us hl => match us, hl with | [_], _ => rfl)
abbrev s_rows_copied : Stmt := top 16
noncomputable def m_rows_copied (rows : List (List Od)) : M (List (List Od)) :=
  asr (rows.length ≤ sizeLine) <|
  (.ok ((rows.map fun (row1 : List Od) => row1)))
def sp_rows_copied (K : Fg) : Sp := spG (A := (List (List Od))) (fun z => [py K (enc (z : List (List Od)))]) (fun z => M.Ok (m_rows_copied z)) (fun z => .new (rps K (m_rows_copied z).get))
theorem sc_rows_copied : FnScope ["rows", "row"] ["rows"] (defScope s_rows_copied) := ⟨rfl, rfl, rfl, by decide +kernel, rfl, by decide +kernel, by decide +kernel⟩
theorem ok_rows_copied {P : Program} {w : World} {K : Fg} {mg : Str → Option Value} {base : Heap} {f : Addr} {fd : FuncData} (F : DefOf K "rows_copied" "rows_copied" s_rows_copied f fd) (hm : mg "rows_copied" = some (.ref f)) (E0 : Env0 K mg)  :
    FnG P w K mg base CX0 1 "rows_copied" (sp_rows_copied K) := by
  have B := E0.B
  exact fn_mk F (def_okK (Ar := (List (List Od))) (T0 := fun (r : List (List Od)) => .new (rps K r)) (m := fun z => m_rows_copied z) F sc_rows_copied 1 (fun _ => rfl) rfl (fun _ => rfl) fun cdv A outer s H E hr rows => by
    show HM (S := Unit) (bx P w K mg base ["rows", "row"] "rows_copied" s_rows_copied f cdv A outer s H E) _ Ctl.rt [defBody s_rows_copied] (enter [py K (enc (rows : List (List Od)))] 1) _ (TE (fun (r : List (List Od)) => .new (rps K r)) noER) (m_rows_copied rows)
    exact (k_asr fun a1 => (k_retN (v_lc [("row", 1)] (fun (row1 : List Od) => [(1, sI K (row1 : List Od))]) rfl sc_rows_copied.nd (blkOk_by rfl) (i_list (v_im 0)) a1 (fun row1 _ _ _ _ _ => (g_name 1 sc_rows_copied.nd)) (us_in fun _ => rfl) (fun row1 in_row1 _ _ _ _ _ => (PN.v (v_listOf B (PK.l (PV.xk (v_im 1)))))))))) hm (fun _ _ _ _ _ _ us hl => match us, hl with | [_], _ => rfl)
abbrev s_Rules_many_kinds : Stmt := inClass (top 17) 1
noncomputable def m_Rules_many_kinds (self : Rl) : M Int :=
  (.ok ((self.own.length : Int)))
def sp_Rules_many_kinds (K : Fg) : Sp := spG (A := Rl) (fun z => [rlP K z]) (fun z => M.Ok (m_Rules_many_kinds z)) (fun z => .val (py K (enc (m_Rules_many_kinds z).get)))
theorem sc_Rules_many_kinds : FnScope ["self"] ["self"] (defScope s_Rules_many_kinds) := ⟨rfl, rfl, rfl, by decide +kernel, rfl, by decide +kernel, by decide +kernel⟩
theorem ok_Rules_many_kinds {P : Program} {w : World} {K : Fg} {mg : Str → Option Value} {base : Heap} {f : Addr} {fd : FuncData} (F : DefOf K "many_kinds" "Rules.many_kinds" s_Rules_many_kinds f fd) (E0 : Env0 K mg)  :
    FnOk P w K mg base CX0 1 f fd ["self"] (sp_Rules_many_kinds K) := by
  have B := E0.B
  exact def_okK (Ar := Rl) (T0 := fun (r : Int) => .val (py K (enc r))) (m := fun z => m_Rules_many_kinds z) F sc_Rules_many_kinds 0 (fun _ => rfl) rfl (fun _ => rfl) fun cdv A outer s H E hr self => by
    show HM (S := Unit) (bx P w K mg base ["self"] "Rules.many_kinds" s_Rules_many_kinds f cdv A outer s H E) _ Ctl.rt [defBody s_Rules_many_kinds] (enter [rlP K self] 0) _ (TE (fun (r : Int) => .val (py K (enc r))) noER) (m_Rules_many_kinds self)
    exact (k_retTV (v_len B (PK.l (PV.xk (v_own E0.R (v_im 0))))))
abbrev s_L_cell_at : Stmt := top 20
noncomputable def m_L_cell_at (script : List Int) (k : Int) : M Int :=
  cond ((decide (k < (script.length : Int))))
  (asr (0 ≤ k ∧ k < script.length) <|
  (.ok ((ix script k))))
  ((.ok ((0 : Int))))
def sp_L_cell_at (K : Fg) : Sp := spG (A := (List Int) × Int) (fun z => [scrP K z.1, py K (enc (z.2 : Int))]) (fun z => M.Ok (m_L_cell_at z.1 z.2)) (fun z => .val (py K (enc (m_L_cell_at z.1 z.2).get)))
theorem sc_L_cell_at : FnScope ["_law_script", "_law_k"] ["_law_script", "_law_k"] (defScope s_L_cell_at) := ⟨rfl, rfl, rfl, by decide +kernel, rfl, by decide +kernel, by decide +kernel⟩
theorem ok_L_cell_at {P : Program} {w : World} {K : Fg} {mg : Str → Option Value} {base : Heap} {f : Addr} {fd : FuncData} (F : DefOf K "_law_cell_at" "_law_cell_at" s_L_cell_at f fd) (hm : mg "_law_cell_at" = some (.ref f)) (E0 : Env0 K mg)  :
    FnG P w K mg base CX0 1 "_law_cell_at" (sp_L_cell_at K) := by
  have B := E0.B
  exact fn_mk F (def_okK (Ar := (List Int) × Int) (T0 := fun (r : Int) => .val (py K (enc r))) (m := fun z => m_L_cell_at z.1 z.2) F sc_L_cell_at 0 (fun _ => rfl) rfl (fun _ => rfl) fun cdv A outer s H E hr z => by
    obtain ⟨script, k⟩ := z
    show HM (S := Unit) (bx P w K mg base ["_law_script", "_law_k"] "_law_cell_at" s_L_cell_at f cdv A outer s H E) _ Ctl.rt [defBody s_L_cell_at] (enter [scrP K script, py K (enc (k : Int))] 0) _ (TE (fun (r : Int) => .val (py K (enc r))) noER) (m_L_cell_at script k)
    exact (k_if (t_lt (v_im 1) (v_len B (scr_l (v_im 0)))) (fun h1 => (k_asr fun a1 => (k_retTV (v_ix (scr_l (v_im 0)) (v_im 1) a1)))) (fun h1 => (k_end (k_retTV v_int))))) hm (fun _ _ _ _ _ _ us hl => match us, hl with | [_, _], _ => rfl)
abbrev s_L_odd : Stmt := top 22
noncomputable def m_L_odd (cell : Int) : M Od :=
  bindV ((cell % (1000000000000000000000000000000000000000000000000000000000000 : Int))) fun (number1 : Int) =>
  bindV ([(Od.i ((-(1 : Int)))), (Od.i (((1000000 : Int) + (1 : Int)))), (Od.i (((-(1 : Int)) - number1))), (Od.i ((((1000000 : Int) + (1 : Int)) + number1))), (Od.b true), (Od.b false), Od.n, (Od.t "3"), (Od.t ""), (Od.l ([(1 : Int)])), (Od.u ((Tup.mk [(1 : Int)]))), Od.d]) fun (some2 : List Od) =>
  asr (0 ≤ ((number1 / (6 : Int)) % (12 : Int)) ∧ ((number1 / (6 : Int)) % (12 : Int)) < some2.length) <|
  (.ok ((ix some2 (((number1 / (6 : Int)) % (12 : Int))))))
def sp_L_odd (K : Fg) : Sp := spG (A := Int) (fun z => [py K (enc (z : Int))]) (fun z => M.Ok (m_L_odd z)) (fun z => .val (py K (enc (m_L_odd z).get)))
theorem sc_L_odd : FnScope ["_law_cell", "_law_number", "_law_some"] ["_law_cell"] (defScope s_L_odd) := ⟨rfl, rfl, rfl, by decide +kernel, rfl, by decide +kernel, by decide +kernel⟩
theorem ok_L_odd {P : Program} {w : World} {K : Fg} {mg : Str → Option Value} {base : Heap} {f : Addr} {fd : FuncData} (F : DefOf K "_law_odd" "_law_odd" s_L_odd f fd) (hm : mg "_law_odd" = some (.ref f)) (E0 : Env0 K mg)  :
    FnG P w K mg base CX0 1 "_law_odd" (sp_L_odd K) := by
  have B := E0.B
  exact fn_mk F (def_okK (Ar := Int) (T0 := fun (r : Od) => .val (py K (enc r))) (m := fun z => m_L_odd z) F sc_L_odd 2 (fun _ => rfl) rfl (fun _ => rfl) fun cdv A outer s H E hr cell => by
    show HM (S := Unit) (bx P w K mg base ["_law_cell", "_law_number", "_law_some"] "_law_odd" s_L_odd f cdv A outer s H E) _ Ctl.rt [defBody s_L_odd] (enter [py K (enc (cell : Int))] 2) _ (TE (fun (r : Od) => .val (py K (enc r))) noER) (m_L_odd cell)
    exact (k_C (fun c q => h_setC 1 sc_L_odd.nd (v_mod (v_im 0) (v_powC (n := 1000000000000000000000000000000000000000000000000000000000000) v_int v_int) (by decide)) q) (fun number1 e_number1 => (k_C (fun c q => h_setC 2 sc_L_odd.nd (PN.v (v_list (as_cons (v_odI (v_neg v_int)) (as_cons (v_odI (v_add (v_powC (n := 1000000) v_int v_int) v_int)) (as_cons (v_odI (v_sub (v_neg v_int) (v_im 1))) (as_cons (v_odI (v_add (v_add (v_powC (n := 1000000) v_int v_int) v_int) (v_im 1))) (as_cons (v_odB v_bl) (as_cons (v_odB v_bl) (as_cons (v_odN v_non) (as_cons v_odT (as_cons v_odT (as_cons (v_odL (PN.v (v_list (as_cons v_int as_nil)))) (as_cons (v_odU (v_tup (as_cons v_int as_nil))) (as_cons v_odD as_nil)))))))))))))) q) (fun some2 e_some2 => (k_asr fun a1 => (k_retTV (v_ix (PK.l (PV.xk (v_im 2))) (v_mod (v_div (v_im 1) v_int (⟨by decide, by decide⟩)) v_int (by decide)) a1)))))))) hm (fun _ _ _ _ _ _ us hl => match us, hl with | [_], _ => rfl)
abbrev s_L_good : Stmt := top 24
noncomputable def m_L_good_l1  (vs3 : Unit) (gap4 : Od) : M (Ctl Unit Bool) :=
  asr (∀ (h4 : (!gap4.isInt) = false), ∀ (h5 : gap4.isBool = false), gap4.isZ = true) <|
  asr (∀ (h4 : (!gap4.isInt) = false), ∀ (h5 : gap4.isBool = false), ∀ (h6 : (decide (gap4.z < (0 : Int))) = false), gap4.isZ = true) <|
  cond (((!gap4.isInt) || (gap4.isBool || ((decide (gap4.z < (0 : Int))) || (decide ((1000000 : Int) < gap4.z))))))
  ((.ok (.rt false)))
  ((.ok (.nx (()))))
noncomputable def m_L_good_l2 (gaps_here : List (List Od)) (vs1 : Unit) (row2 : List Od) : M (Ctl Unit Bool) :=
  cond ((!decide ((row2.length : Int) = (gaps_here.length : Int))))
  ((.ok (.rt false)))
  (forM' (S := Unit) m_L_good_l1 (()) row2 (fun (r : Bool) => .rt r) fun (vs5 : Unit) =>
  (.ok (.nx (()))))
noncomputable def m_L_good (gaps_here : List (List Od)) : M Bool :=
  cond ((!(decide ((1 : Int) ≤ (gaps_here.length : Int)) && decide ((gaps_here.length : Int) ≤ (6 : Int)))))
  ((.ok false))
  (forM' (S := Unit) (m_L_good_l2 gaps_here) (()) gaps_here (fun (r : Bool) => r) fun (vs6 : Unit) =>
  (.ok true))
def sp_L_good (K : Fg) : Sp := spG (A := (List (List Od))) (fun z => [py K (enc (z : List (List Od)))]) (fun z => M.Ok (m_L_good z)) (fun z => .val (py K (enc (m_L_good z).get)))
theorem sc_L_good : FnScope ["_law_gaps_here", "_law_row", "_law_gap"] ["_law_gaps_here"] (defScope s_L_good) := ⟨rfl, rfl, rfl, by decide +kernel, rfl, by decide +kernel, by decide +kernel⟩
theorem ok_L_good {P : Program} {w : World} {K : Fg} {mg : Str → Option Value} {base : Heap} {f : Addr} {fd : FuncData} (F : DefOf K "_law_good" "_law_good" s_L_good f fd) (hm : mg "_law_good" = some (.ref f)) (E0 : Env0 K mg)  :
    FnG P w K mg base CX0 1 "_law_good" (sp_L_good K) := by
  have B := E0.B
  exact fn_mk F (def_okK (Ar := (List (List Od))) (T0 := fun (r : Bool) => .val (py K (enc r))) (m := fun z => m_L_good z) F sc_L_good 2 (fun _ => rfl) rfl (fun _ => rfl) fun cdv A outer s H E hr gaps_here => by
    show HM (S := Unit) (bx P w K mg base ["_law_gaps_here", "_law_row", "_law_gap"] "_law_good" s_L_good f cdv A outer s H E) _ Ctl.rt [defBody s_L_good] (enter [py K (enc (gaps_here : List (List Od)))] 2) _ (TE (fun (r : Bool) => .val (py K (enc r))) noER) (m_L_good gaps_here)
    exact (k_if (v_not (t_chain op_le op_le v_int (v_len B (PK.l (PV.xk (v_im 0)))) (fun h1 => v_int))) (fun h2 => (k_retTV v_bl)) (fun h2 => (k_end (k_for (fun (vs1 : Unit) => [sI K (gaps_here : List (List Od)), .un, .un]) (fun (row2 : List Od) => [(1, sI K (row2 : List Od))]) PassesOwn.never rfl (i_list (v_im 0)) (fun row2 => (g_name 1 sc_L_good.nd)) (.keep (.keep (.keep .nil))) (fun vs1 row2 => (k_if (t_ne hr.units (by decide) (PV.d (v_len B (PK.l (PV.xk (v_im 1))))) (PV.d (v_len B (PK.l (PV.xk (v_im 0)))))) (fun h3 => (k_retTC v_bl)) (fun h3 => (k_end (k_for (fun (vs3 : Unit) => [sI K (gaps_here : List (List Od)), sI K (row2 : List Od), .un]) (fun (gap4 : Od) => [(2, sI K (gap4 : Od))]) PassesOwn.never rfl (i_list (v_im 1)) (fun gap4 => (g_name 2 sc_L_good.nd)) (.keep (.keep (.keep .nil))) (fun vs3 gap4 => (k_asr fun a1 => (k_asr fun a2 => (k_if (PWv.t (w_or (v_not (t_val (v_odIsInt B (v_im 2)))) (fun h4 => (w_or (t_val (v_odIsBool B (v_im 2))) (fun h5 => (w_or (t_lt (v_odZ (a1 h4 h5) (v_im 2)) v_int) (fun h6 => (w_or1 (t_gt (v_odZ (a2 h4 h5 h6) (v_im 2)) (v_powC (n := 1000000) v_int v_int)))))))))) (fun h7 => (k_retTC v_bl)) (fun h7 => (k_end (k_end (k_nilC (.keep (.keep (.drop .nil))))))))))) (fun vs5 => (k_end (k_nilC (.keep (.drop (.keep .nil))))))))))) (fun vs6 => (k_retTV v_bl))))))) hm (fun _ _ _ _ _ _ us hl => match us, hl with | [_], _ => rfl)
abbrev s_Rules_gap_rows : Stmt := inClass (top 17) 4
noncomputable def m_Rules_gap_rows (self : Rl) : M (List (List Od)) :=
  bindO ((m_rows_copied self.own)) fun (rows_copied1 : List (List Od)) =>
  (.ok rows_copied1)
def sp_Rules_gap_rows (K : Fg) : Sp := spG (A := Rl) (fun z => [rlP K z]) (fun z => M.Ok (m_Rules_gap_rows z)) (fun z => .new (rps K (m_Rules_gap_rows z).get))
theorem sc_Rules_gap_rows : FnScope ["self"] ["self"] (defScope s_Rules_gap_rows) := ⟨rfl, rfl, rfl, by decide +kernel, rfl, by decide +kernel, by decide +kernel⟩
theorem ok_Rules_gap_rows {P : Program} {w : World} {K : Fg} {mg : Str → Option Value} {base : Heap} {f : Addr} {fd : FuncData} (F : DefOf K "gap_rows" "Rules.gap_rows" s_Rules_gap_rows f fd) (E0 : Env0 K mg) (G_rows_copied : FnG P w K mg base CX0 1 "rows_copied" (sp_rows_copied K)) :
    FnOk P w K mg base CX0 2 f fd ["self"] (sp_Rules_gap_rows K) := by
  have B := E0.B
  exact def_okK (Ar := Rl) (T0 := fun (r : List (List Od)) => .new (rps K r)) (m := fun z => m_Rules_gap_rows z) F sc_Rules_gap_rows 0 (fun _ => rfl) rfl (fun _ => rfl) fun cdv A outer s H E hr self => by
    show HM (S := Unit) (bx P w K mg base ["self"] "Rules.gap_rows" s_Rules_gap_rows f cdv A outer s H E) _ Ctl.rt [defBody s_Rules_gap_rows] (enter [rlP K self] 0) _ (TE (fun (r : List (List Od)) => .new (rps K r)) noER) (m_Rules_gap_rows self)
    exact (k_bindO fun rows_copied1 h_rows_copied1 => (k_retN (v_callKN (t := rows_copied1) G_rows_copied (hr.mono (by decide)) pass0 self.own h_rows_copied1 (as_cons (v_own E0.R (v_im 0)) as_nil))))
abbrev s_L_gaps : Stmt := top 21
noncomputable def m_L_gaps_l1 (script : List Int) (many2 : Int) (vs4 : (List (List Od))) (va5 : Int) : M ((List (List Od))) :=
  asr (((rng 0 many2)).length ≤ sizeLine) <|
  asr (∀ (vb6 : Int), ∀ (in_vb6 : vb6 ∈ (rng 0 many2)), CMul many2 va5) <|
  asr (∀ (vb6 : Int), ∀ (in_vb6 : vb6 ∈ (rng 0 many2)), M.Ok ((m_L_cell_at script ((((3 : Int) + (many2 * va5)) + vb6))))) <|
  asr (∀ (vb6 : Int), ∀ (in_vb6 : vb6 ∈ (rng 0 many2)), CMul va5 vb6) <|
  asr (∀ (vb6 : Int), ∀ (in_vb6 : vb6 ∈ (rng 0 many2)), 0 < ((1000000 : Int) + (1 : Int))) <|
  asr (vs4.length < sizeLine) <|
  bindV ((vs4 ++ [(((((rng 0 many2)).map fun (vb6 : Int) => ((((m_L_cell_at script ((((3 : Int) + (many2 * va5)) + vb6)))).get + (va5 * vb6)) % ((1000000 : Int) + (1 : Int))))).map Od.i)])) fun (rows7 : List (List Od)) =>
  (.ok rows7)
noncomputable def m_L_gaps (script : List Int) : M (List (List Od)) :=
  bindO ((m_L_cell_at script ((0 : Int)))) fun (cell_at1 : Int) =>
  bindV (((1 : Int) + (cell_at1 % (6 : Int)))) fun (many2 : Int) =>
  bindV ([]) fun (rows3 : List (List Od)) =>
  asr (small62 many2) <|
  bindM (foldM' (m_L_gaps_l1 script many2) rows3 ((rng 0 many2))) fun (vs8 : (List (List Od))) =>
  (.ok vs8)
def sp_L_gaps (K : Fg) : Sp := spG (A := (List Int)) (fun z => [scrP K z]) (fun z => M.Ok (m_L_gaps z)) (fun z => .new (rps K (m_L_gaps z).get))
theorem sc_L_gaps : FnScope ["_law_script", "_law_many", "_law_rows", "_law_a", "_law_b"] ["_law_script"] (defScope s_L_gaps) := ⟨rfl, rfl, rfl, by decide +kernel, rfl, by decide +kernel, by decide +kernel⟩
theorem ok_L_gaps {P : Program} {w : World} {K : Fg} {mg : Str → Option Value} {base : Heap} {f : Addr} {fd : FuncData} (F : DefOf K "_law_gaps" "_law_gaps" s_L_gaps f fd) (hm : mg "_law_gaps" = some (.ref f)) (E0 : Env0 K mg) (G__law_cell_at : FnG P w K mg base CX0 1 "_law_cell_at" (sp_L_cell_at K)) :
    FnG P w K mg base CX0 2 "_law_gaps" (sp_L_gaps K) := by
  have B := E0.B
  exact fn_mk F (def_okK (Ar := (List Int)) (T0 := fun (r : List (List Od)) => .new (rps K r)) (m := fun z => m_L_gaps z) F sc_L_gaps 4 (fun _ => rfl) rfl (fun _ => rfl) fun cdv A outer s H E hr script => by
    show HM (S := Unit) (bx P w K mg base ["_law_script", "_law_many", "_law_rows", "_law_a", "_law_b"] "_law_gaps" s_L_gaps f cdv A outer s H E) _ Ctl.rt [defBody s_L_gaps] (enter [scrP K script] 4) _ (TE (fun (r : List (List Od)) => .new (rps K r)) noER) (m_L_gaps script)
    exact (k_bindO fun cell_at1 h_cell_at1 => (k_C (fun c q => h_setC 1 sc_L_gaps.nd (v_add v_int (v_mod (v_callK (t := cell_at1) G__law_cell_at (hr.mono (by decide)) pass0 (script, (0 : Int)) h_cell_at1 (as_cons (v_im 0) (as_cons v_int as_nil))) v_int (by decide))) q) (fun many2 e_many2 => (k_C (fun c q => h_ownC 2 sc_L_gaps.nd (v_list as_nil) q) (fun rows3 e_rows3 => (k_asr fun a1 => (k_fold (fun (vs4 : (List (List Od))) => [.im (scrP K script), sI K (many2 : Int), sO K (vs4 : List (List Od)), .un, .un]) (fun (va5 : Int) => [(3, sI K (va5 : Int))]) PassesOwn.never rfl (i_range1 B (v_im 1) a1) (fun va5 => (g_name 3 sc_L_gaps.nd)) (.keep (.keep (.keep (.keep (.keep .nil))))) (fun vs4 va5 => (k_asr fun a2 => (k_asr fun a3 => (k_asr fun a4 => (k_asr fun a5 => (k_asr fun a6 => (k_asr fun a7 => (k_C (fun c q => h_appC 2 (PN.v (n_cv cv_od (v_lc [("_law_b", 4)] (fun (vb6 : Int) => [(4, sI K (vb6 : Int))]) rfl sc_L_gaps.nd (blkOk_by rfl) (i_range1 B (v_im 1) a1) a2 (fun vb6 _ _ _ _ _ => (g_name 4 sc_L_gaps.nd)) (us_in fun _ => rfl) (fun vb6 in_vb6 _ _ _ _ _ => (v_mod (v_add (v_callK (t := (((m_L_cell_at script ((((3 : Int) + (many2 * va5)) + vb6)))).get)) G__law_cell_at (hr.mono (by decide)) pass0 (script, (((3 : Int) + (many2 * va5)) + vb6)) (M.Ok.get (a4 vb6 in_vb6)) (as_cons (v_im 0) (as_cons (v_add (v_add v_int (v_mul (v_im 1) (v_im 3) (a3 vb6 in_vb6))) (v_im 4)) as_nil))) (v_mul (v_im 3) (v_im 4) (a5 vb6 in_vb6))) (v_add (v_powC (n := 1000000) v_int v_int) v_int) (a6 vb6 in_vb6)))))) a7 q) (fun rows7 e_rows7 => (k_end (k_nilS (.keep (.keep (.keep (.drop (.keep .nil)))))))))))))))) (fun vs8 => (k_retOw 2)))))))))) hm (fun _ _ _ _ _ _ us hl => match us, hl with | [_], _ => rfl)
abbrev s_L_spoilt : Stmt := top 23
noncomputable def m_L_spoilt (gaps_here : List (List Od)) (cell : Int) : M (List (List Od)) :=
  bindV ((cell % (1000000000000000000000000000000000000000000000000000000000000 : Int))) fun (number1 : Int) =>
  asr (0 < (gaps_here.length : Int)) <|
  bindV (((number1 / (64 : Int)) % (gaps_here.length : Int))) fun (at2 : Int) =>
  asr (0 ≤ at2 ∧ at2 < gaps_here.length) <|
  asr (0 < ((((ix gaps_here at2)).length : Int) + (1 : Int))) <|
  bindV (((number1 / (512 : Int)) % ((((ix gaps_here at2)).length : Int) + (1 : Int)))) fun (spot3 : Int) =>
  bindV ((ix gaps_here at2)) fun (row4 : List Od) =>
  cond ((decide ((number1 % (8 : Int)) = (0 : Int))))
  ((.ok ([])))
  (cond ((decide ((number1 % (8 : Int)) = (1 : Int))))
  (bindV (((7 : Int) + ((number1 / (8 : Int)) % (3 : Int)))) fun (many5 : Int) =>
  asr (small62 many5) <|
  asr (((rng 0 many5)).length ≤ sizeLine) <|
  asr (∀ (vk6 : Int), ∀ (in_vk6 : vk6 ∈ (rng 0 many5)), -(2 ^ 63) ≤ many5 ∧ many5 < 2 ^ 63) <|
  asr (∀ (vk6 : Int), ∀ (in_vk6 : vk6 ∈ (rng 0 many5)), ([(0 : Int)]).length * many5.toNat ≤ sizeLine) <|
  (.ok ((((((rng 0 many5)).map fun (vk6 : Int) => (lrep [(0 : Int)] many5))).map fun l_ => l_.map Od.i))))
  (cond ((decide ((number1 % (8 : Int)) = (2 : Int))))
  (asr (((slc gaps_here none (some at2))).length + ((slc gaps_here (some ((at2 + (1 : Int)))) none)).length ≤ sizeLine) <|
  (.ok (((slc gaps_here none (some at2)) ++ (slc gaps_here (some ((at2 + (1 : Int)))) none)))))
  (cond ((decide ((number1 % (8 : Int)) = (3 : Int))))
  (asr (((slc gaps_here none (some at2))).length + ((slc gaps_here (some at2) (some ((at2 + (1 : Int)))))).length ≤ sizeLine) <|
  asr ((((slc gaps_here none (some at2)) ++ (slc gaps_here (some at2) (some ((at2 + (1 : Int))))))).length + ((slc gaps_here (some at2) none)).length ≤ sizeLine) <|
  (.ok ((((slc gaps_here none (some at2)) ++ (slc gaps_here (some at2) (some ((at2 + (1 : Int)))))) ++ (slc gaps_here (some at2) none)))))
  (bindM (cond ((decide ((number1 % (8 : Int)) = (4 : Int)))) (asr (((slc row4 none (some spot3))).length + ((slc row4 (some ((spot3 + (1 : Int)))) none)).length ≤ sizeLine) <|
  bindV (((slc row4 none (some spot3)) ++ (slc row4 (some ((spot3 + (1 : Int)))) none))) fun (row8 : List Od) =>
  (.ok row8)) ((.ok row4))) fun (vs7 : (List Od)) =>
  bindM (cond ((decide ((number1 % (8 : Int)) = (5 : Int)))) (asr (((slc vs7 none (some spot3))).length + ((([((number1 / (8 : Int)) % (10 : Int))]).map Od.i)).length ≤ sizeLine) <|
  asr ((((slc vs7 none (some spot3)) ++ (([((number1 / (8 : Int)) % (10 : Int))]).map Od.i))).length + ((slc vs7 (some spot3) none)).length ≤ sizeLine) <|
  bindV ((((slc vs7 none (some spot3)) ++ (([((number1 / (8 : Int)) % (10 : Int))]).map Od.i)) ++ (slc vs7 (some spot3) none))) fun (row10 : List Od) =>
  (.ok row10)) ((.ok vs7))) fun (vs9 : (List Od)) =>
  bindM (cond ((decide ((5 : Int) < (number1 % (8 : Int))))) (bindO ((m_L_odd ((number1 / (8 : Int))))) fun (odd12 : Od) =>
  asr (((slc vs9 none (some spot3))).length + ([odd12]).length ≤ sizeLine) <|
  asr ((((slc vs9 none (some spot3)) ++ [odd12])).length + ((slc vs9 (some ((spot3 + (1 : Int)))) none)).length ≤ sizeLine) <|
  bindV ((((slc vs9 none (some spot3)) ++ [odd12]) ++ (slc vs9 (some ((spot3 + (1 : Int)))) none))) fun (row13 : List Od) =>
  (.ok row13)) ((.ok vs9))) fun (vs11 : (List Od)) =>
  asr (((slc gaps_here none (some at2))).length + ([vs11]).length ≤ sizeLine) <|
  asr ((((slc gaps_here none (some at2)) ++ [vs11])).length + ((slc gaps_here (some ((at2 + (1 : Int)))) none)).length ≤ sizeLine) <|
  (.ok ((((slc gaps_here none (some at2)) ++ [vs11]) ++ (slc gaps_here (some ((at2 + (1 : Int)))) none))))))))
def sp_L_spoilt (K : Fg) : Sp := spG (A := (List (List Od)) × Int) (fun z => [py K (enc (z.1 : List (List Od))), py K (enc (z.2 : Int))]) (fun z => M.Ok (m_L_spoilt z.1 z.2)) (fun z => .new (rps K (m_L_spoilt z.1 z.2).get))
theorem sc_L_spoilt : FnScope ["_law_gaps_here", "_law_cell", "_law_number", "_law_at", "_law_spot", "_law_row", "_law_many", "_law_k"] ["_law_gaps_here", "_law_cell"] (defScope s_L_spoilt) := ⟨rfl, rfl, rfl, by decide +kernel, rfl, by decide +kernel, by decide +kernel⟩
theorem ok_L_spoilt {P : Program} {w : World} {K : Fg} {mg : Str → Option Value} {base : Heap} {f : Addr} {fd : FuncData} (F : DefOf K "_law_spoilt" "_law_spoilt" s_L_spoilt f fd) (hm : mg "_law_spoilt" = some (.ref f)) (E0 : Env0 K mg) (G__law_odd : FnG P w K mg base CX0 1 "_law_odd" (sp_L_odd K)) :
    FnG P w K mg base CX0 2 "_law_spoilt" (sp_L_spoilt K) := by
  have B := E0.B
  exact fn_mk F (def_okK (Ar := (List (List Od)) × Int) (T0 := fun (r : List (List Od)) => .new (rps K r)) (m := fun z => m_L_spoilt z.1 z.2) F sc_L_spoilt 6 (fun _ => rfl) rfl (fun _ => rfl) fun cdv A outer s H E hr z => by
    obtain ⟨gaps_here, cell⟩ := z
    show HM (S := Unit) (bx P w K mg base ["_law_gaps_here", "_law_cell", "_law_number", "_law_at", "_law_spot", "_law_row", "_law_many", "_law_k"] "_law_spoilt" s_L_spoilt f cdv A outer s H E) _ Ctl.rt [defBody s_L_spoilt] (enter [py K (enc (gaps_here : List (List Od))), py K (enc (cell : Int))] 6) _ (TE (fun (r : List (List Od)) => .new (rps K r)) noER) (m_L_spoilt gaps_here cell)
    exact (k_C (fun c q => h_setC 2 sc_L_spoilt.nd (v_mod (v_im 1) (v_powC (n := 1000000000000000000000000000000000000000000000000000000000000) v_int v_int) (by decide)) q) (fun number1 e_number1 => (k_asr fun a1 => (k_C (fun c q => h_setC 3 sc_L_spoilt.nd (v_mod (v_div (v_im 2) v_int (⟨by decide, by decide⟩)) (v_len B (PK.l (PV.xk (v_im 0)))) a1) q) (fun at2 e_at2 => (k_asr fun a2 => (k_asr fun a3 => (k_C (fun c q => h_setC 4 sc_L_spoilt.nd (v_mod (v_div (v_im 2) v_int (⟨by decide, by decide⟩)) (v_add (v_len B (PK.l (PV.xk (v_ix (PK.l (PV.xk (v_im 0))) (v_im 3) a2)))) v_int) a3) q) (fun spot3 e_spot3 => (k_phi [sI K (gaps_here : List (List Od)), sI K (cell : Int), sI K (number1 : Int), sI K (at2 : Int), sI K (spot3 : Int), .un, .un, .un] rfl (k_C (fun c q => h_setC 5 sc_L_spoilt.nd (PN.v (v_listOf B (PK.l (PV.xk (v_ix (PK.l (PV.xk (v_im 0))) (v_im 3) a2))))) q) (fun row4 e_row4 => (k_if (t_eq hr.units (by decide) (PV.d (v_mod (v_im 2) v_int (by decide))) (PV.d v_int)) (fun h1 => (k_retN (v_list as_nil))) (fun h1 => (k_end (k_if (t_eq hr.units (by decide) (PV.d (v_mod (v_im 2) v_int (by decide))) (PV.d v_int)) (fun h2 => (k_phi [sI K (gaps_here : List (List Od)), sI K (cell : Int), sI K (number1 : Int), sI K (at2 : Int), sI K (spot3 : Int), sI K (row4 : List Od), .un, .un] rfl (k_C (fun c q => h_setC 6 sc_L_spoilt.nd (v_add v_int (v_mod (v_div (v_im 2) v_int (⟨by decide, by decide⟩)) v_int (by decide))) q) (fun many5 e_many5 => (k_asr fun a4 => (k_asr fun a5 => (k_asr fun a6 => (k_asr fun a7 => (k_retN (n_cv (c := fun (l_ : List Int) => l_.map Od.i) cv_odl (v_lc [("_law_k", 7)] (fun (vk6 : Int) => [(7, sI K (vk6 : Int))]) rfl sc_L_spoilt.nd (blkOk_by rfl) (i_range1 B (v_im 6) a4) a5 (fun vk6 _ _ _ _ _ => (g_name 7 sc_L_spoilt.nd)) (us_in fun _ => rfl) (fun vk6 in_vk6 _ _ _ _ _ => (PN.v (v_rep (PN.xk (v_list (as_cons v_int as_nil))) (v_im 6) (a6 vk6 in_vk6) (a7 vk6 in_vk6))))))))))))))) (fun h2 => (k_end (k_phi [sI K (gaps_here : List (List Od)), sI K (cell : Int), sI K (number1 : Int), sI K (at2 : Int), sI K (spot3 : Int), sI K (row4 : List Od), .un, .un] rfl (k_if (t_eq hr.units (by decide) (PV.d (v_mod (v_im 2) v_int (by decide))) (PV.d v_int)) (fun h3 => (k_asr fun a8 => (k_retN (v_cat (PN.xk (v_sl (l := none) (h := (some at2)) (PK.l (PV.xk (v_im 0))) trivial (v_im 3))) (PN.xk (v_sl (l := (some ((at2 + (1 : Int))))) (h := none) (PK.l (PV.xk (v_im 0))) (v_add (v_im 3) v_int) trivial)) a8)))) (fun h3 => (k_end (k_if (t_eq hr.units (by decide) (PV.d (v_mod (v_im 2) v_int (by decide))) (PV.d v_int)) (fun h4 => (k_asr fun a9 => (k_asr fun a10 => (k_retN (v_cat (PN.xk (v_cat (PN.xk (v_sl (l := none) (h := (some at2)) (PK.l (PV.xk (v_im 0))) trivial (v_im 3))) (PN.xk (v_sl (l := (some at2)) (h := (some ((at2 + (1 : Int))))) (PK.l (PV.xk (v_im 0))) (v_im 3) (v_add (v_im 3) v_int))) a9)) (PN.xk (v_sl (l := (some at2)) (h := none) (PK.l (PV.xk (v_im 0))) (v_im 3) trivial)) a10))))) (fun h4 => (k_end (k_phi [sI K (gaps_here : List (List Od)), sI K (cell : Int), sI K (number1 : Int), sI K (at2 : Int), sI K (spot3 : Int), sI K (row4 : List Od), .un, .un] rfl (k_ifM (fun (vs7 : (List Od)) => [sI K (gaps_here : List (List Od)), sI K (cell : Int), sI K (number1 : Int), sI K (at2 : Int), sI K (spot3 : Int), sI K (vs7 : List Od), .un, .un]) (t_eq hr.units (by decide) (PV.d (v_mod (v_im 2) v_int (by decide))) (PV.d v_int)) (fun h5 => (k_asr fun a11 => (k_C (fun c q => h_setC 5 sc_L_spoilt.nd (PN.v (v_cat (PN.xk (v_sl (l := none) (h := (some spot3)) (PK.l (PV.xk (v_im 5))) trivial (v_im 4))) (PN.xk (v_sl (l := (some ((spot3 + (1 : Int))))) (h := none) (PK.l (PV.xk (v_im 5))) (v_add (v_im 4) v_int) trivial)) a11)) q) (fun row8 e_row8 => (k_end (k_nilS (.keep (.keep (.keep (.keep (.keep (.keep (.keep (.keep .nil)))))))))))))) (fun h5 => (k_end (k_nilS (.keep (.keep (.keep (.keep (.keep (.keep (.keep (.keep .nil))))))))))) (fun vs7 e_vs7 => (k_ifM (fun (vs9 : (List Od)) => [sI K (gaps_here : List (List Od)), sI K (cell : Int), sI K (number1 : Int), sI K (at2 : Int), sI K (spot3 : Int), sI K (vs9 : List Od), .un, .un]) (t_eq hr.units (by decide) (PV.d (v_mod (v_im 2) v_int (by decide))) (PV.d v_int)) (fun h6 => (k_phi [sI K (gaps_here : List (List Od)), sI K (cell : Int), sI K (number1 : Int), sI K (at2 : Int), sI K (spot3 : Int), sI K (vs7 : List Od), .un, .un] rfl (k_asr fun a12 => (k_asr fun a13 => (k_C (fun c q => h_setC 5 sc_L_spoilt.nd (PN.v (v_cat (PN.xk (v_cat (PN.xk (v_sl (l := none) (h := (some spot3)) (PK.l (PV.xk (v_im 5))) trivial (v_im 4))) (PN.xk (n_cv cv_od (v_list (as_cons (v_mod (v_div (v_im 2) v_int (⟨by decide, by decide⟩)) v_int (by decide)) as_nil)))) a12)) (PN.xk (v_sl (l := (some spot3)) (h := none) (PK.l (PV.xk (v_im 5))) (v_im 4) trivial)) a13)) q) (fun row10 e_row10 => (k_end (k_nilS (.keep (.keep (.keep (.keep (.keep (.keep (.keep (.keep .nil)))))))))))))))) (fun h6 => (k_end (k_nilS (.keep (.keep (.keep (.keep (.keep (.keep (.keep (.keep .nil))))))))))) (fun vs9 e_vs9 => (k_phi [sI K (gaps_here : List (List Od)), sI K (cell : Int), sI K (number1 : Int), sI K (at2 : Int), sI K (spot3 : Int), sI K (vs9 : List Od), .un, .un] rfl (k_ifM (fun (vs11 : (List Od)) => [sI K (gaps_here : List (List Od)), sI K (cell : Int), sI K (number1 : Int), sI K (at2 : Int), sI K (spot3 : Int), sI K (vs11 : List Od), .un, .un]) (t_gt (v_mod (v_im 2) v_int (by decide)) v_int) (fun h7 => (k_bindO fun odd12 h_odd12 => (k_asr fun a14 => (k_asr fun a15 => (k_C (fun c q => h_setC 5 sc_L_spoilt.nd (PN.v (v_cat (PN.xk (v_cat (PN.xk (v_sl (l := none) (h := (some spot3)) (PK.l (PV.xk (v_im 5))) trivial (v_im 4))) (PN.xk (v_list (as_cons (v_callK (t := odd12) G__law_odd (hr.mono (by decide)) pass0 (number1 / (8 : Int)) h_odd12 (as_cons (v_div (v_im 2) v_int (⟨by decide, by decide⟩)) as_nil)) as_nil))) a14)) (PN.xk (v_sl (l := (some ((spot3 + (1 : Int))))) (h := none) (PK.l (PV.xk (v_im 5))) (v_add (v_im 4) v_int) trivial)) a15)) q) (fun row13 e_row13 => (k_end (k_nilS (.keep (.keep (.keep (.keep (.keep (.keep (.keep (.keep .nil)))))))))))))))) (fun h7 => (k_end (k_nilS (.keep (.keep (.keep (.keep (.keep (.keep (.keep (.keep .nil))))))))))) (fun vs11 e_vs11 => (k_asr fun a16 => (k_asr fun a17 => (k_retN (v_cat (PN.xk (v_cat (PN.xk (v_sl (l := none) (h := (some at2)) (PK.l (PV.xk (v_im 0))) trivial (v_im 3))) (PN.xk (v_list (as_cons (v_im 5) as_nil))) a16)) (PN.xk (v_sl (l := (some ((at2 + (1 : Int))))) (h := none) (PK.l (PV.xk (v_im 0))) (v_add (v_im 3) v_int) trivial)) a17)))))))))))))))))))))))))))))))))))))) hm (fun _ _ _ _ _ _ us hl => match us, hl with | [_, _], _ => rfl)
abbrev s_check_gaps : Stmt := top 15
noncomputable def m_check_gaps_l1 (gaps : List (List Od)) (vs1 : Unit) (row2 : List Od) : M Unit :=
  asr (∀ (h3 : (!decide ((row2.length : Int) = (gaps.length : Int))) = false), row2.length ≤ sizeLine) <|
  asr (∀ (h3 : (!decide ((row2.length : Int) = (gaps.length : Int))) = false), ∀ (thing3 : Od), ∀ (in_thing3 : thing3 ∈ row2), M.Ok ((m_is_gap thing3))) <|
  cond (((!decide ((row2.length : Int) = (gaps.length : Int))) || (!(((row2.map fun (thing3 : Od) => ((m_is_gap thing3)).get)).all id))))
  ((.ex .noRules))
  ((.ok (())))
noncomputable def m_check_gaps (gaps : List (List Od)) : M Unit :=
  cond ((!(decide ((1 : Int) ≤ (gaps.length : Int)) && decide ((gaps.length : Int) ≤ (6 : Int)))))
  ((.ex .noRules))
  (bindM (foldM' (m_check_gaps_l1 gaps) (()) gaps) fun (vs4 : Unit) =>
  (.ok ()))
def sp_check_gaps (K : Fg) : Sp := spG (A := (List (List Od))) (fun z => [py K (enc (z : List (List Od)))]) (fun z => m_check_gaps z ≠ .st) (fun z => resM (fun _ => .val (py K .none)) (ER K) (m_check_gaps z))
theorem sc_check_gaps : FnScope ["gaps", "row", "thing"] ["gaps"] (defScope s_check_gaps) := ⟨rfl, rfl, rfl, by decide +kernel, rfl, by decide +kernel, by decide +kernel⟩
theorem ok_check_gaps {P : Program} {w : World} {K : Fg} {mg : Str → Option Value} {base : Heap} {f : Addr} {fd : FuncData} (F : DefOf K "check_gaps" "check_gaps" s_check_gaps f fd) (hm : mg "check_gaps" = some (.ref f)) (E0 : Env0 K mg)  (G_is_gap : FnG P w K mg base CX0 1 "is_gap" (sp_is_gap K)) :
    FnG P w K mg base (L2.CX P w) 3 "check_gaps" (sp_check_gaps K) := by
  have B := E0.B
  obtain ⟨t_MOST_KINDS, i_MOST_KINDS⟩ := E0.i_MOST_KINDS
  exact fn_mk F (def_okXN (Ar := (List (List Od))) (m := fun z => m_check_gaps z) F sc_check_gaps 2 (fun _ => rfl) rfl [.un, .un, .un] fun cdv A outer s H E hr gaps => by
    show HM (S := Unit) (bxX P w K mg base ["gaps", "row", "thing"] "check_gaps" s_check_gaps f cdv A outer s H E) _ Ctl.nx [defBody s_check_gaps] (enter [py K (enc (gaps : List (List Od)))] 2) _ (TE (fun _ => .val (py K .none)) (ER K)) (m_check_gaps gaps)
    exact (k_if (v_not (t_chain op_le op_le v_int (v_len B (PK.l (PV.xk (v_im 0)))) (fun h1 => (v_gint rfl i_MOST_KINDS)))) (fun h2 => (k_ex (h_raiseC (x := .noRules) rfl rfl rfl (takes_of rfl rfl rfl rfl) E0.xp_NoRules E0.xg_NoRules E0.xb_NoRules))) (fun h2 => (k_end (k_fold (fun (vs1 : Unit) => [sI K (gaps : List (List Od)), .un, .un]) (fun (row2 : List Od) => [(1, sI K (row2 : List Od))]) (passes_of rfl) rfl (i_list (v_im 0)) (fun row2 => (g_name 1 sc_check_gaps.nd)) (.keep (.keep (.keep .nil))) (fun vs1 row2 => (k_asr fun a1 => (k_asr fun a2 => (k_if (PWv.t (w_or (t_ne hr.units (by decide) (PV.d (v_len B (PK.l (PV.xk (v_im 1))))) (PV.d (v_len B (PK.l (PV.xk (v_im 0)))))) (fun h3 => (w_or1 (v_not (t_val (v_all B rfl (PK.l (PN.xk (v_lc [("thing", 2)] (fun (thing3 : Od) => [(2, sI K (thing3 : Od))]) rfl sc_check_gaps.nd (blkOk_by rfl) (i_list (v_im 1)) (a1 h3) (fun thing3 _ _ _ _ _ => (g_name 2 sc_check_gaps.nd)) (us_in fun _ => rfl) (fun thing3 in_thing3 _ _ _ _ _ => (v_callK (t := (((m_is_gap thing3)).get)) G_is_gap (hr.mono (by decide)) pass0 thing3 (M.Ok.get (a2 h3 thing3 in_thing3)) (as_cons (v_im 2) as_nil))))))))))))) (fun h4 => (k_ex (h_raiseC (x := .noRules) rfl rfl rfl (takes_of rfl rfl rfl rfl) E0.xp_NoRules E0.xg_NoRules E0.xb_NoRules))) (fun h4 => (k_end (k_end (k_nilS (.keep (.drop (.keep .nil))))))))))) (fun vs4 => (k_end (k_nilS (.drop (.keep (.keep .nil))))))))))) hm (fun _ _ _ _ _ _ us hl => match us, hl with | [_], _ => rfl)
abbrev s_Rules_init : Stmt := inClass (top 17) 0
abbrev s_Pair_init : Stmt := inClass (top 18) 0
theorem sc_Rules_init : FnScope ["self", "gaps"] ["self", "gaps"] (defScope s_Rules_init) := ⟨rfl, rfl, rfl, by decide +kernel, rfl, by decide +kernel, by decide +kernel⟩
theorem sc_Pair_init : FnScope ["self", "gaps", "beside"] ["self", "gaps", "beside"] (defScope s_Pair_init) := ⟨rfl, rfl, rfl, by decide +kernel, rfl, by decide +kernel, by decide +kernel⟩
noncomputable def m_Rules_init (g : List (List Od)) : M Unit := bindM (m_check_gaps g) fun _ => cond (decide (g.length ≤ 100)) (.ok ()) .st
noncomputable def m_Pair_init (z : List (List Od) × List (List Od)) : M Unit := bindM (m_Rules_init z.1) fun _ => bindM (m_check_gaps z.2) fun _ => cond (decide (z.2.length = z.1.length)) (cond (decide (z.2.length ≤ 100)) (.ok ()) .st) (.ex .noRules)
theorem rows_ok {g : List (List Od)} (h : g.length ≤ 100) : m_rows_copied g = .ok g := by
  unfold m_rows_copied
  rw [asr_pos (by rw [sizeLine_eq]; omega)]
  simp
theorem rinit_ok {g : List (List Od)} (h : m_Rules_init g = .ok ()) : m_check_gaps g = .ok () ∧ g.length ≤ 100 := by
  unfold m_Rules_init at h
  cases e : m_check_gaps g with
  | ok u =>
    rw [e] at h
    by_cases q : g.length ≤ 100
    · exact ⟨rfl, q⟩
    · simp [GL.bindM, q] at h
  | ex y => rw [e] at h; cases h
  | st => rw [e] at h; cases h
theorem rinit_ex {g : List (List Od)} {y : Exn} (h : m_Rules_init g = .ex y) : m_check_gaps g = .ex y := by
  unfold m_Rules_init at h
  cases e : m_check_gaps g with
  | ok u =>
    rw [e] at h
    by_cases q : g.length ≤ 100
    · simp [GL.bindM, q] at h
    · simp [GL.bindM, q] at h
  | ex z => rw [e] at h; simpa [GL.bindM] using h
  | st => rw [e] at h; cases h
theorem pinit_ok {z : List (List Od) × List (List Od)} (h : m_Pair_init z = .ok ()) : m_Rules_init z.1 = .ok () ∧ m_check_gaps z.2 = .ok () ∧ z.2.length = z.1.length ∧ z.2.length ≤ 100 := by
  unfold m_Pair_init at h
  cases e : m_Rules_init z.1 with
  | ok u =>
    rw [e] at h
    cases e2 : m_check_gaps z.2 with
    | ok u2 =>
      rw [e2] at h
      by_cases q : z.2.length = z.1.length
      · by_cases q2 : z.2.length ≤ 100
        · exact ⟨rfl, rfl, q, q2⟩
        · have q3 : ¬ z.1.length ≤ 100 := by omega
          simp [GL.bindM, q, q3] at h
      · simp [GL.bindM, q] at h
    | ex y => rw [e2] at h; cases h
    | st => rw [e2] at h; cases h
  | ex y => rw [e] at h; cases h
  | st => rw [e] at h; cases h
theorem pinit_ex {z : List (List Od) × List (List Od)} {y : Exn} (h : m_Pair_init z = .ex y) : m_Rules_init z.1 = .ex y ∨ m_Rules_init z.1 = .ok () ∧ (m_check_gaps z.2 = .ex y ∨ m_check_gaps z.2 = .ok () ∧ ¬ z.2.length = z.1.length ∧ y = .noRules) := by
  unfold m_Pair_init at h
  cases e : m_Rules_init z.1 with
  | ok u =>
    rw [e] at h
    refine .inr ⟨rfl, ?_⟩
    cases e2 : m_check_gaps z.2 with
    | ok u2 =>
      rw [e2] at h
      refine .inr ⟨rfl, ?_⟩
      by_cases q : z.2.length = z.1.length
      · by_cases q3 : z.1.length ≤ 100
        · simp [GL.bindM, q, q3] at h
        · simp [GL.bindM, q, q3] at h
      · simp [GL.bindM, q] at h; exact ⟨q, h.symm⟩
    | ex y2 => rw [e2] at h; left; simpa [GL.bindM] using h
    | st => rw [e2] at h; cases h
  | ex y2 => rw [e] at h; left; simpa [GL.bindM] using h
  | st => rw [e] at h; cases h
theorem t_true {X : Cx} {Φ : List SD} {c : Expr} {k : Bool} (h : PTv X Φ c k) (hk : k = true) : PTv X Φ c true := hk ▸ h
def spRules (K : Fg) (C : Addr) : Sp := spIX (A := List (List Od)) K C (fun g => [py K (enc g)]) m_Rules_init fun g => [("own", py K (enc g))]
def spPair (K : Fg) : Sp := spIX (A := List (List Od) × List (List Od)) K (He.ga K "Pair") (fun z => [py K (enc z.1), py K (enc z.2)]) m_Pair_init fun z => [("own", py K (enc z.1)), ("across", py K (enc z.2))]
section
variable {P : Program} {w : World} {K : Fg} {mg : Str → Option Value} {base : Heap} {C f : Addr} {fd : FuncData}
theorem ok_Rules_init (F : DefOf K "__init__" "Rules.__init__" s_Rules_init f fd) (cl : Cls K C) (na : NoAttr K C "own") (G_check_gaps : FnG P w K mg base (L2.CX P w) 3 "check_gaps" (sp_check_gaps K)) (G_rows_copied : FnG P w K mg base CX0 1 "rows_copied" (sp_rows_copied K)) :
    IniG P w K mg base (L2.CX P w) 4 f (spRules K C) :=
  ini_mk F (def_okIX F sc_Rules_init 0 (fun _ => rfl) rfl (fun cdv A outer s H E hr g hp o =>
    hi_drop (v_callX (t := ()) G_check_gaps (hr.mono (by decide)) g (rinit_ok hp).1 (as_cons (v_im 1) as_nil)) (hi_fld cl na (PN.v (v_callKN G_rows_copied (hr.mono (by decide)) pass0 g (rows_ok (rinit_ok hp).2) (as_cons (v_im 1) as_nil))) rfl (hi_end hi_nil)))
    (fun cdv A outer s H E hr g y hy o => he_dropX (pr_call G_check_gaps (hr.mono (by decide)) (takes_of rfl rfl rfl rfl) g (rinit_ex hy) (as_cons (v_im 1) as_nil))))
    (fun _ _ _ _ _ _ us hl => match us, hl with | [_, _], _ => rfl)
theorem ok_Pair_init (F : DefOf K "__init__" "Pair.__init__" s_Pair_init f fd) (E0 : Env0 K mg) (G_Rules_init : IniG P w K mg base (L2.CX P w) 4 (He.ma K (He.ga K "Rules") "__init__") (spRules K (He.ga K "Pair"))) (G_check_gaps : FnG P w K mg base (L2.CX P w) 3 "check_gaps" (sp_check_gaps K)) (G_rows_copied : FnG P w K mg base CX0 1 "rows_copied" (sp_rows_copied K)) :
    IniG P w K mg base (L2.CX P w) (4 + 1) f (spPair K) :=
  ini_mk F (def_okIX F sc_Pair_init 0 (fun _ => rfl) rfl (fun cdv A outer s H E hr z hp o => by
    have B := E0.B
    obtain ⟨h1, h2, h3, h4⟩ := pinit_ok hp
    exact hi_superX E0.R.sup G_Rules_init (hr.mono (by decide)) E0.R.gR z.1 h1 (as_cons (v_im 1) as_nil) rfl
      (hi_drop (v_callX (t := ()) G_check_gaps (hr.mono (by decide)) z.2 h2 (as_cons (v_im 2) as_nil))
        (hi_ifno (t_false (t_ne hr.units (by decide) (PV.d (v_len B (PK.l (PV.xk (v_im 2))))) (PV.d (v_len B (PK.l (PV.xk (v_im 1)))))) (by simp [h3]))
          (hi_end (hi_fld E0.R.cP E0.R.nA (PN.v (v_callKN G_rows_copied (hr.mono (by decide)) pass0 z.2 (rows_ok h4) (as_cons (v_im 2) as_nil))) rfl (hi_end hi_nil) (by rfl) (Nat.le_of_ble_eq_true rfl))))))
    (fun cdv A outer s H E hr z y hy o => by
    have B := E0.B
    rcases pinit_ex hy with h | ⟨h1, h | ⟨h2, h3, rfl⟩⟩
    · exact he_superX E0.R.sup G_Rules_init (hr.mono (by decide)) E0.R.gR (takes_of rfl rfl rfl rfl) z.1 h (as_cons (v_im 1) as_nil)
    · exact he_superOk E0.R.sup G_Rules_init (hr.mono (by decide)) E0.R.gR z.1 h1 (as_cons (v_im 1) as_nil) rfl
        (he_dropX (pr_call G_check_gaps (hr.mono (by decide)) (takes_of rfl rfl rfl rfl) z.2 h (as_cons (v_im 2) as_nil)))
    · exact he_superOk E0.R.sup G_Rules_init (hr.mono (by decide)) E0.R.gR z.1 h1 (as_cons (v_im 1) as_nil) rfl
        (he_drop (v_callX (t := ()) G_check_gaps (hr.mono (by decide)) z.2 h2 (as_cons (v_im 2) as_nil))
          (he_ifyes (t_true (t_ne hr.units (by decide) (PV.d (v_len B (PK.l (PV.xk (v_im 2))))) (PV.d (v_len B (PK.l (PV.xk (v_im 1)))))) (by simp only [Bool.not_eq_true', decide_eq_false_iff_not]; omega))
            (he_raise (y := .noRules) rfl rfl rfl (takes_of rfl rfl rfl rfl) E0.xp_NoRules E0.xg_NoRules E0.xb_NoRules)))))
    (fun _ _ _ _ _ _ us hl => match us, hl with | [_, _, _], _ => rfl)
end
section
variable {X : Cx} {Wx : WX} {Φ : List SD} {e : Expr} {es : List Expr} {pos p : Pos} {k : Nat} {u : Unit} {y : Exn}
theorem v_RulesX (E : RlE X.K X.mg) (G : IniG X.prog X.w X.K X.mg X.base (L2.CX X.prog X.w) k (He.ma X.K (He.ga X.K "Rules") "__init__") (spRules X.K (He.ga X.K "Rules"))) (hr : Room (k + 1) X.A) (g : List (List Od)) (h : m_Rules_init g = .ok u) (ha : PAs X Φ (e :: es) [py X.K (enc g)]) (hg : Gl X "Rules" := by rfl) (hst : (e :: es).all nst = true := by rfl) : PEv X Φ (.Call (.Name "Rules" p) (e :: es) [] pos) (rlP X.K (Rl.mk g none)) := v_mkIX E.mR G hr E.gR g h ha hg (by decide) hst
theorem pr_RulesX (E : RlE X.K X.mg) (G : IniG X.prog X.w X.K X.mg X.base (L2.CX X.prog X.w) k (He.ma X.K (He.ga X.K "Rules") "__init__") (spRules X.K (He.ga X.K "Rules"))) (hr : Room (k + 1) X.A) (tk : Takes X Wx) (g : List (List Od)) (h : m_Rules_init g = .ex y) (ha : PAs X Φ (e :: es) [py X.K (enc g)]) (hg : Gl X "Rules" := by rfl) (hst : (e :: es).all nst = true := by rfl) : PR X Wx Φ (.Call (.Name "Rules" p) (e :: es) [] pos) y := pr_mkIX E.mR G hr E.gR tk g h ha hg (by decide) hst
theorem v_PairX (E : RlE X.K X.mg) (G : IniG X.prog X.w X.K X.mg X.base (L2.CX X.prog X.w) k (He.ma X.K (He.ga X.K "Pair") "__init__") (spPair X.K)) (hr : Room (k + 1) X.A) (z : List (List Od) × List (List Od)) (h : m_Pair_init z = .ok u) (ha : PAs X Φ (e :: es) [py X.K (enc z.1), py X.K (enc z.2)]) (hg : Gl X "Pair" := by rfl) (hst : (e :: es).all nst = true := by rfl) : PEv X Φ (.Call (.Name "Pair" p) (e :: es) [] pos) (rlP X.K (Rl.mk z.1 (some z.2))) := v_mkIX E.mP G hr E.gP z h ha hg (by decide) hst
theorem pr_PairX (E : RlE X.K X.mg) (G : IniG X.prog X.w X.K X.mg X.base (L2.CX X.prog X.w) k (He.ma X.K (He.ga X.K "Pair") "__init__") (spPair X.K)) (hr : Room (k + 1) X.A) (tk : Takes X Wx) (z : List (List Od) × List (List Od)) (h : m_Pair_init z = .ex y) (ha : PAs X Φ (e :: es) [py X.K (enc z.1), py X.K (enc z.2)]) (hg : Gl X "Pair" := by rfl) (hst : (e :: es).all nst = true := by rfl) : PR X Wx Φ (.Call (.Name "Pair" p) (e :: es) [] pos) y := pr_mkIX E.mP G hr E.gP tk z h ha hg (by decide) hst
end
abbrev s_L_refused : Stmt := top 25
noncomputable def m_L_refused_h1  (vx9 : Exn) : M ((List Bool)) :=
  match vx9 with
    | .noRules => bindV ([true, true]) fun (told7 : List Bool) =>
  asr (told7.length < sizeLine) <|
  bindV ((told7 ++ [false])) fun (told8 : List Bool) =>
  (.ok told8)
    | _ => .st
noncomputable def m_L_refused (way : Int) (gaps_here : List (List Od)) (good_here : List (List Od)) : M Bool :=
  bindV ([]) fun (told1 : List Bool) =>
  bindM (tryM (cond ((decide (way = (0 : Int))))
  (bindM ((m_Rules_init gaps_here)) fun _ => .ok told1)
  (cond ((decide (way = (1 : Int))))
  (bindM ((m_Pair_init ((gaps_here, good_here)))) fun _ => .ok told1)
  (bindM ((m_Pair_init ((good_here, gaps_here)))) fun _ => .ok told1))) m_L_refused_h1) fun (vs2 : (List Bool)) =>
  (.ok ((decide (vs2 = [true, true, false]))))
def sp_L_refused (K : Fg) : Sp := spG (A := Int × (List (List Od)) × (List (List Od))) (fun z => [py K (enc (z.1 : Int)), py K (enc (z.2.1 : List (List Od))), py K (enc (z.2.2 : List (List Od)))]) (fun z => M.Ok (m_L_refused z.1 z.2.1 z.2.2)) (fun z => .val (py K (enc (m_L_refused z.1 z.2.1 z.2.2).get)))
theorem sc_L_refused : FnScope ["_law_way", "_law_gaps_here", "_law_good_here", "_law_told", "e"] ["_law_way", "_law_gaps_here", "_law_good_here"] (defScope s_L_refused) := ⟨rfl, rfl, rfl, by decide +kernel, rfl, by decide +kernel, by decide +kernel⟩
theorem ok_L_refused {P : Program} {w : World} {K : Fg} {mg : Str → Option Value} {base : Heap} {f : Addr} {fd : FuncData} (F : DefOf K "_law_refused" "_law_refused" s_L_refused f fd) (hm : mg "_law_refused" = some (.ref f)) (E0 : Env0 K mg) (G_Rules_init : IniG P w K mg base (L2.CX P w) 4 (He.ma K (He.ga K "Rules") "__init__") (spRules K (He.ga K "Rules"))) (G_Pair_init : IniG P w K mg base (L2.CX P w) 5 (He.ma K (He.ga K "Pair") "__init__") (spPair K)) :
    FnG P w K mg base CX0 7 "_law_refused" (sp_L_refused K) := by
  have B := E0.B
  exact fn_mk F (def_okK (Ar := Int × (List (List Od)) × (List (List Od))) (T0 := fun (r : Bool) => .val (py K (enc r))) (m := fun z => m_L_refused z.1 z.2.1 z.2.2) F sc_L_refused 2 (fun _ => rfl) rfl (fun _ => rfl) fun cdv A outer s H E hr z => by
    obtain ⟨way, gaps_here, good_here⟩ := z
    show HM (S := Unit) (bx P w K mg base ["_law_way", "_law_gaps_here", "_law_good_here", "_law_told", "e"] "_law_refused" s_L_refused f cdv A outer s H E) _ Ctl.rt [defBody s_L_refused] (enter [py K (enc (way : Int)), py K (enc (gaps_here : List (List Od))), py K (enc (good_here : List (List Od)))] 2) _ (TE (fun (r : Bool) => .val (py K (enc r))) noER) (m_L_refused way gaps_here good_here)
    exact (k_C (fun c q => h_ownC 3 sc_L_refused.nd (v_list as_nil) q) (fun told1 e_told1 => (k_tryAs 4 (fun (vs2 : (List Bool)) => [sI K (way : Int), sI K (gaps_here : List (List Od)), sI K (good_here : List (List Od)), sO K (vs2 : List Bool), .un]) sc_L_refused.nd E0.xg_NoRules (fun W_ pn_ xe_ tk_ po_ => (tb_if (t_eq hr.units (by decide) (PV.d (v_im 0)) (PV.d v_int)) (fun h1 => (tb_drop (P := fun (vu3 : Unit) => rlP K ((Rl.mk gaps_here none))) (fun vu3 h_vu3 => (v_RulesX E0.R G_Rules_init (hr.mono (by decide)) gaps_here h_vu3 (as_cons (v_im 1) as_nil))) (fun x_vu3 hx_vu3 => (pr_RulesX E0.R G_Rules_init (hr.mono (by decide)) tk_ gaps_here hx_vu3 (as_cons (v_im 1) as_nil))))) (fun h1 => (tb_if (t_eq hr.units (by decide) (PV.d (v_im 0)) (PV.d v_int)) (fun h2 => (tb_drop (P := fun (vu4 : Unit) => rlP K ((Rl.mk gaps_here (some good_here)))) (fun vu4 h_vu4 => (v_PairX E0.R G_Pair_init (hr.mono (by decide)) ((gaps_here, good_here)) h_vu4 (as_cons (v_im 1) (as_cons (v_im 2) as_nil)))) (fun x_vu4 hx_vu4 => (pr_PairX E0.R G_Pair_init (hr.mono (by decide)) tk_ ((gaps_here, good_here)) hx_vu4 (as_cons (v_im 1) (as_cons (v_im 2) as_nil)))))) (fun h2 => (tb_drop (P := fun (vu5 : Unit) => rlP K ((Rl.mk good_here (some gaps_here)))) (fun vu5 h_vu5 => (v_PairX E0.R G_Pair_init (hr.mono (by decide)) ((good_here, gaps_here)) h_vu5 (as_cons (v_im 2) (as_cons (v_im 1) as_nil)))) (fun x_vu5 hx_vu5 => (pr_PairX E0.R G_Pair_init (hr.mono (by decide)) tk_ ((good_here, gaps_here)) hx_vu5 (as_cons (v_im 2) (as_cons (v_im 1) as_nil)))))))))) (fun x_ hs_ => match x_, hs_ with | .noRules, _ => ⟨E0.exm_NoRules_NoRules, fun a_vx6 oe_vx6 d_vx6 pn_vx6 hz_vx6 hf_vx6 => (k_of (bindV ([true, true]) fun (told7 : List Bool) =>   asr (told7.length < sizeLine) <|   bindV ((told7 ++ [false])) fun (told8 : List Bool) =>   (.ok told8)) rfl (k_C (fun c q => h_ownC 3 sc_L_refused.nd (v_list (as_cons (x_is (x := .noRules) B E0.xb_NoRules.c hz_vx6 hf_vx6 (v_im 4) E0.xg_StripError E0.is_NoRules_StripError) (as_cons (x_isV (x := .noRules) B E0.xb_NoRules.c hz_vx6 hf_vx6 (v_im 4) B.ve (by decide +kernel) E0.isV_NoRules) as_nil))) q) (fun told7 e_told7 => (k_asr fun a1 => (k_C (fun c q => h_appC 3 (x_isT (x := .noRules) (Ds := [He.ga K "NoPlace", He.ga K "NoPlan", He.ga K "NoRow", He.ga K "NoSheet", He.ga K "NoTime", He.ga K "NotFree", He.ga K "TooMany"]) B E0.xb_NoRules.c hz_vx6 hf_vx6 (v_im 4) (v_tuple (as_cons (v_cls rfl E0.xg_NoPlace) (as_cons (v_cls rfl E0.xg_NoPlan) (as_cons (v_cls rfl E0.xg_NoRow) (as_cons (v_cls rfl E0.xg_NoSheet) (as_cons (v_cls rfl E0.xg_NoTime) (as_cons (v_cls rfl E0.xg_NotFree) (as_cons (v_cls rfl E0.xg_TooMany) as_nil)))))))) (kitAny_cons E0.is_NoRules_NoPlace (fun _ => (kitAny_cons E0.is_NoRules_NoPlan (fun _ => (kitAny_cons E0.is_NoRules_NoRow (fun _ => (kitAny_cons E0.is_NoRules_NoSheet (fun _ => (kitAny_cons E0.is_NoRules_NoTime (fun _ => (kitAny_cons E0.is_NoRules_NotFree (fun _ => (kitAny_cons E0.is_NoRules_TooMany (fun _ => kitAny_nil) (fun h => nomatch h))) (fun h => nomatch h))) (fun h => nomatch h))) (fun h => nomatch h))) (fun h => nomatch h))) (fun h => nomatch h))) (fun h => nomatch h))) a1 q) (fun told8 e_told8 => (k_end (k_nilS (.keep (.keep (.keep (.keep (.drop .nil)))))))))))))⟩ | .noPlace, hs_ => absurd rfl hs_ | .notFree, hs_ => absurd rfl hs_ | .tooMany, hs_ => absurd rfl hs_ | .noRow, hs_ => absurd rfl hs_ | (.noTime _ _), hs_ => absurd rfl hs_ | (.noPlan _), hs_ => absurd rfl hs_ | (.noSheet _), hs_ => absurd rfl hs_) (fun _ => rfl) (fun vs2 => (k_lift (fun _ z => h_settle 3 rfl z) (k_retTV (v_eq hr.units (by decide) (PV.d (v_im 3)) (PV.d (PN.v (v_list (as_cons v_bl (as_cons v_bl (as_cons v_bl as_nil)))))))))))))) hm (fun _ _ _ _ _ _ us hl => match us, hl with | [_, _, _], _ => rfl)
abbrev s_L_taken : Stmt := top 26
noncomputable def m_L_taken (gaps_here : List (List Od)) (good_here : List (List Od)) : M Bool :=
  bindV ((decide ((gaps_here.length : Int) = (good_here.length : Int)))) fun (same1 : Bool) =>
  bindO ((m_Rules_init gaps_here)) fun (vu2 : Unit) =>
  bindO ((m_Rules_many_kinds ((Rl.mk gaps_here none)))) fun (many_kinds3 : Int) =>
  cond ((!decide (many_kinds3 = (gaps_here.length : Int))))
  ((.ok false))
  (cond ((!same1))
  (bindO ((m_L_refused ((1 : Int)) gaps_here good_here)) fun (refused4 : Bool) =>
  asr (∀ (h3 : refused4 = true), M.Ok ((m_L_refused ((2 : Int)) gaps_here good_here))) <|
  (.ok ((refused4 && ((m_L_refused ((2 : Int)) gaps_here good_here)).get))))
  (bindO ((m_Pair_init ((gaps_here, good_here)))) fun (vu5 : Unit) =>
  bindO ((m_Rules_many_kinds ((Rl.mk gaps_here (some good_here))))) fun (many_kinds6 : Int) =>
  asr (∀ (h4 : (decide (many_kinds6 = (gaps_here.length : Int))) = true), M.Ok (m_Pair_init ((good_here, gaps_here)))) <|
  asr (∀ (h4 : (decide (many_kinds6 = (gaps_here.length : Int))) = true), M.Ok ((m_Rules_gap_rows ((Rl.mk good_here (some gaps_here)))))) <|
  asr (∀ (h4 : (decide (many_kinds6 = (gaps_here.length : Int))) = true), (((m_Rules_gap_rows ((Rl.mk good_here (some gaps_here))))).get) = good_here) <|
  (.ok (((decide (many_kinds6 = (gaps_here.length : Int))) && true)))))
def sp_L_taken (K : Fg) : Sp := spG (A := (List (List Od)) × (List (List Od))) (fun z => [py K (enc (z.1 : List (List Od))), py K (enc (z.2 : List (List Od)))]) (fun z => M.Ok (m_L_taken z.1 z.2)) (fun z => .val (py K (enc (m_L_taken z.1 z.2).get)))
theorem sc_L_taken : FnScope ["_law_gaps_here", "_law_good_here", "_law_same"] ["_law_gaps_here", "_law_good_here"] (defScope s_L_taken) := ⟨rfl, rfl, rfl, by decide +kernel, rfl, by decide +kernel, by decide +kernel⟩
theorem ok_L_taken {P : Program} {w : World} {K : Fg} {mg : Str → Option Value} {base : Heap} {f : Addr} {fd : FuncData} (F : DefOf K "_law_taken" "_law_taken" s_L_taken f fd) (hm : mg "_law_taken" = some (.ref f)) (E0 : Env0 K mg) (G_Rules_init : IniG P w K mg base (L2.CX P w) 4 (He.ma K (He.ga K "Rules") "__init__") (spRules K (He.ga K "Rules"))) (GR_many_kinds : MthG P w K mg base CX0 1 (He.ga K "Rules") "many_kinds" (sp_Rules_many_kinds K)) (GP_many_kinds : MthG P w K mg base CX0 1 (He.ga K "Pair") "many_kinds" (sp_Rules_many_kinds K)) (G__law_refused : FnG P w K mg base CX0 7 "_law_refused" (sp_L_refused K)) (G_Pair_init : IniG P w K mg base (L2.CX P w) 5 (He.ma K (He.ga K "Pair") "__init__") (spPair K)) (GR_gap_rows : MthG P w K mg base CX0 2 (He.ga K "Rules") "gap_rows" (sp_Rules_gap_rows K)) (GP_gap_rows : MthG P w K mg base CX0 2 (He.ga K "Pair") "gap_rows" (sp_Rules_gap_rows K)) :
    FnG P w K mg base CX0 8 "_law_taken" (sp_L_taken K) := by
  have B := E0.B
  exact fn_mk F (def_okK (Ar := (List (List Od)) × (List (List Od))) (T0 := fun (r : Bool) => .val (py K (enc r))) (m := fun z => m_L_taken z.1 z.2) F sc_L_taken 1 (fun _ => rfl) rfl (fun _ => rfl) fun cdv A outer s H E hr z => by
    obtain ⟨gaps_here, good_here⟩ := z
    show HM (S := Unit) (bx P w K mg base ["_law_gaps_here", "_law_good_here", "_law_same"] "_law_taken" s_L_taken f cdv A outer s H E) _ Ctl.rt [defBody s_L_taken] (enter [py K (enc (gaps_here : List (List Od))), py K (enc (good_here : List (List Od)))] 1) _ (TE (fun (r : Bool) => .val (py K (enc r))) noER) (m_L_taken gaps_here good_here)
    exact (k_C (fun c q => h_setC 2 sc_L_taken.nd (v_eq hr.units (by decide) (PV.d (v_len B (PK.l (PV.xk (v_im 0))))) (PV.d (v_len B (PK.l (PV.xk (v_im 1)))))) q) (fun same1 e_same1 => (k_bindO fun vu2 h_vu2 => (k_bindO fun many_kinds3 h_many_kinds3 => (k_if (t_ne hr.units (by decide) (PV.d (v_rm0K (m' := fun z => m_Rules_many_kinds z) (t := many_kinds3) GR_many_kinds GP_many_kinds (hr.mono (by decide)) pass0 (Rl.mk gaps_here none) (fun h => h_many_kinds3) (fun h => h_many_kinds3) (v_RulesX E0.R G_Rules_init (hr.mono (by decide)) gaps_here h_vu2 (as_cons (v_im 0) as_nil)))) (PV.d (v_len B (PK.l (PV.xk (v_im 0)))))) (fun h1 => (k_retTV v_bl)) (fun h1 => (k_end (k_if (v_not (t_val (v_im 2))) (fun h2 => (k_bindO fun refused4 h_refused4 => (k_asr fun a1 => (k_retTV (v_and (v_callK (t := refused4) G__law_refused (hr.mono (by decide)) pass0 ((1 : Int), gaps_here, good_here) h_refused4 (as_cons v_int (as_cons (v_im 0) (as_cons (v_im 1) as_nil)))) (fun h3 => (v_one (v_callK (t := (((m_L_refused ((2 : Int)) gaps_here good_here)).get)) G__law_refused (hr.mono (by decide)) pass0 ((2 : Int), gaps_here, good_here) (M.Ok.get (a1 h3)) (as_cons v_int (as_cons (v_im 0) (as_cons (v_im 1) as_nil))))))))))) (fun h2 => (k_end (k_bindO fun vu5 h_vu5 => (k_bindO fun many_kinds6 h_many_kinds6 => (k_asr fun a2 => (k_asr fun a3 => (k_asr fun a4 => (k_retTV (v_and (v_eq hr.units (by decide) (PV.d (v_rm0K (m' := fun z => m_Rules_many_kinds z) (t := many_kinds6) GR_many_kinds GP_many_kinds (hr.mono (by decide)) pass0 (Rl.mk gaps_here (some good_here)) (fun h => h_many_kinds6) (fun h => h_many_kinds6) (v_PairX E0.R G_Pair_init (hr.mono (by decide)) ((gaps_here, good_here)) h_vu5 (as_cons (v_im 0) (as_cons (v_im 1) as_nil))))) (PV.d (v_len B (PK.l (PV.xk (v_im 0)))))) (fun h4 => (v_one (v_eqOd hr.units (a4 h4) (PN.v (v_rm0NK (m' := fun z => m_Rules_gap_rows z) (t := (((m_Rules_gap_rows ((Rl.mk good_here (some gaps_here))))).get)) GR_gap_rows GP_gap_rows (hr.mono (by decide)) pass0 (Rl.mk good_here (some gaps_here)) (fun h => (M.Ok.get (a3 h4))) (fun h => (M.Ok.get (a3 h4))) (v_PairX E0.R G_Pair_init (hr.mono (by decide)) ((good_here, gaps_here)) (M.Ok.get (a2 h4)) (as_cons (v_im 1) (as_cons (v_im 0) as_nil))))) (v_im 1)))))))))))))))))))))) hm (fun _ _ _ _ _ _ us hl => match us, hl with | [_, _], _ => rfl)
abbrev s_law : Stmt := top 27
noncomputable def m_law_l1 (script : List Int) (gaps1 : List (List Od)) (vs2 : Unit) (vk3 : Int) : M (Ctl Unit Bool) :=
  bindO ((m_L_cell_at script vk3)) fun (cell_at4 : Int) =>
  bindO ((m_L_spoilt gaps1 cell_at4)) fun (spoilt5 : List (List Od)) =>
  asr (spoilt5.length ≤ sizeLine) <|
  bindV ((spoilt5.map fun (row6 : List Od) => row6)) fun (handed7 : List (List Od)) =>
  bindO ((m_L_good spoilt5)) fun (good8 : Bool) =>
  cond good8
  (bindO ((m_L_taken handed7 gaps1)) fun (taken9 : Bool) =>
  cond ((!taken9))
  ((.ok (.rt false)))
  (asr (handed7 = spoilt5) <|
  cond false
  ((.ok (.rt false)))
  ((.ok (.nx (()))))))
  (asr (((rng 0 ((3 : Int)))).length ≤ sizeLine) <|
  asr (∀ (way10 : Int), ∀ (in_way10 : way10 ∈ (rng 0 ((3 : Int)))), M.Ok ((m_L_refused way10 handed7 gaps1))) <|
  cond ((!decide (((((rng 0 ((3 : Int)))).filter fun (way10 : Int) => (!((m_L_refused way10 handed7 gaps1)).get)).map fun (way10 : Int) => way10) = [])))
  ((.ok (.rt false)))
  (asr (handed7 = spoilt5) <|
  cond false
  ((.ok (.rt false)))
  ((.ok (.nx (()))))))
noncomputable def m_law (script : List Int) : M Bool :=
  bindO ((m_L_gaps script)) fun (gaps1 : List (List Od)) =>
  forM' (S := Unit) (m_law_l1 script gaps1) (()) ([(1 : Int), (2 : Int)]) (fun (r : Bool) => r) fun (vs11 : Unit) =>
  asr (gaps1.length ≤ sizeLine) <|
  asr (∀ (row12 : List Od), ∀ (in_row12 : row12 ∈ gaps1), row12.length + ((([(0 : Int)]).map Od.i)).length ≤ sizeLine) <|
  asr (-(2 ^ 63) ≤ ((gaps1.length : Int) + (1 : Int)) ∧ ((gaps1.length : Int) + (1 : Int)) < 2 ^ 63) <|
  asr (([(0 : Int)]).length * (((gaps1.length : Int) + (1 : Int))).toNat ≤ sizeLine) <|
  asr (((gaps1.map fun (row12 : List Od) => (row12 ++ (([(0 : Int)]).map Od.i)))).length + ((([(lrep [(0 : Int)] ((gaps1.length : Int) + (1 : Int)))]).map fun l_ => l_.map Od.i)).length ≤ sizeLine) <|
  bindV (((gaps1.map fun (row12 : List Od) => (row12 ++ (([(0 : Int)]).map Od.i))) ++ (([(lrep [(0 : Int)] ((gaps1.length : Int) + (1 : Int)))]).map fun l_ => l_.map Od.i))) fun (more13 : List (List Od)) =>
  bindO ((m_L_refused ((1 : Int)) more13 gaps1)) fun (refused14 : Bool) =>
  asr (∀ (h7 : (!refused14) = false), M.Ok ((m_L_refused ((2 : Int)) more13 gaps1))) <|
  cond (((!refused14) || (!((m_L_refused ((2 : Int)) more13 gaps1)).get)))
  ((.ok false))
  (bindO ((m_L_taken gaps1 ((gaps1.map fun (row15 : List Od) => row15)))) fun (taken16 : Bool) =>
  (.ok taken16))
def sp_law (K : Fg) : Sp := spG (A := (List Int)) (fun z => [scrP K z]) (fun z => M.Ok (m_law z)) (fun z => .val (py K (enc (m_law z).get)))
theorem sc_law : FnScope ["_law_script", "_law_good_here", "_law_k", "_law_some", "_law_handed", "_law_more", "_law_row", "_law_way"] ["_law_script"] (defScope s_law) := ⟨rfl, rfl, rfl, by decide +kernel, rfl, by decide +kernel, by decide +kernel⟩
theorem ok_law {P : Program} {w : World} {K : Fg} {mg : Str → Option Value} {base : Heap} {f : Addr} {fd : FuncData} (F : DefOf K "law" "law" s_law f fd) (hm : mg "law" = some (.ref f)) (E0 : Env0 K mg) (G__law_gaps : FnG P w K mg base CX0 2 "_law_gaps" (sp_L_gaps K)) (G__law_cell_at : FnG P w K mg base CX0 1 "_law_cell_at" (sp_L_cell_at K)) (G__law_spoilt : FnG P w K mg base CX0 2 "_law_spoilt" (sp_L_spoilt K)) (G__law_good : FnG P w K mg base CX0 1 "_law_good" (sp_L_good K)) (G__law_taken : FnG P w K mg base CX0 8 "_law_taken" (sp_L_taken K)) (G__law_refused : FnG P w K mg base CX0 7 "_law_refused" (sp_L_refused K)) :
    FnOk P w K mg base CX0 9 f fd ["_law_script"] (sp_law K) := by
  have B := E0.B
  exact def_okK (Ar := (List Int)) (T0 := fun (r : Bool) => .val (py K (enc r))) (m := fun z => m_law z) F sc_law 7 (fun _ => rfl) rfl (fun _ => rfl) fun cdv A outer s H E hr script => by
    show HM (S := Unit) (bx P w K mg base ["_law_script", "_law_good_here", "_law_k", "_law_some", "_law_handed", "_law_more", "_law_row", "_law_way"] "law" s_law f cdv A outer s H E) _ Ctl.rt [defBody s_law] (enter [scrP K script] 7) _ (TE (fun (r : Bool) => .val (py K (enc r))) noER) (m_law script)
    exact (k_bindO fun gaps1 h_gaps1 => (k_lift (fun _ z => h_set 1 sc_law.nd (PN.v (v_callKN (t := gaps1) G__law_gaps (hr.mono (by decide)) pass0 script h_gaps1 (as_cons (v_im 0) as_nil))) z) (k_for (fun (vs2 : Unit) => [.im (scrP K script), sI K (gaps1 : List (List Od)), .un, .un, .un, .un, .un, .un]) (fun (vk3 : Int) => [(2, sI K (vk3 : Int))]) PassesOwn.never rfl (i_list (PN.v (v_list (as_cons v_int (as_cons v_int as_nil))))) (fun vk3 => (g_name 2 sc_law.nd)) (.keep (.keep (.keep (.keep (.keep (.keep (.keep (.keep .nil)))))))) (fun vs2 vk3 => (k_bindO fun cell_at4 h_cell_at4 => (k_bindO fun spoilt5 h_spoilt5 => (k_lift (fun _ z => h_set 3 sc_law.nd (PN.v (v_callKN (t := spoilt5) G__law_spoilt (hr.mono (by decide)) pass0 (gaps1, cell_at4) h_spoilt5 (as_cons (v_im 1) (as_cons (v_callK (t := cell_at4) G__law_cell_at (hr.mono (by decide)) pass0 (script, vk3) h_cell_at4 (as_cons (v_im 0) (as_cons (v_im 2) as_nil))) as_nil)))) z) (k_phi [.im (scrP K script), sI K (gaps1 : List (List Od)), sI K (vk3 : Int), sI K (spoilt5 : List (List Od)), .un, .un, .un, .un] rfl (k_asr fun a1 => (k_C (fun c q => h_setC 4 sc_law.nd (PN.v (v_lc [("_law_row", 6)] (fun (row6 : List Od) => [(6, sI K (row6 : List Od))]) rfl sc_law.nd (blkOk_by rfl) (i_list (v_im 3)) a1 (fun row6 _ _ _ _ _ => (g_name 6 sc_law.nd)) (us_in fun _ => rfl) (fun row6 in_row6 _ _ _ _ _ => (PN.v (v_listOf B (PK.l (PV.xk (v_im 6)))))))) q) (fun handed7 e_handed7 => (k_bindO fun good8 h_good8 => (k_if (t_val (v_callK (t := good8) G__law_good (hr.mono (by decide)) pass0 spoilt5 h_good8 (as_cons (v_im 3) as_nil))) (fun h1 => (k_bindO fun taken9 h_taken9 => (k_if (v_not (t_val (v_callK (t := taken9) G__law_taken (hr.mono (by decide)) pass0 (handed7, gaps1) h_taken9 (as_cons (v_im 4) (as_cons (v_im 1) as_nil))))) (fun h2 => (k_retTC v_bl)) (fun h2 => (k_end (k_end (k_phi [.im (scrP K script), sI K (gaps1 : List (List Od)), sI K (vk3 : Int), sI K (spoilt5 : List (List Od)), sI K (handed7 : List (List Od)), .un, .un, .un] rfl (k_asr fun a2 => (k_if (t_neOd hr.units a2 (v_im 4) (v_im 3)) (fun h3 => (k_retTC v_bl)) (fun h3 => (k_end (k_end (k_nilC (.keep (.keep (.drop (.drop (.drop (.keep (.keep (.keep .nil))))))))))))))))))))) (fun h1 => (k_asr fun a3 => (k_asr fun a4 => (k_if (t_ne hr.units (by decide) (PV.d (PN.v (v_lcIf [("_law_way", 7)] (fun (way10 : Int) => [(7, sI K (way10 : Int))]) rfl sc_law.nd (blkOk_by rfl) (i_range1 B v_int (⟨by decide, by decide⟩)) a3 (fun way10 _ _ _ _ _ => (g_name 7 sc_law.nd)) (us_in fun _ => rfl) (fun way10 in_way10 _ _ _ _ _ => (v_not (t_val (v_callK (t := (((m_L_refused way10 handed7 gaps1)).get)) G__law_refused (hr.mono (by decide)) pass0 (way10, handed7, gaps1) (M.Ok.get (a4 way10 in_way10)) (as_cons (v_im 7) (as_cons (v_im 4) (as_cons (v_im 1) as_nil))))))) (fun way10 in_way10 h4 _ _ _ _ _ => (v_im 7))))) (PV.d (PN.v (v_list as_nil)))) (fun h5 => (k_phi [.im (scrP K script), sI K (gaps1 : List (List Od)), sI K (vk3 : Int), sI K (spoilt5 : List (List Od)), sI K (handed7 : List (List Od)), .un, .un, .un] rfl (k_retTC v_bl))) (fun h5 => (k_end (k_end (k_phi [.im (scrP K script), sI K (gaps1 : List (List Od)), sI K (vk3 : Int), sI K (spoilt5 : List (List Od)), sI K (handed7 : List (List Od)), .un, .un, .un] rfl (k_asr fun a5 => (k_if (t_neOd hr.units a5 (v_im 4) (v_im 3)) (fun h6 => (k_retTC v_bl)) (fun h6 => (k_end (k_end (k_nilC (.keep (.keep (.drop (.drop (.drop (.keep (.keep (.keep .nil)))))))))))))))))))))))))))))))) (fun vs11 => (k_phi [.im (scrP K script), sI K (gaps1 : List (List Od)), .un, .un, .un, .un, .un, .un] rfl (k_asr fun a6 => (k_asr fun a7 => (k_asr fun a8 => (k_asr fun a9 => (k_asr fun a10 => (k_C (fun c q => h_setC 5 sc_law.nd (PN.v (v_cat (PN.xk (v_lc [("_law_row", 6)] (fun (row12 : List Od) => [(6, sI K (row12 : List Od))]) rfl sc_law.nd (blkOk_by rfl) (i_list (v_im 1)) a6 (fun row12 _ _ _ _ _ => (g_name 6 sc_law.nd)) (us_in fun _ => rfl) (fun row12 in_row12 _ _ _ _ _ => (PN.v (v_cat (PV.xk (v_im 6)) (PN.xk (n_cv cv_od (v_list (as_cons v_int as_nil)))) (a7 row12 in_row12)))))) (PN.xk (n_cv (c := fun (l_ : List Int) => l_.map Od.i) cv_odl (v_list (as_cons (PN.v (v_rep (PN.xk (v_list (as_cons v_int as_nil))) (v_add (v_len B (PK.l (PV.xk (v_im 1)))) v_int) a8 a9)) as_nil)))) a10)) q) (fun more13 e_more13 => (k_bindO fun refused14 h_refused14 => (k_asr fun a11 => (k_if (PWv.t (w_or (v_not (t_val (v_callK (t := refused14) G__law_refused (hr.mono (by decide)) pass0 ((1 : Int), more13, gaps1) h_refused14 (as_cons v_int (as_cons (v_im 5) (as_cons (v_im 1) as_nil)))))) (fun h7 => (w_or1 (v_not (t_val (v_callK (t := (((m_L_refused ((2 : Int)) more13 gaps1)).get)) G__law_refused (hr.mono (by decide)) pass0 ((2 : Int), more13, gaps1) (M.Ok.get (a11 h7)) (as_cons v_int (as_cons (v_im 5) (as_cons (v_im 1) as_nil)))))))))) (fun h8 => (k_retTV v_bl)) (fun h8 => (k_end (k_bindO fun taken16 h_taken16 => (k_retTV (v_callK (t := taken16) G__law_taken (hr.mono (by decide)) pass0 (gaps1, (gaps1.map fun (row15 : List Od) => row15)) h_taken16 (as_cons (v_im 1) (as_cons (PN.v (v_lc [("_law_row", 6)] (fun (row15 : List Od) => [(6, sI K (row15 : List Od))]) rfl sc_law.nd (blkOk_by rfl) (i_list (v_im 1)) a6 (fun row15 _ _ _ _ _ => (g_name 6 sc_law.nd)) (us_in fun _ => rfl) (fun row15 in_row15 _ _ _ _ _ => (PN.v (v_listOf B (PK.l (PV.xk (v_im 6)))))))) as_nil))))))))))))))))))))))
end LW


set_option Elab.async false
set_option linter.all false
set_option maxRecDepth 100000
set_option maxHeartbeats 4000000
namespace LW
open PySem PySem.Spec PyProof.Rows L2 GL
/-! ### what gaps are -/
def goodP (x : Od) : Bool := x.isZ && (decide (0 ≤ x.z) && decide (x.z ≤ 1000000))
def goodR (n : Nat) (row : List Od) : Bool := decide (row.length = n) && row.all goodP
def good (g : List (List Od)) : Bool := (decide (1 ≤ g.length) && decide (g.length ≤ 6)) && g.all (goodR g.length)
def Sm (g : List (List Od)) : Prop := g.length ≤ 100 ∧ ∀ row ∈ g, row.length ≤ 100
theorem gap_ok (x : Od) : m_is_gap x = .ok (goodP x) := by
  unfold m_is_gap
  rw [asr_pos]
  · cases x <;> simp [goodP, Od.isInt, Od.isBool, Od.isZ, Od.z]
  · cases x <;> simp [Od.isInt, Od.isBool, Od.isZ]
theorem size100 {n : Nat} (h : n ≤ 1000) : n ≤ sizeLine := by rw [sizeLine_eq]; omega
theorem row_all (row : List Od) : ((row.map fun (x : Od) => (m_is_gap x).get).all id) = row.all goodP := by
  rw [List.all_map]
  congr 1
  funext x
  simp [gap_ok, M.get]
theorem len_dec (row : List Od) (n : Nat) : decide ((row.length : Int) = (n : Int)) = decide (row.length = n) := by
  by_cases h : row.length = n
  · simp [h]
  · have : ¬ (row.length : Int) = (n : Int) := by omega
    simp [h, this]
theorem check_row {g : List (List Od)} {row : List Od} (h : row.length ≤ 100) : m_check_gaps_l1 g () row = if goodR g.length row = true then .ok () else .ex .noRules := by
  unfold m_check_gaps_l1
  rw [asr_pos (fun _ => size100 (by omega)), asr_pos (fun _ x _ => ⟨_, gap_ok x⟩), row_all, len_dec]
  unfold goodR
  cases decide (row.length = g.length) <;> cases row.all goodP <;> rfl
theorem check_fold {g : List (List Od)} : ∀ {xs : List (List Od)}, (∀ row ∈ xs, row.length ≤ 100) → foldM' (m_check_gaps_l1 g) () xs = if xs.all (goodR g.length) = true then .ok () else .ex .noRules
  | [], _ => rfl
  | row :: xs, h => by
    show GL.bindM (m_check_gaps_l1 g () row) (fun s' => foldM' (m_check_gaps_l1 g) s' xs) = _
    rw [check_row (h row (List.mem_cons_self ..)), List.all_cons]
    cases goodR g.length row with
    | true => simpa [GL.bindM] using check_fold fun r hr => h r (List.mem_cons_of_mem _ hr)
    | false => rfl
theorem dec_len (n : Nat) : (decide ((1 : Int) ≤ (n : Int)) && decide ((n : Int) ≤ (6 : Int))) = (decide (1 ≤ n) && decide (n ≤ 6)) := by
  have e1 : decide ((1 : Int) ≤ (n : Int)) = decide (1 ≤ n) := decide_eq_decide.mpr (by omega)
  have e2 : decide ((n : Int) ≤ (6 : Int)) = decide (n ≤ 6) := decide_eq_decide.mpr (by omega)
  rw [e1, e2]
theorem check_ok {g : List (List Od)} (h : Sm g) : m_check_gaps g = if good g = true then .ok () else .ex .noRules := by
  unfold m_check_gaps
  rw [dec_len, check_fold h.2]
  unfold good
  cases (decide (1 ≤ g.length) && decide (g.length ≤ 6)) <;> cases g.all (goodR g.length) <;> rfl
theorem rinit {g : List (List Od)} (h : Sm g) : m_Rules_init g = if good g = true then .ok () else .ex .noRules := by
  unfold m_Rules_init
  rw [check_ok h, decide_eq_true h.1]
  cases good g <;> rfl
def pairB (g b : List (List Od)) : Bool := good g && (good b && decide (b.length = g.length))
theorem pinit {g b : List (List Od)} (h : Sm g) (hb : Sm b) : m_Pair_init (g, b) = if pairB g b = true then .ok () else .ex .noRules := by
  unfold m_Pair_init pairB
  simp only []
  rw [rinit h, check_ok hb, decide_eq_true hb.1]
  cases good g <;> cases good b <;> cases decide (b.length = g.length) <;> rfl
/-! ### refused, taken -/
theorem try_ok {m : M Unit} {c : Bool} (e : m = if c = true then .ok () else .ex .noRules) : tryM (GL.bindM m fun _ => (.ok [] : M (List Bool))) m_L_refused_h1 = .ok (if c = true then [] else [true, true, false]) := by
  rw [e]
  cases c with
  | true => rfl
  | false =>
    show m_L_refused_h1 .noRules = _
    unfold m_L_refused_h1
    show asr _ _ = _
    rw [asr_pos (by rw [sizeLine_eq]; simp)]
    rfl
def refB (way : Int) (g b : List (List Od)) : Bool := if way = 0 then !good g else if way = 1 then !pairB g b else !pairB b g
theorem refused_ok {g b : List (List Od)} (h : Sm g) (hb : Sm b) (way : Int) : m_L_refused way g b = .ok (refB way g b) := by
  have fin : ∀ c : Bool, GL.bindM (M.ok (if c = true then ([] : List Bool) else [true, true, false])) (fun vs => (.ok (decide (vs = [true, true, false])) : M Bool)) = .ok (!c) := fun c => by cases c <;> rfl
  unfold m_L_refused refB
  simp only [bindV]
  by_cases q : way = 0
  · rw [decide_eq_true q, if_pos q]
    simp only [cond_true]
    rw [try_ok (rinit h)]
    exact fin _
  · rw [decide_eq_false q, if_neg q]
    simp only [cond_false]
    by_cases q1 : way = 1
    · rw [decide_eq_true q1, if_pos q1]
      simp only [cond_true]
      rw [try_ok (pinit h hb)]
      exact fin _
    · rw [decide_eq_false q1, if_neg q1]
      simp only [cond_false]
      rw [try_ok (pinit hb h)]
      exact fin _
theorem rows_same {g : List (List Od)} (h : g.length ≤ 100) : m_rows_copied g = .ok g := rows_ok h
theorem taken_ok {g b : List (List Od)} (h : Sm g) (hb : Sm b) (k : good g = true) (kb : good b = true) : m_L_taken g b = .ok true := by
  unfold m_L_taken
  simp only [bindV]
  rw [rinit h, if_pos k]
  simp only [bindO_ok]
  have mk : ∀ a, m_Rules_many_kinds (Rl.mk g a) = .ok (g.length : Int) := fun a => rfl
  rw [mk]
  simp only [bindO_ok, decide_true, Bool.not_true, cond_false]
  by_cases q : g.length = b.length
  · have q' : (g.length : Int) = (b.length : Int) := by omega
    have p1 : pairB g b = true := by unfold pairB; rw [k, kb, decide_eq_true q.symm]; rfl
    have p2 : pairB b g = true := by unfold pairB; rw [k, kb, decide_eq_true q]; rfl
    rw [decide_eq_true q']
    simp only [Bool.not_true, cond_false]
    rw [pinit h hb, if_pos p1]
    simp only [bindO_ok]
    rw [mk]
    simp only [bindO_ok]
    have gr : m_Rules_gap_rows (Rl.mk b (some g)) = .ok b := by
      unfold m_Rules_gap_rows
      show GL.bindO (m_rows_copied b) _ = _
      rw [rows_same hb.1]; rfl
    rw [asr_pos (fun _ => ⟨(), by rw [pinit hb h, if_pos p2]⟩), asr_pos (fun _ => ⟨b, gr⟩), asr_pos (fun _ => by rw [gr]; rfl)]
    simp
  · have q' : ¬ (g.length : Int) = (b.length : Int) := by omega
    have p1 : pairB g b = false := by unfold pairB; rw [decide_eq_false (fun z => q z.symm)]; simp
    have p2 : pairB b g = false := by unfold pairB; rw [decide_eq_false q]; simp
    rw [decide_eq_false q']
    simp only [Bool.not_false, cond_true]
    rw [refused_ok h hb 1]
    simp only [bindO_ok]
    rw [asr_pos (fun _ => ⟨_, refused_ok h hb 2⟩), refused_ok h hb 2]
    simp [refB, p1, p2, M.get]
/-! ### the law's own judge -/
theorem forU {α β : Type} {p : α → Bool} {f : Unit → α → M (Ctl Unit Bool)} {rt : Bool → β} {k : Unit → M β} : ∀ {xs : List α}, (∀ x ∈ xs, f () x = if p x = true then .ok (.nx ()) else .ok (.rt false)) → forM' f () xs rt k = if xs.all p = true then k () else .ok (rt false)
  | [], _ => rfl
  | x :: xs, h => by
    have i := forU (rt := rt) (k := k) (xs := xs) fun y hy => h y (List.mem_cons_of_mem _ hy)
    unfold forM' at i ⊢
    unfold forLM
    rw [h x (List.mem_cons_self ..), List.all_cons]
    cases p x with
    | true => simpa using i
    | false => rfl
theorem judge_gap (x : Od) : m_L_good_l1 () x = if goodP x = true then .ok (.nx ()) else .ok (.rt false) := by
  unfold m_L_good_l1
  rw [asr_pos, asr_pos]
  · cases x with
    | i z =>
      by_cases a : z < 0
      · have : ¬ 0 ≤ z := by omega
        simp [goodP, Od.isInt, Od.isBool, Od.isZ, Od.z, a, this]
      · have a' : 0 ≤ z := by omega
        by_cases b : 1000000 < z
        · have : ¬ z ≤ 1000000 := by omega
          simp [goodP, Od.isInt, Od.isBool, Od.isZ, Od.z, a, a', b, this]
        · have : z ≤ 1000000 := by omega
          simp [goodP, Od.isInt, Od.isBool, Od.isZ, Od.z, a, a', b, this]
    | _ => simp [goodP, Od.isInt, Od.isBool, Od.isZ, Od.z]
  · cases x <;> simp [Od.isInt, Od.isBool, Od.isZ]
  · cases x <;> simp [Od.isInt, Od.isBool, Od.isZ]
theorem judge_row (g : List (List Od)) (row : List Od) : m_L_good_l2 g () row = if goodR g.length row = true then .ok (.nx ()) else .ok (.rt false) := by
  unfold m_L_good_l2
  rw [len_dec, forU (p := goodP) fun x _ => judge_gap x]
  unfold goodR
  cases decide (row.length = g.length) <;> cases row.all goodP <;> rfl
theorem good_ok (g : List (List Od)) : m_L_good g = .ok (good g) := by
  unfold m_L_good
  rw [dec_len, forU (p := goodR g.length) fun x _ => judge_row g x]
  unfold good
  cases (decide (1 ≤ g.length) && decide (g.length ≤ 6)) <;> cases g.all (goodR g.length) <;> rfl
theorem good_sm {g : List (List Od)} (h : good g = true) : 1 ≤ g.length ∧ g.length ≤ 6 ∧ ∀ row ∈ g, row.length = g.length ∧ ∀ x ∈ row, goodP x = true := by
  unfold good at h
  simp only [Bool.and_eq_true, decide_eq_true_eq, List.all_eq_true, goodR] at h
  exact ⟨h.1.1, h.1.2, h.2⟩
theorem good_of {g : List (List Od)} (h1 : 1 ≤ g.length) (h2 : g.length ≤ 6) (h3 : ∀ row ∈ g, row.length = g.length ∧ ∀ x ∈ row, goodP x = true) : good g = true := by
  unfold good
  simp only [Bool.and_eq_true, decide_eq_true_eq, List.all_eq_true, goodR]
  exact ⟨⟨h1, h2⟩, h3⟩
theorem good_Sm {g : List (List Od)} (h : good g = true) : Sm g := by
  obtain ⟨h1, h2, h3⟩ := good_sm h
  exact ⟨by omega, fun row hr => by have := (h3 row hr).1; omega⟩
/-! ### the gaps that are built -/
theorem cell_ok (ns : List Int) {k : Int} (h : 0 ≤ k) : ∃ v, m_L_cell_at ns k = .ok v := by
  unfold m_L_cell_at
  by_cases q : k < (ns.length : Int)
  · rw [decide_eq_true q, cond_true, asr_pos ⟨h, q⟩]
    exact ⟨_, rfl⟩
  · rw [decide_eq_false q, cond_false]
    exact ⟨_, rfl⟩
theorem cmulS {a b : Int} (h : 0 ≤ a ∧ a ≤ 1000) : CMul a b := Or.inl (by omega)
theorem gaps_ok (ns : List Int) : Y (m_L_gaps ns) fun g => good g = true := by
  unfold m_L_gaps
  obtain ⟨c, hc⟩ := cell_ok ns (k := 0) (by omega)
  refine Y.bindOe hc (Y.let_ (Y.let_ ?_))
  have hm : 1 ≤ 1 + c % 6 ∧ 1 + c % 6 ≤ 6 := by omega
  generalize 1 + c % 6 = m at hm
  refine Y.asr (by unfold small62; omega) ?_
  refine Y.foldK (fun (n : Nat) (g : List (List Od)) => g.length = n ∧ ∀ row ∈ g, row.length = m.toNat ∧ ∀ x ∈ row, goodP x = true) ⟨rfl, fun r hr => by cases hr⟩ (fun n g a ha hI => ?_) fun g hg => ?_
  · have ham : 0 ≤ a ∧ a < m := mem_rng.mp (List.mem_of_getElem? ha)
    unfold m_L_gaps_l1
    have hn : n < (rng 0 m).length := (List.getElem?_eq_some_iff.mp ha).1
    have hl : (rng 0 m).length = m.toNat := by rw [rng_length]; congr 1; omega
    have bd : ∀ b ∈ rng 0 m, 0 ≤ b ∧ b < m := fun b hb => mem_rng.mp hb
    have mul0 : 0 ≤ m * a := Int.mul_nonneg (by omega) ham.1
    refine Y.asr (size100 (by omega)) (Y.asr (fun b hb => cmulS (by omega)) (Y.asr (fun b hb => cell_ok ns (by have := bd b hb; omega)) (Y.asr (fun b hb => cmulS (by omega)) (Y.asr (fun _ _ => by decide) (Y.asr (by rw [sizeLine_eq, hI.1]; omega) (Y.let_ (Y.ok ?_)))))))
    refine ⟨by simp [hI.1], fun row hr => ?_⟩
    rcases List.mem_append.mp hr with hr | hr
    · exact hI.2 row hr
    · rw [List.mem_singleton.mp hr]
      refine ⟨by simp [hl], fun x hx => ?_⟩
      obtain ⟨z, hz, rfl⟩ := List.mem_map.mp hx
      obtain ⟨b, hb, rfl⟩ := List.mem_map.mp hz
      have : ∀ v : Int, 0 ≤ v % (1000000 + 1) ∧ v % (1000000 + 1) ≤ 1000000 := fun v => by omega
      have := this ((m_L_cell_at ns (3 + m * a + b)).get + a * b)
      show (true && (decide (0 ≤ _) && decide (_ ≤ (1000000 : Int)))) = true
      exact (by rw [Bool.true_and, Bool.and_eq_true, decide_eq_true_eq, decide_eq_true_eq]; exact this)
  · have hl : (rng 0 m).length = m.toNat := by rw [rng_length]; congr 1; omega
    rw [hl] at hg
    refine Y.ok (good_of (by omega) (by omega) fun row hr => ?_)
    obtain ⟨r1, r2⟩ := hg.2 row hr
    exact ⟨by omega, r2⟩
theorem odd_ok (c : Int) : ∃ v, m_L_odd c = .ok v := by
  unfold m_L_odd
  simp only [bindV]
  rw [asr_pos (by simp only [List.length_cons, List.length_nil]; omega)]
  exact ⟨_, rfl⟩
theorem Sm_app {g h : List (List Od)} {n m : Nat} (hg : g.length ≤ n ∧ ∀ r ∈ g, r.length ≤ 50) (hh : h.length ≤ m ∧ ∀ r ∈ h, r.length ≤ 50) : (g ++ h).length ≤ n + m ∧ ∀ r ∈ g ++ h, r.length ≤ 50 :=
  ⟨by rw [List.length_append]; omega, fun r hr => by
    rcases List.mem_append.mp hr with z | z
    · exact hg.2 r z
    · exact hh.2 r z⟩
theorem Sm_slc {g : List (List Od)} {n : Nat} (h : g.length ≤ n ∧ ∀ r ∈ g, r.length ≤ 50) (lo hi : Option Int) : (slc g lo hi).length ≤ n ∧ ∀ r ∈ slc g lo hi, r.length ≤ 50 :=
  ⟨Nat.le_trans (slc_len g lo hi) h.1, fun r hr => h.2 r (slc_mem hr)⟩
theorem spoilt_ok {g : List (List Od)} (h : good g = true) (c : Int) : Y (m_L_spoilt g c) Sm := by
  obtain ⟨h1, h2, h3⟩ := good_sm h
  have hS : g.length ≤ 6 ∧ ∀ r ∈ g, r.length ≤ 50 := ⟨h2, fun r hr => by have := (h3 r hr).1; omega⟩
  unfold m_L_spoilt
  simp only [bindV]
  generalize hN : c % 1000000000000000000000000000000000000000000000000000000000000 = N
  have hN0 : 0 ≤ N := by omega
  refine Y.asr (by omega) ?_
  have hat : 0 ≤ N / 64 % (g.length : Int) ∧ N / 64 % (g.length : Int) < g.length := mod_ix (by omega)
  generalize N / 64 % (g.length : Int) = at2 at hat
  refine Y.asr hat (Y.asr (by omega) ?_)
  have hrow := ix_mem hat
  have hr50 := hS.2 _ hrow
  generalize ix g at2 = row at hrow hr50
  have r6 : row.length ≤ 6 := by have := (h3 row hrow).1; omega
  generalize N / 512 % ((row.length : Int) + 1) = spot
  have sl : ∀ (xs : List Od) lo hi, (slc xs lo hi).length ≤ xs.length := fun xs lo hi => slc_len xs lo hi
  have sg : ∀ lo hi, (slc g lo hi).length ≤ 6 := fun lo hi => Nat.le_trans (slc_len g lo hi) h2
  refine Y.cond (fun _ => Y.ok ⟨by simp, fun r hr => by cases hr⟩) fun _ => ?_
  refine Y.cond (fun _ => ?_) fun _ => ?_
  · have hm : 7 ≤ 7 + N / 8 % 3 ∧ 7 + N / 8 % 3 ≤ 9 := by omega
    generalize 7 + N / 8 % 3 = m at hm
    have hl : (rng 0 m).length = m.toNat := by rw [rng_length]; congr 1; omega
    refine Y.asr (by unfold small62; omega) (Y.asr (size100 (by omega)) (Y.asr (fun _ _ => by omega) (Y.asr (fun _ _ => size100 (by simp; omega)) (Y.ok ⟨by simp [hl]; omega, fun r hr => ?_⟩))))
    obtain ⟨z, hz, rfl⟩ := List.mem_map.mp hr
    obtain ⟨y, hy, rfl⟩ := List.mem_map.mp hz
    simp [lrep]; omega
  refine Y.cond (fun _ => ?_) fun _ => ?_
  · refine Y.asr (size100 (by have := sg none (some at2); have := sg (some (at2 + 1)) none; omega)) (Y.ok ?_)
    have := Sm_app (Sm_slc hS none (some at2)) (Sm_slc hS (some (at2 + 1)) none)
    exact ⟨by omega, fun r hr => by have := this.2 r hr; omega⟩
  refine Y.cond (fun _ => ?_) fun _ => ?_
  · have a := Sm_app (Sm_slc hS none (some at2)) (Sm_slc hS (some at2) (some (at2 + 1)))
    have b := Sm_app a (Sm_slc hS (some at2) none)
    refine Y.asr (size100 (by have := sg none (some at2); have := sg (some at2) (some (at2 + 1)); omega)) (Y.asr (size100 (by have := a.1; have := sg (some at2) none; omega)) (Y.ok ?_))
    exact ⟨by omega, fun r hr => by have := b.2 r hr; omega⟩
  refine Y.bindM (P := fun r : List Od => r.length ≤ 12) (Y.cond (fun _ => ?_) fun _ => Y.ok (by omega)) fun r1 h12 => ?_
  · have a1 := sl row none (some spot); have a2 := sl row (some (spot + 1)) none
    exact Y.asr (size100 (by omega)) (Y.ok (by rw [List.length_append]; omega))
  refine Y.bindM (P := fun r : List Od => r.length ≤ 25) (Y.cond (fun _ => ?_) fun _ => Y.ok (by omega)) fun r2 h25 => ?_
  · have a1 := sl r1 none (some spot); have a2 := sl r1 (some spot) none
    refine Y.asr (size100 (by simp; omega)) (Y.asr (size100 (by simp only [List.length_append, List.length_map, List.length_cons, List.length_nil]; omega)) (Y.ok (by simp only [List.length_append, List.length_map, List.length_cons, List.length_nil]; omega)))
  refine Y.bindM (P := fun r : List Od => r.length ≤ 51) (Y.cond (fun _ => ?_) fun _ => Y.ok (by omega)) fun r3 h50 => ?_
  · have a1 := sl r2 none (some spot); have a2 := sl r2 (some (spot + 1)) none
    obtain ⟨v, hv⟩ := odd_ok (N / 8)
    refine Y.bindOe hv (Y.asr (size100 (by simp; omega)) (Y.asr (size100 (by simp only [List.length_append, List.length_map, List.length_cons, List.length_nil]; omega)) (Y.ok (by simp only [List.length_append, List.length_map, List.length_cons, List.length_nil]; omega))))
  have a1 := Sm_slc hS none (some at2)
  have a2 := Sm_slc hS (some (at2 + 1)) none
  refine Y.asr (size100 (by simp; omega)) (Y.asr (size100 (by simp only [List.length_append, List.length_cons, List.length_nil]; omega)) (Y.ok ⟨by simp only [List.length_append, List.length_cons, List.length_nil]; omega, fun r hr => ?_⟩))
  rcases List.mem_append.mp hr with z | z
  · rcases List.mem_append.mp z with z | z
    · have := a1.2 r z; omega
    · rw [List.mem_singleton.mp z]; omega
  · have := a2.2 r z; omega
/-! ### the law -/
theorem map_self (g : List (List Od)) : (g.map fun (row : List Od) => row) = g := List.map_id' g
theorem turn_ok (ns : List Int) {g : List (List Od)} (h : good g = true) {k : Int} (hk : 0 ≤ k) : m_law_l1 ns g () k = .ok (.nx ()) := by
  have hS := good_Sm h
  refine Y.eq ?_
  unfold m_law_l1
  obtain ⟨c, hc⟩ := cell_ok ns hk
  refine Y.bindOe hc (Y.bindO (spoilt_ok h c) fun some hs => Y.asr (size100 (by have := hs.1; omega)) (Y.let_ ?_))
  rw [map_self]
  refine Y.bindOe (good_ok some) (Y.cond (fun q => ?_) fun q => ?_)
  · refine Y.bindOe (taken_ok hs hS q h) ?_
    simp only [Bool.not_true, cond_false]
    exact Y.asr trivial (Y.ok rfl)
  · refine Y.asr (size100 (by rw [rng_length]; decide)) (Y.asr (fun w _ => ⟨_, refused_ok hs hS w⟩) ?_)
    have e : ((rng 0 3).filter fun (w : Int) => !(m_L_refused w some g).get) = [] := by
      refine List.filter_eq_nil_iff.mpr fun w _ => ?_
      rw [refused_ok hs hS w]
      have p1 : pairB some g = false := by unfold pairB; rw [q]; rfl
      have p2 : pairB g some = false := by unfold pairB; rw [q]; simp
      simp [M.get, refB, q, p1, p2]
    rw [e]
    simp only [List.map_nil, decide_true, Bool.not_true, cond_false]
    exact Y.asr trivial (Y.ok rfl)
theorem law_true (ns : List Int) (hl : ns.length ≤ 63) : m_law ns = .ok true := by
  refine Y.eq ?_
  unfold m_law
  refine Y.bindO (gaps_ok ns) fun g h => ?_
  have hS := good_Sm h
  obtain ⟨h1, h2, h3⟩ := good_sm h
  rw [forU (p := fun _ => true) fun k hk => by
    rw [if_pos rfl]
    refine turn_ok ns h ?_
    rcases List.mem_cons.mp hk with e | hk
    · omega
    · rw [List.mem_singleton.mp hk]; omega]
  rw [if_pos (by rfl)]
  refine Y.asr (size100 (by omega)) (Y.asr (fun r hr => size100 (by have := (h3 r hr).1; simp; omega)) (Y.asr (by omega) (Y.asr (size100 (by simp; omega)) (Y.asr (size100 (by simp; omega)) (Y.let_ ?_)))))
  generalize hm : ((g.map fun (row12 : List Od) => (row12 ++ (([(0 : Int)]).map Od.i))) ++ (([(lrep [(0 : Int)] ((g.length : Int) + (1 : Int)))]).map fun l_ => l_.map Od.i)) = more
  have ml : more.length = g.length + 1 := by rw [← hm]; simp
  have mS : Sm more := by
    refine ⟨by omega, fun r hr => ?_⟩
    rw [← hm] at hr
    rcases List.mem_append.mp hr with z | z
    · obtain ⟨y, hy, rfl⟩ := List.mem_map.mp z
      have := (h3 y hy).1
      simp; omega
    · simp only [List.map_cons, List.map_nil, List.mem_singleton] at z
      rw [z]
      simp [lrep]; omega
  have p1 : pairB more g = false := by unfold pairB; rw [decide_eq_false (by omega)]; simp
  have p2 : pairB g more = false := by unfold pairB; rw [decide_eq_false (by omega)]; simp
  have r1 : m_L_refused 1 more g = .ok true := by rw [refused_ok mS hS 1]; simp [refB, p1]
  have r2 : m_L_refused 2 more g = .ok true := by rw [refused_ok mS hS 2]; simp [refB, p2]
  refine Y.bindOe r1 (Y.asr (fun _ => ⟨_, r2⟩) ?_)
  rw [r2]
  simp only [M.get, Bool.not_true, Bool.or_self, cond_false]
  rw [map_self]
  exact Y.bindOe (taken_ok hS hS h h) (Y.ok rfl)
end LW

set_option Elab.async false
set_option linter.all false
set_option maxRecDepth 100000
set_option maxHeartbeats 0
namespace LW
open PySem PySem.Spec PyProof.Rows L2 GL
theorem law_spec {K : Fg} {H : Hp} {a : Addr} {ns : List Int} (hl : ns.length ≤ 63) (hO : L2.Only H) (hS : SqL K H a (ns.map V.int)) : sp_law K [.ref a] H (fun v _ => v = .bl true) fun _ _ _ => False := by
  have e : m_law ns = .ok true := law_true ns hl
  refine ⟨ns, H, Evl.Ex.refl H, .cons ⟨a, rfl, hS⟩ .nil, ⟨true, e⟩, fun v F H' g p => ?_⟩
  have p' : (py K (enc (m_law ns).get)).p F v := p
  rw [e] at p'
  cases p'
  rfl
end LW
namespace LW
open PySem PySem.Spec PyProof.Rows L2 GL
def mkD (x : Str) (st : Stmt) : He.DefD := ⟨(x, none), x, x, defArgs st, defBody st, defScope st, [], []⟩
def mkM (c m q : Str) (st : Stmt) : He.DefD := ⟨(c, some m), m, q, defArgs st, defBody st, defScope st, [], []⟩
def fn : List He.DefD := ([mkD "is_gap" s_is_gap, mkD "check_gaps" s_check_gaps, mkD "rows_copied" s_rows_copied, mkD "_law_cell_at" s_L_cell_at, mkD "_law_gaps" s_L_gaps, mkD "_law_odd" s_L_odd, mkD "_law_spoilt" s_L_spoilt, mkD "_law_good" s_L_good, mkD "_law_refused" s_L_refused, mkD "_law_taken" s_L_taken, mkD "law" s_law, mkM "Rules" "__init__" "Rules.__init__" s_Rules_init, mkM "Pair" "__init__" "Pair.__init__" s_Pair_init, mkM "Rules" "many_kinds" "Rules.many_kinds" s_Rules_many_kinds, mkM "Pair" "many_kinds" "Rules.many_kinds" s_Rules_many_kinds, mkM "Rules" "gap_rows" "Rules.gap_rows" s_Rules_gap_rows, mkM "Pair" "gap_rows" "Rules.gap_rows" s_Rules_gap_rows] : List He.DefD)
def fa : List He.Fa := ([.glo "is_gap", .glo "check_gaps", .glo "rows_copied", .glo "_law_cell_at", .glo "_law_gaps", .glo "_law_odd", .glo "_law_spoilt", .glo "_law_good", .glo "_law_refused", .glo "_law_taken", .glo "law", .int "MOST_GAP" 1000000, .int "MOST_KINDS" 6, .free "len", .free "range", .free "list", .free "tuple", .free "isinstance", .free "int", .free "bool", .free "max", .free "min", .free "sorted", .free "enumerate", .free "zip", .free "sum", .free "all", .free "any", .free "set", .free "abs"] : List He.Fa) ++ ([.free "reversed", .free "str", .free "dict", .free "ValueError", .glo "NoRules", .glo "StripError", .glo "NoPlace", .glo "NoPlan", .glo "NoRow", .glo "NoSheet", .glo "NoTime", .glo "NotFree", .glo "TooMany", .glo "Rules", .glo "Pair", .cls "Rules", .cls "Pair", .noat "Rules" "own", .noat "Pair" "own", .noat "Pair" "across", .mkr "Rules", .mkr "Pair", .meth "Rules" "many_kinds", .meth "Pair" "many_kinds", .meth "Rules" "gap_rows", .meth "Pair" "gap_rows"] : List He.Fa)
def loose : List Str := (["_wall", "StripError", "NoRules", "NoTime", "NoPlace", "NotFree", "TooMany", "NoPlan", "NoSheet", "NoRow", "MOST_GAP", "MOST_KINDS", "is_gap", "check_gaps", "rows_copied", "Rules", "Pair", "_law_cell_at", "_law_gaps", "_law_odd", "_law_spoilt", "_law_good", "_law_refused", "_law_taken"] : List Str)
abbrev R : PySem.W.OpenRow := PySem.W.OpenLaw.row PySem.Challenge.rw_wakeorder_k03_no_gaps
def ex (K : Fg) : Bool := (cfunB K (He.ga K "Rules") (He.ma K (He.ga K "Rules") "__init__") "__init__" && (([.base "NoRules", .plain "NoRules", .is_ "NoRules" "StripError" true, .isV "NoRules" true, .is_ "NoRules" "NoPlace" false, .is_ "NoRules" "NoPlan" false, .is_ "NoRules" "NoRow" false, .is_ "NoRules" "NoSheet" false, .is_ "NoRules" "NoTime" false, .is_ "NoRules" "NotFree" false, .is_ "NoRules" "TooMany" false, .exm "NoRules" "NoRules" true] : List XF).all fun f => f.ok K))
abbrev hk : PySem.W.Hook := hookY 5 fa fn ex
def ob (s : PySem.W.SharedT) : He.AlD × Bool := obsY 5 fa fn ex (HandSHeadRun.getT s)
theorem ob_eq (s : PySem.W.SharedT) : ob s = hk.obs s.abs := obsY_eq (HandSHeadRun.getT_eq s)
theorem run (w : World) : HandSHeadRun.RunEq R (PySem.W.view R.prog [27]) hk ob 30000 loose w := by
  intro os
  kernel_rfl
theorem facts {P : Program} {w : World} {K : Fg} {h : Heap} {mg : Str → Option Value} {f : Addr} (X : K.In h) (G : h.Ns mainGlobals mg) (hfa : mg ("law" : Str) = some (.ref f)) (c : He.SaysD fa fn K) (ce : ex K = true) :
    ∃ fd : FuncData, (∀ (s : Shared) (v : Value), BindsTo s fd ⟨[v], []⟩ [("_law_script", v)]) ∧ ∀ base : Heap, K.In base → base.Ns mainGlobals mg → FnOk P w K mg base CX0 9 f fd ["_law_script"] (sp_law K) := by
  obtain ⟨fd0, F0⟩ := c.def_ 0 (d := mkD "is_gap" s_is_gap) rfl
  obtain ⟨fd1, F1⟩ := c.def_ 1 (d := mkD "check_gaps" s_check_gaps) rfl
  obtain ⟨fd2, F2⟩ := c.def_ 2 (d := mkD "rows_copied" s_rows_copied) rfl
  obtain ⟨fd3, F3⟩ := c.def_ 3 (d := mkD "_law_cell_at" s_L_cell_at) rfl
  obtain ⟨fd4, F4⟩ := c.def_ 4 (d := mkD "_law_gaps" s_L_gaps) rfl
  obtain ⟨fd5, F5⟩ := c.def_ 5 (d := mkD "_law_odd" s_L_odd) rfl
  obtain ⟨fd6, F6⟩ := c.def_ 6 (d := mkD "_law_spoilt" s_L_spoilt) rfl
  obtain ⟨fd7, F7⟩ := c.def_ 7 (d := mkD "_law_good" s_L_good) rfl
  obtain ⟨fd8, F8⟩ := c.def_ 8 (d := mkD "_law_refused" s_L_refused) rfl
  obtain ⟨fd9, F9⟩ := c.def_ 9 (d := mkD "_law_taken" s_L_taken) rfl
  obtain ⟨fd10, F10⟩ := c.def_ 10 (d := mkD "law" s_law) rfl
  obtain ⟨fd11, F11⟩ := c.def_ 11 (d := mkM "Rules" "__init__" "Rules.__init__" s_Rules_init) rfl
  obtain ⟨fd12, F12⟩ := c.def_ 12 (d := mkM "Pair" "__init__" "Pair.__init__" s_Pair_init) rfl
  obtain ⟨fd13, F13⟩ := c.def_ 13 (d := mkM "Rules" "many_kinds" "Rules.many_kinds" s_Rules_many_kinds) rfl
  obtain ⟨fd14, F14⟩ := c.def_ 14 (d := mkM "Pair" "many_kinds" "Rules.many_kinds" s_Rules_many_kinds) rfl
  obtain ⟨fd15, F15⟩ := c.def_ 15 (d := mkM "Rules" "gap_rows" "Rules.gap_rows" s_Rules_gap_rows) rfl
  obtain ⟨fd16, F16⟩ := c.def_ 16 (d := mkM "Pair" "gap_rows" "Rules.gap_rows" s_Rules_gap_rows) rfl
  have e := hfa.symm.trans (He.glo_ok X G (c.fact 10 (f := .glo "law") rfl))
  cases e
  have b := FunD.bindsA (ps := ["_law_script"]) F10 fun _ _ _ _ _ _ us hl => match us, hl with | [_], _ => rfl
  have B : Blt mg := ⟨He.free_ok X G (c.fact 13 (f := .free "len") rfl), He.free_ok X G (c.fact 14 (f := .free "range") rfl), He.free_ok X G (c.fact 15 (f := .free "list") rfl), He.free_ok X G (c.fact 16 (f := .free "tuple") rfl), He.free_ok X G (c.fact 17 (f := .free "isinstance") rfl), He.free_ok X G (c.fact 18 (f := .free "int") rfl), He.free_ok X G (c.fact 19 (f := .free "bool") rfl), He.free_ok X G (c.fact 20 (f := .free "max") rfl), He.free_ok X G (c.fact 21 (f := .free "min") rfl), He.free_ok X G (c.fact 22 (f := .free "sorted") rfl), He.free_ok X G (c.fact 23 (f := .free "enumerate") rfl), He.free_ok X G (c.fact 24 (f := .free "zip") rfl), He.free_ok X G (c.fact 25 (f := .free "sum") rfl), He.free_ok X G (c.fact 26 (f := .free "all") rfl), He.free_ok X G (c.fact 27 (f := .free "any") rfl), He.free_ok X G (c.fact 28 (f := .free "set") rfl), He.free_ok X G (c.fact 29 (f := .free "abs") rfl), He.free_ok X G (c.fact 30 (f := .free "reversed") rfl), He.free_ok X G (c.fact 31 (f := .free "str") rfl), He.free_ok X G (c.fact 32 (f := .free "dict") rfl), He.free_ok X G (c.fact 33 (f := .free "ValueError") rfl)⟩
  unfold ex at ce
  rw [Bool.and_eq_true] at ce
  obtain ⟨ce0, ce⟩ := ce
  have R : RlE K mg := ⟨He.cls_ok (c.fact 45 (f := .cls "Rules") rfl), He.cls_ok (c.fact 46 (f := .cls "Pair") rfl), He.noat_ok (c.fact 47 (f := .noat "Rules" "own") rfl), He.noat_ok (c.fact 48 (f := .noat "Pair" "own") rfl), He.noat_ok (c.fact 49 (f := .noat "Pair" "across") rfl), He.glo_ok X G (c.fact 43 (f := .glo "Rules") rfl), He.glo_ok X G (c.fact 44 (f := .glo "Pair") rfl), He.mkr_ok (c.fact 50 (f := .mkr "Rules") rfl), He.mkr_ok (c.fact 51 (f := .mkr "Pair") rfl), cfn_of ce0⟩
  have xb_NoRules : XcB K "NoRules" := xf_base (XF.get ce 0 rfl)
  have xp_NoRules : PySem.W.excIn K (He.ga K "NoRules") He.veBase "ValueError.__new__" = true := (XF.get ce 1 rfl)
  have is_NoRules_StripError : PySem.W.kitOne K (.ref (He.ga K "NoRules")) (.ref (He.ga K "StripError")) = some true := of_decide_eq_true (XF.get ce 2 rfl)
  have isV_NoRules : PySem.W.kitOne K (.ref (He.ga K "NoRules")) (.type "ValueError") = some true := of_decide_eq_true (XF.get ce 3 rfl)
  have is_NoRules_NoPlace : PySem.W.kitOne K (.ref (He.ga K "NoRules")) (.ref (He.ga K "NoPlace")) = some false := of_decide_eq_true (XF.get ce 4 rfl)
  have is_NoRules_NoPlan : PySem.W.kitOne K (.ref (He.ga K "NoRules")) (.ref (He.ga K "NoPlan")) = some false := of_decide_eq_true (XF.get ce 5 rfl)
  have is_NoRules_NoRow : PySem.W.kitOne K (.ref (He.ga K "NoRules")) (.ref (He.ga K "NoRow")) = some false := of_decide_eq_true (XF.get ce 6 rfl)
  have is_NoRules_NoSheet : PySem.W.kitOne K (.ref (He.ga K "NoRules")) (.ref (He.ga K "NoSheet")) = some false := of_decide_eq_true (XF.get ce 7 rfl)
  have is_NoRules_NoTime : PySem.W.kitOne K (.ref (He.ga K "NoRules")) (.ref (He.ga K "NoTime")) = some false := of_decide_eq_true (XF.get ce 8 rfl)
  have is_NoRules_NotFree : PySem.W.kitOne K (.ref (He.ga K "NoRules")) (.ref (He.ga K "NotFree")) = some false := of_decide_eq_true (XF.get ce 9 rfl)
  have is_NoRules_TooMany : PySem.W.kitOne K (.ref (He.ga K "NoRules")) (.ref (He.ga K "TooMany")) = some false := of_decide_eq_true (XF.get ce 10 rfl)
  have exm_NoRules_NoRules : PySem.W.exmOne K (.ref (He.ga K "NoRules")) (.ref (He.ga K "NoRules")) = some true := of_decide_eq_true (XF.get ce 11 rfl)
  have E0 : Env0 K mg := ⟨B, R, He.glo_ok X G (c.fact 34 (f := .glo "NoRules") rfl), He.glo_ok X G (c.fact 35 (f := .glo "StripError") rfl), He.glo_ok X G (c.fact 36 (f := .glo "NoPlace") rfl), He.glo_ok X G (c.fact 37 (f := .glo "NoPlan") rfl), He.glo_ok X G (c.fact 38 (f := .glo "NoRow") rfl), He.glo_ok X G (c.fact 39 (f := .glo "NoSheet") rfl), He.glo_ok X G (c.fact 40 (f := .glo "NoTime") rfl), He.glo_ok X G (c.fact 41 (f := .glo "NotFree") rfl), He.glo_ok X G (c.fact 42 (f := .glo "TooMany") rfl), xb_NoRules, xp_NoRules, is_NoRules_StripError, isV_NoRules, is_NoRules_NoPlace, is_NoRules_NoPlan, is_NoRules_NoRow, is_NoRules_NoSheet, is_NoRules_NoTime, is_NoRules_NotFree, is_NoRules_TooMany, exm_NoRules_NoRules, He.int_ok X G (c.fact 11 (f := .int "MOST_GAP" 1000000) rfl), He.int_ok X G (c.fact 12 (f := .int "MOST_KINDS" 6) rfl)⟩
  refine ⟨fd10, fun s v => b s [v] rfl, fun base _ _ => ?_⟩
  have G__law_cell_at : FnG P w K mg base CX0 1 "_law_cell_at" (sp_L_cell_at K) := ok_L_cell_at F3 (He.glo_ok X G (c.fact 3 (f := .glo "_law_cell_at") rfl)) E0 
  have G__law_gaps : FnG P w K mg base CX0 2 "_law_gaps" (sp_L_gaps K) := ok_L_gaps F4 (He.glo_ok X G (c.fact 4 (f := .glo "_law_gaps") rfl)) E0 G__law_cell_at
  have G__law_odd : FnG P w K mg base CX0 1 "_law_odd" (sp_L_odd K) := ok_L_odd F5 (He.glo_ok X G (c.fact 5 (f := .glo "_law_odd") rfl)) E0 
  have G__law_spoilt : FnG P w K mg base CX0 2 "_law_spoilt" (sp_L_spoilt K) := ok_L_spoilt F6 (He.glo_ok X G (c.fact 6 (f := .glo "_law_spoilt") rfl)) E0 G__law_odd
  have G__law_good : FnG P w K mg base CX0 1 "_law_good" (sp_L_good K) := ok_L_good F7 (He.glo_ok X G (c.fact 7 (f := .glo "_law_good") rfl)) E0 
  have G_is_gap : FnG P w K mg base CX0 1 "is_gap" (sp_is_gap K) := ok_is_gap F0 (He.glo_ok X G (c.fact 0 (f := .glo "is_gap") rfl)) E0 
  have G_check_gaps : FnG P w K mg base (L2.CX P w) 3 "check_gaps" (sp_check_gaps K) := ok_check_gaps F1 (He.glo_ok X G (c.fact 1 (f := .glo "check_gaps") rfl)) E0  G_is_gap
  have G_rows_copied : FnG P w K mg base CX0 1 "rows_copied" (sp_rows_copied K) := ok_rows_copied F2 (He.glo_ok X G (c.fact 2 (f := .glo "rows_copied") rfl)) E0 
  have G_Rules_init : IniG P w K mg base (L2.CX P w) 4 (He.ma K (He.ga K "Rules") "__init__") (spRules K (He.ga K "Rules")) := ok_Rules_init F11 E0.R.cR E0.R.nR G_check_gaps G_rows_copied
  have GR_many_kinds : MthG P w K mg base CX0 1 (He.ga K "Rules") "many_kinds" (sp_Rules_many_kinds K) := MthG.up (mth_mk (x := "many_kinds") (qual := "Rules.many_kinds") (st := s_Rules_many_kinds) E0.R.cR (He.meth_ok (c.fact 52 (f := .meth "Rules" "many_kinds") rfl)) F13 (ok_Rules_many_kinds F13 E0 ) (fun _ _ _ _ _ _ us hl => match us, hl with | [_], _ => rfl)) (by decide)
  have GP_many_kinds : MthG P w K mg base CX0 1 (He.ga K "Pair") "many_kinds" (sp_Rules_many_kinds K) := MthG.up (mth_mk (x := "many_kinds") (qual := "Rules.many_kinds") (st := s_Rules_many_kinds) E0.R.cP (He.meth_ok (c.fact 53 (f := .meth "Pair" "many_kinds") rfl)) F14 (ok_Rules_many_kinds F14 E0 ) (fun _ _ _ _ _ _ us hl => match us, hl with | [_], _ => rfl)) (by decide)
  have G_Pair_init : IniG P w K mg base (L2.CX P w) 5 (He.ma K (He.ga K "Pair") "__init__") (spPair K) := ok_Pair_init F12 E0 (ok_Rules_init F11 E0.R.cP E0.R.nP G_check_gaps G_rows_copied) G_check_gaps G_rows_copied
  have G__law_refused : FnG P w K mg base CX0 7 "_law_refused" (sp_L_refused K) := ok_L_refused F8 (He.glo_ok X G (c.fact 8 (f := .glo "_law_refused") rfl)) E0 G_Rules_init G_Pair_init
  have GR_gap_rows : MthG P w K mg base CX0 2 (He.ga K "Rules") "gap_rows" (sp_Rules_gap_rows K) := MthG.up (mth_mk (x := "gap_rows") (qual := "Rules.gap_rows") (st := s_Rules_gap_rows) E0.R.cR (He.meth_ok (c.fact 54 (f := .meth "Rules" "gap_rows") rfl)) F15 (ok_Rules_gap_rows F15 E0 G_rows_copied) (fun _ _ _ _ _ _ us hl => match us, hl with | [_], _ => rfl)) (by decide)
  have GP_gap_rows : MthG P w K mg base CX0 2 (He.ga K "Pair") "gap_rows" (sp_Rules_gap_rows K) := MthG.up (mth_mk (x := "gap_rows") (qual := "Rules.gap_rows") (st := s_Rules_gap_rows) E0.R.cP (He.meth_ok (c.fact 55 (f := .meth "Pair" "gap_rows") rfl)) F16 (ok_Rules_gap_rows F16 E0 G_rows_copied) (fun _ _ _ _ _ _ us hl => match us, hl with | [_], _ => rfl)) (by decide)
  have G__law_taken : FnG P w K mg base CX0 8 "_law_taken" (sp_L_taken K) := ok_L_taken F9 (He.glo_ok X G (c.fact 9 (f := .glo "_law_taken") rfl)) E0 G_Rules_init GR_many_kinds GP_many_kinds G__law_refused G_Pair_init GR_gap_rows GP_gap_rows
  exact ok_law F10 (He.glo_ok X G (c.fact 10 (f := .glo "law") rfl)) E0 G__law_gaps G__law_cell_at G__law_spoilt G__law_good G__law_taken G__law_refused
end LW
open PySem PySem.W PySem.Calls PyProof.Rows
theorem PySem.Challenge.cw_wakeorder_k03_no_gaps_holds : PySem.Challenge.rw_wakeorder_k03_no_gaps.Holds := by
  w_on; o_law
  refine HandSHeadRun.head_any (r := OpenLaw.row PySem.Challenge.rw_wakeorder_k03_no_gaps) (q := view (OpenLaw.row PySem.Challenge.rw_wakeorder_k03_no_gaps).prog [27]) (H := LW.hk) (ob := LW.ob) (M := 30000) (loose := LW.loose) (d := HandSHeadRun.topDef (OpenLaw.row PySem.Challenge.rw_wakeorder_k03_no_gaps).prog 27) (kwd := []) LW.ob_eq
    (by kernel_rfl) (fun s => by kernel_rfl) LW.run (by kernel_rfl) (by kernel_rfl) (by kernel_rfl) (by rfl) (by first | assumption | decide +kernel) (by decide +kernel) ⟨rfl, rfl, rfl, rfl, rfl, by decide +kernel⟩ ?hw ?hc
  case hw => w_witness2
  case hc =>
    refine L2.walk_ofE (l := PySem.Challenge.rw_wakeorder_k03_no_gaps) (n := 63) (k := 9) (x := "_law_script") (CX := L2.CX0) rfl (by decide) (by kernel_rfl) ⟨rfl, by decide, by decide⟩ ?F (fun _ _ _ _ z => z)
    intro w mg fa h Y G hmg0
    obtain ⟨K, KX, c⟩ := Y
    have hmg : mg ("law" : PySem.Str) = some (.ref fa) := by
      have e : (HandSHeadRun.topDef (OpenLaw.row PySem.Challenge.rw_wakeorder_k03_no_gaps).prog 27).name = ("law" : PySem.Str) := by kernel_rfl
      rw [← e]
      exact hmg0
    obtain ⟨fd, hb, hF⟩ := LW.facts (P := (PySem.Challenge.rw_wakeorder_k03_no_gaps).prog) (w := w) KX G hmg c.1 c.2
    exact ⟨K, fd, LW.sp_law K, KX, hb, fun H a ns hl hO hS => LW.law_spec hl hO hS, hF⟩

