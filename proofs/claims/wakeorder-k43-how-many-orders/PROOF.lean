import PyProof.Rows.All
import Wide.All
import OpenK.AllK
import Wide.FinOn
import KE.KStateDown
import HandS.ForMost
import HandS.Exc
import HandS.WordsExc
import HandS.Flow
import HandS.Style
import HandS.Wide
import HandS.IsInst
import HandS.Deep
import HandS.RevRange
import HandS.TupAny
import HandS.TupLe
import HandS.Conv
import HandS.Evl
import KE.SortData
import HandS.Defaults
import HandS.More
import HandS.SortKw
import KE.DataMinMax
import KE.DataCmp
import KE.DataEq
import HandS.ClsMeth
import HandS.HeadHook1
import HandS.HeadHook2
import HandS.ExcInit
import HandS.ExcIs
import HandS.ExcField
import HandS.ExcOwn
import HandS.TryMany
import HandS.TryOnly
import KE.KDictZip
import PyProof.ListNew
import HandS.Keys
import HandS.Zip
import KE.GoesMore
import PyProof.Draws
import HandS.SetFor
import HandS.Strs
import KE.KDictKeyed
import KE.KeyNested
import KE.KDictDisplayH
import HandS.Dict
import KE.KDictList
import KE.KDictSum
import KE.KDictWalk
import HandS.Iter
import HandS.DictTup
import KE.KPairComp
import HandS.HeadHook3
import HandS.HeadHook4
import HandS.Head0
import HandS.Head1
import HandS.Head2
import HandS.HeadEnd
import PySem.Challenge.RW_wakeorder_k43_how_many_orders
set_option Elab.async false
set_option linter.all false
set_option maxRecDepth 100000
set_option maxHeartbeats 4000000
namespace GL
open PySem L2
open Evl (Ex ex_l ex_t)
abbrev Fg := PySem.W.Frag

/-! ### growth: F the settled part of the heap H -/
structure Gr (F H F' H' : Hp) : Prop where
  f : Ex F F'
  h : Ex H H'
  s : Ex F' H'
  n : ∀ a, F a = none → H a ≠ none → F' a = none
theorem Gr.refl {F H : Hp} (s : Ex F H) : Gr F H F H := ⟨Ex.refl F, Ex.refl H, s, fun _ h _ => h⟩
theorem Gr.trans {F H F1 H1 F2 H2 : Hp} (a : Gr F H F1 H1) (b : Gr F1 H1 F2 H2) : Gr F H F2 H2 :=
  ⟨a.f.trans b.f, a.h.trans b.h, b.s, fun x h1 h2 => b.n x (a.n x h1 h2) (by
    cases e : H x with
    | none => exact absurd e h2
    | some o => rw [a.h x o e]; exact fun z => nomatch z)⟩
/-- only the heap grew -/
theorem Gr.hp {F H H' : Hp} (s : Ex F H) (h : Ex H H') : Gr F H F H' := ⟨Ex.refl F, h, s.trans h, fun _ z _ => z⟩
/-- a new object, settled -/
theorem Gr.new {F H : Hp} {p : Addr} {o : HO} (s : Ex F H) (hp : H p = none) : Gr F H (upd F p o) (upd H p o) := by
  have fp : F p = none := by
    cases e : F p with
    | none => rfl
    | some u => rw [s p u e] at hp; cases hp
  refine ⟨Ex.new fp, Ex.new hp, fun a u e => ?_, fun a h1 h2 => ?_⟩
  · by_cases q : a = p
    · subst q; rw [upd_same] at e ⊢; exact e
    · rw [upd_ne q] at e ⊢; exact s a u e
  · have q : a ≠ p := fun z => h2 (by rw [z]; exact hp)
    rw [upd_ne q]; exact h1
/-- a new object, one's own -/
theorem Gr.own {F H : Hp} {p : Addr} {o : HO} (s : Ex F H) (hp : H p = none) : Gr F H F (upd H p o) := Gr.hp s (Ex.new hp)
/-- one's own object settled -/
theorem Gr.settle {F H : Hp} {p : Addr} {o : HO} (s : Ex F H) (fp : F p = none) (hp : H p = some o) : Ex F (upd F p o) ∧ Ex (upd F p o) H := by
  refine ⟨Ex.new fp, fun a u e => ?_⟩
  by_cases q : a = p
  · subst q; rw [upd_same] at e; rw [← e]; exact hp
  · rw [upd_ne q] at e; exact s a u e

/-! ### what is said of a value, as long as the settled part grows -/
structure MP where
  p : Hp → V → Prop
  mono : ∀ F F' v, Ex F F' → p F v → p F' v
mutual
/-- a datum at a value: lists tracked, tuples readable -/
inductive Dq (K : Fg) (F : Hp) : V → PyData → Prop
  | non : Dq K F .non .none
  | bl (b : Bool) : Dq K F (.bl b) (.bool b)
  | int (i : Int) : Dq K F (.int i) (.int i)
  | str (x : Str) : Dq K F (.str x) (.str x)
  | lst {a : Addr} {xs : List V} {ds : List PyData} : F a = some (.lst xs) → DqAll K F xs ds → Dq K F (.ref a) (.list ds)
  | tup {a : Addr} {xs : List V} {ds : List PyData} : SqT K F a xs → DqAll K F xs ds → Dq K F (.ref a) (.tuple ds)
inductive DqAll (K : Fg) (F : Hp) : List V → List PyData → Prop
  | nil : DqAll K F [] []
  | cons {v : V} {vs : List V} {d : PyData} {ds : List PyData} : Dq K F v d → DqAll K F vs ds → DqAll K F (v :: vs) (d :: ds)
end
mutual
theorem dq_mono {K : Fg} {F F' : Hp} (e : Ex F F') : ∀ (d : PyData) (v : V), Dq K F v d → Dq K F' v d
  | .none, _, h => by cases h; exact .non
  | .bool b, _, h => by cases h; exact .bl b
  | .int i, _, h => by cases h; exact .int i
  | .str x, _, h => by cases h; exact .str x
  | .list ds, _, h => by
    cases h with
    | lst hs ha => exact .lst (e _ _ hs) (dqAll_mono e ds _ ha)
  | .tuple ds, _, h => by
    cases h with
    | tup hs ha => exact .tup (ex_t e hs) (dqAll_mono e ds _ ha)
  | .dict _, _, h => by cases h
theorem dqAll_mono {K : Fg} {F F' : Hp} (e : Ex F F') : ∀ (ds : List PyData) (vs : List V), DqAll K F vs ds → DqAll K F' vs ds
  | [], _, h => by cases h; exact .nil
  | d :: ds, _, h => by
    cases h with
    | cons h1 h2 => exact .cons (dq_mono e d _ h1) (dqAll_mono e ds _ h2)
end
mutual
theorem dq_dp {K : Fg} {F : Hp} : ∀ (d : PyData) (v : V), Dq K F v d → Dp K F v d
  | .none, _, h => by cases h; exact .non
  | .bool b, _, h => by cases h; exact .bl b
  | .int i, _, h => by cases h; exact .int i
  | .str x, _, h => by cases h; exact .str x
  | .list ds, _, h => by
    cases h with
    | lst hs ha => exact .lst (SqL.of hs) (dqAll_dp ds _ ha)
  | .tuple ds, _, h => by
    cases h with
    | tup hs ha => exact .tup hs (dqAll_dp ds _ ha)
  | .dict _, _, h => by cases h
theorem dqAll_dp {K : Fg} {F : Hp} : ∀ (ds : List PyData) (vs : List V), DqAll K F vs ds → DpAll K F vs ds
  | [], _, h => by cases h; exact .nil
  | d :: ds, _, h => by
    cases h with
    | cons h1 h2 => exact .cons (dq_dp d _ h1) (dqAll_dp ds _ h2)
end
mutual
theorem dp_mono {K : Fg} {F F' : Hp} (e : Ex F F') : ∀ (d : PyData) (v : V), Dp K F v d → Dp K F' v d
  | .none, _, h => by cases h; exact .non
  | .bool b, _, h => by cases h; exact .bl b
  | .int i, _, h => by cases h; exact .int i
  | .str x, _, h => by cases h; exact .str x
  | .list ds, _, h => by
    cases h with
    | lst hs ha => exact .lst (ex_l e hs) (dpAll_mono e ds _ ha)
  | .tuple ds, _, h => by
    cases h with
    | tup hs ha => exact .tup (ex_t e hs) (dpAll_mono e ds _ ha)
  | .dict _, _, h => by cases h
theorem dpAll_mono {K : Fg} {F F' : Hp} (e : Ex F F') : ∀ (ds : List PyData) (vs : List V), DpAll K F vs ds → DpAll K F' vs ds
  | [], _, h => by cases h; exact .nil
  | d :: ds, _, h => by
    cases h with
    | cons h1 h2 => exact .cons (dp_mono e d _ h1) (dpAll_mono e ds _ h2)
end
/-- a datum -/
def py (K : Fg) (d : PyData) : MP := ⟨fun F v => Dq K F v d, fun _ _ v e h => dq_mono e d v h⟩
/-- a datum that is only compared -/
def dp (K : Fg) (d : PyData) : MP := ⟨fun F v => Dp K F v d, fun _ _ v e h => dp_mono e d v h⟩
/-- the script -/
def scrP (K : Fg) (ns : List Int) : MP := ⟨fun F v => ∃ a, v = .ref a ∧ SqL K F a (ns.map V.int), fun _ _ _ e ⟨a, h1, h2⟩ => ⟨a, h1, ex_l e h2⟩⟩
def AllP (Ps : List MP) (F : Hp) (vs : List V) : Prop := vs.length = Ps.length ∧ ∀ (i : Nat) (P : MP) (v : V), Ps[i]? = some P → vs[i]? = some v → P.p F v
theorem AllP.mono {Ps : List MP} {F F' : Hp} {vs : List V} (e : Ex F F') (h : AllP Ps F vs) : AllP Ps F' vs := ⟨h.1, fun i P v h1 h2 => P.mono F F' v e (h.2 i P v h1 h2)⟩
theorem AllP.nil {F : Hp} : AllP [] F [] := ⟨rfl, fun i P v h => by simp at h⟩
theorem AllP.cons {P : MP} {Ps : List MP} {F : Hp} {v : V} {vs : List V} (h : P.p F v) (hs : AllP Ps F vs) : AllP (P :: Ps) F (v :: vs) :=
  ⟨by simp [hs.1], fun i Q u h1 h2 => by
    cases i with
    | zero => simp at h1 h2; subst h1; subst h2; exact h
    | succ i => exact hs.2 i Q u (by simpa using h1) (by simpa using h2)⟩
theorem AllP.inv {P : MP} {Ps : List MP} {F : Hp} {us : List V} (h : AllP (P :: Ps) F us) : ∃ v vs, us = v :: vs ∧ P.p F v ∧ AllP Ps F vs := by
  obtain ⟨h1, h2⟩ := h
  cases us with
  | nil => simp at h1
  | cons v vs => exact ⟨v, vs, rfl, h2 0 P v rfl rfl, by simpa using h1, fun i Q u a b => h2 (i + 1) Q u (by simpa using a) (by simpa using b)⟩
theorem AllP.inv0 {F : Hp} {us : List V} (h : AllP [] F us) : us = [] := by
  cases us with
  | nil => rfl
  | cons v vs => exact absurd h.1 (by simp)
theorem AllP.snoc {Ps : List MP} {P : MP} {F : Hp} {vs : List V} {v : V} (hs : AllP Ps F vs) (h : P.p F v) : AllP (Ps ++ [P]) F (vs ++ [v]) := by
  refine ⟨by simp [hs.1], fun i Q u h1 h2 => ?_⟩
  by_cases hi : i < vs.length
  · rw [List.getElem?_append_left hi] at h2
    rw [List.getElem?_append_left (by rw [← hs.1]; exact hi)] at h1
    exact hs.2 i Q u h1 h2
  · rw [List.getElem?_append_right (by omega)] at h2
    rw [List.getElem?_append_right (by rw [← hs.1]; omega)] at h1
    have e : i - vs.length = 0 := by
      have := (List.getElem?_eq_some_iff.mp h2).1
      simp at this; omega
    rw [← hs.1, e] at h1
    rw [e] at h2
    simp at h1 h2
    subst h1; subst h2; exact h
theorem dqAll_allP {K : Fg} {F : Hp} : ∀ {ds : List PyData} {vs : List V}, DqAll K F vs ds → AllP (ds.map (py K)) F vs
  | [], _, h => by cases h; exact .nil
  | d :: ds, _, h => by
    cases h with
    | cons h1 h2 => exact .cons h1 (dqAll_allP h2)
theorem allP_dqAll {K : Fg} {F : Hp} : ∀ {ds : List PyData} {vs : List V}, AllP (ds.map (py K)) F vs → DqAll K F vs ds
  | [], vs, h => by rw [h.inv0]; exact .nil
  | d :: ds, vs, h => by
    obtain ⟨v, us, rfl, h1, h2⟩ := AllP.inv (P := py K d) (Ps := ds.map (py K)) h
    exact .cons h1 (allP_dqAll h2)
/-- a list, a tuple of such -/
def lstP (Ps : List MP) : MP := ⟨fun F v => ∃ a vs, v = .ref a ∧ F a = some (.lst vs) ∧ AllP Ps F vs, fun _ _ _ e ⟨a, vs, h1, h2, h3⟩ => ⟨a, vs, h1, e _ _ h2, h3.mono e⟩⟩
def tupP (K : Fg) (Ps : List MP) : MP := ⟨fun F v => ∃ a vs, v = .ref a ∧ SqT K F a vs ∧ AllP Ps F vs, fun _ _ _ e ⟨a, vs, h1, h2, h3⟩ => ⟨a, vs, h1, ex_t e h2, h3.mono e⟩⟩
theorem py_list {K : Fg} {F : Hp} {v : V} {ds : List PyData} : (py K (.list ds)).p F v ↔ (lstP (ds.map (py K))).p F v := by
  constructor
  · intro h
    cases h with
    | lst hs ha => exact ⟨_, _, rfl, hs, dqAll_allP ha⟩
  · rintro ⟨a, vs, rfl, hs, ha⟩
    exact .lst hs (allP_dqAll ha)
theorem py_tuple {K : Fg} {F : Hp} {v : V} {ds : List PyData} : (py K (.tuple ds)).p F v ↔ (tupP K (ds.map (py K))).p F v := by
  constructor
  · intro h
    cases h with
    | tup hs ha => exact ⟨_, _, rfl, hs, dqAll_allP ha⟩
  · rintro ⟨a, vs, rfl, hs, ha⟩
    exact .tup hs (allP_dqAll ha)

/-! ### slots -/
/-- an object of one's own, of any make: its addresses; what is said of it -/
structure OP where
  fp : Hp → Addr → List Addr
  p : Hp → Hp → Addr → Prop
  self : ∀ H l, l ∈ fp H l
  fpk : ∀ H H' l, H' l = H l → fp H' l = fp H l
  frame : ∀ F F' H H' l, Ex F F' → (∀ a ∈ fp H l, H' a = H a) → p F H l → p F' H' l
  lay : ∀ F H l, p F H l → ∀ a ∈ fp H l, ∀ fs, H a ≠ some (.xd fs)
inductive SD where
  | un
  | im (P : MP)
  | ow (Ps : List MP)
  | ob (P : OP)
def SD.ok (H0 F H : Hp) (o : Option V) : SD → Prop
  | .un => True
  | .im P => ∃ v, o = some v ∧ P.p F v
  | .ow Ps => ∃ l vs, o = some (.ref l) ∧ H0 l = none ∧ F l = none ∧ H l = some (.lst vs) ∧ AllP Ps F vs
  | .ob P => ∃ l, o = some (.ref l) ∧ (P.fp H l).Nodup ∧ (∀ a ∈ P.fp H l, H0 a = none ∧ F a = none ∧ H a ≠ none) ∧ P.p F H l
def SD.isOw : SD → Bool
  | .ow _ => true
  | .ob _ => true
  | _ => false
/-- the addresses that are a slot's own -/
def SD.fo (H : Hp) : SD → Option V → List Addr
  | .ow _, some (.ref l) => [l]
  | .ob P, some (.ref l) => P.fp H l
  | _, _ => []
theorem SD.fo_un {H : Hp} {d : SD} {o : Option V} (h : d.isOw = false) : d.fo H o = [] := by
  cases d <;> first | (cases h; done) | rfl
structure Sl (H0 : Hp) (Φ : List SD) (σ : St) (F H : Hp) : Prop where
  len : σ.length = Φ.length
  at_ : ∀ (i : Nat) (d : SD) (o : Option V), Φ[i]? = some d → σ[i]? = some o → d.ok H0 F H o
  apart : ∀ (i j : Nat) (d e : SD) (o o' : Option V) (a : Addr), i ≠ j → Φ[i]? = some d → Φ[j]? = some e → σ[i]? = some o → σ[j]? = some o' → a ∈ d.fo H o → a ∈ e.fo H o' → False
section
variable {H0 F H F' H' : Hp} {Φ : List SD} {σ : St}
theorem ne_none {o : HO} {a : Addr} (e : H a = some o) : H a ≠ none := fun z => by rw [z] at e; cases e
theorem SD.alive {d : SD} {o : Option V} (h : d.ok H0 F H o) {a : Addr} (ha : a ∈ d.fo H o) : H0 a = none ∧ F a = none ∧ H a ≠ none := by
  cases d with
  | un => cases ha
  | im P => cases ha
  | ow Ps =>
    obtain ⟨l, vs, rfl, h1, h2, h3, _⟩ := h
    have ha : a ∈ [l] := ha
    rw [List.mem_singleton.mp ha]; exact ⟨h1, h2, ne_none h3⟩
  | ob P =>
    obtain ⟨l, rfl, _, h2, _⟩ := h
    exact h2 a ha
/-- a slot whose own addresses are let alone -/
theorem SD.ok_at {d : SD} {o : Option V} (h : d.ok H0 F H o) (hF : Ex F F') (hk : ∀ a ∈ d.fo H o, H' a = H a ∧ F' a = none) : d.ok H0 F' H' o ∧ d.fo H' o = d.fo H o := by
  cases d with
  | un => exact ⟨trivial, rfl⟩
  | im P => obtain ⟨v, h1, h2⟩ := h; exact ⟨⟨v, h1, P.mono _ _ _ hF h2⟩, rfl⟩
  | ow Ps =>
    obtain ⟨l, vs, rfl, h2, h3, h4, h5⟩ := h
    have hl := hk l (List.mem_singleton.mpr rfl)
    exact ⟨⟨l, vs, rfl, h2, hl.2, hl.1.trans h4, h5.mono hF⟩, rfl⟩
  | ob P =>
    obtain ⟨l, rfl, h2, h3, h4⟩ := h
    have hl := hk l (P.self H l)
    have e := P.fpk H H' l hl.1
    refine ⟨⟨l, rfl, by rw [e]; exact h2, fun a ha => ?_, P.frame F F' H H' l hF (fun a ha => (hk a ha).1) h4⟩, e⟩
    rw [e] at ha
    exact ⟨(h3 a ha).1, (hk a ha).2, by rw [(hk a ha).1]; exact (h3 a ha).2.2⟩
theorem SD.ok_gr' {d : SD} {o : Option V} (g : Gr F H F' H') (h : d.ok H0 F H o) : d.ok H0 F' H' o ∧ d.fo H' o = d.fo H o := SD.ok_at h g.f fun a ha => by
  have z := SD.alive h ha
  cases e : H a with
  | none => exact absurd e z.2.2
  | some u => exact ⟨g.h a u e, g.n a z.2.1 z.2.2⟩
theorem SD.ok_gr {d : SD} {o : Option V} (g : Gr F H F' H') (h : d.ok H0 F H o) : d.ok H0 F' H' o := (SD.ok_gr' g h).1
theorem Sl.gr (g : Gr F H F' H') (h : Sl H0 Φ σ F H) : Sl H0 Φ σ F' H' := ⟨h.len, fun i d o a b => SD.ok_gr g (h.at_ i d o a b), fun i j d e o o' a hij x y u v p q => by
  rw [(SD.ok_gr' g (h.at_ i d o x u)).2] at p
  rw [(SD.ok_gr' g (h.at_ j e o' y v)).2] at q
  exact h.apart i j d e o o' a hij x y u v p q⟩
theorem Sl.get {i : Nat} {d : SD} (h : Sl H0 Φ σ F H) (e : Φ[i]? = some d) : ∃ o, σ[i]? = some o ∧ d.ok H0 F H o := by
  have hi : i < σ.length := by rw [h.len]; exact (List.getElem?_eq_some_iff.mp e).1
  exact ⟨σ[i], List.getElem?_eq_getElem hi, h.at_ i d _ e (List.getElem?_eq_getElem hi)⟩
theorem Sl.im {i : Nat} {P : MP} (h : Sl H0 Φ σ F H) (e : Φ[i]? = some (.im P)) : ∃ v, σ[i]? = some (some v) ∧ P.p F v := by
  obtain ⟨o, h1, v, rfl, h2⟩ := h.get e
  exact ⟨v, h1, h2⟩
theorem Sl.ow {i : Nat} {Ps : List MP} (h : Sl H0 Φ σ F H) (e : Φ[i]? = some (.ow Ps)) : ∃ l vs, σ[i]? = some (some (.ref l)) ∧ H0 l = none ∧ F l = none ∧ H l = some (.lst vs) ∧ AllP Ps F vs := by
  obtain ⟨o, h1, l, vs, rfl, h2⟩ := h.get e
  exact ⟨l, vs, h1, h2⟩
theorem Sl.ob {i : Nat} {P : OP} (h : Sl H0 Φ σ F H) (e : Φ[i]? = some (.ob P)) : ∃ l, σ[i]? = some (some (.ref l)) ∧ (P.fp H l).Nodup ∧ (∀ a ∈ P.fp H l, H0 a = none ∧ F a = none ∧ H a ≠ none) ∧ P.p F H l := by
  obtain ⟨o, h1, l, rfl, h2⟩ := h.get e
  exact ⟨l, h1, h2⟩
theorem set_at {α : Type} {l : List α} {i j : Nat} {x y : α} (h : (l.set i x)[j]? = some y) : (i = j ∧ y = x) ∨ (i ≠ j ∧ l[j]? = some y) := by
  by_cases q : i = j
  · subst q
    rw [List.getElem?_set_self (by simpa using (List.getElem?_eq_some_iff.mp h).1)] at h
    cases h; exact .inl ⟨rfl, rfl⟩
  · rw [List.getElem?_set_ne q] at h; exact .inr ⟨q, h⟩
/-- a slot set anew: what is its own is nobody's else -/
theorem Sl.put {i : Nat} {d : SD} {o : Option V} (h : Sl H0 Φ σ F H) (hd : d.ok H0 F H o) (new : ∀ (j : Nat) (e : SD) (o' : Option V) (a : Addr), j ≠ i → Φ[j]? = some e → σ[j]? = some o' → a ∈ d.fo H o → a ∈ e.fo H o' → False) : Sl H0 (Φ.set i d) (σ.set i o) F H := by
  refine ⟨by simp [h.len], fun j e u a b => ?_, fun j k e e' u u' x hjk a b f g p q => ?_⟩
  · rcases set_at a with ⟨q, rfl⟩ | ⟨q, a⟩
    · rcases set_at b with ⟨_, rfl⟩ | ⟨q', _⟩
      · exact hd
      · exact absurd q q'
    · rcases set_at b with ⟨q', _⟩ | ⟨_, b⟩
      · exact absurd q' q
      · exact h.at_ j e u a b
  · rcases set_at a with ⟨q1, rfl⟩ | ⟨q1, a'⟩
    · rcases set_at f with ⟨_, rfl⟩ | ⟨z, _⟩
      · rcases set_at b with ⟨z, _⟩ | ⟨_, b'⟩
        · exact hjk (q1.symm.trans z)
        · rcases set_at g with ⟨z, _⟩ | ⟨_, g'⟩
          · exact hjk (q1.symm.trans z)
          · exact new k e' u' x (fun z => hjk (q1.symm.trans z.symm)) b' g' p q
      · exact z q1
    · rcases set_at f with ⟨z, _⟩ | ⟨_, f'⟩
      · exact q1 z
      · rcases set_at b with ⟨q2, rfl⟩ | ⟨q2, b'⟩
        · rcases set_at g with ⟨_, rfl⟩ | ⟨z, _⟩
          · exact new j e u x (fun z => hjk (z.trans q2)) a' f' q p
          · exact z q2
        · rcases set_at g with ⟨z, _⟩ | ⟨_, g'⟩
          · exact q2 z
          · exact h.apart j k e e' u u' x hjk a' b' f' g' p q
/-- a slot set to a settled value (or forgotten) -/
theorem Sl.set {i : Nat} {d : SD} {o : Option V} (h : Sl H0 Φ σ F H) (hd : d.ok H0 F H o) (ho : d.isOw = false) : Sl H0 (Φ.set i d) (σ.set i o) F H := h.put hd fun j e o' a _ _ _ z _ => by rw [SD.fo_un ho] at z; cases z
/-- a slot set to a new list of one's own -/
theorem Sl.setOw {i : Nat} {Ps : List MP} {l : Addr} {vs : List V} (h : Sl H0 Φ σ F H) (hl0 : H0 l = none) (hF : F l = none) (hH : H l = some (.lst vs)) (hP : AllP Ps F vs)
    (new : ∀ j e o', Φ[j]? = some e → σ[j]? = some o' → j ≠ i → l ∉ e.fo H o') : Sl H0 (Φ.set i (.ow Ps)) (σ.set i (some (.ref l))) F H := h.put ⟨l, vs, rfl, hl0, hF, hH, hP⟩ fun j e o' a hj x y p q => by
  have p : a ∈ [l] := p
  rw [List.mem_singleton.mp p] at q
  exact new j e o' x y hj q
/-- new lists are nobody's: l wasn't there -/
theorem Sl.new {l : Addr} {i : Nat} {F1 H1 : Hp} (h : Sl H0 Φ σ F H) (g : Gr F H F1 H1) (hl : H l = none) : ∀ j e o', Φ[j]? = some e → σ[j]? = some o' → j ≠ i → l ∉ e.fo H1 o' := fun j e o' a b _ z => by
  rw [(SD.ok_gr' g (h.at_ j e o' a b)).2] at z
  exact (SD.alive (h.at_ j e o' a b) z).2.2 hl
/-- what stands at slot i changes; the other slots' own things don't -/
theorem Sl.change {i : Nat} {d d' : SD} {o : Option V} (h : Sl H0 Φ σ F H) (e : Φ[i]? = some d) (hσ : σ[i]? = some o) (hF : Ex F F')
    (hk : ∀ (j : Nat) (c : SD) (o' : Option V) (a : Addr), j ≠ i → Φ[j]? = some c → σ[j]? = some o' → a ∈ c.fo H o' → H' a = H a ∧ F' a = none) (hd : d'.ok H0 F' H' o) (hs : ∀ a ∈ d'.fo H' o, a ∈ d.fo H o ∨ H a = none) : Sl H0 (Φ.set i d') σ F' H' := by
  have keep : ∀ (j : Nat) (c : SD) (o' : Option V), j ≠ i → Φ[j]? = some c → σ[j]? = some o' → c.ok H0 F' H' o' ∧ c.fo H' o' = c.fo H o' := fun j c o' hj x y => SD.ok_at (h.at_ j c o' x y) hF fun a ha => hk j c o' a hj x y ha
  have cross : ∀ (j : Nat) (c : SD) (o' : Option V) (a : Addr), j ≠ i → Φ[j]? = some c → σ[j]? = some o' → a ∈ d'.fo H' o → a ∈ c.fo H' o' → False := fun j c o' a hj x y p q => by
    rw [(keep j c o' hj x y).2] at q
    rcases hs a p with z | z
    · exact h.apart i j d c o o' a (fun w => hj w.symm) e x hσ y z q
    · exact (SD.alive (h.at_ j c o' x y) q).2.2 z
  refine ⟨by simp [h.len], fun j c u a b => ?_, fun j k c c' u u' x hjk a b f g p q => ?_⟩
  · rcases set_at a with ⟨z, rfl⟩ | ⟨z, a⟩
    · subst z; rw [hσ] at b; cases b; exact hd
    · exact (keep j c u (fun w => z w.symm) a b).1
  · rcases set_at a with ⟨z1, rfl⟩ | ⟨z1, a'⟩
    · subst z1
      rw [hσ] at f; cases f
      rcases set_at b with ⟨z2, _⟩ | ⟨z2, b'⟩
      · exact hjk z2
      · exact cross k c' u' x (fun w => z2 w.symm) b' g p q
    · rcases set_at b with ⟨z2, rfl⟩ | ⟨z2, b'⟩
      · subst z2
        rw [hσ] at g; cases g
        exact cross j c u x (fun w => z1 w.symm) a' f q p
      · rw [(keep j c u (fun w => z1 w.symm) a' f).2] at p
        rw [(keep k c' u' (fun w => z2 w.symm) b' g).2] at q
        exact h.apart j k c c' u u' x hjk a' b' f g p q
/-- two lists of one's own are two -/
theorem Sl.ow_ne {i j : Nat} {Ps Qs : List MP} {l l' : Addr} (h : Sl H0 Φ σ F H) (hij : i ≠ j) (a : Φ[i]? = some (.ow Ps)) (b : Φ[j]? = some (.ow Qs)) (f : σ[i]? = some (some (.ref l))) (g : σ[j]? = some (some (.ref l'))) : l ≠ l' := fun z => by
  subst z
  exact h.apart i j _ _ _ _ l hij a b f g (List.mem_singleton.mpr rfl) (List.mem_singleton.mpr rfl)
/-- a list of one's own and another slot's things -/
theorem Sl.ow_out {i j : Nat} {Ps : List MP} {l a : Addr} {c : SD} {o' : Option V} (h : Sl H0 Φ σ F H) (hj : j ≠ i) (e : Φ[i]? = some (.ow Ps)) (hσ : σ[i]? = some (some (.ref l))) (x : Φ[j]? = some c) (y : σ[j]? = some o') (q : a ∈ c.fo H o') : a ≠ l := fun z => by
  subst z
  exact h.apart i j _ _ _ _ a (fun w => hj w.symm) e x hσ y (List.mem_singleton.mpr rfl) q
/-- one's own list at slot i written -/
theorem Sl.write {i : Nat} {Ps Qs : List MP} {l : Addr} {vs : List V} (h : Sl H0 Φ σ F H) (e : Φ[i]? = some (.ow Ps)) (hσ : σ[i]? = some (some (.ref l))) (hl0 : H0 l = none) (hF : F l = none) (hP : AllP Qs F vs) :
    Sl H0 (Φ.set i (.ow Qs)) σ F (upd H l (.lst vs)) := h.change e hσ (Ex.refl F) (fun j c o' a hj x y q => ⟨upd_ne (h.ow_out hj e hσ x y q), (SD.alive (h.at_ j c o' x y) q).2.1⟩) ⟨l, vs, rfl, hl0, hF, upd_same, hP⟩ fun a ha => .inl ha
/-- one's own list at slot i settled, as P -/
theorem Sl.settleP {i : Nat} {Ps : List MP} {P : MP} {l : Addr} {vs : List V} (h : Sl H0 Φ σ F H) (s : Ex F H) (e : Φ[i]? = some (.ow Ps)) (hσ : σ[i]? = some (some (.ref l))) (hF : F l = none) (hH : H l = some (.lst vs)) (hP : P.p (upd F l (.lst vs)) (.ref l)) :
    Sl H0 (Φ.set i (.im P)) σ (upd F l (.lst vs)) H := by
  obtain ⟨x1, x2⟩ := Gr.settle s hF hH
  exact h.change e hσ x1 (fun j c o' a hj x y q => ⟨rfl, by rw [upd_ne (h.ow_out hj e hσ x y q)]; exact (SD.alive (h.at_ j c o' x y) q).2.1⟩) ⟨_, rfl, hP⟩ fun a ha => by cases ha
theorem Sl.settle {i : Nat} {Ps : List MP} {l : Addr} {vs : List V} (h : Sl H0 Φ σ F H) (s : Ex F H) (e : Φ[i]? = some (.ow Ps)) (hσ : σ[i]? = some (some (.ref l))) (hF : F l = none) (hH : H l = some (.lst vs)) (hP : AllP Ps F vs) :
    Sl H0 (Φ.set i (.im (lstP Ps))) σ (upd F l (.lst vs)) H := h.settleP s e hσ hF hH ⟨l, vs, rfl, upd_same, hP.mono (Gr.settle s hF hH).1⟩
end
end GL

set_option Elab.async false
set_option linter.all false
set_option maxRecDepth 100000
set_option maxHeartbeats 4000000
namespace GL
open PySem L2
open Evl (Ex ex_l ex_t)

/-! ### data of a type -/
class Py (α : Type) where
  enc : α → PyData
  can : ∀ x : α, (enc x).canLay0 = true
  dep : Nat
  deep : ∀ x : α, (enc x).depth ≤ dep
abbrev enc {α : Type} [Py α] (x : α) : PyData := Py.enc x
/-- == is = -/
class PyQ (α : Type) [Py α] where
  eqv : ∀ x y : α, PyData.eqv (enc x) (enc y) = true ↔ x = y
theorem eqv_dec {α : Type} [Py α] [PyQ α] [DecidableEq α] (x y : α) : PyData.eqv (enc x) (enc y) = decide (x = y) := by
  by_cases h : x = y
  · rw [(PyQ.eqv x y).mpr h, decide_eq_true h]
  · rw [decide_eq_false h]
    cases q : PyData.eqv (enc x) (enc y) with
    | false => rfl
    | true => exact absurd ((PyQ.eqv x y).mp q) h
theorem shaped_of {α : Type} [Py α] (h : Py.dep α ≤ 64) (x : α) : SeqAt.shaped (enc x) = true := by
  unfold SeqAt.shaped
  rw [Py.can x, Bool.true_and]
  exact decide_eq_true (Nat.le_trans (Py.deep x) h)

instance : Py Int := ⟨.int, fun _ => by simp [PyData.canLay0], 0, fun _ => by simp [PyData.depth]⟩
instance : PyQ Int := ⟨fun x y => by simp [enc, Py.enc, PyData.eqv]⟩
instance : Py Bool := ⟨.bool, fun _ => by simp [PyData.canLay0], 0, fun _ => by simp [PyData.depth]⟩
instance : PyQ Bool := ⟨fun x y => by simp [enc, Py.enc, PyData.eqv]⟩
instance : Py Unit := ⟨fun _ => .none, fun _ => by simp [PyData.canLay0], 0, fun _ => by simp [PyData.depth]⟩
instance : PyQ Unit := ⟨fun x y => by simp [enc, Py.enc, PyData.eqv]⟩
theorem canAll {α : Type} [Py α] : ∀ xs : List α, PyData.canLayAll0 (xs.map enc) = true
  | [] => by simp [PyData.canLayAll0]
  | x :: xs => by simp [PyData.canLayAll0, canAll xs, enc, Py.can x]
theorem depAll {α : Type} [Py α] : ∀ xs : List α, PyData.depthAll (xs.map enc) ≤ Py.dep α
  | [] => by simp [PyData.depthAll]
  | x :: xs => by
    have h1 := Py.deep x
    have h2 := depAll xs
    simp only [List.map_cons, PyData.depthAll, enc] at *
    omega
theorem eqvAll_iff {α : Type} [Py α] [PyQ α] : ∀ xs ys : List α, PyData.eqvAll (xs.map enc) (ys.map enc) = true ↔ xs = ys
  | [], [] => by simp [PyData.eqvAll]
  | [], y :: ys => by simp [PyData.eqvAll]
  | x :: xs, [] => by simp [PyData.eqvAll]
  | x :: xs, y :: ys => by
    have h1 := PyQ.eqv x y
    have h2 := eqvAll_iff xs ys
    simp only [List.map_cons, PyData.eqvAll, Bool.and_eq_true, h1, h2, List.cons.injEq]
instance {α : Type} [Py α] : Py (List α) := ⟨fun xs => .list (xs.map enc), fun xs => by simpa [PyData.canLay0] using canAll xs, Py.dep α + 1, fun xs => by
  have := depAll xs
  simp only [PyData.depth]; omega⟩
instance {α : Type} [Py α] [PyQ α] : PyQ (List α) := ⟨fun xs ys => by
  show PyData.eqv (.list (xs.map enc)) (.list (ys.map enc)) = true ↔ _
  rw [PyData.eqv]; exact eqvAll_iff xs ys⟩
/-- a tuple of any length -/
structure Tup (α : Type) where
  l : List α
  deriving DecidableEq, Inhabited
instance {α : Type} [Py α] : Py (Tup α) := ⟨fun xs => .tuple (xs.l.map enc), fun xs => by simpa [PyData.canLay0] using canAll xs.l, Py.dep α + 1, fun xs => by
  have := depAll xs.l
  simp only [PyData.depth]; omega⟩
instance {α : Type} [Py α] [PyQ α] : PyQ (Tup α) := ⟨fun xs ys => by
  show PyData.eqv (.tuple (xs.l.map enc)) (.tuple (ys.l.map enc)) = true ↔ _
  rw [PyData.eqv, eqvAll_iff]
  cases xs; cases ys; simp⟩
instance {α β : Type} [Py α] [Py β] : Py (α × β) := ⟨fun p => .tuple [enc p.1, enc p.2], fun p => by simp [PyData.canLay0, PyData.canLayAll0, Py.can], max (Py.dep α) (Py.dep β) + 1, fun p => by
  have := Py.deep p.1
  have := Py.deep p.2
  simp only [PyData.depth, PyData.depthAll, enc]; omega⟩
instance {α β : Type} [Py α] [Py β] [PyQ α] [PyQ β] : PyQ (α × β) := ⟨fun p q => by
  show PyData.eqv (.tuple [enc p.1, enc p.2]) (.tuple [enc q.1, enc q.2]) = true ↔ _
  have h1 := PyQ.eqv p.1 q.1
  have h2 := PyQ.eqv p.2 q.2
  simp only [PyData.eqv, PyData.eqvAll, Bool.and_true, Bool.and_eq_true, h1, h2]
  cases p; cases q; simp⟩
structure T3 (α β γ : Type) where
  a : α
  b : β
  c : γ
  deriving DecidableEq, Inhabited
structure T4 (α β γ δ : Type) where
  a : α
  b : β
  c : γ
  d : δ
  deriving DecidableEq, Inhabited
structure T5 (α β γ δ ε : Type) where
  a : α
  b : β
  c : γ
  d : δ
  e : ε
  deriving DecidableEq, Inhabited
instance {α β γ : Type} [Py α] [Py β] [Py γ] : Py (T3 α β γ) := ⟨fun p => .tuple [enc p.a, enc p.b, enc p.c], fun p => by simp [PyData.canLay0, PyData.canLayAll0, Py.can], max (max (Py.dep α) (Py.dep β)) (Py.dep γ) + 1, fun p => by
  have := Py.deep p.a
  have := Py.deep p.b
  have := Py.deep p.c
  simp only [PyData.depth, PyData.depthAll, enc]; omega⟩
instance {α β γ : Type} [Py α] [Py β] [Py γ] [PyQ α] [PyQ β] [PyQ γ] : PyQ (T3 α β γ) := ⟨fun p q => by
  show PyData.eqv (.tuple [enc p.a, enc p.b, enc p.c]) (.tuple [enc q.a, enc q.b, enc q.c]) = true ↔ _
  have h1 := PyQ.eqv p.a q.a
  have h2 := PyQ.eqv p.b q.b
  have h3 := PyQ.eqv p.c q.c
  simp only [PyData.eqv, PyData.eqvAll, Bool.and_true, Bool.and_eq_true, h1, h2, h3]
  cases p; cases q; simp⟩
instance {α β γ δ : Type} [Py α] [Py β] [Py γ] [Py δ] : Py (T4 α β γ δ) := ⟨fun p => .tuple [enc p.a, enc p.b, enc p.c, enc p.d], fun p => by simp [PyData.canLay0, PyData.canLayAll0, Py.can], max (max (Py.dep α) (Py.dep β)) (max (Py.dep γ) (Py.dep δ)) + 1, fun p => by
  have := Py.deep p.a
  have := Py.deep p.b
  have := Py.deep p.c
  have := Py.deep p.d
  simp only [PyData.depth, PyData.depthAll, enc]; omega⟩
instance {α β γ δ : Type} [Py α] [Py β] [Py γ] [Py δ] [PyQ α] [PyQ β] [PyQ γ] [PyQ δ] : PyQ (T4 α β γ δ) := ⟨fun p q => by
  show PyData.eqv (.tuple [enc p.a, enc p.b, enc p.c, enc p.d]) (.tuple [enc q.a, enc q.b, enc q.c, enc q.d]) = true ↔ _
  have h1 := PyQ.eqv p.a q.a
  have h2 := PyQ.eqv p.b q.b
  have h3 := PyQ.eqv p.c q.c
  have h4 := PyQ.eqv p.d q.d
  simp only [PyData.eqv, PyData.eqvAll, Bool.and_true, Bool.and_eq_true, h1, h2, h3, h4]
  cases p; cases q; simp⟩
instance {α β γ δ ε : Type} [Py α] [Py β] [Py γ] [Py δ] [Py ε] : Py (T5 α β γ δ ε) := ⟨fun p => .tuple [enc p.a, enc p.b, enc p.c, enc p.d, enc p.e], fun p => by simp [PyData.canLay0, PyData.canLayAll0, Py.can], max (max (max (Py.dep α) (Py.dep β)) (max (Py.dep γ) (Py.dep δ))) (Py.dep ε) + 1, fun p => by
  have := Py.deep p.a
  have := Py.deep p.b
  have := Py.deep p.c
  have := Py.deep p.d
  have := Py.deep p.e
  simp only [PyData.depth, PyData.depthAll, enc]; omega⟩
instance {α β γ δ ε : Type} [Py α] [Py β] [Py γ] [Py δ] [Py ε] [PyQ α] [PyQ β] [PyQ γ] [PyQ δ] [PyQ ε] : PyQ (T5 α β γ δ ε) := ⟨fun p q => by
  show PyData.eqv (.tuple [enc p.a, enc p.b, enc p.c, enc p.d, enc p.e]) (.tuple [enc q.a, enc q.b, enc q.c, enc q.d, enc q.e]) = true ↔ _
  have h1 := PyQ.eqv p.a q.a
  have h2 := PyQ.eqv p.b q.b
  have h3 := PyQ.eqv p.c q.c
  have h4 := PyQ.eqv p.d q.d
  have h5 := PyQ.eqv p.e q.e
  simp only [PyData.eqv, PyData.eqvAll, Bool.and_true, Bool.and_eq_true, h1, h2, h3, h4, h5]
  cases p; cases q; simp⟩
/-- x or None -/
instance {α : Type} [Py α] : Py (Option α) := ⟨fun o => match o with | none => .none | some x => enc x, fun o => by cases o <;> simp [PyData.canLay0, Py.can], Py.dep α, fun o => by
  cases o with
  | none => simp [PyData.depth]
  | some x => exact Py.deep x⟩

abbrev rp (K : Fg) {α : Type} [Py α] (x : α) : MP := py K (enc x)
abbrev rps (K : Fg) {α : Type} [Py α] (xs : List α) : List MP := xs.map fun x => py K (enc x)
abbrev sI (K : Fg) {α : Type} [Py α] (x : α) : SD := .im (py K (enc x))
abbrev sO (K : Fg) {α : Type} [Py α] (xs : List α) : SD := .ow (xs.map fun x => py K (enc x))
theorem rps_map {K : Fg} {α : Type} [Py α] (xs : List α) : (xs.map enc).map (py K) = rps K xs := by simp [rps]
theorem py_lst {K : Fg} {F : Hp} {v : V} {α : Type} [Py α] {xs : List α} : (py K (enc xs)).p F v ↔ (lstP (rps K xs)).p F v := by
  rw [← rps_map]; exact py_list
theorem py_tup {K : Fg} {F : Hp} {v : V} {α : Type} [Py α] {xs : Tup α} : (py K (enc xs)).p F v ↔ (tupP K (rps K xs.l)).p F v := by
  rw [← rps_map]; exact py_tuple

/-! ### the judgements -/
section
variable (X : Cx)
def wE (e : Expr) : TE := fun σ H Q => ∀ pins s, Inv X pins σ H s → wpAny (model X.prog X.w) X.A (eval e X.env) (EP X pins σ Q) X.xe s
def wT (e : Expr) : TT := fun σ H Q => ∀ pins s, Inv X pins σ H s → wpAny (model X.prog X.w) X.A (isTrue e X.env (eval e X.env)) (TP X pins σ Q) X.xe s
def wW (e : Expr) : TT := fun σ H Q => ∀ (whole : Sem Value) pins s, Inv X pins σ H s → wpAny (model X.prog X.w) X.A (isTrue e X.env whole) (TP X pins σ Q) X.xe s
def wA (es : List Expr) : TA := fun σ H Q => ∀ (pos : Pos) pins s, Inv X pins σ H s → wpAny (model X.prog X.w) X.A (spliced (backTo pos (starEach es X.env))) (AP X pins σ Q) X.xe s
def wS (st : Stmt) : TS := fun D σ H => ∀ pins s, Inv X pins σ H s → wpAny (model X.prog X.w) X.A (exec st X.env) (SP X pins D) X.xe s
def wSs (st : List Stmt) : TS := fun D σ H => ∀ pins s, Inv X pins σ H s → wpAny (model X.prog X.w) X.A (execs st X.env) (SP X pins D) X.xe s
def wG (tg : Expr) : TG := fun v σ H Q => ∀ pins s u, Inv X pins σ H s → RelV v u → wpAny (model X.prog X.w) X.A (assign tg X.env u) (fun _ s' => ∃ σ' H', Inv X pins σ' H' s' ∧ Q σ' H') X.xe s
def wI (tg iter : Expr) : TI := fun σ H R => ∀ pins s, Inv X pins σ H s → wpAny (model X.prog X.w) X.A (eval iter X.env) (fun v s1 => wpAny (model X.prog X.w) X.A (pyIter v) (PIE X pins σ tg R) X.xe s1) X.xe s
variable {X}
theorem peW {e : Expr} : PE X e (wE X e) := ⟨fun pins s _ _ _ I h => h pins s I⟩
theorem ptW {e : Expr} : PT X e (wT X e) := ⟨fun pins s _ _ _ I h => h pins s I⟩
theorem pwW {e : Expr} : PW X e (wW X e) := ⟨fun whole pins s _ _ _ I h => h whole pins s I⟩
theorem paW {es : List Expr} : PA X es (wA X es) := ⟨fun pos pins s _ _ _ I h => h pos pins s I⟩
theorem psW {st : Stmt} : PS X st (wS X st) := ⟨fun pins s _ _ _ I h => h pins s I⟩
theorem pssW {st : List Stmt} : PSs X st (wSs X st) := ⟨fun pins s _ _ _ I h => h pins s I⟩
theorem pgW {tg : Expr} : PG X tg (wG X tg) := ⟨fun pins s _ _ _ u _ I r h => h pins s u I r⟩
theorem piW {tg iter : Expr} : PI X tg iter (wI X tg iter) := ⟨fun pins s _ _ _ I h => h pins s I⟩
theorem wE_of {e : Expr} {t : TE} {σ : St} {H : Hp} {Q : VK} (p : PE X e t) (h : t σ H Q) : wE X e σ H Q := fun pins s I => p.run pins s σ H Q I h
theorem wT_of {e : Expr} {t : TT} {σ : St} {H : Hp} {Q : Bool → Hp → Prop} (p : PT X e t) (h : t σ H Q) : wT X e σ H Q := fun pins s I => p.run pins s σ H Q I h
theorem wW_of {e : Expr} {t : TT} {σ : St} {H : Hp} {Q : Bool → Hp → Prop} (p : PW X e t) (h : t σ H Q) : wW X e σ H Q := fun whole pins s I => p.run whole pins s σ H Q I h
theorem wA_of {es : List Expr} {t : TA} {σ : St} {H : Hp} {Q : List V → Hp → Prop} (p : PA X es t) (h : t σ H Q) : wA X es σ H Q := fun pos pins s I => p.run pos pins s σ H Q I h
theorem wS_of {st : Stmt} {t : TS} {σ : St} {H : Hp} {D : Ends} (p : PS X st t) (h : t D σ H) : wS X st D σ H := fun pins s I => p.run pins s σ H D I h
theorem wSs_of {st : List Stmt} {t : TS} {σ : St} {H : Hp} {D : Ends} (p : PSs X st t) (h : t D σ H) : wSs X st D σ H := fun pins s I => p.run pins s σ H D I h
theorem wG_of {tg : Expr} {t : TG} {v : V} {σ : St} {H : Hp} {Q : St → Hp → Prop} (p : PG X tg t) (h : t v σ H Q) : wG X tg v σ H Q := fun pins s u I r => p.run pins s σ H v u Q I r h
theorem wI_of {tg iter : Expr} {t : TI} {σ : St} {H : Hp} {R : It → Hp → Prop} (p : PI X tg iter t) (h : t σ H R) : wI X tg iter σ H R := fun pins s I => p.run pins s σ H R I h
variable (X)
/-- e gives a settled value | a new list of one's own | a list that may be read | arguments | a truth -/
structure PEv (Φ : List SD) (e : Expr) (P : MP) : Prop where
  run : ∀ (H0 : Hp) (σ : St) (F H : Hp) (Q : VK), Ex F H → Sl H0 Φ σ F H → (∀ v F' H', Gr F H F' H' → P.p F' v → Q v H') → wE X e σ H Q
instance {Φ : List SD} {e : Expr} {P : MP} : CoeFun (PEv X Φ e P) (fun _ => ∀ (H0 : Hp) (σ : St) (F H : Hp) (Q : VK), Ex F H → Sl H0 Φ σ F H → (∀ v F' H', Gr F H F' H' → P.p F' v → Q v H') → wE X e σ H Q) := ⟨PEv.run⟩
structure PEn (Φ : List SD) (e : Expr) (Ps : List MP) : Prop where
  run : ∀ (H0 : Hp) (σ : St) (F H : Hp) (Q : VK), Ex F H → Sl H0 Φ σ F H → (∀ a vs F' H', Gr F H F' H' → H a = none → F' a = none → H' a = some (.lst vs) → AllP Ps F' vs → Q (.ref a) H') → wE X e σ H Q
instance {Φ : List SD} {e : Expr} {Ps : List MP} : CoeFun (PEn X Φ e Ps) (fun _ => ∀ (H0 : Hp) (σ : St) (F H : Hp) (Q : VK), Ex F H → Sl H0 Φ σ F H → (∀ a vs F' H', Gr F H F' H' → H a = none → F' a = none → H' a = some (.lst vs) → AllP Ps F' vs → Q (.ref a) H') → wE X e σ H Q) := ⟨PEn.run⟩
structure PEl (Φ : List SD) (e : Expr) (Ps : List MP) : Prop where
  run : ∀ (H0 : Hp) (σ : St) (F H : Hp) (Q : VK), Ex F H → Sl H0 Φ σ F H → (∀ a vs F' H', Gr F H F' H' → SqL X.K H' a vs → AllP Ps F' vs → Q (.ref a) H') → wE X e σ H Q
instance {Φ : List SD} {e : Expr} {Ps : List MP} : CoeFun (PEl X Φ e Ps) (fun _ => ∀ (H0 : Hp) (σ : St) (F H : Hp) (Q : VK), Ex F H → Sl H0 Φ σ F H → (∀ a vs F' H', Gr F H F' H' → SqL X.K H' a vs → AllP Ps F' vs → Q (.ref a) H') → wE X e σ H Q) := ⟨PEl.run⟩
structure PEk (Φ : List SD) (e : Expr) (Ps : List MP) : Prop where
  run : ∀ (H0 : Hp) (σ : St) (F H : Hp) (Q : VK), Ex F H → Sl H0 Φ σ F H → (∀ a vs F' H', Gr F H F' H' → H' a = some (.lst vs) → AllP Ps F' vs → Q (.ref a) H') → wE X e σ H Q
instance {Φ : List SD} {e : Expr} {Ps : List MP} : CoeFun (PEk X Φ e Ps) (fun _ => ∀ (H0 : Hp) (σ : St) (F H : Hp) (Q : VK), Ex F H → Sl H0 Φ σ F H → (∀ a vs F' H', Gr F H F' H' → H' a = some (.lst vs) → AllP Ps F' vs → Q (.ref a) H') → wE X e σ H Q) := ⟨PEk.run⟩
structure PAs (Φ : List SD) (es : List Expr) (Ps : List MP) : Prop where
  run : ∀ (H0 : Hp) (σ : St) (F H : Hp) (Q : List V → Hp → Prop), Ex F H → Sl H0 Φ σ F H → (∀ vs F' H', Gr F H F' H' → AllP Ps F' vs → Q vs H') → wA X es σ H Q
instance {Φ : List SD} {es : List Expr} {Ps : List MP} : CoeFun (PAs X Φ es Ps) (fun _ => ∀ (H0 : Hp) (σ : St) (F H : Hp) (Q : List V → Hp → Prop), Ex F H → Sl H0 Φ σ F H → (∀ vs F' H', Gr F H F' H' → AllP Ps F' vs → Q vs H') → wA X es σ H Q) := ⟨PAs.run⟩
structure PTv (Φ : List SD) (e : Expr) (b : Bool) : Prop where
  run : ∀ (H0 : Hp) (σ : St) (F H : Hp) (Q : Bool → Hp → Prop), Ex F H → Sl H0 Φ σ F H → (∀ F' H', Gr F H F' H' → Q b H') → wT X e σ H Q
instance {Φ : List SD} {e : Expr} {b : Bool} : CoeFun (PTv X Φ e b) (fun _ => ∀ (H0 : Hp) (σ : St) (F H : Hp) (Q : Bool → Hp → Prop), Ex F H → Sl H0 Φ σ F H → (∀ F' H', Gr F H F' H' → Q b H') → wT X e σ H Q) := ⟨PTv.run⟩
structure PWv (Φ : List SD) (e : Expr) (b : Bool) : Prop where
  run : ∀ (H0 : Hp) (σ : St) (F H : Hp) (Q : Bool → Hp → Prop), Ex F H → Sl H0 Φ σ F H → (∀ F' H', Gr F H F' H' → Q b H') → wW X e σ H Q
instance {Φ : List SD} {e : Expr} {b : Bool} : CoeFun (PWv X Φ e b) (fun _ => ∀ (H0 : Hp) (σ : St) (F H : Hp) (Q : Bool → Hp → Prop), Ex F H → Sl H0 Φ σ F H → (∀ F' H', Gr F H F' H' → Q b H') → wW X e σ H Q) := ⟨PWv.run⟩
abbrev PV (Φ : List SD) (e : Expr) {α : Type} [Py α] (x : α) : Prop := PEv X Φ e (py X.K (enc x))
abbrev PN (Φ : List SD) (e : Expr) {α : Type} [Py α] (xs : List α) : Prop := PEn X Φ e (xs.map fun x => py X.K (enc x))
abbrev PK (Φ : List SD) (e : Expr) {α : Type} [Py α] (xs : List α) : Prop := PEk X Φ e (xs.map fun x => py X.K (enc x))
abbrev PD (Φ : List SD) (e : Expr) {α : Type} [Py α] (x : α) : Prop := PEv X Φ e (dp X.K (enc x))
abbrev PL (Φ : List SD) (e : Expr) {α : Type} [Py α] (xs : List α) : Prop := PEl X Φ e (xs.map fun x => py X.K (enc x))
end

section
variable {X : Cx} {Φ : List SD} {a b c e : Expr} {es : List Expr} {pos p p2 : Pos} {P : MP} {Ps : List MP} {i j k : Int}
/-! ### from one to the other -/
theorem PEn.xk (h : PEn X Φ e Ps) : PEk X Φ e Ps := .mk fun H0 σ F H Q s sl q => h H0 σ F H Q s sl fun a vs F' H' g _ _ h2 h3 => q a vs F' H' g h2 h3
theorem PEk.l (h : PEk X Φ e Ps) : PEl X Φ e Ps := .mk fun H0 σ F H Q s sl q => h H0 σ F H Q s sl fun a vs F' H' g h2 h3 => q a vs F' H' g (SqL.of h2) h3
theorem PEn.v (h : PEn X Φ e Ps) : PEv X Φ e (lstP Ps) := .mk fun H0 σ F H Q s sl q => h H0 σ F H Q s sl fun a vs F' H' g h1 h2 h3 h4 => by
  obtain ⟨x1, x2⟩ := Gr.settle g.s h2 h3
  refine q (.ref a) _ H' ⟨g.f.trans x1, g.h, x2, fun b z1 z2 => ?_⟩ ⟨a, vs, rfl, upd_same, h4.mono x1⟩
  have hb : b ≠ a := fun w => z2 (by rw [w]; exact h1)
  rw [upd_ne hb]; exact g.n b z1 z2
theorem PEv.xk (h : PEv X Φ e (lstP Ps)) : PEk X Φ e Ps := .mk fun H0 σ F H Q s sl q => h H0 σ F H Q s sl fun v F' H' g ⟨a, vs, h1, h2, h3⟩ => by
  subst h1; exact q a vs F' H' g (g.s _ _ h2) h3
theorem PN.xk {α : Type} [Py α] {xs : List α} (h : PN X Φ e xs) : PK X Φ e xs := PEn.xk h
theorem PK.l {α : Type} [Py α] {xs : List α} (h : PK X Φ e xs) : PL X Φ e xs := PEk.l h
theorem PEv.imp {P' : MP} (h : PEv X Φ e P) (w : ∀ F v, P.p F v → P'.p F v) : PEv X Φ e P' := .mk fun H0 σ F H Q s sl q => h H0 σ F H Q s sl fun v F' H' g z => q v F' H' g (w _ _ z)
theorem PN.v {α : Type} [Py α] {xs : List α} (h : PN X Φ e xs) : PV X Φ e xs := (PEn.v h).imp fun _ _ z => py_lst.mpr z
theorem PV.xk {α : Type} [Py α] {xs : List α} (h : PV X Φ e xs) : PK X Φ e xs := PEv.xk (PEv.imp h fun _ _ z => py_lst.mp z)
theorem PV.d {α : Type} [Py α] {x : α} (h : PV X Φ e x) : PD X Φ e x := PEv.imp h fun _ _ z => dq_dp _ _ z
/-! ### leaves -/
theorem v_im (n : Nat) {x : Str} (h : Φ[n]? = some (.im P) := by rfl) (hN : X.N[n]? = some x := by rfl) (hv : Vis X.env.scope x := by first | exact Or.inl rfl | exact Or.inr (Or.inl rfl) | exact Or.inr (Or.inr rfl)) (hd : (x == ("__debug__" : Str)) = false := by decide)
    (hcd : (x == ("__classdict__" : Str)) = false := by decide) : PEv X Φ (.Name x pos) P := .mk fun H0 σ F H Q s sl q => by
  obtain ⟨v, h1, h2⟩ := sl.im h
  exact wE_of (pe_var hN hv hd hcd) ⟨v, h1, q v F H (Gr.refl s) h2⟩
theorem v_ow (n : Nat) {x : Str} (h : Φ[n]? = some (.ow Ps) := by rfl) (hN : X.N[n]? = some x := by rfl) (hv : Vis X.env.scope x := by first | exact Or.inl rfl | exact Or.inr (Or.inl rfl) | exact Or.inr (Or.inr rfl)) (hd : (x == ("__debug__" : Str)) = false := by decide)
    (hcd : (x == ("__classdict__" : Str)) = false := by decide) : PEk X Φ (.Name x pos) Ps := .mk fun H0 σ F H Q s sl q => by
  obtain ⟨l, vs, h1, h2, h3, h4, h5⟩ := sl.ow h
  exact wE_of (pe_var hN hv hd hcd) ⟨_, h1, q l vs F H (Gr.refl s) h4 h5⟩
theorem v_int : PV X Φ (.Constant (.int i) 0 pos) i := .mk fun H0 σ F H Q s sl q => wE_of pe_int (q _ _ _ (Gr.refl s) (.int i))
theorem v_bl {k : Bool} : PV X Φ (.Constant (.bool k) 0 pos) k := .mk fun H0 σ F H Q s sl q => wE_of pe_bl (q _ _ _ (Gr.refl s) (.bl k))
theorem v_non : PV X Φ (.Constant .none 0 pos) () := .mk fun H0 σ F H Q s sl q => wE_of pe_non (q _ _ _ (Gr.refl s) .non)
theorem v_gint {x : Str} {t : Tok} (hg : Gl X x) (hm : X.mg x = some (.int i t)) (hd : (x == ("__debug__" : Str)) = false := by decide) : PV X Φ (.Name x pos) i := .mk fun H0 σ F H Q s sl q =>
  wE_of (pe_glob (v := .int i) hg hm ⟨t, rfl⟩ hd) (q _ _ _ (Gr.refl s) (.int i))
/-! ### ints -/
theorem v_op2 {op : Operator} {C : Int → Int → Prop} {f : Int → Int → Int} (ho : OpR X (binaryOp op) (rI C fun i j => .int (f i j))) (ha : PV X Φ a i) (hb : PV X Φ b j) (hc : C i j) : PV X Φ (.BinOp a op b pos) (f i j) := .mk fun H0 σ F H Q s sl q =>
  wE_of (pe_op ho peW peW) (ha H0 σ F H _ s sl fun x F1 H1 g1 p1 => hb H0 σ F1 H1 _ g1.s (sl.gr g1) fun y F2 H2 g2 p2 => by
    cases p1; cases p2
    exact ⟨i, j, rfl, rfl, hc, q _ _ _ (g1.trans g2) (.int _)⟩)
theorem v_op0 {op : Operator} {f : Int → Int → Int} (ho : OpR X (binaryOp op) (rI0 fun i j => .int (f i j))) (ha : PV X Φ a i) (hb : PV X Φ b j) : PV X Φ (.BinOp a op b pos) (f i j) := .mk fun H0 σ F H Q s sl q =>
  wE_of (pe_op ho peW peW) (ha H0 σ F H _ s sl fun x F1 H1 g1 p1 => hb H0 σ F1 H1 _ g1.s (sl.gr g1) fun y F2 H2 g2 p2 => by
    cases p1; cases p2
    exact ⟨i, j, rfl, rfl, q _ _ _ (g1.trans g2) (.int _)⟩)
theorem v_add (ha : PV X Φ a i) (hb : PV X Φ b j) : PV X Φ (.BinOp a .Add b pos) (i + j) := v_op0 op_add ha hb
theorem v_sub (ha : PV X Φ a i) (hb : PV X Φ b j) : PV X Φ (.BinOp a .Sub b pos) (i - j) := v_op0 op_sub ha hb
theorem v_mul (ha : PV X Φ a i) (hb : PV X Φ b j) (hc : CMul i j) : PV X Φ (.BinOp a .Mult b pos) (i * j) := v_op2 op_mul ha hb hc
theorem v_mulW (ha : PV X Φ a i) (hb : PV X Φ b j) (hc : CMulW i j) : PV X Φ (.BinOp a .Mult b pos) (i * j) := v_op2 op_mulW ha hb hc
theorem v_div (ha : PV X Φ a i) (hb : PV X Φ b j) (hc : CDivW i j) : PV X Φ (.BinOp a .FloorDiv b pos) (i / j) := v_op2 op_fdivW ha hb hc
theorem v_mod (ha : PV X Φ a i) (hb : PV X Φ b j) (hc : 0 < j) : PV X Φ (.BinOp a .Mod b pos) (i % j) := v_op2 (C := fun _ j => 0 < j) op_mod ha hb hc
theorem v_pow (ha : PV X Φ a i) (hb : PV X Φ b j) (hc : CPow i j) : PV X Φ (.BinOp a .Pow b pos) (i ^ j.toNat) := v_op2 op_pow ha hb hc
theorem v_neg (ha : PV X Φ a i) : PV X Φ (.UnaryOp .USub a pos) (-i) := .mk fun H0 σ F H Q s sl q =>
  wE_of (pe_un un_neg peW) (ha H0 σ F H _ s sl fun x F1 H1 g1 p1 => by cases p1; exact ⟨i, rfl, q _ _ _ g1 (.int _)⟩)
/-! ### comparisons, tests -/
theorem v_cmp {op : CmpOp} {f : Int → Int → Bool} (ho : OpR X (compareOp op) (rI0 fun i j => .bl (f i j))) (ha : PV X Φ a i) (hb : PV X Φ b j) (hm : behindInMarks op b = false := by first | exact nomark _ | rfl) : PV X Φ (.Compare a [op] [b] pos) (f i j) := .mk fun H0 σ F H Q s sl q =>
  wE_of (pe_cmpR ho peW peW hm) (ha H0 σ F H _ s sl fun x F1 H1 g1 p1 => hb H0 σ F1 H1 _ g1.s (sl.gr g1) fun y F2 H2 g2 p2 => by
    cases p1; cases p2
    exact ⟨i, j, rfl, rfl, q _ _ _ (g1.trans g2) (.bl _)⟩)
theorem v_lt (ha : PV X Φ a i) (hb : PV X Φ b j) : PV X Φ (.Compare a [.Lt] [b] pos) (decide (i < j)) := v_cmp op_lt ha hb (nomark _)
theorem v_le (ha : PV X Φ a i) (hb : PV X Φ b j) : PV X Φ (.Compare a [.LtE] [b] pos) (decide (i ≤ j)) := v_cmp op_le ha hb (nomark _)
theorem v_gt (ha : PV X Φ a i) (hb : PV X Φ b j) : PV X Φ (.Compare a [.Gt] [b] pos) (decide (j < i)) := v_cmp op_gt ha hb (nomark _)
theorem v_ge (ha : PV X Φ a i) (hb : PV X Φ b j) : PV X Φ (.Compare a [.GtE] [b] pos) (decide (j ≤ i)) := v_cmp op_ge ha hb (nomark _)
/-- a <= b < c and the like -/
theorem v_chain {op op' : CmpOp} {f f' : Int → Int → Bool} (ho : OpR X (compareOp op) (rI0 fun i j => .bl (f i j))) (ho' : OpR X (compareOp op') (rI0 fun i j => .bl (f' i j))) (ha : PV X Φ a i) (hb : PV X Φ b j) (hc : f i j = true → PV X Φ c k)
    (hm : lastMarks [op, op'] [b, c] = false := by with_unfolding_all rfl) : PV X Φ (.Compare a [op, op'] [b, c] pos) (f i j && f' j k) := .mk fun H0 σ F H Q s sl q =>
  wE_of (pe_chain ho ho' peW peW peW hm) (ha H0 σ F H _ s sl fun x F1 H1 g1 p1 => hb H0 σ F1 H1 _ g1.s (sl.gr g1) fun y F2 H2 g2 p2 => by
    cases p1; cases p2
    refine ⟨i, j, rfl, rfl, f i j, rfl, ?_⟩
    cases e : f i j with
    | true =>
      refine iteT (hc e H0 σ F2 H2 _ g2.s ((sl.gr g1).gr g2) fun z F3 H3 g3 p3 => ?_)
      cases p3
      exact ⟨j, k, rfl, rfl, by
        have := q (.bl (f' j k)) F3 H3 ((g1.trans g2).trans g3) (by rw [e, Bool.true_and]; exact .bl _)
        exact this⟩
    | false => exact iteF (by
        have := q (.bl false) F2 H2 (g1.trans g2) (by rw [e, Bool.false_and]; exact .bl _)
        exact this))
theorem v_eq {α : Type} [Py α] [PyQ α] [DecidableEq α] {x y : α} (hu : X.A.units + 64 < cLine) (hd : Py.dep α ≤ 64) (ha : PD X Φ a x) (hb : PD X Φ b y) : PV X Φ (.Compare a [.Eq] [b] pos) (decide (x = y)) := .mk fun H0 σ F H Q s sl q =>
  wE_of (pe_cmpR (op_eqD hu) peW peW (nomark _)) (ha H0 σ F H _ s sl fun x F1 H1 g1 p1 => hb H0 σ F1 H1 _ g1.s (sl.gr g1) fun y F2 H2 g2 p2 =>
    ⟨_, _, dp_mono (g2.f.trans g2.s) _ _ p1, dp_mono g2.s _ _ p2, shaped_of hd _, shaped_of hd _, q _ _ _ (g1.trans g2) (by rw [eqv_dec]; exact .bl _)⟩)
theorem v_ne {α : Type} [Py α] [PyQ α] [DecidableEq α] {x y : α} (hu : X.A.units + 64 < cLine) (hd : Py.dep α ≤ 64) (ha : PD X Φ a x) (hb : PD X Φ b y) : PV X Φ (.Compare a [.NotEq] [b] pos) (!decide (x = y)) := .mk fun H0 σ F H Q s sl q =>
  wE_of (pe_cmpR (op_neD hu) peW peW (nomark _)) (ha H0 σ F H _ s sl fun x F1 H1 g1 p1 => hb H0 σ F1 H1 _ g1.s (sl.gr g1) fun y F2 H2 g2 p2 =>
    ⟨_, _, dp_mono (g2.f.trans g2.s) _ _ p1, dp_mono g2.s _ _ p2, shaped_of hd _, shaped_of hd _, q _ _ _ (g1.trans g2) (by rw [eqv_dec]; exact .bl _)⟩)
theorem v_not {k : Bool} (ha : PTv X Φ a k) : PTv X Φ (.UnaryOp .Not a pos) (!k) := .mk fun H0 σ F H Q s sl q =>
  wT_of (pt_not ptW) (ha H0 σ F H _ s sl fun F1 H1 g1 => q _ _ g1)
theorem v_notV {k : Bool} (ha : PV X Φ a k) : PV X Φ (.UnaryOp .Not a pos) (!k) := .mk fun H0 σ F H Q s sl q =>
  wE_of (pe_not peW) (ha H0 σ F H _ s sl fun x F1 H1 g1 p1 => by cases p1; exact ⟨k, rfl, q _ _ _ g1 (.bl _)⟩)
theorem t_val {k : Bool} (ha : PV X Φ e k) (he : ∀ whole, isTrue e X.env whole = (do let v ← whole; standAt e.pos; holding [v] (truthy v)) := by intro _; rfl) : PTv X Φ e k := .mk fun H0 σ F H Q s sl q =>
  wT_of (pt_val peW he) (ha H0 σ F H _ s sl fun x F1 H1 g1 p1 => by cases p1; exact ⟨k, rfl, q _ _ g1⟩)
theorem t_cmp {op : CmpOp} {f : Int → Int → Bool} (ho : OpR X (compareOp op) (rI0 fun i j => .bl (f i j))) (ha : PV X Φ a i) (hb : PV X Φ b j) (hm : behindInMarks op b = false := by first | exact nomark _ | rfl) : PTv X Φ (.Compare a [op] [b] pos) (f i j) := .mk fun H0 σ F H Q s sl q =>
  wT_of (pt_cmpR ho peW peW hm) (ha H0 σ F H _ s sl fun x F1 H1 g1 p1 => hb H0 σ F1 H1 _ g1.s (sl.gr g1) fun y F2 H2 g2 p2 => by
    cases p1; cases p2
    exact ⟨i, j, rfl, rfl, _, rfl, q _ _ (g1.trans g2)⟩)
theorem t_lt (ha : PV X Φ a i) (hb : PV X Φ b j) : PTv X Φ (.Compare a [.Lt] [b] pos) (decide (i < j)) := t_cmp op_lt ha hb (nomark _)
theorem t_le (ha : PV X Φ a i) (hb : PV X Φ b j) : PTv X Φ (.Compare a [.LtE] [b] pos) (decide (i ≤ j)) := t_cmp op_le ha hb (nomark _)
theorem t_gt (ha : PV X Φ a i) (hb : PV X Φ b j) : PTv X Φ (.Compare a [.Gt] [b] pos) (decide (j < i)) := t_cmp op_gt ha hb (nomark _)
theorem t_ge (ha : PV X Φ a i) (hb : PV X Φ b j) : PTv X Φ (.Compare a [.GtE] [b] pos) (decide (j ≤ i)) := t_cmp op_ge ha hb (nomark _)
theorem t_chain {op op' : CmpOp} {f f' : Int → Int → Bool} (ho : OpR X (compareOp op) (rI0 fun i j => .bl (f i j))) (ho' : OpR X (compareOp op') (rI0 fun i j => .bl (f' i j))) (ha : PV X Φ a i) (hb : PV X Φ b j) (hc : f i j = true → PV X Φ c k)
    (hm : lastMarks [op, op'] [b, c] = false := by with_unfolding_all rfl) : PTv X Φ (.Compare a [op, op'] [b, c] pos) (f i j && f' j k) := .mk fun H0 σ F H Q s sl q =>
  wT_of (pt_chain ho ho' peW peW peW hm) (ha H0 σ F H _ s sl fun x F1 H1 g1 p1 => hb H0 σ F1 H1 _ g1.s (sl.gr g1) fun y F2 H2 g2 p2 => by
    cases p1; cases p2
    refine ⟨i, j, rfl, rfl, f i j, rfl, ?_⟩
    cases e : f i j with
    | true =>
      refine iteT (hc e H0 σ F2 H2 _ g2.s ((sl.gr g1).gr g2) fun z F3 H3 g3 p3 => ?_)
      cases p3
      exact ⟨j, k, rfl, rfl, _, rfl, by
        have := q F3 H3 ((g1.trans g2).trans g3)
        rw [e, Bool.true_and] at this
        exact this⟩
    | false => exact iteF (by
        have := q F2 H2 (g1.trans g2)
        rw [e, Bool.false_and] at this
        exact ⟨_, rfl, this⟩))
theorem t_eq {α : Type} [Py α] [PyQ α] [DecidableEq α] {x y : α} (hu : X.A.units + 64 < cLine) (hd : Py.dep α ≤ 64) (ha : PD X Φ a x) (hb : PD X Φ b y) : PTv X Φ (.Compare a [.Eq] [b] pos) (decide (x = y)) := .mk fun H0 σ F H Q s sl q =>
  wT_of (pt_cmpR (op_eqD hu) peW peW (nomark _)) (ha H0 σ F H _ s sl fun x F1 H1 g1 p1 => hb H0 σ F1 H1 _ g1.s (sl.gr g1) fun y F2 H2 g2 p2 =>
    ⟨_, _, dp_mono (g2.f.trans g2.s) _ _ p1, dp_mono g2.s _ _ p2, shaped_of hd _, shaped_of hd _, _, rfl, by rw [eqv_dec]; exact q _ _ (g1.trans g2)⟩)
theorem t_ne {α : Type} [Py α] [PyQ α] [DecidableEq α] {x y : α} (hu : X.A.units + 64 < cLine) (hd : Py.dep α ≤ 64) (ha : PD X Φ a x) (hb : PD X Φ b y) : PTv X Φ (.Compare a [.NotEq] [b] pos) (!decide (x = y)) := .mk fun H0 σ F H Q s sl q =>
  wT_of (pt_cmpR (op_neD hu) peW peW (nomark _)) (ha H0 σ F H _ s sl fun x F1 H1 g1 p1 => hb H0 σ F1 H1 _ g1.s (sl.gr g1) fun y F2 H2 g2 p2 =>
    ⟨_, _, dp_mono (g2.f.trans g2.s) _ _ p1, dp_mono g2.s _ _ p2, shaped_of hd _, shaped_of hd _, _, rfl, by rw [eqv_dec]; exact q _ _ (g1.trans g2)⟩)
theorem v_and {l m : Bool} (ha : PV X Φ a l) (hb : l = true → PV X Φ (.BoolOp .And (b :: es) pos) m) : PV X Φ (.BoolOp .And (a :: b :: es) pos) (l && m) := .mk fun H0 σ F H Q s sl q =>
  wE_of (pe_and peW peW) (ha H0 σ F H _ s sl fun x F1 H1 g1 p1 => by
    cases p1
    refine ⟨l, rfl, ?_⟩
    cases l with
    | true => exact iteT (hb rfl H0 σ F1 H1 _ g1.s (sl.gr g1) fun y F2 H2 g2 p2 => q y F2 H2 (g1.trans g2) p2)
    | false => exact iteF (q _ _ _ g1 (.bl false)))
theorem v_or {l m : Bool} (ha : PV X Φ a l) (hb : l = false → PV X Φ (.BoolOp .Or (b :: es) pos) m) : PV X Φ (.BoolOp .Or (a :: b :: es) pos) (l || m) := .mk fun H0 σ F H Q s sl q =>
  wE_of (pe_or peW peW) (ha H0 σ F H _ s sl fun x F1 H1 g1 p1 => by
    cases p1
    refine ⟨l, rfl, ?_⟩
    cases l with
    | true => exact iteT (q _ _ _ g1 (.bl true))
    | false => exact iteF (hb rfl H0 σ F1 H1 _ g1.s (sl.gr g1) fun y F2 H2 g2 p2 => q y F2 H2 (g1.trans g2) p2))
theorem v_one {op : BoolOp} {l : Bool} (ha : PV X Φ a l) : PV X Φ (.BoolOp op [a] pos) l := .mk fun H0 σ F H Q s sl q => wE_of (pe_one peW) (ha H0 σ F H Q s sl q)
theorem w_and1 {l : Bool} (ha : PTv X Φ a l) : PWv X Φ (.BoolOp .And [a] pos) l := .mk fun H0 σ F H Q s sl q => wW_of (pw_and1 ptW) (ha H0 σ F H Q s sl q)
theorem w_or1 {l : Bool} (ha : PTv X Φ a l) : PWv X Φ (.BoolOp .Or [a] pos) l := .mk fun H0 σ F H Q s sl q => wW_of (pw_or1 ptW) (ha H0 σ F H Q s sl q)
theorem w_and {l m : Bool} (ha : PTv X Φ a l) (hb : l = true → PWv X Φ (.BoolOp .And (b :: es) pos) m) : PWv X Φ (.BoolOp .And (a :: b :: es) pos) (l && m) := .mk fun H0 σ F H Q s sl q =>
  wW_of (pw_and ptW pwW) (ha H0 σ F H _ s sl fun F1 H1 g1 => by
    cases l with
    | true => exact iteT (hb rfl H0 σ F1 H1 _ g1.s (sl.gr g1) fun F2 H2 g2 => q F2 H2 (g1.trans g2))
    | false => exact iteF (q _ _ g1))
theorem w_or {l m : Bool} (ha : PTv X Φ a l) (hb : l = false → PWv X Φ (.BoolOp .Or (b :: es) pos) m) : PWv X Φ (.BoolOp .Or (a :: b :: es) pos) (l || m) := .mk fun H0 σ F H Q s sl q =>
  wW_of (pw_or ptW pwW) (ha H0 σ F H _ s sl fun F1 H1 g1 => by
    cases l with
    | true => exact iteT (q _ _ g1)
    | false => exact iteF (hb rfl H0 σ F1 H1 _ g1.s (sl.gr g1) fun F2 H2 g2 => q F2 H2 (g1.trans g2)))
theorem PWv.t {l : Bool} (h : PWv X Φ e l) : PTv X Φ e l := .mk fun H0 σ F H Q s sl q => wT_of (PW.pt pwW) (h H0 σ F H Q s sl q)
/-- an expression whose answer leans on no object, by what is one's own being read alone -/
theorem PEv.flat {n : Nat} (hs : ∀ F F' v, P.p F v → P.p F' v) (ho : Φ[n]? = some (.ow Ps)) (h : PEv X (Φ.set n (.im (lstP Ps))) e P) : PEv X Φ e P := .mk fun H0 σ F H Q s sl q => by
  obtain ⟨l, vs, h1, h2, h3, h4, h5⟩ := sl.ow ho
  obtain ⟨x1, x2⟩ := Gr.settle s h3 h4
  exact h H0 σ _ H Q x2 (sl.settle s ho h1 h3 h4 h5) fun v F' H' g z => q v F H' (Gr.hp s g.h) (hs _ _ _ z)
end
end GL

set_option Elab.async false
set_option linter.all false
set_option maxRecDepth 100000
set_option maxHeartbeats 4000000
namespace GL
open PySem L2
open Evl (Ex ex_l ex_t)
section
variable {X : Cx} {Φ : List SD} {a b c e : Expr} {es : List Expr} {pos p p2 : Pos} {P : MP} {Ps Qs : List MP} {i j k : Int}
/-! ### arguments, displays -/
def nst : Expr → Bool
  | .Starred .. => false
  | _ => true
theorem star_cons {env : Env} (h : nst e = true) : starEach (e :: es) env = (false, eval e env) :: starEach es env := by
  cases e with
  | Starred => cases h
  | _ => rfl
theorem star_plain {env : Env} {pos : Pos} : ∀ {es : List Expr}, es.all nst = true → (backTo pos (starEach es env)).any (·.1) = false
  | [], _ => rfl
  | e :: es, h => by
    rw [List.all_cons, Bool.and_eq_true] at h
    rw [star_cons h.1]
    show (false || (backTo pos (starEach es env)).any (·.1)) = false
    rw [star_plain h.2]; rfl
theorem as_nil : PAs X Φ [] [] := .mk fun H0 σ F H Q s sl q => wA_of pa_nil (q [] F H (Gr.refl s) .nil)
theorem as_cons (ha : PEv X Φ e P) (hs : PAs X Φ es Ps) (hst : nst e = true := by rfl) : PAs X Φ (e :: es) (P :: Ps) := .mk fun H0 σ F H Q s sl q =>
  wA_of (pa_cons peW paW (star_cons hst)) (ha H0 σ F H _ s sl fun v F1 H1 g1 p1 => hs H0 σ F1 H1 _ g1.s (sl.gr g1) fun vs F2 H2 g2 p2 => q _ F2 H2 (g1.trans g2) (.cons (P.mono _ _ _ g2.f p1) p2))
theorem v_tuple {x1} (h : PAs X Φ es Ps) (hl : Ps.length ≤ sizeLine := by exact Nat.le_of_ble_eq_true rfl) : PEv X Φ (.Tuple es x1 pos) (tupP X.K Ps) := .mk fun H0 σ F H Q s sl q =>
  wE_of (pe_tup paW) (h H0 σ F H _ s sl fun vs F1 H1 g1 p1 => ⟨by rw [p1.1]; exact hl, fun t ht => q _ _ _ (g1.trans (Gr.new g1.s ht)) ⟨t, vs, rfl, SqT.of upd_same, p1.mono (Gr.new (o := .tup vs) g1.s ht).f⟩⟩)
theorem v_list (h : PAs X Φ es Ps) (hl : Ps.length ≤ sizeLine := by exact Nat.le_of_ble_eq_true rfl) : PEn X Φ (.List es pos) Ps := .mk fun H0 σ F H Q s sl q =>
  wE_of (pe_lst paW) (h H0 σ F H _ s sl fun vs F1 H1 g1 p1 => ⟨by rw [p1.1]; exact hl, fun t ht => by
    have ft : F1 t = none := by
      cases z : F1 t with
      | none => rfl
      | some u => rw [g1.s t u z] at ht; cases ht
    have h0 : H t = none := by
      cases z : H t with
      | none => rfl
      | some u => rw [g1.h t u z] at ht; cases ht
    exact q t vs F1 _ (g1.trans (Gr.own g1.s ht)) h0 ft upd_same p1⟩)
theorem v_t2 {α β : Type} [Py α] [Py β] {x1} {x : α} {y : β} (ha : PV X Φ a x) (hb : PV X Φ b y)
    (h1 : nst a = true := by rfl) (h2 : nst b = true := by rfl) : PV X Φ (.Tuple [a, b] x1 pos) (x, y) :=
  (v_tuple (as_cons ha (as_cons hb as_nil h2) h1)).imp fun _ _ z => py_tuple.mpr z
theorem v_t3 {α β γ : Type} [Py α] [Py β] [Py γ] {x1} {x : α} {y : β} {z : γ} (h : PAs X Φ es [py X.K (enc x), py X.K (enc y), py X.K (enc z)]) : PV X Φ (.Tuple es x1 pos) (T3.mk x y z) :=
  (v_tuple h).imp fun _ _ z => py_tuple.mpr z
theorem v_t4 {α β γ δ : Type} [Py α] [Py β] [Py γ] [Py δ] {x1} {x : α} {y : β} {z : γ} {u : δ} (h : PAs X Φ es [py X.K (enc x), py X.K (enc y), py X.K (enc z), py X.K (enc u)]) : PV X Φ (.Tuple es x1 pos) (T4.mk x y z u) :=
  (v_tuple h).imp fun _ _ z => py_tuple.mpr z
theorem v_t5 {α β γ δ ε : Type} [Py α] [Py β] [Py γ] [Py δ] [Py ε] {x1} {x : α} {y : β} {z : γ} {u : δ} {w : ε} (h : PAs X Φ es [py X.K (enc x), py X.K (enc y), py X.K (enc z), py X.K (enc u), py X.K (enc w)]) : PV X Φ (.Tuple es x1 pos) (T5.mk x y z u w) :=
  (v_tuple h).imp fun _ _ z => py_tuple.mpr z
theorem v_tup {α : Type} [Py α] {x1} {xs : List α} (h : PAs X Φ es (xs.map fun x => py X.K (enc x))) (hl : xs.length ≤ sizeLine := by exact Nat.le_of_ble_eq_true rfl) : PV X Φ (.Tuple es x1 pos) (Tup.mk xs) :=
  (v_tuple h (by simpa using hl)).imp fun _ _ z => py_tup.mpr z
/-! ### items -/
def ix {α : Type} [Inhabited α] (xs : List α) (i : Int) : α := xs.getD i.toNat default
theorem ix_nat {α : Type} [Inhabited α] (xs : List α) (n : Nat) : ix xs (n : Int) = xs.getD n default := rfl
theorem allP_at {Ps : List MP} {F : Hp} {vs : List V} {n : Nat} {P : MP} (h : AllP Ps F vs) (hp : Ps[n]? = some P) : ∃ v, vs[n]? = some v ∧ P.p F v := by
  have hn : n < vs.length := by rw [h.1]; exact (List.getElem?_eq_some_iff.mp hp).1
  exact ⟨vs[n], List.getElem?_eq_getElem hn, h.2 n P _ hp (List.getElem?_eq_getElem hn)⟩
theorem v_ixP {n : Nat} (ha : PEl X Φ a Ps) (hb : PV X Φ b i) (hn : i = (n : Int)) (hp : Ps[n]? = some P) (hs : PlainIx b := by exact fun _ _ => rfl) : PEv X Φ (.Subscript a b pos) P := .mk fun H0 σ F H Q s sl q =>
  wE_of (pe_ix ix_list peW peW hs) (ha H0 σ F H _ s sl fun l vs F1 H1 g1 h1 p1 => hb H0 σ F1 H1 _ g1.s (sl.gr g1) fun y F2 H2 g2 p2 => by
    cases p2
    obtain ⟨v, hv, pv⟩ := allP_at p1 hp
    exact ⟨l, vs, i, v, rfl, rfl, ex_l g2.h h1, by rw [hn]; exact atI_nat hv, q v F2 H2 (g1.trans g2) (P.mono _ _ _ g2.f pv)⟩)
theorem v_ix {α : Type} [Py α] [Inhabited α] {xs : List α} (ha : PL X Φ a xs) (hb : PV X Φ b i) (h : 0 ≤ i ∧ i < xs.length) (hs : PlainIx b := by exact fun _ _ => rfl) : PV X Φ (.Subscript a b pos) (ix xs i) :=
  v_ixP (n := i.toNat) ha hb (by omega) (by
    have hi : i.toNat < xs.length := by omega
    rw [List.getElem?_map, List.getElem?_eq_getElem hi]
    simp [ix, List.getD, List.getElem?_eq_getElem hi]) hs
theorem v_ixTP {n : Nat} (ha : PEv X Φ a (tupP X.K Ps)) (hb : PV X Φ b i) (hn : i = (n : Int)) (hp : Ps[n]? = some P) (hs : PlainIx b := by exact fun _ _ => rfl) : PEv X Φ (.Subscript a b pos) P := .mk fun H0 σ F H Q s sl q =>
  wE_of (pe_ix ix_tup peW peW hs) (ha H0 σ F H _ s sl fun u F1 H1 g1 ⟨l, vs, e1, h1, p1⟩ => hb H0 σ F1 H1 _ g1.s (sl.gr g1) fun y F2 H2 g2 p2 => by
    cases p2
    subst e1
    obtain ⟨v, hv, pv⟩ := allP_at p1 hp
    exact ⟨l, vs, i, v, rfl, rfl, ex_t (g1.s.trans g2.h) h1, by rw [hn]; exact atI_nat hv, q v F2 H2 (g1.trans g2) (P.mono _ _ _ g2.f pv)⟩)
/-- t[n] of a tuple of known make, n written -/
theorem v_fld (n : Nat) {ds : List PyData} {d : PyData} {q1 q2 : Pos} (ha : PEv X Φ a (py X.K (.tuple ds))) (hd : ds[n]? = some d := by rfl) : PEv X Φ (.Subscript a (.Constant (.int (n : Int)) 0 q1) pos) (py X.K d) :=
  v_ixTP (n := n) (i := (n : Int)) (ha.imp fun _ _ z => py_tuple.mp z) v_int rfl (by rw [List.getElem?_map, hd]; rfl) (fun _ _ => rfl)
theorem v_ixT {α : Type} [Py α] [Inhabited α] {xs : Tup α} (ha : PV X Φ a xs) (hb : PV X Φ b i) (h : 0 ≤ i ∧ i < xs.l.length) (hs : PlainIx b := by exact fun _ _ => rfl) : PV X Φ (.Subscript a b pos) (ix xs.l i) :=
  v_ixTP (n := i.toNat) (ha.imp fun _ _ z => py_tup.mp z) hb (by omega) (by
    have hi : i.toNat < xs.l.length := by omega
    rw [List.getElem?_map, List.getElem?_eq_getElem hi]
    simp [ix, List.getD, List.getElem?_eq_getElem hi]) hs
/-- xs[-1] -/
def lastD {α : Type} [Inhabited α] (xs : List α) : α := xs.getD (xs.length - 1) default
theorem v_last {α : Type} [Py α] [Inhabited α] {xs : List α} {q1 q2 : Pos} (ha : PL X Φ a xs) (h : 0 < xs.length) : PV X Φ (.Subscript a (.UnaryOp .USub (.Constant (.int 1) 0 q1) q2) pos) (lastD xs) := .mk fun H0 σ F H Q s sl q =>
  wE_of (pe_ix ix_list peW peW (fun _ _ => rfl)) (ha H0 σ F H _ s sl fun l vs F1 H1 g1 h1 p1 => v_neg (X := X) (Φ := Φ) v_int H0 σ F1 H1 _ g1.s (sl.gr g1) fun y F2 H2 g2 p2 => by
    cases p2
    have hp : (xs.map fun x => py X.K (enc x))[xs.length - 1]? = some (py X.K (enc (lastD xs))) := by
      have hi : xs.length - 1 < xs.length := by omega
      rw [List.getElem?_map, List.getElem?_eq_getElem hi]
      simp [lastD, List.getD, List.getElem?_eq_getElem hi]
    obtain ⟨v, hv, pv⟩ := allP_at p1 hp
    have hl : vs.length = xs.length := by simpa using p1.1
    refine ⟨l, vs, -1, v, rfl, rfl, ex_l g2.h h1, ?_, q v F2 H2 (g1.trans g2) (dq_mono g2.f _ _ pv)⟩
    unfold atI ixN
    rw [if_neg (by decide), if_pos (by omega)]
    show vs[(-1 + (vs.length : Int)).toNat]? = some v
    rw [← hv]; congr 1; omega)
/-! ### slices -/
def slc {α : Type} (xs : List α) (lo hi : Option Int) : List α := (xs.drop (HT.sIx xs.length 0 lo)).take (HT.sIx xs.length xs.length hi - HT.sIx xs.length 0 lo)
theorem AllP.slc {Ps : List MP} {F : Hp} {vs : List V} (h : AllP Ps F vs) (lo hi : Option Int) : AllP (slc Ps lo hi) F (cutV vs lo hi) := by
  unfold GL.slc cutV
  rw [h.1]
  generalize HT.sIx Ps.length 0 lo = m
  generalize HT.sIx Ps.length Ps.length hi - m = n
  refine ⟨by simp [h.1], fun i P v h1 h2 => ?_⟩
  rw [List.getElem?_take] at h1 h2
  split at h1
  · rename_i hi
    rw [if_pos hi, List.getElem?_drop] at h2
    rw [List.getElem?_drop] at h1
    exact h.2 _ P v h1 h2
  · cases h1
theorem slc_map {α β : Type} (f : α → β) (xs : List α) (lo hi : Option Int) : slc (xs.map f) lo hi = (slc xs lo hi).map f := by
  unfold slc
  rw [List.length_map, List.map_take, List.map_drop]
/-- a slice's ends -/
def PO' (X : Cx) (Φ : List SD) (o : Option Expr) (v : Option Int) : Prop := match o, v with
  | none, none => True
  | some e, some i => PV X Φ e i
  | _, _ => False
theorem v_slP {lo hi : Option Expr} {l h : Option Int} (ha : PEl X Φ a Ps) (h1 : PO' X Φ lo l) (h2 : PO' X Φ hi h) : PEn X Φ (.Subscript a (.Slice lo hi none p2) pos) (slc Ps l h) := .mk fun H0 σ F H Q s sl q => by
  have step : ∀ (o : Option Expr) (v : Option Int), PO' X Φ o v → ∃ t : TO, PO X o t ∧ ∀ (F H : Hp) (R : Option Int → Hp → Prop), Ex F H → Sl H0 Φ σ F H → (∀ F' H', Gr F H F' H' → R v H') → t σ H R := fun o v hv => by
    cases o with
    | none =>
      cases v with
      | none => exact ⟨_, po_none, fun F H R s sl r => r F H (Gr.refl s)⟩
      | some i => exact hv.elim
    | some e =>
      cases v with
      | none => exact hv.elim
      | some i => exact ⟨_, po_some peW, fun F H R s sl r => (show PV X Φ e i from hv) H0 σ F H _ s sl fun v F' H' g z => by cases z; exact ⟨i, rfl, r F' H' g⟩⟩
  obtain ⟨t1, k1, r1⟩ := step _ _ h1
  obtain ⟨t2, k2, r2⟩ := step _ _ h2
  refine wE_of (pe_slice sl_list peW k1 k2) (ha H0 σ F H _ s sl fun x vs F1 H1 g1 hx p1 => r1 F1 H1 _ g1.s (sl.gr g1) fun F2 H2 g2 => r2 F2 H2 _ g2.s ((sl.gr g1).gr g2) fun F3 H3 g3 => ⟨x, vs, rfl, ex_l (g2.trans g3).h hx, fun t ht => ?_⟩)
  have g := (g1.trans g2).trans g3
  have ft : F3 t = none := by
    cases z : F3 t with
    | none => rfl
    | some u => rw [g.s t u z] at ht; cases ht
  have h0 : H t = none := by
    cases z : H t with
    | none => rfl
    | some u => rw [g.h t u z] at ht; cases ht
  exact q t _ F3 _ (g.trans (Gr.own g.s ht)) h0 ft upd_same ((p1.mono (g2.trans g3).f).slc l h)
theorem v_sl {α : Type} [Py α] {xs : List α} {lo hi : Option Expr} {l h : Option Int} (ha : PL X Φ a xs) (h1 : PO' X Φ lo l) (h2 : PO' X Φ hi h) : PN X Φ (.Subscript a (.Slice lo hi none p2) pos) (slc xs l h) := by
  have := v_slP (pos := pos) (p2 := p2) ha h1 h2
  rw [slc_map] at this
  exact this
theorem AllP.reverse {Ps : List MP} {F : Hp} {vs : List V} (h : AllP Ps F vs) : AllP Ps.reverse F vs.reverse := by
  refine ⟨by simp [h.1], fun i P v h1 h2 => ?_⟩
  have hi : i < vs.length := by
    have := (List.getElem?_eq_some_iff.mp h2).1
    simpa using this
  rw [List.getElem?_reverse (by rw [← h.1]; exact hi)] at h1
  rw [List.getElem?_reverse hi] at h2
  rw [← h.1] at h1
  exact h.2 _ P v h1 h2
theorem fresh_of {F H F' H' : Hp} (g : Gr F H F' H') {t : Addr} (ht : H' t = none) : F' t = none ∧ H t = none := by
  constructor
  · cases z : F' t with
    | none => rfl
    | some u => rw [g.s t u z] at ht; cases ht
  · cases z : H t with
    | none => rfl
    | some u => rw [g.h t u z] at ht; cases ht
theorem v_rev {α : Type} [Py α] {xs : List α} {kk : Nat} {p1 p3 : Pos} (ha : PL X Φ a xs) : PN X Φ (.Subscript a (.Slice none none (some (.UnaryOp .USub (.Constant (.int 1) kk p1) p2)) p3) pos) xs.reverse := .mk fun H0 σ F H Q s sl q =>
  wE_of (pe_revL peW) (ha H0 σ F H _ s sl fun l vs F1 H1 g1 h1 p1 => ⟨l, vs, rfl, h1, fun t ht => q t _ F1 _ (g1.trans (Gr.own g1.s ht)) (fresh_of g1 ht).2 (fresh_of g1 ht).1 upd_same (by rw [List.map_reverse]; exact p1.reverse)⟩)
/-! ### list + list, list * int -/
theorem AllP.append : ∀ {Ps Qs : List MP} {F : Hp} {vs ws : List V}, AllP Ps F vs → AllP Qs F ws → AllP (Ps ++ Qs) F (vs ++ ws)
  | [], _, _, vs, _, h, h' => by rw [h.inv0]; exact h'
  | P :: Ps, _, _, vs, _, h, h' => by
    obtain ⟨v, us, rfl, h1, h2⟩ := h.inv
    exact .cons h1 (AllP.append h2 h')
theorem v_cat {α : Type} [Py α] {xs ys : List α} (ha : PK X Φ a xs) (hb : PK X Φ b ys) (hz : xs.length + ys.length ≤ sizeLine) : PN X Φ (.BinOp a .Add b pos) (xs ++ ys) := .mk fun H0 σ F H Q s sl q =>
  wE_of (pe_op op_cat peW peW) (ha H0 σ F H _ s sl fun l vs F1 H1 g1 h1 p1 => hb H0 σ F1 H1 _ g1.s (sl.gr g1) fun m ws F2 H2 g2 h2 p2 => by
    have e1 : vs.length = xs.length := by simpa using p1.1
    have e2 : ws.length = ys.length := by simpa using p2.1
    have g := g1.trans g2
    exact ⟨l, m, vs, ws, rfl, rfl, g2.h _ _ h1, h2, by omega, fun t ht => q t _ F2 _ (g.trans (Gr.own g.s ht)) (fresh_of g ht).2 (fresh_of g ht).1 upd_same (by rw [List.map_append]; exact (p1.mono g2.f).append p2)⟩)
theorem AllP.rep {Ps : List MP} {F : Hp} {vs : List V} (h : AllP Ps F vs) : ∀ n : Nat, AllP (List.replicate n Ps).flatten F (List.replicate n vs).flatten
  | 0 => by simpa using AllP.nil
  | n + 1 => by
    rw [List.replicate_succ, List.replicate_succ, List.flatten_cons, List.flatten_cons]
    exact h.append (AllP.rep h n)
def lrep {α : Type} (xs : List α) (k : Int) : List α := (List.replicate k.toNat xs).flatten
theorem map_flat_rep {α β : Type} (f : α → β) (xs : List α) : ∀ n : Nat, (List.replicate n (xs.map f)).flatten = ((List.replicate n xs).flatten).map f
  | 0 => rfl
  | n + 1 => by rw [List.replicate_succ, List.replicate_succ, List.flatten_cons, List.flatten_cons, List.map_append, map_flat_rep f xs n]
theorem v_rep {α : Type} [Py α] {xs : List α} (ha : PK X Φ a xs) (hb : PV X Φ b k) (h0 : -(2 ^ 63) ≤ k ∧ k < 2 ^ 63) (hz : xs.length * k.toNat ≤ sizeLine) : PN X Φ (.BinOp a .Mult b pos) (lrep xs k) := .mk fun H0 σ F H Q s sl q =>
  wE_of (pe_op op_rep peW peW) (ha H0 σ F H _ s sl fun l vs F1 H1 g1 h1 p1 => hb H0 σ F1 H1 _ g1.s (sl.gr g1) fun y F2 H2 g2 p2 => by
    cases p2
    have e1 : vs.length = xs.length := by simpa using p1.1
    have g := g1.trans g2
    exact ⟨l, k, vs, rfl, rfl, g2.h _ _ h1, h0.1, h0.2, by rw [e1]; exact hz, fun t ht => q t _ F2 _ (g.trans (Gr.own g.s ht)) (fresh_of g ht).2 (fresh_of g ht).1 upd_same (by
      show AllP (((List.replicate k.toNat xs).flatten).map _) _ _
      rw [← map_flat_rep]; exact (p1.mono g2.f).rep _)⟩)
/-! ### built-ins -/
/-- the built-in names are nobody else's -/
structure Blt (mg : Str → Option Value) : Prop where
  len : mg "len" = none
  range : mg "range" = none
  list : mg "list" = none
  tuple : mg "tuple" = none
  isinstance : mg "isinstance" = none
  int : mg "int" = none
  bool : mg "bool" = none
  max : mg "max" = none
  min : mg "min" = none
  sorted : mg "sorted" = none
  enumerate : mg "enumerate" = none
  zip : mg "zip" = none
  sum : mg "sum" = none
  all : mg "all" = none
  any : mg "any" = none
  set : mg "set" = none
  abs : mg "abs" = none
  reversed : mg "reversed" = none
  str : mg "str" = none
  dict : mg "dict" = none
  ve : mg "ValueError" = none
theorem wA_one {σ : St} {H : Hp} {Q : List V → Hp → Prop} (hst : nst e = true) (h : wE X e σ H fun v H1 => Q [v] H1) : wA X [e] σ H Q := wA_of (pa_cons peW pa_nil (star_cons hst)) h
section
variable {x : Str} {id T : String} {r : List V → Hp → VK → Prop}
theorem wE_callB (hc : CallR X (.builtin id) r) (hg : Gl X x) (hm : X.mg x = none) (hv : bootBuiltins x = some (.builtin id)) (hn : x ≠ "__name__") (hd : (x == ("__debug__" : Str)) = false) (hst : (e :: es).all nst = true)
    {σ : St} {H : Hp} {Q : VK} (h : wA X (e :: es) σ H fun vs H1 => r vs H1 Q) : wE X (.Call (.Name x p) (e :: es) [] pos) σ H Q := by
  have h2 := hst
  rw [List.all_cons, Bool.and_eq_true] at h2
  exact wE_of (pe_callB hc hg hm hv paW hn hd (star_cons h2.1) (star_plain h2.2)) h
theorem wE_callT (hc : CallR X (.type T) r) (hg : Gl X x) (hm : X.mg x = none) (hv : bootBuiltins x = some (.type T)) (hn : x ≠ "__name__") (hd : (x == ("__debug__" : Str)) = false) (hst : (e :: es).all nst = true)
    {σ : St} {H : Hp} {Q : VK} (h : wA X (e :: es) σ H fun vs H1 => r vs H1 Q) : wE X (.Call (.Name x p) (e :: es) [] pos) σ H Q := by
  have h2 := hst
  rw [List.all_cons, Bool.and_eq_true] at h2
  exact wE_of (pe_callTy hc hg hm hv paW hn hd (star_cons h2.1) (star_plain h2.2)) h
end
theorem v_lenP (B : Blt X.mg) (ha : PEl X Φ e Ps) (hg : Gl X "len" := by rfl) (hst : nst e = true := by rfl) : PV X Φ (.Call (.Name "len" p) [e] [] pos) (Ps.length : Int) := .mk fun H0 σ F H Q s sl q =>
  wE_callB call_len_seq hg B.len PySem.boot_len (by decide +kernel) (by decide +kernel) (by simp [hst]) (wA_one hst (ha H0 σ F H _ s sl fun l vs F1 H1 g1 h1 p1 => ⟨l, vs, rfl, .inl h1, by rw [p1.1]; exact q _ F1 H1 g1 (.int _)⟩))
theorem v_len {α : Type} [Py α] {xs : List α} (B : Blt X.mg) (ha : PL X Φ e xs) (hg : Gl X "len" := by rfl) (hst : nst e = true := by rfl) : PV X Φ (.Call (.Name "len" p) [e] [] pos) (xs.length : Int) := by
  have := v_lenP (p := p) (pos := pos) B ha hg hst
  rw [List.length_map] at this
  exact this
theorem v_lenT {α : Type} [Py α] {xs : Tup α} (B : Blt X.mg) (ha : PV X Φ e xs) (hg : Gl X "len" := by rfl) (hst : nst e = true := by rfl) : PV X Φ (.Call (.Name "len" p) [e] [] pos) (xs.l.length : Int) := .mk fun H0 σ F H Q s sl q =>
  wE_callB call_len_seq hg B.len PySem.boot_len (by decide +kernel) (by decide +kernel) (by simp [hst]) (wA_one hst (ha H0 σ F H _ s sl fun v F1 H1 g1 p1 => by
    obtain ⟨l, vs, e1, h1, p3⟩ := py_tup.mp p1
    subst e1
    exact ⟨l, vs, rfl, .inr (ex_t g1.s h1), by rw [p3.1, List.length_map]; exact q _ F1 H1 g1 (.int _)⟩))
def iabs (i : Int) : Int := if i < 0 then -i else i
def imax (i j : Int) : Int := if j > i then j else i
def imin (i j : Int) : Int := if j < i then j else i
theorem v_abs (B : Blt X.mg) (ha : PV X Φ e i) (hg : Gl X "abs" := by rfl) (hst : nst e = true := by rfl) : PV X Φ (.Call (.Name "abs" p) [e] [] pos) (iabs i) := .mk fun H0 σ F H Q s sl q =>
  wE_callB call_abs hg B.abs (by decide +kernel) (by decide +kernel) (by decide +kernel) (by simp [hst]) (wA_one hst (ha H0 σ F H _ s sl fun v F1 H1 g1 p1 => by cases p1; exact ⟨i, rfl, q _ F1 H1 g1 (.int _)⟩))
theorem wA_two {H0 : Hp} {σ : St} {F H : Hp} {Q : List V → Hp → Prop} (s : Ex F H) (sl : Sl H0 Φ σ F H) (ha : PV X Φ a i) (hb : PV X Φ b j) (h1 : nst a = true) (h2 : nst b = true) (q : ∀ F' H', Gr F H F' H' → Q [.int i, .int j] H') : wA X [a, b] σ H Q :=
  wA_of (pa_cons peW (pa_cons peW pa_nil (star_cons h2)) (star_cons h1)) (ha H0 σ F H _ s sl fun v F1 H1 g1 p1 => hb H0 σ F1 H1 _ g1.s (sl.gr g1) fun w F2 H2 g2 p2 => by
    cases p1; cases p2; exact q F2 H2 (g1.trans g2))
theorem v_max (B : Blt X.mg) (hc : X.calm = true) (ha : PV X Φ a i) (hb : PV X Φ b j) (hg : Gl X "max" := by rfl) (h1 : nst a = true := by rfl) (h2 : nst b = true := by rfl) : PV X Φ (.Call (.Name "max" p) [a, b] [] pos) (imax i j) := .mk fun H0 σ F H Q s sl q =>
  wE_callB (call_max2 hc) hg B.max (by decide +kernel) (by decide +kernel) (by decide +kernel) (by simp [h1, h2]) (wA_two s sl ha hb h1 h2 fun F1 H1 g => ⟨i, j, rfl, q _ F1 H1 g (.int _)⟩)
theorem v_min (B : Blt X.mg) (hc : X.calm = true) (ha : PV X Φ a i) (hb : PV X Φ b j) (hg : Gl X "min" := by rfl) (h1 : nst a = true := by rfl) (h2 : nst b = true := by rfl) : PV X Φ (.Call (.Name "min" p) [a, b] [] pos) (imin i j) := .mk fun H0 σ F H Q s sl q =>
  wE_callB (call_min2 hc) hg B.min (by decide +kernel) (by decide +kernel) (by decide +kernel) (by simp [h1, h2]) (wA_two s sl ha hb h1 h2 fun F1 H1 g => ⟨i, j, rfl, q _ F1 H1 g (.int _)⟩)
def b2i (k : Bool) : Int := if k then 1 else 0
theorem v_intB {k : Bool} (B : Blt X.mg) (ha : PV X Φ e k) (hg : Gl X "int" := by rfl) (hst : nst e = true := by rfl) : PV X Φ (.Call (.Name "int" p) [e] [] pos) (b2i k) := .mk fun H0 σ F H Q s sl q =>
  wE_callT call_int1 hg B.int (by decide +kernel) (by decide +kernel) (by decide +kernel) (by simp [hst]) (wA_one hst (ha H0 σ F H _ s sl fun v F1 H1 g1 p1 => by cases p1; exact .inr ⟨k, rfl, q _ F1 H1 g1 (.int _)⟩))
/-- list(xs) -/
theorem v_listOfP (B : Blt X.mg) (ha : PEl X Φ e Ps) (hg : Gl X "list" := by rfl) (hst : nst e = true := by rfl) : PEn X Φ (.Call (.Name "list" p) [e] [] pos) Ps := .mk fun H0 σ F H Q s sl q =>
  wE_callT call_list_of hg B.list (by decide +kernel) (by decide +kernel) (by decide +kernel) (by simp [hst]) (wA_one hst (ha H0 σ F H _ s sl fun l vs F1 H1 g1 h1 p1 => ⟨l, vs, rfl, .inl h1, fun t ht => q t vs F1 _ (g1.trans (Gr.own g1.s ht)) (fresh_of g1 ht).2 (fresh_of g1 ht).1 upd_same p1⟩))
theorem v_listOf {α : Type} [Py α] {xs : List α} (B : Blt X.mg) (ha : PL X Φ e xs) (hg : Gl X "list" := by rfl) (hst : nst e = true := by rfl) : PN X Φ (.Call (.Name "list" p) [e] [] pos) xs := v_listOfP B ha hg hst
theorem v_listOfT {α : Type} [Py α] {xs : Tup α} (B : Blt X.mg) (ha : PV X Φ e xs) (hg : Gl X "list" := by rfl) (hst : nst e = true := by rfl) : PN X Φ (.Call (.Name "list" p) [e] [] pos) xs.l := .mk fun H0 σ F H Q s sl q =>
  wE_callT call_list_of hg B.list (by decide +kernel) (by decide +kernel) (by decide +kernel) (by simp [hst]) (wA_one hst (ha H0 σ F H _ s sl fun v F1 H1 g1 p1 => by
    obtain ⟨l, vs, e1, h1, p3⟩ := py_tup.mp p1
    subst e1
    exact ⟨l, vs, rfl, .inr (ex_t g1.s h1), fun t ht => q t vs F1 _ (g1.trans (Gr.own g1.s ht)) (fresh_of g1 ht).2 (fresh_of g1 ht).1 upd_same p3⟩))
/-- tuple(xs) -/
theorem v_tupOf {α : Type} [Py α] {xs : List α} (B : Blt X.mg) (ha : PL X Φ e xs) (hg : Gl X "tuple" := by rfl) (hst : nst e = true := by rfl) : PV X Φ (.Call (.Name "tuple" p) [e] [] pos) (Tup.mk xs) := .mk fun H0 σ F H Q s sl q =>
  wE_callT call_tuple_of hg B.tuple (by decide +kernel) (by decide +kernel) (by decide +kernel) (by simp [hst]) (wA_one hst (ha H0 σ F H _ s sl fun l vs F1 H1 g1 h1 p1 =>
    ⟨l, vs, rfl, .inl ⟨h1, fun t ht => q _ _ _ (g1.trans (Gr.new g1.s ht)) (py_tup.mpr ⟨t, vs, rfl, SqT.of upd_same, p1.mono (Gr.new (o := .tup vs) g1.s ht).f⟩)⟩⟩))
/-- sum, all, any of a list -/
theorem allP_vals {α : Type} [Py α] (f : α → V) (hf : ∀ (K : Fg) (F : Hp) (v : V) (x : α), Dq K F v (enc x) → v = f x) {K : Fg} {F : Hp} : ∀ {xs : List α} {vs : List V}, AllP (xs.map fun x => py K (enc x)) F vs → vs = xs.map f
  | [], vs, h => h.inv0
  | x :: xs, vs, h => by
    obtain ⟨v, us, rfl, h1, h2⟩ := AllP.inv (P := py K (enc x)) (Ps := xs.map fun x => py K (enc x)) h
    rw [hf K F v x h1, allP_vals f hf h2]; rfl
theorem allP_ints {K : Fg} {F : Hp} {xs : List Int} {vs : List V} (h : AllP (xs.map fun x => py K (enc x)) F vs) : vs = xs.map V.int := allP_vals V.int (fun _ _ _ _ h => by cases h; rfl) h
theorem allP_bools {K : Fg} {F : Hp} {xs : List Bool} {vs : List V} (h : AllP (xs.map fun x => py K (enc x)) F vs) : vs = xs.map V.bl := allP_vals V.bl (fun _ _ _ _ h => by cases h; rfl) h
theorem ints_allP {K : Fg} {F : Hp} : ∀ {xs : List Int}, AllP (xs.map fun x => py K (enc x)) F (xs.map V.int)
  | [] => .nil
  | x :: xs => .cons (.int x) ints_allP
theorem v_sum {xs : List Int} (B : Blt X.mg) (hc : X.calm = true) (ha : PL X Φ e xs) (hg : Gl X "sum" := by rfl) (hst : nst e = true := by rfl) : PV X Φ (.Call (.Name "sum" p) [e] [] pos) xs.sum := .mk fun H0 σ F H Q s sl q =>
  wE_callB (cr_sum hc) hg B.sum (by decide +kernel) (by decide +kernel) (by decide +kernel) (by simp [hst]) (wA_one hst (ha H0 σ F H _ s sl fun l vs F1 H1 g1 h1 p1 => ⟨l, xs, rfl, by rw [← allP_ints p1]; exact h1, q _ F1 H1 g1 (.int _)⟩))
theorem v_all {xs : List Bool} (B : Blt X.mg) (hc : X.calm = true) (ha : PL X Φ e xs) (hg : Gl X "all" := by rfl) (hst : nst e = true := by rfl) : PV X Φ (.Call (.Name "all" p) [e] [] pos) (xs.all id) := .mk fun H0 σ F H Q s sl q =>
  wE_callB (cr_all hc) hg B.all (by decide +kernel) (by decide +kernel) (by decide +kernel) (by simp [hst]) (wA_one hst (ha H0 σ F H _ s sl fun l vs F1 H1 g1 h1 p1 => ⟨l, xs, rfl, by rw [← allP_bools p1]; exact h1, q _ F1 H1 g1 (.bl _)⟩))
theorem v_any {xs : List Bool} (B : Blt X.mg) (hc : X.calm = true) (ha : PL X Φ e xs) (hg : Gl X "any" := by rfl) (hst : nst e = true := by rfl) : PV X Φ (.Call (.Name "any" p) [e] [] pos) (xs.any id) := .mk fun H0 σ F H Q s sl q =>
  wE_callB (cr_any hc) hg B.any (by decide +kernel) (by decide +kernel) (by decide +kernel) (by simp [hst]) (wA_one hst (ha H0 σ F H _ s sl fun l vs F1 H1 g1 h1 p1 => ⟨l, xs, rfl, by rw [← allP_bools p1]; exact h1, q _ F1 H1 g1 (.bl _)⟩))
def maxL (xs : List Int) : Int := xs.foldl imax (xs.getD 0 0)
def minL (xs : List Int) : Int := xs.foldl imin (xs.getD 0 0)
theorem foldl_imax_le : ∀ (xs : List Int) (a : Int), a ≤ xs.foldl imax a ∧ ∀ y ∈ xs, y ≤ xs.foldl imax a
  | [], a => by simp
  | x :: xs, a => by
    obtain ⟨h1, h2⟩ := foldl_imax_le xs (imax a x)
    have h3 : a ≤ imax a x ∧ x ≤ imax a x := by unfold imax; split <;> omega
    refine ⟨by show a ≤ xs.foldl imax (imax a x); omega, fun y hy => ?_⟩
    show y ≤ xs.foldl imax (imax a x)
    rcases List.mem_cons.mp hy with e | e
    · subst e; omega
    · exact h2 y e
theorem foldl_imax_mem : ∀ (xs : List Int) (a : Int), xs.foldl imax a = a ∨ xs.foldl imax a ∈ xs
  | [], a => .inl rfl
  | x :: xs, a => by
    show xs.foldl imax (imax a x) = a ∨ xs.foldl imax (imax a x) ∈ x :: xs
    rcases foldl_imax_mem xs (imax a x) with h | h
    · rw [h]; unfold imax; split
      · exact .inr (by simp)
      · exact .inl rfl
    · exact .inr (List.mem_cons_of_mem _ h)
theorem maxL_mem {xs : List Int} (h : 0 < xs.length) : maxL xs ∈ xs := by
  cases xs with
  | nil => simp at h
  | cons x xs =>
    show (x :: xs).foldl imax x ∈ x :: xs
    rcases foldl_imax_mem (x :: xs) x with e | e
    · rw [e]; simp
    · exact e
theorem le_maxL {xs : List Int} {y : Int} (h : y ∈ xs) : y ≤ maxL xs := (foldl_imax_le xs _).2 y h
theorem foldl_imin_le : ∀ (xs : List Int) (a : Int), xs.foldl imin a ≤ a ∧ ∀ y ∈ xs, xs.foldl imin a ≤ y
  | [], a => by simp
  | x :: xs, a => by
    obtain ⟨h1, h2⟩ := foldl_imin_le xs (imin a x)
    have h3 : imin a x ≤ a ∧ imin a x ≤ x := by unfold imin; split <;> omega
    refine ⟨by show xs.foldl imin (imin a x) ≤ a; omega, fun y hy => ?_⟩
    show xs.foldl imin (imin a x) ≤ y
    rcases List.mem_cons.mp hy with e | e
    · subst e; omega
    · exact h2 y e
theorem foldl_imin_mem : ∀ (xs : List Int) (a : Int), xs.foldl imin a = a ∨ xs.foldl imin a ∈ xs
  | [], a => .inl rfl
  | x :: xs, a => by
    show xs.foldl imin (imin a x) = a ∨ xs.foldl imin (imin a x) ∈ x :: xs
    rcases foldl_imin_mem xs (imin a x) with h | h
    · rw [h]; unfold imin; split
      · exact .inr (by simp)
      · exact .inl rfl
    · exact .inr (List.mem_cons_of_mem _ h)
theorem minL_mem {xs : List Int} (h : 0 < xs.length) : minL xs ∈ xs := by
  cases xs with
  | nil => simp at h
  | cons x xs =>
    show (x :: xs).foldl imin x ∈ x :: xs
    rcases foldl_imin_mem (x :: xs) x with e | e
    · rw [e]; simp
    · exact e
theorem minL_le {xs : List Int} {y : Int} (h : y ∈ xs) : minL xs ≤ y := (foldl_imin_le xs _).2 y h
theorem v_maxL {xs : List Int} (B : Blt X.mg) (hc : X.calm = true) (ha : PL X Φ e xs) (h : 0 < xs.length) (hg : Gl X "max" := by rfl) (hst : nst e = true := by rfl) : PV X Φ (.Call (.Name "max" p) [e] [] pos) (maxL xs) := .mk fun H0 σ F H Q s sl q =>
  wE_callB (cr_max hc) hg B.max (by decide +kernel) (by decide +kernel) (by decide +kernel) (by simp [hst]) (wA_one hst (ha H0 σ F H _ s sl fun l vs F1 H1 g1 h1 p1 => ⟨l, xs, rfl, by rw [← allP_ints p1]; exact h1, h, fun m h2 h3 => by
    have e : m = maxL xs := Int.le_antisymm (le_maxL h2) (h3 _ (maxL_mem h))
    subst e; exact q _ F1 H1 g1 (.int _)⟩))
theorem v_minL {xs : List Int} (B : Blt X.mg) (hc : X.calm = true) (ha : PL X Φ e xs) (h : 0 < xs.length) (hg : Gl X "min" := by rfl) (hst : nst e = true := by rfl) : PV X Φ (.Call (.Name "min" p) [e] [] pos) (minL xs) := .mk fun H0 σ F H Q s sl q =>
  wE_callB (cr_min hc) hg B.min (by decide +kernel) (by decide +kernel) (by decide +kernel) (by simp [hst]) (wA_one hst (ha H0 σ F H _ s sl fun l vs F1 H1 g1 h1 p1 => ⟨l, xs, rfl, by rw [← allP_ints p1]; exact h1, h, fun m h2 h3 => by
    have e : m = minL xs := Int.le_antisymm (h3 _ (minL_mem h)) (minL_le h2)
    subst e; exact q _ F1 H1 g1 (.int _)⟩))
/-- x in xs -/
theorem v_inL {α : Type} [Py α] [PyQ α] [DecidableEq α] {y : α} {xs : List α} (hu : X.A.units + 65 < cLine) (hd : Py.dep α + 1 ≤ 64) (ha : PD X Φ a y) (hb : PD X Φ b xs) (hm : behindInMarks .In b = false := by rfl) : PV X Φ (.Compare a [.In] [b] pos) (decide (y ∈ xs)) := .mk fun H0 σ F H Q s sl q =>
  wE_of (pe_cmpR (op_inD hu) peW peW hm) (ha H0 σ F H _ s sl fun v F1 H1 g1 p1 => hb H0 σ F1 H1 _ g1.s (sl.gr g1) fun w F2 H2 g2 p2 =>
    ⟨enc y, xs.map enc, dp_mono (g2.f.trans g2.s) _ _ p1, dp_mono g2.s _ _ p2, shaped_of (by omega) _, shaped_of (α := List α) hd xs, by
      have e : ((xs.map enc).any fun z => PyData.eqv z (enc y)) = decide (y ∈ xs) := by
        rw [List.any_map]
        by_cases h : y ∈ xs
        · rw [decide_eq_true h]
          exact List.any_eq_true.mpr ⟨y, h, (PyQ.eqv y y).mpr rfl⟩
        · rw [decide_eq_false h]
          refine List.any_eq_false.mpr fun z hz w => h ?_
          rw [← (PyQ.eqv z y).mp w]; exact hz
      rw [e]; exact q _ _ _ (g1.trans g2) (.bl _)⟩)
theorem v_notInL {α : Type} [Py α] [PyQ α] [DecidableEq α] {y : α} {xs : List α} (hu : X.A.units + 65 < cLine) (hd : Py.dep α + 1 ≤ 64) (ha : PD X Φ a y) (hb : PD X Φ b xs) (hm : behindInMarks .NotIn b = false := by rfl) : PV X Φ (.Compare a [.NotIn] [b] pos) (!decide (y ∈ xs)) := .mk fun H0 σ F H Q s sl q =>
  wE_of (pe_cmpR (op_notInD hu) peW peW hm) (ha H0 σ F H _ s sl fun v F1 H1 g1 p1 => hb H0 σ F1 H1 _ g1.s (sl.gr g1) fun w F2 H2 g2 p2 =>
    ⟨enc y, xs.map enc, dp_mono (g2.f.trans g2.s) _ _ p1, dp_mono g2.s _ _ p2, shaped_of (by omega) _, shaped_of (α := List α) hd xs, by
      have e : ((xs.map enc).any fun z => PyData.eqv z (enc y)) = decide (y ∈ xs) := by
        rw [List.any_map]
        by_cases h : y ∈ xs
        · rw [decide_eq_true h]
          exact List.any_eq_true.mpr ⟨y, h, (PyQ.eqv y y).mpr rfl⟩
        · rw [decide_eq_false h]
          refine List.any_eq_false.mpr fun z hz w => h ?_
          rw [← (PyQ.eqv z y).mp w]; exact hz
      rw [e]; exact q _ _ _ (g1.trans g2) (.bl _)⟩)
/-- x is None, x is not None -/
theorem non_iff {α : Type} [Py α] (hn : ∀ y : α, enc y ≠ .none) {K : Fg} {F : Hp} {v : V} {o : Option α} (h : Dq K F v (enc o)) : decide (v = .non) = o.isNone := by
  cases o with
  | none => cases h; rfl
  | some y =>
    have h' : Dq K F v (enc y) := h
    refine decide_eq_false fun z => ?_
    subst z
    have : enc y = .none := by
      generalize enc y = d at h'
      cases h'; rfl
    exact hn y this
theorem v_isN {α : Type} [Py α] {o : Option α} {q1 : Pos} (hn : ∀ y : α, enc y ≠ .none) (ha : PV X Φ a o) : PV X Φ (.Compare a [.Is] [.Constant .none 0 q1] pos) o.isNone := .mk fun H0 σ F H Q s sl q =>
  wE_of (pe_cmpR op_isN peW pe_non (nomark _)) (ha H0 σ F H _ s sl fun v F1 H1 g1 p1 => ⟨rfl, by rw [non_iff hn p1]; exact q _ _ _ g1 (.bl _)⟩)
theorem v_notN {α : Type} [Py α] {o : Option α} {q1 : Pos} (hn : ∀ y : α, enc y ≠ .none) (ha : PV X Φ a o) : PV X Φ (.Compare a [.IsNot] [.Constant .none 0 q1] pos) o.isSome := .mk fun H0 σ F H Q s sl q =>
  wE_of (pe_cmpR op_notN peW pe_non (nomark _)) (ha H0 σ F H _ s sl fun v F1 H1 g1 p1 => ⟨rfl, by rw [non_iff hn p1, Option.not_isNone]; exact q _ _ _ g1 (.bl _)⟩)
end
end GL

set_option Elab.async false
set_option linter.all false
set_option maxRecDepth 100000
set_option maxHeartbeats 4000000
namespace GL
open PySem L2
open Evl (Ex ex_l ex_t)
/-! ### what a def hands back -/
inductive RS where
  | val (P : MP)
  | new (Ps : List MP)
  | ob (P : OP)
  | err (C : Value) (P : Option Addr → Hp → Hp → Prop)
/-- W: what is wanted of an error -/
def RS.sat (F0 H0 : Hp) (Q : VK) (W : XK) : RS → Prop
  | .val P => ∀ v F H, Gr F0 H0 F H → P.p F v → Q v H
  | .new Ps => ∀ a vs F H, Gr F0 H0 F H → H0 a = none → F a = none → H a = some (.lst vs) → AllP Ps F vs → Q (.ref a) H
  | .ob P => ∀ a F H, Gr F0 H0 F H → (P.fp H a).Nodup → (∀ b ∈ P.fp H a, H0 b = none ∧ F b = none ∧ H b ≠ none) → P.p F H a → Q (.ref a) H
  | .err C P => ∀ d F H, Gr F0 H0 F H → (∀ a, d = some a → H0 a = none) → P d F H → W C d H
def spG {A : Type} (argP : A → List MP) (pre : A → Prop) (res : A → RS) : Sp := fun vs H Q E => ∃ (x : A) (F : Hp), Ex F H ∧ AllP (argP x) F vs ∧ pre x ∧ (res x).sat F H Q E
structure FnG (P : Program) (w : World) (K : Fg) (mg : Str → Option Value) (base : Heap) (CX : CXT) (k : Nat) (x : Str) (sp : Sp) : Prop where
  ex : ∃ (f : Addr) (fd : FuncData) (ps : List Str), FnOk P w K mg base CX k f fd ps sp ∧ mg x = some (.ref f) ∧ PySem.W.keepIn K (.ref f) = true ∧ Binds K fd ps []
theorem FnG.mono {P : Program} {w : World} {K : Fg} {mg : Str → Option Value} {base : Heap} {CX : CXT} {j k : Nat} {x : Str} {sp : Sp} (G : FnG P w K mg base CX j x sp) (h : j ≤ k) : FnG P w K mg base CX k x sp :=
  let ⟨f, fd, ps, a, b, c, d⟩ := G.ex
  ⟨f, fd, ps, a.mono h, b, c, d⟩
/-! ### what a loop takes -/
/-- J gives, from any settled part F on, the items of which Ps says -/
structure Src (J : It) (F : Hp) (Ps : List MP) : Prop where
  go : ∀ (i : Nat) (P : MP) (F' H' : Hp), Ps[i]? = some P → Ex F F' → Ex F' H' → J.go i H' ∧ ∀ v H'', J.yld i H' v H'' → ∃ F'', Gr F' H' F'' H'' ∧ P.p F'' v
  stop : ∀ (F' H' : Hp), Ex F F' → Ex F' H' → J.stop Ps.length H'
structure PIv (X : Cx) (Φ : List SD) (tg iter : Expr) (Ps : List MP) : Prop where
  run : ∀ (H0 : Hp) (σ : St) (F H : Hp) (R : It → Hp → Prop), Ex F H → Sl H0 Φ σ F H → (∀ J F' H', Gr F H F' H' → Src J F' Ps → R J H') → wI X tg iter σ H R
instance {X : Cx} {Φ : List SD} {tg iter : Expr} {Ps : List MP} : CoeFun (PIv X Φ tg iter Ps) (fun _ => ∀ (H0 : Hp) (σ : St) (F H : Hp) (R : It → Hp → Prop), Ex F H → Sl H0 Φ σ F H → (∀ J F' H', Gr F H F' H' → Src J F' Ps → R J H') → wI X tg iter σ H R) := ⟨PIv.run⟩
abbrev PIt (X : Cx) (Φ : List SD) (tg iter : Expr) {α : Type} [Py α] (xs : List α) : Prop := PIv X Φ tg iter (xs.map fun x => py X.K (enc x))
def setAll (Φ : List SD) : List (Nat × SD) → List SD
  | [] => Φ
  | (i, d) :: r => setAll (Φ.set i d) r
/-- a target: of a value of P its slots are us -/
structure PGv (X : Cx) (tg : Expr) (P : MP) (us : List (Nat × SD)) : Prop where
  run : ∀ (H0 : Hp) (Φ : List SD) (σ : St) (F H : Hp) (v : V) (Q : St → Hp → Prop), Ex F H → Sl H0 Φ σ F H → P.p F v → (∀ σ', Sl H0 (setAll Φ us) σ' F H → (∀ (j : Nat), (∀ u ∈ us, u.1 ≠ j) → σ'[j]? = σ[j]?) → Q σ' H) → wG X tg v σ H Q
instance {X : Cx} {tg : Expr} {P : MP} {us : List (Nat × SD)} : CoeFun (PGv X tg P us) (fun _ => ∀ (H0 : Hp) (Φ : List SD) (σ : St) (F H : Hp) (v : V) (Q : St → Hp → Prop), Ex F H → Sl H0 Φ σ F H → P.p F v → (∀ σ', Sl H0 (setAll Φ us) σ' F H → (∀ (j : Nat), (∀ u ∈ us, u.1 ≠ j) → σ'[j]? = σ[j]?) → Q σ' H) → wG X tg v σ H Q) := ⟨PGv.run⟩
abbrev PGt (X : Cx) (tg : Expr) {α : Type} [Py α] (x : α) (us : List (Nat × SD)) : Prop := PGv X tg (py X.K (enc x)) us
section
variable {X : Cx} {Φ : List SD} {a b c e : Expr} {es : List Expr} {pos p p2 : Pos} {P : MP} {Ps Qs : List MP} {i j k : Int} {tg : Expr}
/-! ### a def called -/
theorem wE_call {x : Str} {CX : CXT} {n : Nat} {sp : Sp} (G : FnG X.prog X.w X.K X.mg X.base CX n x sp) (hr : Room n X.A) (hx : Passes CX X E0) (hg : Gl X x) (hd : (x == ("__debug__" : Str)) = false) (hst : (e :: es).all nst = true)
    {σ : St} {H : Hp} {Q : VK} (h : wA X (e :: es) σ H fun vs H1 => sp vs H1 Q E0) : wE X (.Call (.Name x p) (e :: es) [] pos) σ H Q := by
  obtain ⟨f, fd, ps, h1, h2, h3, h4⟩ := G.ex
  have h2' := hst
  rw [List.all_cons, Bool.and_eq_true] at h2'
  refine wE_of (pe_call h1 hr hg h2 h3 h4 .nil hx paW hd (star_cons h2'.1) (star_plain h2'.2)) ?_
  show wA X (e :: es) σ H fun vs H1 => sp (vs ++ []) H1 Q E0
  have ee : (fun (vs : List V) (H1 : Hp) => sp (vs ++ []) H1 Q E0) = fun vs H1 => sp vs H1 Q E0 := by funext vs H1; rw [List.append_nil]
  rw [ee]; exact h
theorem wE_call0 {x : Str} {CX : CXT} {n : Nat} {sp : Sp} (G : FnG X.prog X.w X.K X.mg X.base CX n x sp) (hr : Room n X.A) (hx : Passes CX X E0) (hg : Gl X x) (hd : (x == ("__debug__" : Str)) = false)
    {σ : St} {H : Hp} {Q : VK} (h : sp [] H Q E0) : wE X (.Call (.Name x p) [] [] pos) σ H Q := by
  obtain ⟨f, fd, ps, h1, h2, h3, h4⟩ := G.ex
  exact wE_of (pe_call0 h1 hr hg h2 h3 h4 .nil hx hd) h
theorem v_call {A : Type} {argP : A → List MP} {pre : A → Prop} {res : A → RS} {x : Str} {CX : CXT} {n : Nat} (G : FnG X.prog X.w X.K X.mg X.base CX n x (spG argP pre res)) (hr : Room n X.A) (hx : Passes CX X E0) (z : A) (hp : pre z) (hv : res z = .val P)
    (ha : PAs X Φ (e :: es) (argP z)) (hg : Gl X x := by rfl) (hd : (x == ("__debug__" : Str)) = false := by decide) (hst : (e :: es).all nst = true := by rfl) : PEv X Φ (.Call (.Name x p) (e :: es) [] pos) P := .mk fun H0 σ F H Q s sl q =>
  wE_call G hr hx hg hd hst (ha H0 σ F H _ s sl fun vs F1 H1 g1 p1 => ⟨z, F1, g1.s, p1, hp, by rw [hv]; exact fun v F2 H2 g2 p2 => q v F2 H2 (g1.trans g2) p2⟩)
theorem v_callN {A : Type} {argP : A → List MP} {pre : A → Prop} {res : A → RS} {x : Str} {CX : CXT} {n : Nat} (G : FnG X.prog X.w X.K X.mg X.base CX n x (spG argP pre res)) (hr : Room n X.A) (hx : Passes CX X E0) (z : A) (hp : pre z) (hv : res z = .new Ps)
    (ha : PAs X Φ (e :: es) (argP z)) (hg : Gl X x := by rfl) (hd : (x == ("__debug__" : Str)) = false := by decide) (hst : (e :: es).all nst = true := by rfl) : PEn X Φ (.Call (.Name x p) (e :: es) [] pos) Ps := .mk fun H0 σ F H Q s sl q =>
  wE_call G hr hx hg hd hst (ha H0 σ F H _ s sl fun vs F1 H1 g1 p1 => ⟨z, F1, g1.s, p1, hp, by
    rw [hv]
    exact fun a vs F2 H2 g2 h1 h2 h3 p2 => q a vs F2 H2 (g1.trans g2) (by
      cases w : H a with
      | none => rfl
      | some u => rw [g1.h a u w] at h1; cases h1) h2 h3 p2⟩)
/-! ### sources -/
theorem i_list {α : Type} [Py α] {xs : List α} (ha : PV X Φ e xs) : PIt X Φ tg e xs := .mk fun H0 σ F H R s sl q =>
  wI_of (pi_list peW) (ha H0 σ F H _ s sl fun v F1 H1 g1 p1 => by
    obtain ⟨l, vs, rfl, h1, p2⟩ := py_lst.mp p1
    refine ⟨l, rfl, ⟨vs, SqL.of (g1.s _ _ h1)⟩, q _ F1 H1 g1 ⟨fun n P F2 H2 hp e1 e2 => ?_, fun F2 H2 e1 e2 => ⟨vs, SqL.of (e2 _ _ (e1 _ _ h1)), by rw [p2.1]; exact Nat.le_refl _⟩⟩⟩
    obtain ⟨v, hv, pv⟩ := allP_at p2 hp
    refine ⟨⟨vs, v, SqL.of (e2 _ _ (e1 _ _ h1)), hv⟩, fun u H3 y => ?_⟩
    obtain ⟨rfl, z⟩ := y
    have z2 := z vs (SqL.of (e2 _ _ (e1 _ _ h1)))
    rw [hv] at z2; cases z2
    exact ⟨F2, Gr.refl e2, P.mono _ _ _ e1 pv⟩)
theorem i_scr {ns : List Int} (ha : PEv X Φ e (scrP X.K ns)) : PIt X Φ tg e ns := .mk fun H0 σ F H R s sl q =>
  wI_of (pi_list peW) (ha H0 σ F H _ s sl fun v F1 H1 g1 p1 => by
    obtain ⟨l, rfl, h1⟩ := p1
    have p2 : AllP (ns.map fun x => py X.K (enc x)) F1 (ns.map V.int) := ints_allP
    refine ⟨l, rfl, ⟨_, ex_l g1.s h1⟩, q _ F1 H1 g1 ⟨fun n P F2 H2 hp e1 e2 => ?_, fun F2 H2 e1 e2 => ⟨_, ex_l (e1.trans e2) h1, by simp⟩⟩⟩
    obtain ⟨v, hv, pv⟩ := allP_at p2 hp
    refine ⟨⟨_, v, ex_l (e1.trans e2) h1, hv⟩, fun u H3 y => ?_⟩
    obtain ⟨rfl, z⟩ := y
    have z2 := z _ (ex_l (e1.trans e2) h1)
    rw [hv] at z2; cases z2
    exact ⟨F2, Gr.refl e2, P.mono _ _ _ e1 pv⟩)
theorem i_tup {α : Type} [Py α] {xs : Tup α} (ha : PV X Φ e xs) : PIt X Φ tg e xs.l := .mk fun H0 σ F H R s sl q =>
  wI_of (pi_tup peW) (ha H0 σ F H _ s sl fun v F1 H1 g1 p1 => by
    obtain ⟨l, vs, rfl, h1, p2⟩ := py_tup.mp p1
    refine ⟨l, rfl, ⟨vs, ex_t g1.s h1⟩, q _ F1 H1 g1 ⟨fun n P F2 H2 hp e1 e2 => ?_, fun F2 H2 e1 e2 => ⟨vs, ex_t (e1.trans e2) h1, by rw [p2.1]; exact Nat.le_refl _⟩⟩⟩
    obtain ⟨v, hv, pv⟩ := allP_at p2 hp
    refine ⟨⟨vs, v, ex_t (e1.trans e2) h1, hv⟩, fun u H3 y => ?_⟩
    obtain ⟨rfl, z⟩ := y
    have z2 := z vs (ex_t (e1.trans e2) h1)
    rw [hv] at z2; cases z2
    exact ⟨F2, Gr.refl e2, P.mono _ _ _ e1 pv⟩)
/-- lo, lo + 1, .. below hi -/
def rng (lo hi : Int) : List Int := (List.range (hi - lo).toNat).map fun (n : Nat) => lo + (n : Int)
theorem rng_length (lo hi : Int) : (rng lo hi).length = (hi - lo).toNat := by simp [rng]
theorem rng_get {K : Fg} {lo hi : Int} {n : Nat} {P : MP} (h : ((rng lo hi).map fun x => py K (enc x))[n]? = some P) : n < (hi - lo).toNat ∧ P = py K (.int (lo + (n : Int))) := by
  have hn := (List.getElem?_eq_some_iff.mp h).1
  rw [List.length_map, rng_length] at hn
  refine ⟨hn, ?_⟩
  simp only [rng, List.map_map, List.getElem?_map, List.getElem?_range hn, Option.map_some, Option.some.injEq] at h
  exact h.symm
theorem src_range {K : Fg} {F : Hp} {lo hi : Int} : Src (Itr lo (hi - lo).toNat) F ((rng lo hi).map fun x => py K (enc x)) := by
  refine ⟨fun n P F2 H2 hp e1 e2 => ?_, fun F2 H2 _ _ => ?_⟩
  · obtain ⟨hn, rfl⟩ := rng_get hp
    refine ⟨hn, fun v H3 y => ?_⟩
    obtain ⟨rfl, rfl⟩ := y
    exact ⟨F2, Gr.refl e2, .int _⟩
  · show (hi - lo).toNat ≤ _
    rw [List.length_map, rng_length]; exact Nat.le_refl _
def small62 (i : Int) : Prop := -(2 ^ 62) ≤ i ∧ i < 2 ^ 62
theorem i_range1 (B : Blt X.mg) (ha : PV X Φ a i) (hi : small62 i) (hg : Gl X "range" := by rfl) (h1 : nst a = true := by rfl) : PIt X Φ tg (.Call (.Name "range" p) [a] [] pos) (rng 0 i) := .mk fun H0 σ F H R s sl q =>
  wI_of (pi_range1 hg B.range paW (by rw [star_cons h1]; rfl)) (wA_one h1 (ha H0 σ F H _ s sl fun v F1 H1 g1 p1 => by
    cases p1
    refine ⟨i, rfl, hi.1, hi.2, q _ F1 H1 g1 ?_⟩
    have := src_range (K := X.K) (F := F1) (lo := 0) (hi := i)
    rw [Int.sub_zero] at this
    exact this))
theorem i_range2 (B : Blt X.mg) (ha : PV X Φ a i) (hb : PV X Φ b j) (hi : small62 i) (hj : small62 j) (hg : Gl X "range" := by rfl) (h1 : nst a = true := by rfl) (h2 : nst b = true := by rfl) : PIt X Φ tg (.Call (.Name "range" p) [a, b] [] pos) (rng i j) := .mk fun H0 σ F H R s sl q =>
  wI_of (pi_range2 hg B.range paW (by rw [star_cons h1, star_cons h2]; rfl) (by rw [star_cons h2]; rfl)) (wA_two s sl ha hb h1 h2 fun F1 H1 g1 => ⟨i, j, rfl, ⟨hi.1, hi.2, hj.1, hj.2⟩, q _ F1 H1 g1 src_range⟩)
/-- the pairs of enumerate, of zip -/
def enumL {α : Type} (xs : List α) : List (Int × α) := (rng 0 xs.length).zip xs
theorem rng_at {lo hi : Int} {n : Nat} (h : n < (hi - lo).toNat) : (rng lo hi)[n]? = some (lo + (n : Int)) := by
  unfold rng
  rw [List.getElem?_map, List.getElem?_range h]; rfl
theorem enumL_get {α : Type} {xs : List α} {n : Nat} {x : α} (h : xs[n]? = some x) : (enumL xs)[n]? = some ((n : Int), x) := by
  have hn := (List.getElem?_eq_some_iff.mp h).1
  unfold enumL
  refine List.getElem?_zip_eq_some.mpr ⟨?_, h⟩
  rw [rng_at (by omega), Int.zero_add]
theorem enumL_length {α : Type} (xs : List α) : (enumL xs).length = xs.length := by
  unfold enumL
  rw [List.length_zip, rng_length]; omega
theorem i_enum {α : Type} [Py α] {xs : List α} {elts : List Expr} {kk : Nat} {tpos : Pos} (B : Blt X.mg) (ha : PV X Φ e xs) (hg : Gl X "enumerate" := by rfl) (h1 : nst e = true := by rfl) : PIt X Φ (.Tuple elts kk tpos) (.Call (.Name "enumerate" p) [e] [] pos) (enumL xs) := .mk fun H0 σ F H R s sl q =>
  wI_of (pi_enum hg B.enumerate paW (by rw [star_cons h1]; rfl)) (wA_one h1 (ha H0 σ F H _ s sl fun v F1 H1 g1 p1 => by
    obtain ⟨l, vs, rfl, hl, p2⟩ := py_lst.mp p1
    have e3 : vs.length = xs.length := by simpa using p2.1
    refine ⟨l, vs, rfl, SqL.of (g1.s _ _ hl), q _ F1 H1 g1 ⟨fun n P F2 H2 hp e1 e2 => ?_, fun F2 H2 e1 e2 => ⟨vs, SqL.of (e2 _ _ (e1 _ _ hl)), by simp [enumL_length, e3]⟩⟩⟩
    have hn := (List.getElem?_eq_some_iff.mp hp).1
    rw [List.length_map, enumL_length] at hn
    obtain ⟨v, hv, pv⟩ := allP_at (n := n) p2 (by rw [List.getElem?_map, List.getElem?_eq_getElem hn]; rfl)
    have eP : P = py X.K (enc ((n : Int), xs[n])) := by
      rw [List.getElem?_map, enumL_get (List.getElem?_eq_getElem hn)] at hp
      exact (Option.some.inj hp).symm
    subst eP
    refine ⟨⟨vs, v, SqL.of (e2 _ _ (e1 _ _ hl)), hv⟩, fun u H3 y => ?_⟩
    obtain ⟨T, x, rfl, hT, rfl, z⟩ := y
    have z2 := z vs (SqL.of (e2 _ _ (e1 _ _ hl)))
    rw [hv] at z2; cases z2
    exact ⟨_, Gr.new e2 hT, .tup (SqT.of upd_same) (.cons (.int _) (.cons (dq_mono (e1.trans (Gr.new (o := .tup [.int (n : Nat), v]) e2 hT).f) _ _ pv) .nil))⟩))
theorem i_zip {α β : Type} [Py α] [Py β] {xs : List α} {ys : List β} {elts : List Expr} {kk : Nat} {tpos : Pos} (B : Blt X.mg) (ha : PV X Φ a xs) (hb : PV X Φ b ys) (hg : Gl X "zip" := by rfl) (h1 : nst a = true := by rfl) (h2 : nst b = true := by rfl) :
    PIt X Φ (.Tuple elts kk tpos) (.Call (.Name "zip" p) [a, b] [] pos) (xs.zip ys) := .mk fun H0 σ F H R s sl q =>
  wI_of (pi_zip hg B.zip paW (star_cons h1) (star_plain (by simp [h2]))) (wA_of (pa_cons peW (pa_cons peW pa_nil (star_cons h2)) (star_cons h1)) (ha H0 σ F H _ s sl fun v F1 H1 g1 p1 => hb H0 σ F1 H1 _ g1.s (sl.gr g1) fun w F2 H2 g2 q1 => by
    obtain ⟨l, vs, rfl, hl, p2⟩ := py_lst.mp p1
    obtain ⟨m, ws, rfl, hm, q2⟩ := py_lst.mp q1
    have e3 : vs.length = xs.length := by simpa using p2.1
    have e4 : ws.length = ys.length := by simpa using q2.1
    have hl2 := g2.f _ _ hl
    have p3 := p2.mono g2.f
    refine ⟨l, m, vs, ws, rfl, SqL.of (g2.s _ _ hl2), SqL.of (g2.s _ _ hm), q _ F2 H2 (g1.trans g2) ⟨fun n P F3 H3 hp e1 e2 => ?_, fun F3 H3 e1 e2 => ⟨vs, ws, SqL.of (e2 _ _ (e1 _ _ hl2)), SqL.of (e2 _ _ (e1 _ _ hm)), by rw [List.length_map, List.length_zip]; omega⟩⟩⟩
    have hn := (List.getElem?_eq_some_iff.mp hp).1
    rw [List.length_map, List.length_zip] at hn
    obtain ⟨v, hv, pv⟩ := allP_at (n := n) p3 (by rw [List.getElem?_map, List.getElem?_eq_getElem (show n < xs.length by omega)]; rfl)
    obtain ⟨w, hw, pw⟩ := allP_at (n := n) q2 (by rw [List.getElem?_map, List.getElem?_eq_getElem (show n < ys.length by omega)]; rfl)
    have eP : P = py X.K (enc (xs[n]'(by omega), ys[n]'(by omega))) := by
      rw [List.getElem?_map, (List.getElem?_zip_eq_some (z := (xs[n]'(by omega), ys[n]'(by omega)))).mpr ⟨List.getElem?_eq_getElem (show n < xs.length by omega), List.getElem?_eq_getElem (show n < ys.length by omega)⟩] at hp
      exact (Option.some.inj hp).symm
    subst eP
    refine ⟨⟨vs, ws, v, w, SqL.of (e2 _ _ (e1 _ _ hl2)), SqL.of (e2 _ _ (e1 _ _ hm)), hv, hw⟩, fun u H4 y => ?_⟩
    obtain ⟨T, x, x', rfl, hT, rfl, z, z'⟩ := y
    have z2 := z vs (SqL.of (e2 _ _ (e1 _ _ hl2)))
    have z3 := z' ws (SqL.of (e2 _ _ (e1 _ _ hm)))
    rw [hv] at z2; cases z2
    rw [hw] at z3; cases z3
    have ee := e1.trans (Gr.new (o := .tup [v, w]) e2 hT).f
    exact ⟨_, Gr.new e2 hT, .tup (SqT.of upd_same) (.cons (dq_mono ee _ _ pv) (.cons (dq_mono ee _ _ pw) .nil))⟩))
theorem i_rev {α : Type} [Py α] {xs : List α} (B : Blt X.mg) (ha : PV X Φ e xs) (hg : Gl X "reversed" := by rfl) (h1 : nst e = true := by rfl) : PIt X Φ tg (.Call (.Name "reversed" p) [e] [] pos) xs.reverse := .mk fun H0 σ F H R s sl q =>
  wI_of (pi_reversed hg B.reversed paW (by rw [star_cons h1]; rfl)) (wA_one h1 (ha H0 σ F H _ s sl fun v F1 H1 g1 p1 => by
    obtain ⟨l, vs, rfl, hl, p2⟩ := py_lst.mp p1
    have e3 : vs.length = xs.length := by simpa using p2.1
    refine ⟨l, vs, rfl, SqL.of (g1.s _ _ hl), q _ F1 H1 g1 ⟨fun n P F2 H2 hp e1 e2 => ?_, fun F2 H2 e1 e2 => by show vs.length ≤ _; simp [e3]⟩⟩
    rw [List.map_reverse] at hp
    have hn := (List.getElem?_eq_some_iff.mp hp).1
    simp only [List.length_reverse, List.length_map] at hn
    rw [List.getElem?_reverse (by simpa using hn), List.length_map, ← e3] at hp
    obtain ⟨v, hv, pv⟩ := allP_at p2 hp
    refine ⟨⟨by omega, vs, v, SqL.of (e2 _ _ (e1 _ _ hl)), hv⟩, fun u H3 y => ?_⟩
    obtain ⟨rfl, z⟩ := y
    have z2 := z vs (SqL.of (e2 _ _ (e1 _ _ hl)))
    rw [hv] at z2; cases z2
    exact ⟨F2, Gr.refl e2, P.mono _ _ _ e1 pv⟩))
theorem i_revR (B : Blt X.mg) (ha : PV X Φ a i) (hi : small62 i) (hg : Gl X "range" := by rfl) (hg2 : Gl X "reversed" := by rfl) (h1 : nst a = true := by rfl) : PIt X Φ tg (.Call (.Name "reversed" p) [.Call (.Name "range" p2) [a] [] pos] [] pos') (rng 0 i).reverse := .mk fun H0 σ F H R s sl q =>
  wI_of (pi_revR hg2 B.reversed (prg_1 hg B.range peW (by rw [star_cons h1])) (star_cons rfl)) (ha H0 σ F H _ s sl fun v F1 H1 g1 p1 => by
    cases p1
    refine ⟨i, rfl, by decide, by decide, hi.1, hi.2, q _ F1 H1 g1 ⟨fun n P F2 H2 hp e1 e2 => ?_, fun F2 H2 e1 e2 => by show (i - 0).toNat ≤ _; simp [rng_length]⟩⟩
    rw [List.map_reverse] at hp
    have hn := (List.getElem?_eq_some_iff.mp hp).1
    simp only [List.length_reverse, List.length_map, rng_length] at hn
    rw [List.getElem?_reverse (by simpa [rng_length] using hn), List.length_map, rng_length] at hp
    obtain ⟨_, rfl⟩ := rng_get hp
    refine ⟨hn, fun v H3 y => ?_⟩
    obtain ⟨rfl, rfl⟩ := y
    refine ⟨F2, Gr.refl e2, ?_⟩
    have ei : (0 : Int) + ((((i - 0).toNat : Nat) : Int)) - 1 + ((n : Nat) : Int) * (-1) = 0 + (((i - 0).toNat - 1 - n : Nat) : Int) := by omega
    rw [ei]; exact .int _)
/-! ### targets -/
theorem g_name (n : Nat) {x : Str} (hN : X.N.Nodup) (hi : X.N[n]? = some x := by rfl) (hx : Loc X.env.scope x := by first | exact Or.inl rfl | exact Or.inr rfl) (hf : X.fn x = true ∨ X.env.scope.names.lookup x = some .local := by first | exact .inl rfl | exact .inr rfl) : PGv X (.Name x pos) P [(n, .im P)] :=
  .mk fun H0 Φ σ F H v Q s sl hp q => wG_of (pg_name hN hi hx hf) (q _ (sl.set ⟨v, rfl, hp⟩ rfl) fun j hj => List.getElem?_set_ne (hj _ (List.mem_singleton.mpr rfl)))
/-- several targets, one after another -/
def wGs (X : Cx) (ts : List Expr) : TGs := fun vs σ H Q => ∀ pins s us, Inv X pins σ H s → Vals vs us → wpAny (model X.prog X.w) X.A (assignInOrder ((assignEach ts X.env).map (·.2)) us) (fun _ s' => ∃ σ' H', Inv X pins σ' H' s' ∧ Q σ' H') X.xe s
theorem pgsW {ts : List Expr} : PGs X ts (wGs X ts) := ⟨fun pins s _ _ _ us _ I r h => h pins s us I r⟩
theorem wGs_of {ts : List Expr} {t : TGs} {vs : List V} {σ : St} {H : Hp} {Q : St → Hp → Prop} (p : PGs X ts t) (h : t vs σ H Q) : wGs X ts vs σ H Q := fun pins s us I r => p.run pins s σ H vs us Q I r h
structure PGsv (X : Cx) (ts : List Expr) (Ps : List MP) (us : List (Nat × SD)) : Prop where
  run : ∀ (H0 : Hp) (Φ : List SD) (σ : St) (F H : Hp) (vs : List V) (Q : St → Hp → Prop), Ex F H → Sl H0 Φ σ F H → AllP Ps F vs → (∀ σ', Sl H0 (setAll Φ us) σ' F H → (∀ (j : Nat), (∀ u ∈ us, u.1 ≠ j) → σ'[j]? = σ[j]?) → Q σ' H) → wGs X ts vs σ H Q
instance {X : Cx} {ts : List Expr} {Ps : List MP} {us : List (Nat × SD)} : CoeFun (PGsv X ts Ps us) (fun _ => ∀ (H0 : Hp) (Φ : List SD) (σ : St) (F H : Hp) (vs : List V) (Q : St → Hp → Prop), Ex F H → Sl H0 Φ σ F H → AllP Ps F vs → (∀ σ', Sl H0 (setAll Φ us) σ' F H → (∀ (j : Nat), (∀ u ∈ us, u.1 ≠ j) → σ'[j]? = σ[j]?) → Q σ' H) → wGs X ts vs σ H Q) := ⟨PGsv.run⟩
def ntg : Expr → Bool
  | .Starred .. => false
  | _ => true
theorem each_cons {e : Expr} {es : List Expr} {env : Env} (h : ntg e = true) : (assignEach (e :: es) env).map (·.2) = assign e env :: (assignEach es env).map (·.2) := by
  cases e with
  | Starred => cases h
  | _ => rfl
theorem each_len {env : Env} : ∀ {es : List Expr}, es.all ntg = true → (assignEach es env).length = es.length ∧ (assignEach es env).findIdx? (·.1) = none
  | [], _ => ⟨rfl, rfl⟩
  | e :: es, h => by
    rw [List.all_cons, Bool.and_eq_true] at h
    obtain ⟨h1, h2⟩ := each_len (env := env) h.2
    have e3 : assignEach (e :: es) env = (false, assign e env) :: assignEach es env := by
      cases e with
      | Starred => cases h.1
      | _ => rfl
    rw [e3]
    refine ⟨by simp [h1], ?_⟩
    rw [List.findIdx?_cons]
    simp [h2]
theorem gs_nil : PGsv X [] [] [] := .mk fun H0 Φ σ F H vs Q s sl hp q => wGs_of pgs_nil ⟨hp.inv0, q σ sl fun _ _ => rfl⟩
theorem gs_cons {us ws : List (Nat × SD)} (h1 : PGv X e P us) (h2 : PGsv X es Ps ws) (hs : ntg e = true := by rfl) (hu : us.map (·.1) = us.map (·.1) := by rfl) : PGsv X (e :: es) (P :: Ps) (us ++ ws) := .mk fun H0 Φ σ F H vs Q s sl hp q => by
  obtain ⟨v, ws', rfl, h3, h4⟩ := hp.inv
  refine wGs_of (pgs_cons pgW pgsW (each_cons hs)) ⟨v, ws', rfl, h1 H0 Φ σ F H v _ s sl h3 fun σ1 sl1 k1 => h2 H0 (setAll Φ us) σ1 F H ws' _ s sl1 h4 fun σ2 sl2 k2 => q σ2 ?_ fun j hj => ?_⟩
  · have e3 : ∀ (us ws : List (Nat × SD)) (Φ : List SD), setAll Φ (us ++ ws) = setAll (setAll Φ us) ws := by
      intro us
      induction us with
      | nil => intro ws Φ; rfl
      | cons u us ih => intro ws Φ; exact ih ws (Φ.set u.1 u.2)
    rw [e3]; exact sl2
  · rw [k2 j fun u hu => hj u (List.mem_append_right _ hu), k1 j fun u hu => hj u (List.mem_append_left _ hu)]
theorem g_tupP {us : List (Nat × SD)} {kk : Nat} (hc : X.calm = true) (h : PGsv X es Ps us) (hs : es.all ntg = true := by rfl) (hl : Ps.length = es.length := by rfl) : PGv X (.Tuple es kk pos) (tupP X.K Ps) us := .mk fun H0 Φ σ F H v Q s sl hp q => by
  obtain ⟨l, vs, rfl, h1, h2⟩ := hp
  obtain ⟨h3, h4⟩ := each_len (env := X.env) hs
  exact wG_of (pg_tup hc pgsW h3 h4) ⟨l, vs, rfl, ex_t s h1, by rw [h2.1, hl], h H0 Φ σ F H vs Q s sl h2 q⟩
theorem g_tup {us : List (Nat × SD)} {kk : Nat} {ds : List PyData} (hc : X.calm = true) (h : PGsv X es (ds.map (py X.K)) us) (hs : es.all ntg = true := by rfl) (hl : (ds.map (py X.K)).length = es.length := by rfl) : PGv X (.Tuple es kk pos) (py X.K (.tuple ds)) us := .mk fun H0 Φ σ F H v Q s sl hp q =>
  g_tupP hc h hs hl H0 Φ σ F H v Q s sl (py_tuple.mp hp) q
end
end GL

set_option Elab.async false
set_option linter.all false
set_option maxRecDepth 100000
set_option maxHeartbeats 4000000
namespace GL
open PySem L2
open Evl (Ex ex_l ex_t)
/-! ### comprehensions -/
def wipeS (Φ : List SD) : List Nat → List SD
  | [] => Φ
  | v :: vs => (wipeS Φ vs).set v .un
theorem Sl.wipe {H0 F H : Hp} {Φ : List SD} {σ : St} (h : Sl H0 Φ σ F H) : ∀ vs : List Nat, Sl H0 (wipeS Φ vs) (wipe σ vs) F H
  | [] => h
  | v :: vs => by
    have := (Sl.wipe h vs).set (i := v) (d := .un) (o := none) trivial rfl
    exact this
theorem wipe_out {σ : St} {j : Nat} : ∀ {vs : List Nat}, j ∉ vs → (wipe σ vs)[j]? = σ[j]?
  | [], _ => rfl
  | v :: vs, h => by
    unfold L2.wipe
    rw [List.getElem?_set_ne (fun z => h (by simp [z]))]
    exact wipe_out fun z => h (by simp [z])
theorem wipe_in {σ : St} {j : Nat} : ∀ {vs : List Nat}, j ∈ vs → j < σ.length → (wipe σ vs)[j]? = some none
  | [], h, _ => by simp at h
  | v :: vs, h, hl => by
    unfold L2.wipe
    by_cases q : v = j
    · subst q
      rw [List.getElem?_set_self (by rw [wipe_length]; exact hl)]
    · rw [List.getElem?_set_ne q]
      exact wipe_in (by
        rcases List.mem_cons.mp h with z | z
        · exact absurd z.symm q
        · exact z) hl
theorem wipe_eq {σ σ2 : St} {vs : List Nat} (hl : σ2.length = σ.length) (h : ∀ j, j ∉ vs → σ2[j]? = (wipe σ vs)[j]?) : wipe σ2 vs = wipe σ vs := by
  apply List.ext_getElem?
  intro j
  by_cases q : j ∈ vs
  · by_cases hj : j < σ.length
    · rw [wipe_in q hj, wipe_in q (by omega)]
    · rw [List.getElem?_eq_none (by rw [wipe_length]; omega), List.getElem?_eq_none (by rw [wipe_length]; omega)]
  · rw [wipe_out q, h j q]
section
variable {X : Cx} {Φ : List SD} {a b c e : Expr} {es : List Expr} {pos p p2 : Pos} {P : MP} {Ps Qs : List MP} {i j k : Int} {tg iter elt : Expr} {scope : Scope} {own : List (Str × Nat)}
def Blk (X : Cx) (scope : Scope) (Y : Cx) : Prop := ∃ (s : Shared) (H : Hp) (C : Addr) (cl : List (Str × Addr)) (fp : List Addr), Y = X.blk s H scope (compEnvC scope cl C X.env) fp
/-- the block's readings -/
def gB (X : Cx) (scope : Scope) (tg : Expr) : TG := fun v σ H Q => ∀ (s : Shared) (H' : Hp) (C : Addr) (cl : List (Str × Addr)) (fp : List Addr), wG (X.blk s H' scope (compEnvC scope cl C X.env) fp) tg v σ H Q
def eB (X : Cx) (scope : Scope) (e : Expr) : TE := fun σ H Q => ∀ (s : Shared) (H' : Hp) (C : Addr) (cl : List (Str × Addr)) (fp : List Addr), wE (X.blk s H' scope (compEnvC scope cl C X.env) fp) e σ H Q
def tB' (X : Cx) (scope : Scope) (e : Expr) : TT := fun σ H Q => ∀ (s : Shared) (H' : Hp) (C : Addr) (cl : List (Str × Addr)) (fp : List Addr), wT (X.blk s H' scope (compEnvC scope cl C X.env) fp) e σ H Q
theorem pgB (s : Shared) (H : Hp) (C : Addr) (cl : List (Str × Addr)) (fp : List Addr) : PG (X.blk s H scope (compEnvC scope cl C X.env) fp) tg (gB X scope tg) := ⟨fun pins s' _ _ _ u _ I r h => h s H C cl fp pins s' u I r⟩
theorem peB (s : Shared) (H : Hp) (C : Addr) (cl : List (Str × Addr)) (fp : List Addr) : PE (X.blk s H scope (compEnvC scope cl C X.env) fp) e (eB X scope e) := ⟨fun pins s' _ _ _ I h => h s H C cl fp pins s' I⟩
theorem ptB (s : Shared) (H : Hp) (C : Addr) (cl : List (Str × Addr)) (fp : List Addr) : PT (X.blk s H scope (compEnvC scope cl C X.env) fp) e (tB' X scope e) := ⟨fun pins s' _ _ _ I h => h s H C cl fp pins s' I⟩
/-- a comprehension's reading, its test at tt -/
theorem lc_ok {α β : Type} [Py α] [Py β] {xs : List α} {cnd : α → Bool} {f : α → β} {us : α → List (Nat × SD)} {tt : TT} {vs : List Nat} {H0 : Hp} {σ : St} {F H : Hp} {Q : VK} (s : Ex F H) (sl : Sl H0 Φ σ F H)
    (hi : PIt X Φ tg iter xs) (hz : xs.length ≤ sizeLine)
    (hg : ∀ x, ∀ (s : Shared) (H : Hp) (C : Addr) (cl : List (Str × Addr)) (fp : List Addr), PGt (X.blk s H scope (compEnvC scope cl C X.env) fp) tg x (us x))
    (hu : ∀ x, ∀ u ∈ us x, u.1 ∈ vs)
    (ht : ∀ x, x ∈ xs → ∀ (σ' : St) (F' H' : Hp) (R : Bool → Hp → Prop), Ex F' H' → Sl H0 (setAll (wipeS Φ vs) (us x)) σ' F' H' → (∀ F'' H'', Gr F' H' F'' H'' → R (cnd x) H'') → tt σ' H' R)
    (he : ∀ x, x ∈ xs → cnd x = true → ∀ (s : Shared) (H : Hp) (C : Addr) (cl : List (Str × Addr)) (fp : List Addr), PEv (X.blk s H scope (compEnvC scope cl C X.env) fp) (setAll (wipeS Φ vs) (us x)) elt (py X.K (enc (f x))))
    (q : ∀ a vs F' H', Gr F H F' H' → H a = none → F' a = none → H' a = some (.lst vs) → AllP (((xs.filter cnd).map f).map fun x => py X.K (enc x)) F' vs → Q (.ref a) H') :
    tLc (wI X tg iter) (gB X scope tg) tt (eB X scope elt) vs σ H Q := by
  refine hi H0 σ F H _ s sl fun J F1 H1 g1 src D hD => ?_
  have fD := (fresh_of g1 hD)
  have hlen : (xs.map fun x => py X.K (enc x)).length = xs.length := List.length_map _
  refine ⟨fun n m H' => m = xs.length - n ∧ n ≤ xs.length ∧ ∃ F' acc, Gr F1 H1 F' H' ∧ F' D = none ∧ H' D = some (.lst acc) ∧ acc.length ≤ n ∧ AllP ((((xs.take n).filter cnd).map f).map fun x => py X.K (enc x)) F' acc,
    ⟨xs.length, by simp, Nat.zero_le _, F1, [], Gr.own g1.s hD, fD.1, upd_same, Nat.le_refl _, by simpa using AllP.nil⟩, ?_⟩
  rintro n m H' ⟨rfl, hn, F', acc, g, fd, hd, hal, hacc⟩
  by_cases hlt : n < xs.length
  · have hx : xs[n]? = some xs[n] := List.getElem?_eq_getElem hlt
    obtain ⟨go, yl⟩ := src.go n _ F' H' (by rw [List.getElem?_map, hx]; rfl) g.f g.s
    refine .inr ⟨go, fun H2 => (fun n m H' => m = xs.length - n ∧ n ≤ xs.length ∧ ∃ F' acc, Gr F1 H1 F' H' ∧ F' D = none ∧ H' D = some (.lst acc) ∧ acc.length ≤ n ∧ AllP ((((xs.take n).filter cnd).map f).map fun x => py X.K (enc x)) F' acc) (n + 1) (xs.length - (n + 1)) H2, fun H2 h => ⟨_, by omega, h⟩, fun v H2 y => ?_⟩
    obtain ⟨F2, g2, pv⟩ := yl v H2 y
    have hmem : xs[n] ∈ xs := List.getElem_mem hlt
    have tk : xs.take (n + 1) = xs.take n ++ [xs[n]] := by rw [List.take_succ, hx]; rfl
    have sl2 : Sl H0 (wipeS Φ vs) (wipe σ vs) F2 H2 := ((sl.gr g1).gr (g.trans g2)).wipe vs
    intro s' Hs C cl fp
    refine hg xs[n] s' Hs C cl fp H0 (wipeS Φ vs) (wipe σ vs) F2 H2 v _ g2.s sl2 pv fun σ2 sl3 keep => ⟨wipe_eq ?_ fun j hj => keep j fun u hu' z => hj (by rw [← z]; exact hu _ u hu'), ?_⟩
    · have l1 := sl3.len
      have l2 : ∀ (us : List (Nat × SD)) (Φ : List SD), (setAll Φ us).length = Φ.length := by
        intro us
        induction us with
        | nil => intro Φ; rfl
        | cons u us ih => intro Φ; exact (ih _).trans (List.length_set)
      rw [l2] at l1
      have l3 := sl2.len
      rw [wipe_length] at l3
      omega
    · refine ht xs[n] hmem σ2 F2 H2 _ g2.s sl3 fun F3 H3 g3 => ?_
      have fd3 : F3 D = none := g3.n D (g2.n D fd (ne_none hd)) (ne_none (g2.h _ _ hd))
      have hd3 : H3 D = some (.lst acc) := g3.h _ _ (g2.h _ _ hd)
      cases hc : cnd xs[n] with
      | false =>
        rw [if_neg (by simp)]
        refine ⟨rfl, by omega, F3, acc, (g.trans g2).trans g3, fd3, hd3, by omega, ?_⟩
        rw [tk, List.filter_append, List.filter_cons, hc]
        simpa using hacc.mono (g2.f.trans g3.f)
      | true =>
        rw [if_pos rfl]
        intro s'' Hs' C' cl' fp'
        refine he xs[n] hmem hc s'' Hs' C' cl' fp' H0 σ2 F3 H3 _ g3.s (sl3.gr g3) fun y F4 H4 g4 py4 => ?_
        have fd4 : F4 D = none := g4.n D fd3 (ne_none hd3)
        have hd4 : H4 D = some (.lst acc) := g4.h _ _ hd3
        have gg := ((g.trans g2).trans g3).trans g4
        refine ⟨acc, hd4, by omega, rfl, by omega, F4, acc ++ [y], ⟨gg.f, fun b o z => ?_, fun b o z => ?_, fun b z1 z2 => gg.n b z1 z2⟩, fd4, upd_same, by simp; omega, ?_⟩
        · rw [upd_ne (ne_of_none z hD)]; exact gg.h b o z
        · rw [upd_ne (ne_of_none z fd4)]; exact gg.s b o z
        · rw [tk, List.filter_append, List.filter_cons, hc]
          simp only [List.filter_nil, if_true, List.map_append, List.map_cons, List.map_nil]
          exact (hacc.mono ((g2.f.trans g3.f).trans g4.f)).snoc py4
  · have e : n = xs.length := by omega
    subst e
    refine .inl ⟨by have := src.stop F' H' g.f g.s; rw [hlen] at this; exact this, ?_⟩
    rw [List.take_length] at hacc
    exact q D acc F' H' (g1.trans g) fD.2 fd hd hacc
variable {x1 : Nat}
theorem filter_true {α : Type} (xs : List α) : xs.filter (fun _ => true) = xs := by simp
theorem v_lc {α β : Type} [Py α] [Py β] {xs : List α} {f : α → β} (own : List (Str × Nat)) (us : α → List (Nat × SD)) (hc : X.calm = true) (hN : X.N.Nodup) (ok : BlkOk X.N X.env.scope scope own) (hi : PIt X Φ tg iter xs) (hz : xs.length ≤ sizeLine)
    (hg : ∀ x, ∀ (s : Shared) (H : Hp) (C : Addr) (cl : List (Str × Addr)) (fp : List Addr), PGt (X.blk s H scope (compEnvC scope cl C X.env) fp) tg x (us x)) (hu : ∀ x, ∀ u ∈ us x, u.1 ∈ own.map (·.2))
    (he : ∀ x, x ∈ xs → ∀ (s : Shared) (H : Hp) (C : Addr) (cl : List (Str × Addr)) (fp : List Addr), PEv (X.blk s H scope (compEnvC scope cl C X.env) fp) (setAll (wipeS Φ (own.map (·.2))) (us x)) elt (py X.K (enc (f x))))
    (hs : ∀ x, foldedSetIterable iter X.env x = pure x := by intro _; rfl) : PN X Φ (.ListComp elt [⟨tg, iter, [], 0⟩] scope pos) (xs.map f) := .mk fun H0 σ F H Q s sl q =>
  wE_of (pe_lc (own := own) hc hN piW ok pgB (fun _ _ _ _ _ => pts_nil) peB hs) (lc_ok (cnd := fun _ => true) s sl hi hz hg hu (fun x hx σ' F' H' R s' _ r => r F' H' (Gr.refl s')) (fun x hx _ => he x hx) (by rw [filter_true]; exact q))
theorem v_lcIf {α β : Type} [Py α] [Py β] {xs : List α} {cnd : α → Bool} {f : α → β} (own : List (Str × Nat)) (us : α → List (Nat × SD)) (hc : X.calm = true) (hN : X.N.Nodup) (ok : BlkOk X.N X.env.scope scope own) (hi : PIt X Φ tg iter xs) (hz : xs.length ≤ sizeLine)
    (hg : ∀ x, ∀ (s : Shared) (H : Hp) (C : Addr) (cl : List (Str × Addr)) (fp : List Addr), PGt (X.blk s H scope (compEnvC scope cl C X.env) fp) tg x (us x)) (hu : ∀ x, ∀ u ∈ us x, u.1 ∈ own.map (·.2))
    (ht : ∀ x, x ∈ xs → ∀ (s : Shared) (H : Hp) (C : Addr) (cl : List (Str × Addr)) (fp : List Addr), PTv (X.blk s H scope (compEnvC scope cl C X.env) fp) (setAll (wipeS Φ (own.map (·.2))) (us x)) c (cnd x))
    (he : ∀ x, x ∈ xs → cnd x = true → ∀ (s : Shared) (H : Hp) (C : Addr) (cl : List (Str × Addr)) (fp : List Addr), PEv (X.blk s H scope (compEnvC scope cl C X.env) fp) (setAll (wipeS Φ (own.map (·.2))) (us x)) elt (py X.K (enc (f x))))
    (hs : ∀ x, foldedSetIterable iter X.env x = pure x := by intro _; rfl) : PN X Φ (.ListComp elt [⟨tg, iter, [c], 0⟩] scope pos) ((xs.filter cnd).map f) := .mk fun H0 σ F H Q s sl q =>
  wE_of (pe_lc (own := own) hc hN piW ok pgB (fun s H C cl fp => pts_one (ptB s H C cl fp)) peB hs) (lc_ok s sl hi hz hg hu (fun x hx σ' F' H' R s' sl' r s2 Hs C cl fp => ht x hx s2 Hs C cl fp H0 σ' F' H' R s' sl' r) he q)
end

/-! ### statements -/
inductive Ctl (S R : Type) where
  | nx (s : S)
  | ct (s : S)
  | bk (s : S)
  | rt (r : R)
/-- blocks, one behind another -/
def wK (X : Cx) : List (List Stmt) → TS
  | [] => fun D σ H => D.nx σ H
  | A :: r => fun D σ H => wSs X A { D with nx := fun σ' H' => wK X r D σ' H' } σ H
def Ctl.post {S R : Type} (F0 H0 : Hp) (D : Ends) (W : XK) (M : S → List SD) (T : R → RS) : Ctl S R → Prop
  | .nx s => ∀ σ F H, Gr F0 H0 F H → Sl H0 (M s) σ F H → D.nx σ H
  | .ct s => ∀ σ F H, Gr F0 H0 F H → Sl H0 (M s) σ F H → D.ct σ H
  | .bk s => ∀ σ F H, Gr F0 H0 F H → Sl H0 (M s) σ F H → D.bk σ H
  | .rt r => (T r).sat F0 H0 D.rt W
structure HB (X : Cx) (W : XK) {S R : Type} (ks : List (List Stmt)) (Φ : List SD) (M : S → List SD) (T : R → RS) (o : Ctl S R) : Prop where
  run : ∀ (F0 H0 : Hp) (D : Ends) (σ : St) (F H : Hp), Gr F0 H0 F H → Sl H0 Φ σ F H → o.post F0 H0 D W M T → wK X ks D σ H
instance {X : Cx} {W : XK} {S R : Type} {ks : List (List Stmt)} {Φ : List SD} {M : S → List SD} {T : R → RS} {o : Ctl S R} : CoeFun (HB X W ks Φ M T o) (fun _ => ∀ (F0 H0 : Hp) (D : Ends) (σ : St) (F H : Hp), Gr F0 H0 F H → Sl H0 Φ σ F H → o.post F0 H0 D W M T → wK X ks D σ H) := ⟨HB.run⟩
/-- fewer slots known -/
inductive Wk : List SD → List SD → Prop
  | nil : Wk [] []
  | keep {d : SD} {Φ Ψ : List SD} (h : Wk Φ Ψ) : Wk (d :: Φ) (d :: Ψ)
  | drop {d : SD} {Φ Ψ : List SD} (h : Wk Φ Ψ) : Wk (d :: Φ) (.un :: Ψ)
theorem Wk.get : ∀ {Φ Ψ : List SD}, Wk Φ Ψ → Φ.length = Ψ.length ∧ ∀ (i : Nat) (d : SD), Ψ[i]? = some d → d = .un ∨ Φ[i]? = some d
  | _, _, .nil => ⟨rfl, fun i d h => by simp at h⟩
  | _, _, .keep h => by
    obtain ⟨h1, h2⟩ := h.get
    refine ⟨by simp [h1], fun i d e => ?_⟩
    cases i with
    | zero => exact .inr e
    | succ i => exact h2 i d (by simpa using e)
  | _, _, .drop h => by
    obtain ⟨h1, h2⟩ := h.get
    refine ⟨by simp [h1], fun i d e => ?_⟩
    cases i with
    | zero => left; simpa using e.symm
    | succ i => exact h2 i d (by simpa using e)
theorem Sl.wk {H0 F H : Hp} {Φ Ψ : List SD} {σ : St} (h : Sl H0 Φ σ F H) (w : Wk Φ Ψ) : Sl H0 Ψ σ F H := by
  obtain ⟨w1, w2⟩ := w.get
  refine ⟨by rw [h.len, w1], fun i d o a b => ?_, fun i j d e o o' l hij a b f g p q => ?_⟩
  · rcases w2 i d a with z | z
    · subst z; trivial
    · exact h.at_ i d o z b
  · rcases w2 i d a with z | z
    · subst z; cases p
    · rcases w2 j e b with z' | z'
      · subst z'; cases q
      · exact h.apart i j d e o o' l hij z z' f g p q
section
variable {X : Cx} {W : XK} {S R : Type} {Φ : List SD} {M : S → List SD} {T : R → RS} {o o1 o2 : Ctl S R} {a b c e : Expr} {es : List Expr} {pos p p2 : Pos} {P : MP} {Ps Qs : List MP} {i j : Int} {tg iter : Expr} {A A1 A2 : List Stmt} {r : List (List Stmt)} {st : Stmt}
theorem wK_cons {D : Ends} {σ : St} {H : Hp} (h : wS X st { D with nx := fun σ' H' => wK X (A :: r) D σ' H' } σ H) : wK X ((st :: A) :: r) D σ H := wSs_of (pss_cons psW pssW) h
theorem h_nil {s : S} (w : Wk Φ (M s)) : HB X W [] Φ M T (.nx s) := .mk fun F0 H0 D σ F H g sl k => k σ F H g (sl.wk w)
theorem h_end (h : HB X W r Φ M T o) : HB X W ([] :: r) Φ M T o := .mk fun F0 H0 D σ F H g sl k => wSs_of pss_nil (h F0 H0 D σ F H g sl k)
theorem h_wk {Ψ : List SD} (w : Wk Φ Ψ) (h : HB X W r Ψ M T o) : HB X W r Φ M T o := .mk fun F0 H0 D σ F H g sl k => h F0 H0 D σ F H g (sl.wk w) k
theorem h_set (n : Nat) {x : Str} (hN : X.N.Nodup) (he : PEv X Φ e P) (h : HB X W (A :: r) (Φ.set n (.im P)) M T o) (hi : X.N[n]? = some x := by rfl) (hx : Loc X.env.scope x := by first | exact Or.inl rfl | exact Or.inr rfl) (hs : swapsWith e (some (.Name x p)) pos.line X.env = pure false := by rfl)
    (hf : X.fn x = true ∨ X.env.scope.names.lookup x = some .local := by first | exact .inl rfl | exact .inr rfl) : HB X W ((.Assign [.Name x p] e pos :: A) :: r) Φ M T o := .mk fun F0 H0 D σ F H g sl k =>
  wK_cons (wS_of (ps_set hN hi hx peW hs hf) (he H0 σ F H _ g.s sl fun v F1 H1 g1 p1 => h F0 H0 D _ F1 H1 (g.trans g1) ((sl.gr g1).set ⟨v, rfl, p1⟩ rfl) k))
theorem h_setN (n : Nat) {x : Str} (hN : X.N.Nodup) (he : PEn X Φ e Ps) (h : HB X W (A :: r) (Φ.set n (.ow Ps)) M T o) (hi : X.N[n]? = some x := by rfl) (hx : Loc X.env.scope x := by first | exact Or.inl rfl | exact Or.inr rfl) (hs : swapsWith e (some (.Name x p)) pos.line X.env = pure false := by rfl)
    (hf : X.fn x = true ∨ X.env.scope.names.lookup x = some .local := by first | exact .inl rfl | exact .inr rfl) : HB X W ((.Assign [.Name x p] e pos :: A) :: r) Φ M T o := .mk fun F0 H0 D σ F H g sl k =>
  wK_cons (wS_of (ps_set hN hi hx peW hs hf) (he H0 σ F H _ g.s sl fun l vs F1 H1 g1 h1 h2 h3 h4 => h F0 H0 D _ F1 H1 (g.trans g1) (Sl.setOw (sl.gr g1) (by
      cases z : H0 l with
      | none => rfl
      | some u => rw [g.h l u z] at h1; cases h1) h2 h3 h4 (sl.new g1 h1)) k))
theorem h_settle {α : Type} [Py α] (n : Nat) {xs : List α} (ho : Φ[n]? = some (sO X.K xs) := by rfl) (h : HB X W r (Φ.set n (sI X.K xs)) M T o) : HB X W r Φ M T o := .mk fun F0 H0 D σ F H g sl k => by
  obtain ⟨l, vs, h1, h2, h3, h4, h5⟩ := sl.ow ho
  obtain ⟨x1, x2⟩ := Gr.settle g.s h3 h4
  have g1 : Gr F0 H0 (upd F l (.lst vs)) H := ⟨g.f.trans x1, g.h, x2, fun b z1 z2 => by
    have hb : b ≠ l := fun w => z2 (by rw [w]; exact h2)
    rw [upd_ne hb]; exact g.n b z1 z2⟩
  exact h F0 H0 D σ _ H g1 (sl.settleP g.s ho h1 h3 h4 (py_lst.mpr ⟨l, vs, rfl, upd_same, h5.mono x1⟩)) k
theorem h_asg {us : List (Nat × SD)} (he : PEv X Φ e P) (hg : PGv X tg P us) (h : HB X W (A :: r) (setAll Φ us) M T o) (hs : swapsWithSole [tg] e pos.line X.env = pure false := by rfl) (hw : swappedStores [tg] e X.env = pure none := by rfl)
    (h1 : (assignEach [tg] X.env).map (·.2) = [assign tg X.env] := by rfl) : HB X W ((.Assign [tg] e pos :: A) :: r) Φ M T o := .mk fun F0 H0 D σ F H g sl k =>
  wK_cons (wS_of (ps_asg peW pgW hs hw h1) (he H0 σ F H _ g.s sl fun v F1 H1 g1 p1 => hg H0 Φ σ F1 H1 v _ g1.s (sl.gr g1) p1 fun σ' sl' _ => h F0 H0 D σ' F1 H1 (g.trans g1) sl' k))
theorem h_ret {v : R} (he : PEv X Φ e P) (hT : T v = .val P := by rfl) : HB X W ((.Return (some e) pos :: A) :: r) Φ M T (.rt v) := .mk fun F0 H0 D σ F H g sl k =>
  wK_cons (wS_of (ps_ret peW) (he H0 σ F H _ g.s sl fun u F1 H1 g1 p1 => by
    have k' : (T v).sat F0 H0 D.rt W := k
    rw [hT] at k'
    exact k' u F1 H1 (g.trans g1) p1))
theorem h_retN {v : R} (he : PEn X Φ e Ps) (hT : T v = .new Ps := by rfl) : HB X W ((.Return (some e) pos :: A) :: r) Φ M T (.rt v) := .mk fun F0 H0 D σ F H g sl k =>
  wK_cons (wS_of (ps_ret peW) (he H0 σ F H _ g.s sl fun l vs F1 H1 g1 h1 h2 h3 h4 => by
    have k' : (T v).sat F0 H0 D.rt W := k
    rw [hT] at k'
    exact k' l vs F1 H1 (g.trans g1) (by
      cases z : H0 l with
      | none => rfl
      | some u => rw [g.h l u z] at h1; cases h1) h2 h3 h4))
/-- return x, x one's own list -/
theorem h_retOw (n : Nat) {v : R} {x : Str} (ho : Φ[n]? = some (.ow Ps) := by rfl) (hT : T v = .new Ps := by rfl) (hN : X.N[n]? = some x := by rfl) (hv : Vis X.env.scope x := by first | exact Or.inl rfl | exact Or.inr (Or.inl rfl) | exact Or.inr (Or.inr rfl)) (hd : (x == ("__debug__" : Str)) = false := by decide)
    (hcd : (x == ("__classdict__" : Str)) = false := by decide) : HB X W ((.Return (some (.Name x p)) pos :: A) :: r) Φ M T (.rt v) := .mk fun F0 H0 D σ F H g sl k => by
  obtain ⟨l, vs, h1, h2, h3, h4, h5⟩ := sl.ow ho
  have k' : (T v).sat F0 H0 D.rt W := k
  rw [hT] at k'
  exact wK_cons (wS_of (ps_ret (pe_var hN hv hd hcd)) ⟨_, h1, k' l vs F H g h2 h3 h4 h5⟩)
theorem h_drop (he : PEv X Φ e P) (h : HB X W (A :: r) Φ M T o) (hs : swapsWith e none pos.line X.env = pure false := by rfl) : HB X W ((.Expr e pos :: A) :: r) Φ M T o := .mk fun F0 H0 D σ F H g sl k =>
  wK_cons (wS_of (ps_expr peW hs) (he H0 σ F H _ g.s sl fun v F1 H1 g1 _ => h F0 H0 D σ F1 H1 (g.trans g1) (sl.gr g1) k))
theorem h_if {k : Bool} (hc : PTv X Φ c k) (h1 : k = true → HB X W (A1 :: A :: r) Φ M T o1) (h2 : k = false → HB X W (A2 :: A :: r) Φ M T o2) : HB X W ((.If c A1 A2 pos :: A) :: r) Φ M T (cond k o1 o2) := .mk fun F0 H0 D σ F H g sl kp =>
  wK_cons (wS_of (ps_if ptW pssW pssW) (hc H0 σ F H _ g.s sl fun F1 H1 g1 => by
    cases k with
    | true => exact iteT (h1 rfl F0 H0 D σ F1 H1 (g.trans g1) (sl.gr g1) kp)
    | false => exact iteF (h2 rfl F0 H0 D σ F1 H1 (g.trans g1) (sl.gr g1) kp)))
/-- an if whose ways meet: what each leaves is told at once -/
theorem h_ifM {S' : Type} {M' : S' → List SD} {k : Bool} {s1 s2 : S'} (hc : PTv X Φ c k) (h1 : k = true → HB X W [A1] Φ M' T (.nx s1)) (h2 : k = false → HB X W [A2] Φ M' T (.nx s2)) (h : HB X W (A :: r) (M' (cond k s1 s2)) M T o) : HB X W ((.If c A1 A2 pos :: A) :: r) Φ M T o := .mk fun F0 H0 D σ F H g sl kp =>
  wK_cons (wS_of (ps_if ptW pssW pssW) (hc H0 σ F H _ g.s sl fun F1 H1 g1 => by
    cases k with
    | true => exact iteT (h1 rfl F0 H0 { D with nx := fun σ' H' => wK X (A :: r) D σ' H' } σ F1 H1 (g.trans g1) (sl.gr g1) fun σ2 F2 H2 g2 sl2 => h F0 H0 D σ2 F2 H2 g2 sl2 kp)
    | false => exact iteF (h2 rfl F0 H0 { D with nx := fun σ' H' => wK X (A :: r) D σ' H' } σ F1 H1 (g.trans g1) (sl.gr g1) fun σ2 F2 H2 g2 sl2 => h F0 H0 D σ2 F2 H2 g2 sl2 kp)))
theorem h_pass (h : HB X W (A :: r) Φ M T o) : HB X W ((.Pass pos :: A) :: r) Φ M T o := .mk fun F0 H0 D σ F H g sl k => wK_cons (wS_of ps_pass (h F0 H0 D σ F H g sl k))
theorem wK_bk {D : Ends} {σ : St} {H : Hp} : ∀ {r : List (List Stmt)}, D.bk σ H → wK X ((.Break pos :: A) :: r) D σ H := fun h => wK_cons (wS_of ps_break h)
theorem h_bk {s : S} (w : Wk Φ (M s)) : HB X W ((.Break pos :: A) :: r) Φ M T (.bk s) := .mk fun F0 H0 D σ F H g sl k => wK_cons (wS_of ps_break (k σ F H g (sl.wk w)))
theorem h_ct {s : S} (w : Wk Φ (M s)) : HB X W ((.Continue pos :: A) :: r) Φ M T (.ct s) := .mk fun F0 H0 D σ F H g sl k => wK_cons (wS_of ps_continue (k σ F H g (sl.wk w)))
end
end GL

set_option Elab.async false
set_option linter.all false
set_option maxRecDepth 100000
set_option maxHeartbeats 4000000
namespace GL
open PySem PySem.Spec PyProof.Rows L2
open Evl (Ex ex_l ex_t)
/-- the ground may be taken later -/
theorem Gr.base {F0 H0 F1 H1 F2 H2 : Hp} (a : Gr F0 H0 F1 H1) (b : Gr F1 H0 F2 H2) : Gr F0 H0 F2 H2 := ⟨a.f.trans b.f, b.h, b.s, fun x h1 h2 => b.n x (a.n x h1 h2) h2⟩
theorem Gr.rebase {F0 H0 F1 H1 : Hp} (a : Gr F0 H0 F1 H1) : Gr F1 H0 F1 H1 := ⟨Ex.refl _, a.h, a.s, fun _ h _ => h⟩
theorem RS.sat_base {F0 H0 F1 H1 : Hp} {Q : VK} {W : XK} {r : RS} (a : Gr F0 H0 F1 H1) (h : r.sat F0 H0 Q W) : r.sat F1 H0 Q W := by
  cases r with
  | val P => exact fun v F H g p => h v F H (a.base g) p
  | new Ps => exact fun l vs F H g => h l vs F H (a.base g)
  | ob P => exact fun l F H g => h l F H (a.base g)
  | err C P => exact fun d F H g => h d F H (a.base g)
/-! ### loops, as functions -/
def forL {α S R : Type} (f : S → α → Ctl S R) : S → List α → Sum S R
  | s, [] => .inl s
  | s, x :: xs => match f s x with
    | .nx s' => forL f s' xs
    | .ct s' => forL f s' xs
    | .bk s' => .inl s'
    | .rt r => .inr r
/-- the state behind so many turns, none of them the last -/
def steps {α S R : Type} (f : S → α → Ctl S R) : S → List α → Option S
  | s, [] => some s
  | s, x :: xs => match f s x with
    | .nx s' => steps f s' xs
    | .ct s' => steps f s' xs
    | _ => none
def forK {α S S' R : Type} (f : S' → α → Ctl S' R) (s0 : S') (xs : List α) (k : S' → Ctl S R) : Ctl S R := match forL f s0 xs with
  | .inl s => k s
  | .inr r => .rt r
theorem steps_snoc {α S R : Type} {f : S → α → Ctl S R} : ∀ {xs : List α} {s s1 s2 : S} {x : α}, steps f s xs = some s1 → (f s1 x = .nx s2 ∨ f s1 x = .ct s2) → steps f s (xs ++ [x]) = some s2
  | [], s, s1, s2, x, h, h2 => by
    have e : s = s1 := Option.some.inj h
    subst e
    rcases h2 with h2 | h2 <;> · simp [steps, h2]
  | y :: ys, s, s1, s2, x, h, h2 => by
    simp only [List.cons_append, steps] at h ⊢
    cases q : f s y with
    | nx s' => rw [q] at h; exact steps_snoc h h2
    | ct s' => rw [q] at h; exact steps_snoc h h2
    | bk s' => rw [q] at h; cases h
    | rt r => rw [q] at h; cases h
/-- an invariant of the turns -/
theorem steps_inv {α S R : Type} {f : S → α → Ctl S R} {s0 : S} {xs : List α} (I : Nat → S → Prop) (h0 : I 0 s0) (hs : ∀ n s x s', xs[n]? = some x → I n s → (f s x = .nx s' ∨ f s x = .ct s') → I (n + 1) s') :
    ∀ (n : Nat) (s : S), n ≤ xs.length → steps f s0 (xs.take n) = some s → I n s
  | 0, s, _, h => by
    have e : s0 = s := Option.some.inj h
    subst e; exact h0
  | n + 1, s, hn, h => by
    have hx : xs[n]? = some xs[n] := List.getElem?_eq_getElem (by omega)
    have tk : xs.take (n + 1) = xs.take n ++ [xs[n]] := by rw [List.take_succ, hx]; rfl
    rw [tk] at h
    have key : ∀ (ys : List α) (s s2 : S) (x : α), steps f s (ys ++ [x]) = some s2 → ∃ s1, steps f s ys = some s1 ∧ (f s1 x = .nx s2 ∨ f s1 x = .ct s2) := by
      intro ys
      induction ys with
      | nil =>
        intro s s2 x h
        refine ⟨s, rfl, ?_⟩
        simp only [List.nil_append, steps] at h
        cases q : f s x with
        | nx s' => rw [q] at h; simp [steps] at h; subst h; exact .inl rfl
        | ct s' => rw [q] at h; simp [steps] at h; subst h; exact .inr rfl
        | bk s' => rw [q] at h; cases h
        | rt r => rw [q] at h; cases h
      | cons y ys ih =>
        intro s s2 x h
        simp only [List.cons_append, steps] at h ⊢
        cases q : f s y with
        | nx s' => rw [q] at h; exact ih s' s2 x h
        | ct s' => rw [q] at h; exact ih s' s2 x h
        | bk s' => rw [q] at h; cases h
        | rt r => rw [q] at h; cases h
    obtain ⟨s1, h1, h2⟩ := key _ _ _ _ h
    exact hs n s1 xs[n] s hx (steps_inv I h0 hs n s1 (by omega) h1) h2
/-- while c: .. -/
def whileL {S R : Type} (c : S → Bool) (f : S → Ctl S R) : Nat → S → Sum S R
  | 0, s => .inl s
  | n + 1, s => match c s with
    | false => .inl s
    | true => match f s with
      | .nx s' => whileL c f n s'
      | .ct s' => whileL c f n s'
      | .bk s' => .inl s'
      | .rt r => .inr r
def whileK {S S' R : Type} (c : S' → Bool) (f : S' → Ctl S' R) (n : Nat) (s0 : S') (k : S' → Ctl S R) : Ctl S R := match whileL c f n s0 with
  | .inl s => k s
  | .inr r => .rt r
section
variable {X : Cx} {W : XK} {S R : Type} {Φ : List SD} {M : S → List SD} {T : R → RS} {o o1 o2 : Ctl S R} {a b c e : Expr} {es : List Expr} {pos p p2 : Pos} {P : MP} {Ps Qs : List MP} {i j : Int} {tg iter : Expr} {A A1 A2 body : List Stmt} {r : List (List Stmt)} {st : Stmt}
theorem h_for {α S' : Type} [Py α] {xs : List α} {M' : S' → List SD} (us : α → List (Nat × SD)) (f : S' → α → Ctl S' R) (s0 : S') {k : S' → Ctl S R} (hp : PassesOwn (model X.prog X.w) X.A X.env X.xe) (hc : X.calm = true)
    (hi : PIt X Φ tg iter xs) (hg : ∀ x, PGt X tg x (us x)) (w0 : Wk Φ (M' s0))
    (hb : ∀ n s x, xs[n]? = some x → steps f s0 (xs.take n) = some s → HB X W [body] (setAll (M' s) (us x)) M' T (f s x))
    (hr : ∀ s, forL f s0 xs = .inl s → HB X W (A :: r) (M' s) M T (k s)) (hs : ∀ x, foldedSetIterable iter X.env x = pure x := by intro _; rfl) :
    HB X W ((.For tg iter body [] pos :: A) :: r) Φ M T (forK f s0 xs k) := .mk fun F0 H0 D σ F H g sl kp => by
  refine wK_cons (wS_of (ps_for hp hc piW pgW pssW hs) (hi H0 σ F H _ g.s sl fun J F1 H1 g1 src => ?_))
  have hlen : (xs.map fun x => py X.K (enc x)).length = xs.length := List.length_map _
  have ga := g.trans g1
  refine ⟨fun n m σ' H' => m = xs.length - n ∧ n ≤ xs.length ∧ ∃ s F', Gr F1 H0 F' H' ∧ Sl H0 (M' s) σ' F' H' ∧ forL f s (xs.drop n) = forL f s0 xs ∧ steps f s0 (xs.take n) = some s,
    ⟨xs.length, by simp, Nat.zero_le _, s0, F1, ga.rebase, (sl.gr g1).wk w0, by simp, by simp [steps]⟩, ?_⟩
  rintro n m σ' H' ⟨rfl, hn, s, F', gg, sl', fe, hst⟩
  by_cases hlt : n < xs.length
  · have hx : xs[n]? = some xs[n] := List.getElem?_eq_getElem hlt
    have dr : xs.drop n = xs[n] :: xs.drop (n + 1) := List.drop_eq_getElem_cons hlt
    obtain ⟨go, yl⟩ := src.go n _ F' H' (by rw [List.getElem?_map, hx]; rfl) gg.f gg.s
    refine .inr ⟨go, fun σ2 H2 => ∃ s2 F2, (f s xs[n] = .nx s2 ∨ f s xs[n] = .ct s2) ∧ Gr F1 H0 F2 H2 ∧ Sl H0 (M' s2) σ2 F2 H2, fun σ2 H2 hN => ?_, fun v H2 y => ?_⟩
    · obtain ⟨s2, F2, hf, g2, sl2⟩ := hN
      refine ⟨xs.length - (n + 1), by omega, rfl, by omega, s2, F2, g2, sl2, ?_, ?_⟩
      · rw [← fe, dr]
        rcases hf with hf | hf <;> · simp only [forL, hf]
      · have tk : xs.take (n + 1) = xs.take n ++ [xs[n]] := by rw [List.take_succ, hx]; rfl
        rw [tk]; exact steps_snoc hst hf
    · obtain ⟨F2, g2, pv⟩ := yl v H2 y
      refine hg xs[n] H0 (M' s) σ' F2 H2 v _ g2.s (sl'.gr g2) pv fun σ2 sl2 _ => ?_
      rw [dr] at fe
      have post : (f s xs[n]).post F1 H0 ⟨fun σ2 H2 => ∃ s2 F2, (f s xs[n] = .nx s2 ∨ f s xs[n] = .ct s2) ∧ Gr F1 H0 F2 H2 ∧ Sl H0 (M' s2) σ2 F2 H2, D.rt, fun σ' H' => wK X (A :: r) D σ' H', fun σ2 H2 => ∃ s2 F2, (f s xs[n] = .nx s2 ∨ f s xs[n] = .ct s2) ∧ Gr F1 H0 F2 H2 ∧ Sl H0 (M' s2) σ2 F2 H2⟩ W M' T := by
        cases hf : f s xs[n] with
        | nx s2 => exact fun σ3 F3 H3 g3 sl3 => ⟨s2, F3, .inl rfl, g3, sl3⟩
        | ct s2 => exact fun σ3 F3 H3 g3 sl3 => ⟨s2, F3, .inr rfl, g3, sl3⟩
        | bk s2 =>
          simp only [forL, hf] at fe
          refine fun σ3 F3 H3 g3 sl3 => hr s2 fe.symm F0 H0 D σ3 F3 H3 (ga.base g3) sl3 ?_
          have kp' : (forK f s0 xs k).post F0 H0 D W M T := kp
          unfold forK at kp'
          rw [← fe] at kp'
          exact kp'
        | rt rr =>
          simp only [forL, hf] at fe
          have kp' : (forK f s0 xs k).post F0 H0 D W M T := kp
          unfold forK at kp'
          rw [← fe] at kp'
          exact RS.sat_base ga kp'
      exact hb n s xs[n] hx hst F1 H0 ⟨fun σ2 H2 => ∃ s2 F2, (f s xs[n] = .nx s2 ∨ f s xs[n] = .ct s2) ∧ Gr F1 H0 F2 H2 ∧ Sl H0 (M' s2) σ2 F2 H2, D.rt, fun σ' H' => wK X (A :: r) D σ' H', fun σ2 H2 => ∃ s2 F2, (f s xs[n] = .nx s2 ∨ f s xs[n] = .ct s2) ∧ Gr F1 H0 F2 H2 ∧ Sl H0 (M' s2) σ2 F2 H2⟩ σ2 F2 H2 (gg.trans g2) sl2 post
  · have en : n = xs.length := by omega
    subst en
    refine .inl ⟨by have := src.stop F' H' gg.f gg.s; rw [hlen] at this; exact this, ?_⟩
    rw [List.drop_length] at fe
    have fe' : forL f s0 xs = .inl s := fe.symm
    refine hr s fe' F0 H0 D σ' F' H' (ga.base gg) sl' ?_
    have kp' : (forK f s0 xs k).post F0 H0 D W M T := kp
    unfold forK at kp'
    rw [fe'] at kp'
    exact kp'
/-- a loop that is a fold -/
theorem forL_fold {α S R : Type} {g : S → α → S} : ∀ (xs : List α) (s : S), forL (fun s x => (.nx (g s x) : Ctl S R)) s xs = .inl (xs.foldl g s)
  | [], s => rfl
  | x :: xs, s => forL_fold xs (g s x)
theorem steps_fold {α S R : Type} {g : S → α → S} : ∀ (xs : List α) (s : S), steps (fun s x => (.nx (g s x) : Ctl S R)) s xs = some (xs.foldl g s)
  | [], s => rfl
  | x :: xs, s => steps_fold xs (g s x)
theorem h_fold {α S' : Type} [Py α] {xs : List α} {M' : S' → List SD} (us : α → List (Nat × SD)) (f : S' → α → S') (s0 : S') (hp : PassesOwn (model X.prog X.w) X.A X.env X.xe) (hc : X.calm = true)
    (hi : PIt X Φ tg iter xs) (hg : ∀ x, PGt X tg x (us x)) (w0 : Wk Φ (M' s0))
    (hb : ∀ n s x, xs[n]? = some x → s = (xs.take n).foldl f s0 → HB X W [body] (setAll (M' s) (us x)) M' T (.nx (f s x)))
    (hr : HB X W (A :: r) (M' (xs.foldl f s0)) M T o) (hs : ∀ x, foldedSetIterable iter X.env x = pure x := by intro _; rfl) :
    HB X W ((.For tg iter body [] pos :: A) :: r) Φ M T o := by
  have h := h_for (W := W) (S := S) (R := R) (M := M) (T := T) (pos := pos) (A := A) (r := r) (k := fun _ => o) us (fun s x => .nx (f s x)) s0 hp hc hi hg w0 (fun n s x hx hst => hb n s x hx (by rw [steps_fold] at hst; exact (Option.some.inj hst).symm)) (fun s hs => by
    rw [forL_fold] at hs
    rw [← Sum.inl.inj hs]; exact hr) hs
  unfold forK at h
  rw [forL_fold] at h
  exact h
/-- a while: I holds at each test, m falls -/
theorem h_while {S' : Type} {M' : S' → List SD} (I : S' → Prop) (m : S' → Nat) (cn : S' → Bool) (f : S' → Ctl S' R) (s0 : S') {k : S' → Ctl S R} (hp : PassesOwn (model X.prog X.w) X.A X.env X.xe) (w0 : Wk Φ (M' s0)) (i0 : I s0)
    (ht : ∀ s, I s → PTv X (M' s) c (cn s)) (hb : ∀ s, I s → cn s = true → HB X W [body] (M' s) M' T (f s))
    (hm : ∀ s s', I s → cn s = true → (f s = .nx s' ∨ f s = .ct s') → I s' ∧ m s' < m s)
    (hr : ∀ s, whileL cn f (m s0 + 1) s0 = .inl s → HB X W (A :: r) (M' s) M T (k s)) :
    HB X W ((.While c body [] pos :: A) :: r) Φ M T (whileK cn f (m s0 + 1) s0 k) := .mk fun F0 H0 D σ F H g sl kp => by
  refine wK_cons (wS_of (ps_while hp ptW pssW) ?_)
  refine ⟨fun n σ' H' => ∃ s F', Gr F0 H0 F' H' ∧ Sl H0 (M' s) σ' F' H' ∧ I s ∧ m s = n ∧ ∃ d, whileL cn f (m s + 1 + d) s = whileL cn f (m s0 + 1) s0, ⟨m s0, s0, F, g, sl.wk w0, i0, rfl, 0, rfl⟩, ?_⟩
  rintro n σ' H' ⟨s, F', gg, sl', hI, rfl, d, hw⟩
  have hw0 : whileL cn f (m s + d + 1) s = whileL cn f (m s0 + 1) s0 := by rw [← hw]; congr 1; omega
  refine ht s hI H0 σ' F' H' _ gg.s sl' fun F2 H2 g2 => ?_
  have fin : ∀ s2, whileL cn f (m s0 + 1) s0 = .inl s2 → ∀ σ3 F3 H3, Gr F0 H0 F3 H3 → Sl H0 (M' s2) σ3 F3 H3 → wK X (A :: r) D σ3 H3 := fun s2 e σ3 F3 H3 g3 sl3 => by
    refine hr s2 e F0 H0 D σ3 F3 H3 g3 sl3 ?_
    have kp' : (whileK cn f (m s0 + 1) s0 k).post F0 H0 D W M T := kp
    unfold whileK at kp'
    rw [e] at kp'
    exact kp'
  cases hc : cn s with
  | false =>
    rw [if_neg (by simp)]
    refine fin s ?_ σ' F2 H2 (gg.trans g2) (sl'.gr g2)
    rw [← hw0]; simp only [whileL, hc]
  | true =>
    rw [if_pos rfl]
    have hw1 := hw0
    obtain ⟨res, hres⟩ : ∃ res, whileL cn f (m s0 + 1) s0 = res := ⟨_, rfl⟩
    rw [hres] at hw1
    simp only [whileL, hc] at hw1
    obtain ⟨N, eN⟩ : ∃ N : L2.St → Hp → Prop, N = fun σ2 H2 => ∃ s2 F2, (f s = .nx s2 ∨ f s = .ct s2) ∧ Gr F0 H0 F2 H2 ∧ Sl H0 (M' s2) σ2 F2 H2 := ⟨_, rfl⟩
    refine ⟨N, fun σ2 H2 hN => ?_, ?_⟩
    · rw [eN] at hN
      obtain ⟨s2, F3, hf, g3, sl3⟩ := hN
      obtain ⟨i2, m2⟩ := hm s s2 hI hc hf
      refine ⟨m s2, m2, s2, F3, g3, sl3, i2, rfl, m s + d - (m s2 + 1), ?_⟩
      rw [show m s2 + 1 + (m s + d - (m s2 + 1)) = m s + d by omega]
      rw [hres]
      rcases hf with hf | hf <;> · simp only [hf] at hw1; exact hw1
    · have post : (f s).post F0 H0 ⟨N, D.rt, fun σ' H' => wK X (A :: r) D σ' H', N⟩ W M' T := by
        cases hf : f s with
        | nx s2 => exact fun σ3 F3 H3 g3 sl3 => by rw [eN]; exact ⟨s2, F3, .inl hf, g3, sl3⟩
        | ct s2 => exact fun σ3 F3 H3 g3 sl3 => by rw [eN]; exact ⟨s2, F3, .inr hf, g3, sl3⟩
        | bk s2 =>
          simp only [hf] at hw1
          exact fun σ3 F3 H3 g3 sl3 => fin s2 (hres.trans hw1.symm) σ3 F3 H3 g3 sl3
        | rt rr =>
          simp only [hf] at hw1
          have kp' : (whileK cn f (m s0 + 1) s0 k).post F0 H0 D W M T := kp
          unfold whileK at kp'
          rw [hres, ← hw1] at kp'
          exact kp'
      exact hb s hI hc F0 H0 ⟨N, D.rt, fun σ' H' => wK X (A :: r) D σ' H', N⟩ σ' F2 H2 (gg.trans g2) (sl'.gr g2) post
/-! ### one's own lists changed -/
theorem few1 {cpos : Pos} (h : nst e = true) : ((backTo cpos (starEach [e] X.env)).all (fun x => !x.1) && (backToKw cpos (keywordEach [] X.env)).all (fun x => x.1.isSome)
      && decide ([e].length + ([] : List Keyword).length + (if ([] : List Keyword).isEmpty then 0 else 1) < 30)) = true := by
  rw [star_cons h]; rfl
theorem Gr.write {F0 H0 F H : Hp} {l : Addr} {o : HO} (g : Gr F0 H0 F H) (h0 : H0 l = none) (hf : F l = none) : Gr F0 H0 F (upd H l o) := ⟨g.f, fun b u z => by rw [upd_ne (ne_of_none z h0)]; exact g.h b u z, fun b u z => by rw [upd_ne (ne_of_none z hf)]; exact g.s b u z, g.n⟩
/-- xs.append(e) -/
theorem h_app {α : Type} [Py α] (n : Nat) {x : Str} {xs : List α} {v : α} {np apos : Pos} (he : PV X Φ e v) (hz : xs.length < sizeLine) (h : HB X W (A :: r) (Φ.set n (sO X.K (xs ++ [v]))) M T o) (ho : Φ[n]? = some (sO X.K xs) := by rfl) (hN : X.N[n]? = some x := by rfl)
    (hv : Vis X.env.scope x := by first | exact Or.inl rfl | exact Or.inr (Or.inl rfl) | exact Or.inr (Or.inr rfl)) (hd : (x == ("__debug__" : Str)) = false := by decide) (hcd : (x == ("__classdict__" : Str)) = false := by decide)
    (hst : nst e = true := by rfl) (hl : (apos.endLine == p.line) = true := by rfl) : HB X W ((.Expr (.Call (.Attribute (.Name x np) "append" apos) [e] [] p) pos :: A) :: r) Φ M T o := .mk fun F0 H0 D σ F H g sl k => by
  obtain ⟨l, vs, h1, h2, h3, h4, h5⟩ := sl.ow ho
  have hlen : vs.length = xs.length := by simpa using h5.1
  refine wK_cons (wS_of (ps_expr (pe_bm PySem.F.plainAttrs_list PySem.F.slot_list_append PySem.F.type_list_append mt_append (pe_var hN hv hd hcd) (pa_cons peW pa_nil (star_cons hst)) rfl (few1 hst) hl (star_cons hst) rfl) rfl)
    ⟨_, h1, .inl ⟨rfl, vs, SqL.of h4⟩, he H0 σ F H _ g.s sl fun u F1 H1 g1 p1 => ⟨l, vs, u, rfl, rfl, g1.h _ _ h4, by omega, ?_⟩⟩)
  have f1 : F1 l = none := g1.n l h3 (ne_none h4)
  refine h F0 H0 D σ F1 _ ((g.trans g1).write h2 f1) (Sl.write (sl.gr g1) ho h1 h2 f1 ?_) k
  rw [List.map_append]; exact (h5.mono g1.f).snoc p1
/-- xs.extend(ys) -/
theorem h_ext {α : Type} [Py α] (n : Nat) {x : Str} {xs ys : List α} {np apos : Pos} (he : PK X Φ e ys) (hz : xs.length + ys.length ≤ sizeLine) (h : HB X W (A :: r) (Φ.set n (sO X.K (xs ++ ys))) M T o) (ho : Φ[n]? = some (sO X.K xs) := by rfl) (hN : X.N[n]? = some x := by rfl)
    (hv : Vis X.env.scope x := by first | exact Or.inl rfl | exact Or.inr (Or.inl rfl) | exact Or.inr (Or.inr rfl)) (hd : (x == ("__debug__" : Str)) = false := by decide) (hcd : (x == ("__classdict__" : Str)) = false := by decide)
    (hst : nst e = true := by rfl) (hl : (apos.endLine == p.line) = true := by rfl) : HB X W ((.Expr (.Call (.Attribute (.Name x np) "extend" apos) [e] [] p) pos :: A) :: r) Φ M T o := .mk fun F0 H0 D σ F H g sl k => by
  obtain ⟨l, vs, h1, h2, h3, h4, h5⟩ := sl.ow ho
  have hlen : vs.length = xs.length := by simpa using h5.1
  refine wK_cons (wS_of (ps_expr (pe_bm PySem.F.plainAttrs_list PySem.F.slot_list_extend PySem.F.type_list_extend mt_extend (pe_var hN hv hd hcd) (pa_cons peW pa_nil (star_cons hst)) rfl (few1 hst) hl (star_cons hst) rfl) rfl)
    ⟨_, h1, .inl ⟨rfl, vs, SqL.of h4⟩, he H0 σ F H _ g.s sl fun b ws F1 H1 g1 hb p1 => ⟨l, b, vs, ws, rfl, rfl, g1.h _ _ h4, hb, by have := p1.1; rw [List.length_map] at this; omega, ?_⟩⟩)
  have f1 : F1 l = none := g1.n l h3 (ne_none h4)
  refine h F0 H0 D σ F1 _ ((g.trans g1).write h2 f1) (Sl.write (sl.gr g1) ho h1 h2 f1 ?_) k
  rw [List.map_append]; exact (h5.mono g1.f).append p1
theorem AllP.setV {Ps : List MP} {F : Hp} {vs : List V} (h : AllP Ps F vs) (n : Nat) {P : MP} {v : V} (hp : P.p F v) : AllP (Ps.set n P) F (vs.set n v) := by
  refine ⟨by simp [h.1], fun i Q u h1 h2 => ?_⟩
  by_cases q : n = i
  · subst q
    rw [List.getElem?_set_self (by simpa using (List.getElem?_eq_some_iff.mp h1).1)] at h1
    rw [List.getElem?_set_self (by simpa using (List.getElem?_eq_some_iff.mp h2).1)] at h2
    cases h1; cases h2; exact hp
  · rw [List.getElem?_set_ne q] at h1 h2
    exact h.2 i Q u h1 h2
/-- xs[i] = e -/
theorem h_put {α : Type} [Py α] (n : Nat) {x : Str} {xs : List α} {v : α} {np sp : Pos} (he : PV X Φ e v) (hb : PV X Φ b i) (hz : 0 ≤ i ∧ i < xs.length) (h : HB X W (A :: r) (Φ.set n (sO X.K (xs.set i.toNat v))) M T o) (ho : Φ[n]? = some (sO X.K xs) := by rfl) (hN : X.N[n]? = some x := by rfl)
    (hv : Vis X.env.scope x := by first | exact Or.inl rfl | exact Or.inr (Or.inl rfl) | exact Or.inr (Or.inr rfl)) (hd : (x == ("__debug__" : Str)) = false := by decide) (hcd : (x == ("__classdict__" : Str)) = false := by decide)
    (ha : ∀ v, assign (.Subscript (.Name x np) b sp) X.env v = (do
      let ov ← holding [v] (eval (.Name x np) X.env)
      let iv ← holding [v, ov] (eval b X.env)
      standAt sp
      holding [v, ov, iv] (setItem ov iv v)
      release [v, ov, iv] []) := by intro _; rfl)
    (hs : swapsWithSole [.Subscript (.Name x np) b sp] e pos.line X.env = pure false := by rfl) (hw : swappedStores [.Subscript (.Name x np) b sp] e X.env = pure none := by rfl) : HB X W ((.Assign [.Subscript (.Name x np) b sp] e pos :: A) :: r) Φ M T o := .mk fun F0 H0 D σ F H g sl k => by
  obtain ⟨l, vs, h1, h2, h3, h4, h5⟩ := sl.ow ho
  have hlen : vs.length = xs.length := by simpa using h5.1
  refine wK_cons (wS_of (ps_asg peW (pg_sub (pe_var hN hv hd hcd) peW set_list ha) hs hw rfl) (he H0 σ F H _ g.s sl fun u F1 H1 g1 p1 => ⟨_, h1, hb H0 σ F1 H1 _ g1.s (sl.gr g1) fun w F2 H2 g2 p2 => ?_⟩))
  cases p2
  have g12 := g1.trans g2
  have f2 : F2 l = none := g12.n l h3 (ne_none h4)
  refine ⟨l, vs, i, i.toNat, rfl, rfl, g12.h _ _ h4, ?_, ?_⟩
  · unfold ixN; rw [if_pos hz.1, if_pos (by omega)]
  · refine h F0 H0 D σ F2 _ ((g.trans g12).write h2 f2) (Sl.write (sl.gr g12) ho h1 h2 f2 ?_) k
    rw [List.map_set]; exact (h5.mono g12.f).setV _ (dq_mono g2.f _ _ p1)
end
/-! ### defs -/
/-- the slots at the entry -/
def enter (Ps : List MP) (n : Nat) : List SD := Ps.map SD.im ++ List.replicate n .un
theorem sl_start {N : List Str} {Ps : List MP} {n : Nat} {F H : Hp} {vs : List V} (h : AllP Ps F vs) (hn : N.length = Ps.length + n) : Sl H (enter Ps n) (L2.start N vs) F H := by
  have hl : vs.length = Ps.length := h.1
  unfold L2.start enter
  refine ⟨by simp [hl]; omega, fun i d o a b => ?_, fun i j d e o o' l hij a b f g p q => ?_⟩
  · by_cases hi : i < Ps.length
    · rw [List.getElem?_append_left (by simpa using hi), List.getElem?_map] at a
      rw [List.getElem?_append_left (by simpa [hl] using hi), List.getElem?_map] at b
      rw [List.getElem?_eq_getElem hi] at a
      rw [List.getElem?_eq_getElem (by omega : i < vs.length)] at b
      cases a; cases b
      exact ⟨_, rfl, h.2 i _ _ (List.getElem?_eq_getElem hi) (List.getElem?_eq_getElem (by omega))⟩
    · rw [List.getElem?_append_right (by simpa using hi), List.getElem?_replicate] at a
      split at a
      · cases a; trivial
      · cases a
  · by_cases hi : i < Ps.length
    · rw [List.getElem?_append_left (by simpa using hi), List.getElem?_map, List.getElem?_eq_getElem hi] at a
      cases a; cases p
    · rw [List.getElem?_append_right (by simpa using hi), List.getElem?_replicate] at a
      split at a
      · cases a; cases p
      · cases a
section
variable {P : Program} {w : World} {K : Fg} {mg : Str → Option Value} {base : Heap}
theorem run_body {X : Cx} {S R : Type} {ks : List Stmt} {Ps : List MP} {M : S → List SD} {T : R → RS} {o : Ctl S R} {W : XK} {F H : Hp} {vs : List V} {Q : VK} {n : Nat} (s0 : Ex F H) (ha : AllP Ps F vs) (hn : X.N.length = Ps.length + n)
    (h : HB X W [ks] (enter Ps n) M T o) (ho : o.post F H { nx := fun _ H' => Q .non H', rt := Q } W M T) : wSs X ks { nx := fun _ H' => Q .non H', rt := Q } (L2.start X.N vs) H :=
  h F H { nx := fun _ H' => Q .non H', rt := Q } (L2.start X.N vs) F H (Gr.refl s0) (sl_start ha hn) ho
abbrev bx (P : Program) (w : World) (K : Fg) (mg : Str → Option Value) (base : Heap) (N : List Str) (qual : Str) (st : Stmt) (f : Addr) (cdv : Value) (A : Around) (outer : List Env) (s : Shared) (H : Hp) (E : XK) : Cx := (cxOf CX0 P w K mg base N qual (defScope st) f cdv A outer s H E).nox
abbrev bxX (P : Program) (w : World) (K : Fg) (mg : Str → Option Value) (base : Heap) (N : List Str) (qual : Str) (st : Stmt) (f : Addr) (cdv : Value) (A : Around) (outer : List Env) (s : Shared) (H : Hp) (E : XK) : Cx := cxOf (L2.CX P w) P w K mg base N qual (defScope st) f cdv A outer s H E
abbrev DefOf (K : Fg) (x qual : Str) (st : Stmt) (f : Addr) (fd : FuncData) : Prop := FunD K x qual (defArgs st) (defBody st) (defScope st) [] [] f fd
def RS.isErr : RS → Bool
  | .err _ _ => true
  | _ => false
/-- a def that lets nothing out: its body's derivation, for all arguments -/
theorem def_ok {x qual : Str} {st : Stmt} {f : Addr} {fd : FuncData} {N ps : List Str} {k : Nat} {Ar ρ : Type} {argP : Ar → List MP} {pre : Ar → Prop} {T : ρ → RS} {fv : Ar → ρ} (F : DefOf K x qual st f fd) (S : FnScope N ps (defScope st)) (n : Nat) (hlen : ∀ z, (argP z).length = ps.length) (hN : N.length = ps.length + n)
    (hT : ∀ r, (T r).isErr = false)
    (hb : ∀ (cdv : Value) (A : Around) (outer : List Env) (s : Shared) (H : Hp) (E : XK), Room k (A.deeper (envOfC qual (defScope st) s.heap.objs.size f cdv)) → ∀ z, pre z →
      HB (S := Unit) (bx P w K mg base N qual st f cdv A outer s H E) (fun _ _ _ => False) [defBody st] (enter (argP z) n) (fun _ => []) T (.rt (fv z))) : FnOk P w K mg base CX0 (k + 1) f fd ps (spG argP pre fun z => T (fv z)) := by
  refine FunD.ok F S (fun vs H Q E h => ?_) fun cdv A outer s H vs Q E hr h => ?_
  · obtain ⟨z, F, _, ha, _⟩ := h
    rw [ha.1, hlen]
  · obtain ⟨z, G, s0, ha, hp, hs⟩ := h
    refine ⟨_, PSs.nox pssW, run_body (X := bx P w K mg base N qual st f cdv A outer s H E) (W := fun _ _ _ => False) s0 ha (by rw [hlen]; exact hN) (hb cdv A outer s H E hr z hp) ?_⟩
    show (T (fv z)).sat G H Q _
    have ht := hT (fv z)
    have hs2 : (T (fv z)).sat G H Q E := hs
    revert hs2 ht
    cases T (fv z) with
    | val P => exact fun _ h => h
    | new Ps => exact fun _ h => h
    | ob P => exact fun _ h => h
    | err C P => exact fun h _ => by cases h
/-- the same for a def without a return -/
theorem def_okN {x qual : Str} {st : Stmt} {f : Addr} {fd : FuncData} {N ps : List Str} {k : Nat} {Ar ρ : Type} {argP : Ar → List MP} {pre : Ar → Prop} {T : ρ → RS} (F : DefOf K x qual st f fd) (S : FnScope N ps (defScope st)) (n : Nat) (hlen : ∀ z, (argP z).length = ps.length) (hN : N.length = ps.length + n)
    (hb : ∀ (cdv : Value) (A : Around) (outer : List Env) (s : Shared) (H : Hp) (E : XK), Room k (A.deeper (envOfC qual (defScope st) s.heap.objs.size f cdv)) → ∀ z, pre z →
      HB (S := Unit) (bx P w K mg base N qual st f cdv A outer s H E) (fun _ _ _ => False) [defBody st] (enter (argP z) n) (fun _ => []) T (.nx ())) : FnOk P w K mg base CX0 (k + 1) f fd ps (spG argP pre fun _ => .val (py K .none)) := by
  refine FunD.ok F S (fun vs H Q E h => ?_) fun cdv A outer s H vs Q E hr h => ?_
  · obtain ⟨z, F, _, ha, _⟩ := h
    rw [ha.1, hlen]
  · obtain ⟨z, G, s0, ha, hp, hs⟩ := h
    refine ⟨_, PSs.nox pssW, run_body (X := bx P w K mg base N qual st f cdv A outer s H E) (W := fun _ _ _ => False) s0 ha (by rw [hlen]; exact hN) (hb cdv A outer s H E hr z hp) ?_⟩
    exact fun σ F' H' g _ => hs .non F' H' g .non
theorem fn_mk {x : Str} {f : Addr} {fd : FuncData} {ps : List Str} {k : Nat} {CX : CXT} {sp : Sp} {qual : Str} {st : Stmt} (F : DefOf K x qual st f fd) (G : FnOk P w K mg base CX k f fd ps sp) (hm : mg x = some (.ref f))
    (hb : ∀ (kV doc pm : Value) (an : Option Addr) (cdv ct : Value) (us : List Value), us.length = ps.length → bindArgs (PySem.W.fnOf x qual (defArgs st) (defBody st) (defScope st) .none kV doc pm an cdv ct) ⟨us, []⟩ = pure (ps.zip us)) : FnG P w K mg base CX k x sp :=
  ⟨f, fd, ps, G, hm, F.kp, FunD.bindsN F hb⟩
end
end GL

set_option Elab.async false
set_option linter.all false
set_option maxRecDepth 100000
set_option maxHeartbeats 4000000
namespace GL
open PySem PySem.Spec PyProof.Rows L2
open Evl (Ex ex_l ex_t)
/-! ### sorted -/
section
variable {X : Cx} {pins : List (Addr × Obj)} {σ : L2.St} {H : Hp} {s : Shared}
theorem eachIs_of {β : Type} {R : V → β → Prop} : ∀ {vs : List V} {bs : List β} {us : List Value}, vs.length = bs.length → (∀ (i : Nat) v b, vs[i]? = some v → bs[i]? = some b → R v b) → Vals vs us → PySem.W.EachIs (fun u b => ∃ v, RelV v u ∧ R v b) us bs
  | [], [], _, _, _, r => by cases r; exact .nil
  | v :: vs, b :: bs, _, hl, h, r => by
    cases r with
    | cons r1 r2 => exact .cons ⟨v, r1, h 0 v b rfl rfl⟩ (eachIs_of (by simpa using hl) (fun i v b h1 h2 => h (i + 1) v b (by simpa using h1) (by simpa using h2)) r2)
  | [], _ :: _, _, hl, _, _ => by simp at hl
  | _ :: _, [], _, hl, _, _ => by simp at hl
theorem of_eachIs {β : Type} {R : V → β → Prop} : ∀ {bs : List β} {us : List Value}, PySem.W.EachIs (fun u b => ∃ v, RelV v u ∧ R v b) us bs → ∃ vs, Vals vs us ∧ vs.length = bs.length ∧ ∀ (i : Nat) v b, vs[i]? = some v → bs[i]? = some b → R v b
  | _, _, .nil => ⟨[], .nil, rfl, fun i v b h => by simp at h⟩
  | _, _, .cons ⟨v, r, h⟩ t => by
    obtain ⟨vs, h1, h2, h3⟩ := of_eachIs t
    refine ⟨v :: vs, .cons r h1, by simp [h2], fun i w b e1 e2 => ?_⟩
    cases i with
    | zero => simp at e1 e2; subst e1; subst e2; exact h
    | succ i => exact h3 i w b (by simpa using e1) (by simpa using e2)
/-- sorted(xs), xs read as data of one make -/
def rSortG (X : Cx) {β : Type} (en : β → PyData) (bs : List β) : List V → Hp → VK → Prop := fun vs H Q => ∃ (a : Addr) (ws : List V), vs = [V.ref a] ∧ SqL X.K H a ws ∧ DpAll X.K H ws (bs.map en) ∧
  ∀ (ys : List V) (p : Addr), H p = none → ys.length = bs.length → (∀ (i : Nat) v b, ys[i]? = some v → (bs.mergeSort (PySem.W.dataLe false en))[i]? = some b → ∃ j : Nat, ws[j]? = some v ∧ bs[j]? = some b) → Q (.ref p) (upd H p (.lst ys))
theorem cr_sortG {β : Type} {en : β → PyData} {bs : List β} (hal : PySem.W.AllAlike (bs.map en)) (hk : PySem.W.Sortable (bs.map en)) (hu : ∀ b, b ∈ bs → X.A.units + 2 + (en b).depth < cLine) : CallR X (.builtin "sorted") (rSortG X en bs) := by
  intro pins s σ H vs us Q I r h
  obtain ⟨a, ws, rfl, hs, hd, q⟩ := h
  obtain ⟨its, rv, hl, hz⟩ := I.list hs
  rw [Vals.ref1 r]
  obtain ⟨as, rd⟩ := Dp.readsAll I (bs.map en) ws its hd rv
  have hlen : ws.length = bs.length := by
    have : ∀ {vs : List V} {ds : List PyData}, DpAll X.K H vs ds → vs.length = ds.length := by
      intro vs ds h
      induction ds generalizing vs with
      | nil => cases h; rfl
      | cons d ds ih => cases h with
        | cons h1 h2 => simp [ih h2]
    simpa using this hd
  have e1 : PySem.W.EachIs (fun u b => ∃ v, RelV v u ∧ ∃ j : Nat, ws[j]? = some v ∧ bs[j]? = some b) its bs := eachIs_of (R := fun v b => ∃ j : Nat, ws[j]? = some v ∧ bs[j]? = some b) hlen (fun i v b h1 h2 => ⟨i, h1, h2⟩) rv
  have zl : bs.length ≤ sizeLine := by rw [← hlen]; exact hz
  refine PySem.W.sorted_data hl.isList e1 (PySem.W.readsAll_each en rd) hal hk zl hu fun out ho eo => ?_
  obtain ⟨ep, he'⟩ := PyProof.Rows.sortedAll_at s.heap its out.toArray
  obtain ⟨ys, k1, k2, k3⟩ := of_eachIs (R := fun v b => ∃ j : Nat, ws[j]? = some v ∧ bs[j]? = some b) eo
  have k2' : ys.length = bs.length := by rw [k2, List.length_mergeSort]
  exact ⟨.ref _, upd H (s.heap.objs.size + 1) (.lst ys), I.laid (t' := s.toks) (fun _ _ => PyProof.Rows.sortedAll_old) (Nat.le_succ _) ⟨by rw [k2']; exact zl, out, ep, k1, he'⟩, rfl, q ys _ (I.hok.fresh (Nat.le_succ _)) k2' k3⟩
end
/-- data of one make -/
class PyS (α : Type) [Py α] : Prop where
  alike : ∀ x y : α, PySem.W.alike (enc x) (enc y) = true
  sort : (∀ x : α, ∃ a r, enc x = .tuple (a :: r)) ∨ ∀ x : α, enc x ≠ .none ∧ ∀ xs, enc x ≠ .tuple xs
def srt {α : Type} [Py α] (xs : List α) : List α := xs.mergeSort (PySem.W.dataLe false enc)
instance : PyS Int := ⟨fun x y => by simp [enc, Py.enc, PySem.W.alike], .inr fun x => ⟨by simp [enc, Py.enc], by simp [enc, Py.enc]⟩⟩
theorem alikeAll_of {α : Type} [Py α] [PyS α] : ∀ xs ys : List α, PySem.W.alikeAll (xs.map enc) (ys.map enc) = true
  | [], [] => by simp [PySem.W.alikeAll]
  | [], y :: ys => by simp [PySem.W.alikeAll]
  | x :: xs, [] => by simp [PySem.W.alikeAll]
  | x :: xs, y :: ys => by
    have h1 := PyS.alike x y
    have h2 := alikeAll_of xs ys
    simp only [List.map_cons, PySem.W.alikeAll, h1, h2, Bool.and_self]
instance {α β : Type} [Py α] [Py β] [PyS α] [PyS β] : PyS (α × β) := ⟨fun x y => by
  have h1 := PyS.alike x.1 y.1
  have h2 := PyS.alike x.2 y.2
  show PySem.W.alike (.tuple [enc x.1, enc x.2]) (.tuple [enc y.1, enc y.2]) = true
  simp only [PySem.W.alike, PySem.W.alikeAll, h1, h2, Bool.and_self], .inl fun x => ⟨_, _, rfl⟩⟩
section
variable {X : Cx} {Φ : List SD} {a b c d e : Expr} {es : List Expr} {pos p p2 : Pos} {P : MP} {Ps Qs : List MP} {i j k : Int}
theorem allP_dpAll2 {α : Type} [Py α] {K : Fg} {F : Hp} {xs : List α} {vs : List V} (h : AllP (xs.map fun x => py K (enc x)) F vs) : DpAll K F vs (xs.map enc) := by
  have h' : AllP ((xs.map enc).map (py K)) F vs := by rw [rps_map]; exact h
  exact dqAll_dp _ _ (allP_dqAll h')
theorem v_sorted {α : Type} [Py α] [PyS α] {xs : List α} (B : Blt X.mg) (hu : X.A.units + 2 + Py.dep α < cLine) (ha : PL X Φ e xs) (hg : Gl X "sorted" := by rfl) (hst : nst e = true := by rfl) : PN X Φ (.Call (.Name "sorted" p) [e] [] pos) (srt xs) := .mk fun H0 σ F H Q s sl q =>
  wE_callB (cr_sortG (en := enc) (bs := xs) (fun d hd d' hd' => by
    obtain ⟨x, _, rfl⟩ := List.mem_map.mp hd
    obtain ⟨y, _, rfl⟩ := List.mem_map.mp hd'
    exact PyS.alike x y) (by
    rcases PyS.sort (α := α) with h | h
    · exact PySem.W.Sortable.tuples h
    · exact PySem.W.Sortable.others h) (fun b _ => by have := Py.deep b; show X.A.units + 2 + (Py.enc b).depth < cLine; omega)) hg B.sorted (by decide +kernel) (by decide +kernel) (by decide +kernel) (by simp [hst]) (wA_one hst (ha H0 σ F H _ s sl fun l vs F1 H1 g1 h1 p1 => ⟨l, vs, rfl, h1, dpAll_mono g1.s _ _ (allP_dpAll2 p1), fun ys t ht hl hy => by
      refine q t ys F1 _ (g1.trans (Gr.own g1.s ht)) (fresh_of g1 ht).2 (fresh_of g1 ht).1 upd_same ⟨by rw [hl]; simp [srt, List.length_mergeSort], fun n P v h2 h3 => ?_⟩
      rw [List.getElem?_map] at h2
      cases hb : (srt xs)[n]? with
      | none => rw [hb] at h2; cases h2
      | some b =>
        rw [hb] at h2; cases h2
        obtain ⟨m, m1, m2⟩ := hy n v b h3 hb
        exact p1.2 m _ v (by rw [List.getElem?_map, m2]; rfl) m1⟩))
/-! ### isinstance -/
/-- the built-in class of a datum -/
def tyN : PyData → String
  | .none => "NoneType"
  | .bool _ => "bool"
  | .int _ => "int"
  | .str _ => "str"
  | .list _ => "list"
  | .tuple _ => "tuple"
  | .dict _ => "dict"
theorem tyX_of {K : Fg} {F H : Hp} {v : V} {d : PyData} (s : Ex F H) (h : Dq K F v d) : TyX K H v (.type (tyN d)) := by
  cases h with
  | non => exact .base .non
  | bl b => exact .base (.bl b)
  | int i => exact .base (.int i)
  | str x => exact .base (.str x)
  | lst h1 h2 => exact .base (.lst (s _ _ h1))
  | tup h1 h2 =>
    rcases h1 with (h1 | ⟨o, h1⟩) | ⟨o, its, n, h1, h3, _⟩
    · exact .base (.tup (s _ _ h1))
    · exact .fTuple (s _ _ h1)
    · exact .kTuple h1 h3
/-- a built-in class's name -/
theorem wE_bty {x : Str} {T : String} {σ : L2.St} {H : Hp} {Q : VK} (hg : Gl X x) (hm : X.mg x = none) (hv : bootBuiltins x = some (.type T)) (hn : x ≠ "__name__") (hd : (x == ("__debug__" : Str)) = false) (h : Q (.ty T) H) : wE X (.Name x p) σ H Q :=
  wE_of (pe_bltn (v := .ty T) hg hm hv rfl hn hd) h
theorem v_isi {x : Str} {T : String} {dd : PyData} {k : Bool} (B : Blt X.mg) (ha : PEv X Φ a (py X.K dd)) (hk : kitB (tyN dd) T = some k) (hmx : X.mg x = none) (hv : bootBuiltins x = some (.type T)) (hgx : Gl X x := by rfl) (hg : Gl X "isinstance" := by rfl) (h1 : nst a = true := by rfl)
    (hn : x ≠ "__name__" := by decide +kernel) (hd : (x == ("__debug__" : Str)) = false := by decide +kernel) : PV X Φ (.Call (.Name "isinstance" p) [a, .Name x p2] [] pos) k := .mk fun H0 σ F H Q s sl q =>
  wE_callB call_isi hg B.isinstance (by decide +kernel) (by decide +kernel) (by decide +kernel) (by rw [List.all_cons, h1]; rfl) (wA_of (pa_cons peW (pa_cons peW pa_nil (star_cons rfl)) (star_cons h1)) (ha H0 σ F H _ s sl fun v F1 H1 g1 p1 => wE_bty hgx hmx hv hn hd
    ⟨v, .ty T, .type (tyN dd), .type T, k, rfl, .ty T, tyX_of g1.s p1, kit_ty hk, q _ F1 H1 g1 (.bl _)⟩))
theorem v_isiInt {dd : PyData} {k : Bool} (B : Blt X.mg) (ha : PEv X Φ a (py X.K dd)) (hk : kitB (tyN dd) "int" = some k := by rfl) (hgx : Gl X "int" := by rfl) (hg : Gl X "isinstance" := by rfl) (h1 : nst a = true := by rfl) : PV X Φ (.Call (.Name "isinstance" p) [a, .Name "int" p2] [] pos) k := v_isi B ha hk B.int (by decide +kernel) hgx hg h1
theorem v_isiBool {dd : PyData} {k : Bool} (B : Blt X.mg) (ha : PEv X Φ a (py X.K dd)) (hk : kitB (tyN dd) "bool" = some k := by rfl) (hgx : Gl X "bool" := by rfl) (hg : Gl X "isinstance" := by rfl) (h1 : nst a = true := by rfl) : PV X Φ (.Call (.Name "isinstance" p) [a, .Name "bool" p2] [] pos) k := v_isi B ha hk B.bool (by decide +kernel) hgx hg h1
theorem v_isiList {dd : PyData} {k : Bool} (B : Blt X.mg) (ha : PEv X Φ a (py X.K dd)) (hk : kitB (tyN dd) "list" = some k := by rfl) (hgx : Gl X "list" := by rfl) (hg : Gl X "isinstance" := by rfl) (h1 : nst a = true := by rfl) : PV X Φ (.Call (.Name "isinstance" p) [a, .Name "list" p2] [] pos) k := v_isi B ha hk B.list (by decide +kernel) hgx hg h1
theorem v_isiTuple {dd : PyData} {k : Bool} (B : Blt X.mg) (ha : PEv X Φ a (py X.K dd)) (hk : kitB (tyN dd) "tuple" = some k := by rfl) (hgx : Gl X "tuple" := by rfl) (hg : Gl X "isinstance" := by rfl) (h1 : nst a = true := by rfl) : PV X Φ (.Call (.Name "isinstance" p) [a, .Name "tuple" p2] [] pos) k := v_isi B ha hk B.tuple (by decide +kernel) hgx hg h1
/-! ### x is True, the script, chains of three -/
theorem v_isB {l m : Bool} (ha : PV X Φ a l) (hb : PV X Φ b m) : PV X Φ (.Compare a [.Is] [b] pos) (decide (l = m)) := .mk fun H0 σ F H Q s sl q =>
  wE_of (pe_cmpR op_is_bl peW peW (nomark _)) (ha H0 σ F H _ s sl fun x F1 H1 g1 p1 => hb H0 σ F1 H1 _ g1.s (sl.gr g1) fun y F2 H2 g2 p2 => by
    cases p1; cases p2
    exact ⟨l, m, rfl, rfl, q _ _ _ (g1.trans g2) (.bl _)⟩)
theorem v_isntB {l m : Bool} (ha : PV X Φ a l) (hb : PV X Φ b m) : PV X Φ (.Compare a [.IsNot] [b] pos) (!decide (l = m)) := .mk fun H0 σ F H Q s sl q =>
  wE_of (pe_cmpR op_isnot_bl peW peW (nomark _)) (ha H0 σ F H _ s sl fun x F1 H1 g1 p1 => hb H0 σ F1 H1 _ g1.s (sl.gr g1) fun y F2 H2 g2 p2 => by
    cases p1; cases p2
    exact ⟨l, m, rfl, rfl, q _ _ _ (g1.trans g2) (.bl _)⟩)
theorem scr_l {ns : List Int} (h : PEv X Φ e (scrP X.K ns)) : PL X Φ e ns := .mk fun H0 σ F H Q s sl q => h H0 σ F H Q s sl fun v F' H' g ⟨a, h1, h2⟩ => by
  subst h1
  exact q a _ F' H' g (ex_l g.s h2) ints_allP
theorem scr_d {ns : List Int} (h : PEv X Φ e (scrP X.K ns)) : PD X Φ e ns := PEv.imp h fun F v ⟨a, h1, h2⟩ => by
  subst h1
  exact .lst h2 (allP_dpAll2 (F := F) (xs := ns) ints_allP)
/-! ### a compare as a test, from its value -/
theorem t_cmpV {op : CmpOp} {r : R2} {k : Bool} (ho : OpR X (compareOp op) r) (hm : behindInMarks op b = false) (h : ∀ (H0 : Hp) (σ : L2.St) (F H : Hp) (Q : VK), Ex F H → Sl H0 Φ σ F H → (∀ v F' H', Gr F H F' H' → (py X.K (enc k)).p F' v → Q v H') → tOp r (wE X a) (wE X b) σ H Q) : PTv X Φ (.Compare a [op] [b] pos) k := .mk fun H0 σ F H Q s sl q =>
  wT_of (pt_cmpR ho peW peW hm) (h H0 σ F H _ s sl fun v F1 H1 g1 p1 => by cases p1; exact ⟨k, rfl, q F1 H1 g1⟩)
theorem t_isN {α : Type} [Py α] {o : Option α} {q1 : Pos} (hn : ∀ y : α, enc y ≠ .none) (ha : PV X Φ a o) : PTv X Φ (.Compare a [.Is] [.Constant .none 0 q1] pos) o.isNone := .mk fun H0 σ F H Q s sl q =>
  wT_of (pt_cmpR op_isN peW pe_non (nomark _)) (ha H0 σ F H _ s sl fun v F1 H1 g1 p1 => ⟨rfl, _, rfl, by rw [non_iff hn p1]; exact q _ _ g1⟩)
theorem t_notN {α : Type} [Py α] {o : Option α} {q1 : Pos} (hn : ∀ y : α, enc y ≠ .none) (ha : PV X Φ a o) : PTv X Φ (.Compare a [.IsNot] [.Constant .none 0 q1] pos) o.isSome := .mk fun H0 σ F H Q s sl q =>
  wT_of (pt_cmpR op_notN peW pe_non (nomark _)) (ha H0 σ F H _ s sl fun v F1 H1 g1 p1 => ⟨rfl, _, rfl, by rw [non_iff hn p1, Option.not_isNone]; exact q _ _ g1⟩)
theorem t_isB {l m : Bool} (ha : PV X Φ a l) (hb : PV X Φ b m) : PTv X Φ (.Compare a [.Is] [b] pos) (decide (l = m)) := .mk fun H0 σ F H Q s sl q =>
  wT_of (pt_cmpR op_is_bl peW peW (nomark _)) (ha H0 σ F H _ s sl fun x F1 H1 g1 p1 => hb H0 σ F1 H1 _ g1.s (sl.gr g1) fun y F2 H2 g2 p2 => by
    cases p1; cases p2
    exact ⟨l, m, rfl, rfl, _, rfl, q _ _ (g1.trans g2)⟩)
theorem t_isntB {l m : Bool} (ha : PV X Φ a l) (hb : PV X Φ b m) : PTv X Φ (.Compare a [.IsNot] [b] pos) (!decide (l = m)) := .mk fun H0 σ F H Q s sl q =>
  wT_of (pt_cmpR op_isnot_bl peW peW (nomark _)) (ha H0 σ F H _ s sl fun x F1 H1 g1 p1 => hb H0 σ F1 H1 _ g1.s (sl.gr g1) fun y F2 H2 g2 p2 => by
    cases p1; cases p2
    exact ⟨l, m, rfl, rfl, _, rfl, q _ _ (g1.trans g2)⟩)
theorem inL_any {α : Type} [Py α] [PyQ α] [DecidableEq α] {y : α} {xs : List α} : ((xs.map enc).any fun z => PyData.eqv z (enc y)) = decide (y ∈ xs) := by
  rw [List.any_map]
  by_cases h : y ∈ xs
  · rw [decide_eq_true h]
    exact List.any_eq_true.mpr ⟨y, h, (PyQ.eqv y y).mpr rfl⟩
  · rw [decide_eq_false h]
    refine List.any_eq_false.mpr fun z hz w => h ?_
    rw [← (PyQ.eqv z y).mp w]; exact hz
theorem t_inL {α : Type} [Py α] [PyQ α] [DecidableEq α] {y : α} {xs : List α} (hu : X.A.units + 65 < cLine) (hd : Py.dep α + 1 ≤ 64) (ha : PD X Φ a y) (hb : PD X Φ b xs) (hm : behindInMarks .In b = false := by rfl) : PTv X Φ (.Compare a [.In] [b] pos) (decide (y ∈ xs)) := .mk fun H0 σ F H Q s sl q =>
  wT_of (pt_cmpR (op_inD hu) peW peW hm) (ha H0 σ F H _ s sl fun v F1 H1 g1 p1 => hb H0 σ F1 H1 _ g1.s (sl.gr g1) fun w F2 H2 g2 p2 =>
    ⟨enc y, xs.map enc, dp_mono (g2.f.trans g2.s) _ _ p1, dp_mono g2.s _ _ p2, shaped_of (by omega) _, shaped_of (α := List α) hd xs, _, rfl, by rw [inL_any]; exact q _ _ (g1.trans g2)⟩)
theorem t_notInL {α : Type} [Py α] [PyQ α] [DecidableEq α] {y : α} {xs : List α} (hu : X.A.units + 65 < cLine) (hd : Py.dep α + 1 ≤ 64) (ha : PD X Φ a y) (hb : PD X Φ b xs) (hm : behindInMarks .NotIn b = false := by rfl) : PTv X Φ (.Compare a [.NotIn] [b] pos) (!decide (y ∈ xs)) := .mk fun H0 σ F H Q s sl q =>
  wT_of (pt_cmpR (op_notInD hu) peW peW hm) (ha H0 σ F H _ s sl fun v F1 H1 g1 p1 => hb H0 σ F1 H1 _ g1.s (sl.gr g1) fun w F2 H2 g2 p2 =>
    ⟨enc y, xs.map enc, dp_mono (g2.f.trans g2.s) _ _ p1, dp_mono g2.s _ _ p2, shaped_of (by omega) _, shaped_of (α := List α) hd xs, _, rfl, by rw [inL_any]; exact q _ _ (g1.trans g2)⟩)
end
end GL

set_option Elab.async false
set_option linter.all false
set_option maxRecDepth 100000
set_option maxHeartbeats 4000000
namespace GL
open PySem PySem.Spec PyProof.Rows L2
open Evl (Ex ex_l ex_t)
/-! ### the printed rules: values named as they come; V: the block hands back a value, C: a loop's turn -/
def bindV {α β : Type} (a : α) (k : α → β) : β := k a
def forR {α S R : Type} (f : S → α → Ctl S R) (s0 : S) (xs : List α) (k : S → R) : R := match forL f s0 xs with
  | .inl s => k s
  | .inr r => r
def whileR {S R : Type} (c : S → Bool) (f : S → Ctl S R) (n : Nat) (s0 : S) (k : S → R) : R := match whileL c f n s0 with
  | .inl s => k s
  | .inr r => r
section
variable {X : Cx} {W : XK} {S R β : Type} {Φ : List SD} {M : S → List SD} {T : R → RS} {a b c e : Expr} {es : List Expr} {pos p p2 : Pos} {P : MP} {Ps Qs : List MP} {i j : Int} {tg iter : Expr} {A A1 A2 body : List Stmt} {r : List (List Stmt)} {st : Stmt}
/-! x = e -/
theorem h_setV {α : Type} [Py α] (n : Nat) {x : Str} {v : α} {k : α → R} (hN : X.N.Nodup) (he : PV X Φ e v) (h : ∀ x, x = v → HB X W (A :: r) (Φ.set n (sI X.K x)) M T (.rt (k x))) (hi : X.N[n]? = some x := by rfl) (hx : Loc X.env.scope x := by first | exact Or.inl rfl | exact Or.inr rfl) (hs : swapsWith e (some (.Name x p)) pos.line X.env = pure false := by rfl)
    (hf : X.fn x = true ∨ X.env.scope.names.lookup x = some .local := by first | exact .inl rfl | exact .inr rfl) : HB X W ((.Assign [.Name x p] e pos :: A) :: r) Φ M T (.rt (bindV v k)) := h_set n hN he (h v rfl) hi hx hs hf
theorem h_setC {α : Type} [Py α] (n : Nat) {x : Str} {v : α} {k : α → Ctl S R} (hN : X.N.Nodup) (he : PV X Φ e v) (h : ∀ x, x = v → HB X W (A :: r) (Φ.set n (sI X.K x)) M T (k x)) (hi : X.N[n]? = some x := by rfl) (hx : Loc X.env.scope x := by first | exact Or.inl rfl | exact Or.inr rfl) (hs : swapsWith e (some (.Name x p)) pos.line X.env = pure false := by rfl)
    (hf : X.fn x = true ∨ X.env.scope.names.lookup x = some .local := by first | exact .inl rfl | exact .inr rfl) : HB X W ((.Assign [.Name x p] e pos :: A) :: r) Φ M T (bindV v k) := h_set n hN he (h v rfl) hi hx hs hf
/-! x = e, a list of one's own -/
theorem h_ownV {α : Type} [Py α] (n : Nat) {x : Str} {v : List α} {k : List α → R} (hN : X.N.Nodup) (he : PN X Φ e v) (h : ∀ x, x = v → HB X W (A :: r) (Φ.set n (sO X.K x)) M T (.rt (k x))) (hi : X.N[n]? = some x := by rfl) (hx : Loc X.env.scope x := by first | exact Or.inl rfl | exact Or.inr rfl) (hs : swapsWith e (some (.Name x p)) pos.line X.env = pure false := by rfl)
    (hf : X.fn x = true ∨ X.env.scope.names.lookup x = some .local := by first | exact .inl rfl | exact .inr rfl) : HB X W ((.Assign [.Name x p] e pos :: A) :: r) Φ M T (.rt (bindV v k)) := h_setN n hN he (h v rfl) hi hx hs hf
theorem h_ownC {α : Type} [Py α] (n : Nat) {x : Str} {v : List α} {k : List α → Ctl S R} (hN : X.N.Nodup) (he : PN X Φ e v) (h : ∀ x, x = v → HB X W (A :: r) (Φ.set n (sO X.K x)) M T (k x)) (hi : X.N[n]? = some x := by rfl) (hx : Loc X.env.scope x := by first | exact Or.inl rfl | exact Or.inr rfl) (hs : swapsWith e (some (.Name x p)) pos.line X.env = pure false := by rfl)
    (hf : X.fn x = true ∨ X.env.scope.names.lookup x = some .local := by first | exact .inl rfl | exact .inr rfl) : HB X W ((.Assign [.Name x p] e pos :: A) :: r) Φ M T (bindV v k) := h_setN n hN he (h v rfl) hi hx hs hf
/-! x = [..] on one line -/
variable {elt : Expr} {scope : Scope}
theorem h_lc {α β : Type} [Py α] [Py β] {xs : List α} {f : α → β} {o : Ctl S R} (n : Nat) {x : Str} {py_ spos : Pos} (own : List (Str × Nat)) (us : α → List (Nat × SD)) (hc : X.calm = true) (hN : X.N.Nodup) (ok : BlkOk X.N X.env.scope scope own) (hi : PIt X Φ tg iter xs) (hz : xs.length ≤ sizeLine)
    (hg : ∀ x, ∀ (s : Shared) (H : Hp) (C : Addr) (cl : List (Str × Addr)) (fp : List Addr), PGt (X.blk s H scope (compEnvC scope cl C X.env) fp) tg x (us x)) (hu : ∀ x, ∀ u ∈ us x, u.1 ∈ own.map (·.2))
    (he : ∀ x, x ∈ xs → ∀ (s : Shared) (H : Hp) (C : Addr) (cl : List (Str × Addr)) (fp : List Addr), PEv (X.blk s H scope (compEnvC scope cl C X.env) fp) (setAll (wipeS Φ (own.map (·.2))) (us x)) elt (py X.K (enc (f x))))
    (h : HB X W (A :: r) (Φ.set n (sO X.K (xs.map f))) M T o)
    (hn : X.N[n]? = some x := by rfl) (hl : X.env.scope.names.lookup x = some .local := by rfl) (hsw : swapsWith (.ListComp elt [⟨tg, iter, [], 0⟩] scope pos) (some (.Name x py_)) spos.line X.env = pure true := by exact sw_true rfl rfl rfl (by decide +kernel)) (hs : ∀ x, foldedSetIterable iter X.env x = pure x := by intro _; rfl) :
    HB X W ((.Assign [.Name x py_] (.ListComp elt [⟨tg, iter, [], 0⟩] scope pos) spos :: A) :: r) Φ M T o := .mk fun F0 H0 D σ F H g sl k =>
  wK_cons (wS_of (ps_setLc (own := own) hc hN hn hl hsw piW ok pgB (fun _ _ _ _ _ => pts_nil) peB hs) (lc_ok (cnd := fun _ => true) g.s sl hi hz hg hu (fun x hx σ' F' H' R s' _ r => r F' H' (Gr.refl s')) (fun x hx _ => he x hx) (by
    rw [filter_true]
    intro l vs F1 H1 g1 h1 h2 h3 h4
    exact h F0 H0 D _ F1 H1 (g.trans g1) (Sl.setOw (sl.gr g1) (by
      cases z : H0 l with
      | none => rfl
      | some u => rw [g.h l u z] at h1; cases h1) h2 h3 h4 (sl.new g1 h1)) k)))
theorem h_lcIf {α β : Type} [Py α] [Py β] {xs : List α} {cnd : α → Bool} {f : α → β} {o : Ctl S R} (n : Nat) {x : Str} {py_ spos : Pos} (own : List (Str × Nat)) (us : α → List (Nat × SD)) (hc : X.calm = true) (hN : X.N.Nodup) (ok : BlkOk X.N X.env.scope scope own) (hi : PIt X Φ tg iter xs) (hz : xs.length ≤ sizeLine)
    (hg : ∀ x, ∀ (s : Shared) (H : Hp) (C : Addr) (cl : List (Str × Addr)) (fp : List Addr), PGt (X.blk s H scope (compEnvC scope cl C X.env) fp) tg x (us x)) (hu : ∀ x, ∀ u ∈ us x, u.1 ∈ own.map (·.2))
    (ht : ∀ x, x ∈ xs → ∀ (s : Shared) (H : Hp) (C : Addr) (cl : List (Str × Addr)) (fp : List Addr), PTv (X.blk s H scope (compEnvC scope cl C X.env) fp) (setAll (wipeS Φ (own.map (·.2))) (us x)) c (cnd x))
    (he : ∀ x, x ∈ xs → cnd x = true → ∀ (s : Shared) (H : Hp) (C : Addr) (cl : List (Str × Addr)) (fp : List Addr), PEv (X.blk s H scope (compEnvC scope cl C X.env) fp) (setAll (wipeS Φ (own.map (·.2))) (us x)) elt (py X.K (enc (f x))))
    (h : HB X W (A :: r) (Φ.set n (sO X.K ((xs.filter cnd).map f))) M T o)
    (hn : X.N[n]? = some x := by rfl) (hl : X.env.scope.names.lookup x = some .local := by rfl) (hsw : swapsWith (.ListComp elt [⟨tg, iter, [c], 0⟩] scope pos) (some (.Name x py_)) spos.line X.env = pure true := by exact sw_true rfl rfl rfl (by decide +kernel)) (hs : ∀ x, foldedSetIterable iter X.env x = pure x := by intro _; rfl) :
    HB X W ((.Assign [.Name x py_] (.ListComp elt [⟨tg, iter, [c], 0⟩] scope pos) spos :: A) :: r) Φ M T o := .mk fun F0 H0 D σ F H g sl k =>
  wK_cons (wS_of (ps_setLc (own := own) hc hN hn hl hsw piW ok pgB (fun s H C cl fp => pts_one (ptB s H C cl fp)) peB hs) (lc_ok g.s sl hi hz hg hu (fun x hx σ' F' H' R s' sl' r s2 Hs C cl fp => ht x hx s2 Hs C cl fp H0 σ' F' H' R s' sl' r) he (by
    intro l vs F1 H1 g1 h1 h2 h3 h4
    exact h F0 H0 D _ F1 H1 (g.trans g1) (Sl.setOw (sl.gr g1) (by
      cases z : H0 l with
      | none => rfl
      | some u => rw [g.h l u z] at h1; cases h1) h2 h3 h4 (sl.new g1 h1)) k)))
/-! tests -/
theorem h_ifV {k : Bool} {v1 v2 : R} (hc : PTv X Φ c k) (h1 : k = true → HB X W (A1 :: A :: r) Φ M T (.rt v1)) (h2 : k = false → HB X W (A2 :: A :: r) Φ M T (.rt v2)) : HB X W ((.If c A1 A2 pos :: A) :: r) Φ M T (.rt (cond k v1 v2)) := by
  have h := h_if (pos := pos) hc h1 h2
  cases k with
  | true => exact h
  | false => exact h
theorem h_ifC {k : Bool} {o1 o2 : Ctl S R} (hc : PTv X Φ c k) (h1 : k = true → HB X W (A1 :: A :: r) Φ M T o1) (h2 : k = false → HB X W (A2 :: A :: r) Φ M T o2) : HB X W ((.If c A1 A2 pos :: A) :: r) Φ M T (cond k o1 o2) := h_if hc h1 h2
theorem h_ifMV {S' : Type} (M' : S' → List SD) {k : Bool} {s1 s2 : S'} {kk : S' → R} (hc : PTv X Φ c k) (h1 : k = true → HB X W [A1] Φ M' T (.nx s1)) (h2 : k = false → HB X W [A2] Φ M' T (.nx s2)) (h : ∀ s, s = cond k s1 s2 → HB X W (A :: r) (M' s) M T (.rt (kk s))) : HB X W ((.If c A1 A2 pos :: A) :: r) Φ M T (.rt (bindV (cond k s1 s2) kk)) :=
  h_ifM (M' := M') hc h1 h2 (h _ rfl)
theorem h_ifMC {S' : Type} (M' : S' → List SD) {k : Bool} {s1 s2 : S'} {kk : S' → Ctl S R} (hc : PTv X Φ c k) (h1 : k = true → HB X W [A1] Φ M' T (.nx s1)) (h2 : k = false → HB X W [A2] Φ M' T (.nx s2)) (h : ∀ s, s = cond k s1 s2 → HB X W (A :: r) (M' s) M T (kk s)) : HB X W ((.If c A1 A2 pos :: A) :: r) Φ M T (bindV (cond k s1 s2) kk) :=
  h_ifM (M' := M') hc h1 h2 (h _ rfl)
/-! loops -/
theorem h_forV {α S' : Type} [Py α] {xs : List α} (M' : S' → List SD) (us : α → List (Nat × SD)) {f : S' → α → Ctl S' R} {s0 : S'} {k : S' → R} (hp : PassesOwn (model X.prog X.w) X.A X.env X.xe) (hc : X.calm = true)
    (hi : PIt X Φ tg iter xs) (hg : ∀ x, PGt X tg x (us x)) (w0 : Wk Φ (M' s0))
    (hb : ∀ n s x, xs[n]? = some x → steps f s0 (xs.take n) = some s → HB X W [body] (setAll (M' s) (us x)) M' T (f s x))
    (hr : ∀ s, forL f s0 xs = .inl s → HB X W (A :: r) (M' s) M T (.rt (k s))) (hs : ∀ x, foldedSetIterable iter X.env x = pure x := by intro _; rfl) :
    HB X W ((.For tg iter body [] pos :: A) :: r) Φ M T (.rt (forR f s0 xs k)) := by
  have h := h_for (k := fun s => .rt (k s)) (pos := pos) us f s0 hp hc hi hg w0 hb hr hs
  unfold forK at h
  unfold forR
  cases q : forL f s0 xs with
  | inl s => rw [q] at h; exact h
  | inr v => rw [q] at h; exact h
theorem h_forC {α S' : Type} [Py α] {xs : List α} (M' : S' → List SD) (us : α → List (Nat × SD)) {f : S' → α → Ctl S' R} {s0 : S'} {k : S' → Ctl S R} (hp : PassesOwn (model X.prog X.w) X.A X.env X.xe) (hc : X.calm = true)
    (hi : PIt X Φ tg iter xs) (hg : ∀ x, PGt X tg x (us x)) (w0 : Wk Φ (M' s0))
    (hb : ∀ n s x, xs[n]? = some x → steps f s0 (xs.take n) = some s → HB X W [body] (setAll (M' s) (us x)) M' T (f s x))
    (hr : ∀ s, forL f s0 xs = .inl s → HB X W (A :: r) (M' s) M T (k s)) (hs : ∀ x, foldedSetIterable iter X.env x = pure x := by intro _; rfl) :
    HB X W ((.For tg iter body [] pos :: A) :: r) Φ M T (forK f s0 xs k) := h_for us f s0 hp hc hi hg w0 hb hr hs
theorem h_foldV {α S' : Type} [Py α] {xs : List α} (M' : S' → List SD) (us : α → List (Nat × SD)) {f : S' → α → S'} {s0 : S'} {k : S' → R} (hp : PassesOwn (model X.prog X.w) X.A X.env X.xe) (hc : X.calm = true)
    (hi : PIt X Φ tg iter xs) (hg : ∀ x, PGt X tg x (us x)) (w0 : Wk Φ (M' s0))
    (hb : ∀ n s x, xs[n]? = some x → s = (xs.take n).foldl f s0 → HB X W [body] (setAll (M' s) (us x)) M' T (.nx (f s x)))
    (hr : ∀ s, s = xs.foldl f s0 → HB X W (A :: r) (M' s) M T (.rt (k s))) (hs : ∀ x, foldedSetIterable iter X.env x = pure x := by intro _; rfl) :
    HB X W ((.For tg iter body [] pos :: A) :: r) Φ M T (.rt (bindV (xs.foldl f s0) k)) := h_fold (M' := M') us f s0 hp hc hi hg w0 hb (hr _ rfl) hs
theorem h_foldC {α S' : Type} [Py α] {xs : List α} (M' : S' → List SD) (us : α → List (Nat × SD)) {f : S' → α → S'} {s0 : S'} {k : S' → Ctl S R} (hp : PassesOwn (model X.prog X.w) X.A X.env X.xe) (hc : X.calm = true)
    (hi : PIt X Φ tg iter xs) (hg : ∀ x, PGt X tg x (us x)) (w0 : Wk Φ (M' s0))
    (hb : ∀ n s x, xs[n]? = some x → s = (xs.take n).foldl f s0 → HB X W [body] (setAll (M' s) (us x)) M' T (.nx (f s x)))
    (hr : ∀ s, s = xs.foldl f s0 → HB X W (A :: r) (M' s) M T (k s)) (hs : ∀ x, foldedSetIterable iter X.env x = pure x := by intro _; rfl) :
    HB X W ((.For tg iter body [] pos :: A) :: r) Φ M T (bindV (xs.foldl f s0) k) := h_fold (M' := M') us f s0 hp hc hi hg w0 hb (hr _ rfl) hs
theorem h_whileV {S' : Type} (M' : S' → List SD) (I : S' → Prop) (m : S' → Nat) {cn : S' → Bool} {f : S' → Ctl S' R} {s0 : S'} {k : S' → R} (hp : PassesOwn (model X.prog X.w) X.A X.env X.xe) (w0 : Wk Φ (M' s0)) (i0 : I s0)
    (ht : ∀ s, I s → PTv X (M' s) c (cn s)) (hb : ∀ s, I s → cn s = true → HB X W [body] (M' s) M' T (f s))
    (hm : ∀ s s', I s → cn s = true → (f s = .nx s' ∨ f s = .ct s') → I s' ∧ m s' < m s)
    (hr : ∀ s, whileL cn f (m s0 + 1) s0 = .inl s → HB X W (A :: r) (M' s) M T (.rt (k s))) :
    HB X W ((.While c body [] pos :: A) :: r) Φ M T (.rt (whileR cn f (m s0 + 1) s0 k)) := by
  have h := h_while (k := fun s => .rt (k s)) (pos := pos) I m cn f s0 hp w0 i0 ht hb hm hr
  unfold whileK at h
  unfold whileR
  cases q : whileL cn f (m s0 + 1) s0 with
  | inl s => rw [q] at h; exact h
  | inr v => rw [q] at h; exact h
theorem h_whileC {S' : Type} (M' : S' → List SD) (I : S' → Prop) (m : S' → Nat) {cn : S' → Bool} {f : S' → Ctl S' R} {s0 : S'} {k : S' → Ctl S R} (hp : PassesOwn (model X.prog X.w) X.A X.env X.xe) (w0 : Wk Φ (M' s0)) (i0 : I s0)
    (ht : ∀ s, I s → PTv X (M' s) c (cn s)) (hb : ∀ s, I s → cn s = true → HB X W [body] (M' s) M' T (f s))
    (hm : ∀ s s', I s → cn s = true → (f s = .nx s' ∨ f s = .ct s') → I s' ∧ m s' < m s)
    (hr : ∀ s, whileL cn f (m s0 + 1) s0 = .inl s → HB X W (A :: r) (M' s) M T (k s)) :
    HB X W ((.While c body [] pos :: A) :: r) Φ M T (whileK cn f (m s0 + 1) s0 k) := h_while I m cn f s0 hp w0 i0 ht hb hm hr
/-! a pair of targets and the like: the parts come as they are -/
theorem v_powC {n : Int} (ha : PV X Φ a i) (hb : PV X Φ b j) (hc : CPow i j := by exact ⟨by decide, by decide, by decide⟩) (hn : i ^ j.toNat = n := by decide) : PV X Φ (.BinOp a .Pow b pos) n := by
  subst hn; exact v_pow ha hb hc
theorem room65 {k : Nat} {A : Around} (r : Room k A) : A.units + 65 < cLine := by have := r.un; omega
theorem roomS {k n : Nat} {A : Around} (r : Room k A) (h : n ≤ 60) : A.units + 2 + n < cLine := by have := r.un; omega
end
end GL

set_option Elab.async false
set_option linter.all false
set_option maxRecDepth 100000
set_option maxHeartbeats 4000000
namespace GL
open PySem PySem.Spec PyProof.Rows L2
open Evl (Ex ex_l ex_t)

theorem AllP.take {Ps : List MP} {F : Hp} {vs : List V} (h : AllP Ps F vs) (n : Nat) : AllP (Ps.take n) F (vs.take n) := by
  refine ⟨by simp [h.1], fun i P v h1 h2 => ?_⟩
  rw [List.getElem?_take] at h1 h2
  split at h1
  · rename_i hi
    rw [if_pos hi] at h2
    exact h.2 _ P v h1 h2
  · cases h1
theorem AllP.drop {Ps : List MP} {F : Hp} {vs : List V} (h : AllP Ps F vs) (n : Nat) : AllP (Ps.drop n) F (vs.drop n) := by
  refine ⟨by simp [h.1], fun i P v h1 h2 => ?_⟩
  rw [List.getElem?_drop] at h1 h2
  exact h.2 _ P v h1 h2

/-! ### None or a value -/
class PyN (α : Type) [Py α] : Prop where
  nn : ∀ x : α, enc x ≠ .none
instance : PyN Int := ⟨fun x h => by simp [enc, Py.enc] at h⟩
instance : PyN Bool := ⟨fun x h => by simp [enc, Py.enc] at h⟩
instance {α : Type} [Py α] : PyN (List α) := ⟨fun x h => by simp [enc, Py.enc] at h⟩
instance {α : Type} [Py α] : PyN (Tup α) := ⟨fun x h => by simp [enc, Py.enc] at h⟩
instance {α β : Type} [Py α] [Py β] : PyN (α × β) := ⟨fun x h => by simp [enc, Py.enc] at h⟩
instance {α β γ : Type} [Py α] [Py β] [Py γ] : PyN (T3 α β γ) := ⟨fun x h => by simp [enc, Py.enc] at h⟩
instance {α β γ δ : Type} [Py α] [Py β] [Py γ] [Py δ] : PyN (T4 α β γ δ) := ⟨fun x h => by simp [enc, Py.enc] at h⟩
instance {α β γ δ ε : Type} [Py α] [Py β] [Py γ] [Py δ] [Py ε] : PyN (T5 α β γ δ ε) := ⟨fun x h => by simp [enc, Py.enc] at h⟩
theorem eqv_none_l {d : PyData} (h : d ≠ .none) : PyData.eqv .none d = false := by
  cases d <;> first | exact absurd rfl h | simp [PyData.eqv]
theorem eqv_none_r {d : PyData} (h : d ≠ .none) : PyData.eqv d .none = false := by
  cases d <;> first | exact absurd rfl h | simp [PyData.eqv]
instance {α : Type} [Py α] [PyQ α] [PyN α] : PyQ (Option α) := ⟨fun x y => by
  cases x with
  | none =>
    cases y with
    | none => simp [enc, Py.enc, PyData.eqv]
    | some y =>
      have h := eqv_none_l (PyN.nn y)
      show PyData.eqv .none (enc y) = true ↔ _
      rw [h]; simp
  | some x =>
    cases y with
    | none =>
      have h := eqv_none_r (PyN.nn x)
      show PyData.eqv (enc x) .none = true ↔ _
      rw [h]; simp
    | some y =>
      have h := PyQ.eqv x y
      show PyData.eqv (enc x) (enc y) = true ↔ _
      rw [h]; simp⟩
/-! ### what leans on no object -/
class Fl (α : Type) [Py α] : Prop where
  fl : ∀ (K : Fg) (F F' : Hp) (v : V) (x : α), Dq K F v (enc x) → Dq K F' v (enc x)
instance : Fl Int := ⟨fun K F F' v x h => by cases h; exact .int _⟩
instance : Fl Bool := ⟨fun K F F' v x h => by cases h; exact .bl _⟩
instance : Fl Unit := ⟨fun K F F' v x h => by cases h; exact .non⟩
instance {α : Type} [Py α] [Fl α] : Fl (Option α) := ⟨fun K F F' v x h => by
  cases x with
  | none => cases h; exact .non
  | some x => exact Fl.fl K F F' v x h⟩
theorem Sl.settleT {α : Type} [Py α] {K : Fg} {H0 F H : Hp} {Φ : List SD} {σ : L2.St} {n : Nat} {xs : List α} {l : Addr} {vs : List V} (sl : Sl H0 Φ σ F H) (s : Ex F H) (ho : Φ[n]? = some (sO K xs)) (h1 : σ[n]? = some (some (.ref l))) (h3 : F l = none) (h4 : H l = some (.lst vs)) (h5 : AllP (xs.map fun x => py K (enc x)) F vs) :
    Sl H0 (Φ.set n (sI K xs)) σ (upd F l (.lst vs)) H := sl.settleP s ho h1 h3 h4 (py_lst.mpr ⟨l, vs, rfl, upd_same, h5.mono (Gr.settle s h3 h4).1⟩)
section
variable {X : Cx} {W : XK} {S R : Type} {Φ : List SD} {M : S → List SD} {T : R → RS} {a b c d e : Expr} {es : List Expr} {pos p p2 : Pos} {P : MP} {Ps Qs : List MP} {i j k : Int} {tg iter : Expr} {A : List Stmt} {r : List (List Stmt)}
theorem PV.flat {α β : Type} [Py α] [Py β] [Fl β] (n : Nat) {xs : List α} {x : β} (h : PV X (Φ.set n (sI X.K xs)) e x) (ho : Φ[n]? = some (sO X.K xs) := by rfl) : PV X Φ e x := .mk fun H0 σ F H Q s sl q => by
  obtain ⟨l, vs, h1, h2, h3, h4, h5⟩ := sl.ow ho
  obtain ⟨x1, x2⟩ := Gr.settle s h3 h4
  exact h H0 σ _ H Q x2 (sl.settleT s ho h1 h3 h4 h5) fun v F' H' g z => q v F H' (Gr.hp s g.h) (Fl.fl _ _ _ _ _ z)
theorem PTv.flat {α : Type} [Py α] (n : Nat) {xs : List α} {k : Bool} (h : PTv X (Φ.set n (sI X.K xs)) e k) (ho : Φ[n]? = some (sO X.K xs) := by rfl) : PTv X Φ e k := .mk fun H0 σ F H Q s sl q => by
  obtain ⟨l, vs, h1, h2, h3, h4, h5⟩ := sl.ow ho
  obtain ⟨x1, x2⟩ := Gr.settle s h3 h4
  exact h H0 σ _ H Q x2 (sl.settleT s ho h1 h3 h4 h5) fun F' H' g => q F H' (Gr.hp s g.h)
/-- the value of a None-or-value that is one -/
theorem v_get {α : Type} [Py α] {o : Option α} (w : α) (ho : o.isSome = true) (h : PV X Φ e o) : PV X Φ e (o.getD w) := by
  cases o with
  | none => cases ho
  | some x => exact h
/-! ### facts of a loop's items -/
theorem rng_memF {lo hi x : Int} (h : x ∈ rng lo hi) : lo ≤ x ∧ x < hi := by
  unfold rng at h
  obtain ⟨n, hn, rfl⟩ := List.mem_map.mp h
  have := List.mem_range.mp hn
  omega
theorem rng_atF {lo hi x : Int} {n : Nat} (h : (rng lo hi)[n]? = some x) : x = lo + (n : Int) ∧ lo ≤ x ∧ x < hi := by
  have hn := (List.getElem?_eq_some_iff.mp h).1
  rw [rng_length] at hn
  rw [rng_at hn] at h
  have := Option.some.inj h
  omega
theorem rev_memF {i x : Int} (h : x ∈ (rng 0 i).reverse) : 0 ≤ x ∧ x < i := rng_memF (List.mem_reverse.mp h)
theorem rev_atF {i x : Int} {n : Nat} (h : (rng 0 i).reverse[n]? = some x) : x = i - 1 - (n : Int) ∧ 0 ≤ x ∧ x < i := by
  have hn := (List.getElem?_eq_some_iff.mp h).1
  rw [List.length_reverse, rng_length] at hn
  rw [List.getElem?_reverse (by rw [rng_length]; exact hn), rng_length] at h
  have := rng_atF h
  omega
theorem enum_atF {α : Type} {xs : List α} {x : Int × α} {n : Nat} (h : (enumL xs)[n]? = some x) : x.1 = (n : Int) ∧ xs[n]? = some x.2 ∧ x.2 ∈ xs ∧ 0 ≤ x.1 ∧ x.1 < xs.length := by
  have hn := (List.getElem?_eq_some_iff.mp h).1
  rw [enumL_length] at hn
  have e := enumL_get (List.getElem?_eq_getElem hn)
  rw [h] at e
  have e2 := Option.some.inj e
  subst e2
  exact ⟨rfl, List.getElem?_eq_getElem hn, List.getElem_mem hn, by show (0 : Int) ≤ (n : Int); omega, by show (n : Int) < _; omega⟩
theorem enum_memF {α : Type} {xs : List α} {x : Int × α} (h : x ∈ enumL xs) : xs[x.1.toNat]? = some x.2 ∧ x.2 ∈ xs ∧ 0 ≤ x.1 ∧ x.1 < xs.length := by
  obtain ⟨n, hn⟩ := List.mem_iff_getElem?.mp h
  obtain ⟨h1, h2, h3, h4, h5⟩ := enum_atF hn
  exact ⟨by rw [h1]; exact h2, h3, h4, h5⟩
theorem zip_atF {α β : Type} {xs : List α} {ys : List β} {x : α × β} {n : Nat} (h : (xs.zip ys)[n]? = some x) : xs[n]? = some x.1 ∧ ys[n]? = some x.2 ∧ x.1 ∈ xs ∧ x.2 ∈ ys := by
  obtain ⟨h1, h2⟩ := List.getElem?_zip_eq_some.mp h
  exact ⟨h1, h2, List.mem_of_getElem? h1, List.mem_of_getElem? h2⟩
theorem zip_memF {α β : Type} {xs : List α} {ys : List β} {x : α × β} (h : x ∈ xs.zip ys) : x.1 ∈ xs ∧ x.2 ∈ ys := by
  obtain ⟨n, hn⟩ := List.mem_iff_getElem?.mp h
  exact (zip_atF hn).2.2
theorem mem_atF {α : Type} {xs : List α} {x : α} {n : Nat} (h : xs[n]? = some x) : x ∈ xs := List.mem_of_getElem? h
/-! ### chains of three -/
theorem pe_chain3 {op op' op2 : CmpOp} {r r' r2 : R2} {ta tb tc td : TE} (ho : OpR X (compareOp op) r) (ho' : OpR X (compareOp op') r') (ho2 : OpR X (compareOp op2) r2) (ha : PE X a ta) (hb : PE X b tb) (hc : PE X c tc) (hd : PE X d td)
    (hm : lastMarks [op, op', op2] [b, c, d] = false := by with_unfolding_all rfl) : PE X (.Compare a [op, op', op2] [b, c, d] pos)
      (fun σ H Q => ta σ H fun x H1 => tb σ H1 fun y H2 => r x y H2 fun z H3 => ∃ k, z = .bl k ∧ (if k = true then tc σ H3 fun w H4 => r' y w H4 fun z' H5 => ∃ k', z' = .bl k' ∧ (if k' = true then td σ H5 fun u H6 => r2 w u H6 Q else Q (.bl false) H5) else Q (.bl false) H3)) := by
  refine ⟨fun pins s σ H Q I h => ?_⟩
  refine Compare_chain (thn (ha.run pins s σ H _ I h) fun v s1 ⟨x, H1, I1, r1, q1⟩ => chain_link (thn (hb.run pins s1 σ H1 _ I1 q1) fun u s2 ⟨y, H2, I2, r2, q2⟩ =>
    thn (ho pins s2 σ H2 x y v u _ I2 r1 r2 q2) fun d s3 ⟨z, H3, I3, r3, k, e, q3⟩ => ?_)) hm
  subst e
  cases r3
  refine wpAny_truthy_bool ?_
  cases k with
  | false => exact ite_ff ⟨.bl false, H3, I3, rfl, q3⟩
  | true =>
    refine ite_tt (chain_link (thn (hc.run pins s3 σ H3 _ I3 q3) fun w' s4 ⟨z', H4, I4, r4, q4⟩ => thn (ho' pins s4 σ H4 y z' u w' _ I4 r2 r4 q4) fun d' s5 ⟨z2, H5, I5, r5, k2, e2, q5⟩ => ?_))
    subst e2
    cases r5
    refine wpAny_truthy_bool ?_
    cases k2 with
    | false => exact ite_ff ⟨.bl false, H5, I5, rfl, q5⟩
    | true => exact ite_tt (chain_last (thn (hd.run pins s5 σ H5 _ I5 q5) fun w2 s6 ⟨z3, H6, I6, r6, q6⟩ => ho2 pins s6 σ H6 z' z3 w' w2 Q I6 r4 r6 q6))
theorem v_chain3 {l : Int} {op op' op2 : CmpOp} {f f' f2 : Int → Int → Bool} (ho : OpR X (compareOp op) (rI0 fun i j => .bl (f i j))) (ho' : OpR X (compareOp op') (rI0 fun i j => .bl (f' i j))) (ho2 : OpR X (compareOp op2) (rI0 fun i j => .bl (f2 i j)))
    (ha : PV X Φ a i) (hb : PV X Φ b j) (hc : f i j = true → PV X Φ c k) (hd : f i j = true → f' j k = true → PV X Φ d l)
    (hm : lastMarks [op, op', op2] [b, c, d] = false := by with_unfolding_all rfl) : PV X Φ (.Compare a [op, op', op2] [b, c, d] pos) (f i j && f' j k && f2 k l) := .mk fun H0 σ F H Q s sl q =>
  wE_of (pe_chain3 ho ho' ho2 peW peW peW peW hm) (ha H0 σ F H _ s sl fun x F1 H1 g1 p1 => hb H0 σ F1 H1 _ g1.s (sl.gr g1) fun y F2 H2 g2 p2 => by
    cases p1; cases p2
    refine ⟨i, j, rfl, rfl, f i j, rfl, ?_⟩
    cases e : f i j with
    | true =>
      refine iteT (hc e H0 σ F2 H2 _ g2.s ((sl.gr g1).gr g2) fun z F3 H3 g3 p3 => ?_)
      cases p3
      refine ⟨j, k, rfl, rfl, f' j k, rfl, ?_⟩
      cases e' : f' j k with
      | true =>
        refine iteT (hd e e' H0 σ F3 H3 _ g3.s (((sl.gr g1).gr g2).gr g3) fun u F4 H4 g4 p4 => ?_)
        cases p4
        exact ⟨k, l, rfl, rfl, by
          have := q (.bl (f2 k l)) F4 H4 (((g1.trans g2).trans g3).trans g4) (by rw [e, e', Bool.true_and, Bool.true_and]; exact .bl _)
          exact this⟩
      | false => exact iteF (by
          have := q (.bl false) F3 H3 ((g1.trans g2).trans g3) (by rw [e, e', Bool.true_and, Bool.false_and]; exact .bl _)
          exact this)
    | false => exact iteF (by
        have := q (.bl false) F2 H2 (g1.trans g2) (by rw [e, Bool.false_and, Bool.false_and]; exact .bl _)
        exact this))
theorem pt_chain3 {op op' op2 : CmpOp} {r r' r2 : R2} {ta tb tc td : TE} (ho : OpR X (compareOp op) r) (ho' : OpR X (compareOp op') r') (ho2 : OpR X (compareOp op2) r2) (ha : PE X a ta) (hb : PE X b tb) (hc : PE X c tc) (hd : PE X d td)
    (hm : lastMarks [op, op', op2] [b, c, d] = false := by with_unfolding_all rfl) : PT X (.Compare a [op, op', op2] [b, c, d] pos)
      (tTest fun σ H Q => ta σ H fun x H1 => tb σ H1 fun y H2 => r x y H2 fun z H3 => ∃ k, z = .bl k ∧ (if k = true then tc σ H3 fun w H4 => r' y w H4 fun z' H5 => ∃ k', z' = .bl k' ∧ (if k' = true then td σ H5 fun u H6 => r2 w u H6 Q else Q (.bl false) H5) else Q (.bl false) H3)) := by
  refine ⟨fun pins s σ H Q I h => ?_⟩
  refine isTrue_chain (thn (ha.run pins s σ H _ I h) fun v s1 ⟨x, H1, I1, r1, q1⟩ => test_link (thn (hb.run pins s1 σ H1 _ I1 q1) fun u s2 ⟨y, H2, I2, r2, q2⟩ =>
    thn (ho pins s2 σ H2 x y v u _ I2 r1 r2 q2) fun d s3 ⟨z, H3, I3, r3, k, e, q3⟩ => ?_)) hm
  subst e
  cases r3
  refine wpAny_truthy_bool ?_
  cases k with
  | false =>
    obtain ⟨k', e', q'⟩ := q3
    cases e'
    exact ite_ff ⟨H3, I3, q'⟩
  | true =>
    refine ite_tt (test_link (thn (hc.run pins s3 σ H3 _ I3 q3) fun w' s4 ⟨z', H4, I4, r4, q4⟩ => thn (ho' pins s4 σ H4 y z' u w' _ I4 r2 r4 q4) fun d' s5 ⟨z2, H5, I5, r5, k2, e2, q5⟩ => ?_))
    subst e2
    cases r5
    refine wpAny_truthy_bool ?_
    cases k2 with
    | false =>
      obtain ⟨k', e', q'⟩ := q5
      cases e'
      exact ite_ff ⟨H5, I5, q'⟩
    | true =>
      refine ite_tt (test_last (thn (hd.run pins s5 σ H5 _ I5 q5) fun w2 s6 ⟨z3, H6, I6, r6, q6⟩ => thn (ho2 pins s6 σ H6 z' z3 w' w2 _ I6 r4 r6 q6) fun d2 s7 ⟨z4, H7, I7, r7, k3, e3, q7⟩ => ?_))
      subst e3
      cases r7
      exact wpAny_truthy_bool ⟨H7, I7, q7⟩
theorem t_chain3 {l : Int} {op op' op2 : CmpOp} {f f' f2 : Int → Int → Bool} (ho : OpR X (compareOp op) (rI0 fun i j => .bl (f i j))) (ho' : OpR X (compareOp op') (rI0 fun i j => .bl (f' i j))) (ho2 : OpR X (compareOp op2) (rI0 fun i j => .bl (f2 i j)))
    (ha : PV X Φ a i) (hb : PV X Φ b j) (hc : f i j = true → PV X Φ c k) (hd : f i j = true → f' j k = true → PV X Φ d l)
    (hm : lastMarks [op, op', op2] [b, c, d] = false := by with_unfolding_all rfl) : PTv X Φ (.Compare a [op, op', op2] [b, c, d] pos) (f i j && f' j k && f2 k l) := .mk fun H0 σ F H Q s sl q =>
  wT_of (pt_chain3 ho ho' ho2 peW peW peW peW hm) (ha H0 σ F H _ s sl fun x F1 H1 g1 p1 => hb H0 σ F1 H1 _ g1.s (sl.gr g1) fun y F2 H2 g2 p2 => by
    cases p1; cases p2
    refine ⟨i, j, rfl, rfl, f i j, rfl, ?_⟩
    cases e : f i j with
    | true =>
      refine iteT (hc e H0 σ F2 H2 _ g2.s ((sl.gr g1).gr g2) fun z F3 H3 g3 p3 => ?_)
      cases p3
      refine ⟨j, k, rfl, rfl, f' j k, rfl, ?_⟩
      cases e' : f' j k with
      | true =>
        refine iteT (hd e e' H0 σ F3 H3 _ g3.s (((sl.gr g1).gr g2).gr g3) fun u F4 H4 g4 p4 => ?_)
        cases p4
        exact ⟨k, l, rfl, rfl, _, rfl, by
          have := q F4 H4 (((g1.trans g2).trans g3).trans g4)
          rw [e, e', Bool.true_and, Bool.true_and] at this
          exact this⟩
      | false => exact iteF (by
          have := q F3 H3 ((g1.trans g2).trans g3)
          rw [e, e', Bool.true_and, Bool.false_and] at this
          exact ⟨_, rfl, this⟩)
    | false => exact iteF (by
        have := q F2 H2 (g1.trans g2)
        rw [e, Bool.false_and, Bool.false_and] at this
        exact ⟨_, rfl, this⟩))
/-! ### list(range(..)), tuples' slices and sums -/
theorem rgV_rng (lo hi : Int) : rgV lo hi = (rng lo hi).map V.int := by simp [rgV, rng]
theorem v_listR1 (B : Blt X.mg) (hc : X.calm = true) (ha : PV X Φ a i) (hi : 0 ≤ i ∧ i ≤ 16777216) (hg : Gl X "range" := by rfl) (hgl : Gl X "list" := by rfl) (h1 : nst a = true := by rfl) : PN X Φ (.Call (.Name "list" p) [.Call (.Name "range" p2) [a] [] pos'] [] pos) (rng 0 i) := .mk fun H0 σ F H Q s sl q =>
  wE_of (pe_listRg hc hgl B.list (prg_1 hg B.range peW (by rw [star_cons h1]))) (ha H0 σ F H _ s sl fun v F1 H1 g1 p1 => by
    cases p1
    exact ⟨i, rfl, RgOk.of_le (by omega) hi.2 (by omega) hi.1, fun t ht => q t _ F1 _ (g1.trans (Gr.own g1.s ht)) (fresh_of g1 ht).2 (fresh_of g1 ht).1 upd_same (by rw [rgV_rng]; exact ints_allP)⟩)
theorem v_listR2 (B : Blt X.mg) (hc : X.calm = true) (ha : PV X Φ a i) (hb : PV X Φ b j) (hi : 0 ≤ i ∧ i ≤ 16777216 ∧ 0 ≤ j ∧ j ≤ 16777216) (hg : Gl X "range" := by rfl) (hgl : Gl X "list" := by rfl) (h1 : nst a = true := by rfl) (h2 : nst b = true := by rfl) : PN X Φ (.Call (.Name "list" p) [.Call (.Name "range" p2) [a, b] [] pos'] [] pos) (rng i j) := .mk fun H0 σ F H Q s sl q =>
  wE_of (pe_listRg hc hgl B.list (prg_2 hg B.range peW peW (by rw [star_cons h1]) (by rw [star_cons h2]) (star_plain (by simp [h2])))) (ha H0 σ F H _ s sl fun v F1 H1 g1 p1 => hb H0 σ F1 H1 _ g1.s (sl.gr g1) fun w F2 H2 g2 p2 => by
    cases p1; cases p2
    exact ⟨i, j, rfl, rfl, RgOk.of_le hi.1 hi.2.2.2 hi.2.1 hi.2.2.1, fun t ht => q t _ F2 _ ((g1.trans g2).trans (Gr.own g2.s ht)) (fresh_of (g1.trans g2) ht).2 (fresh_of (g1.trans g2) ht).1 upd_same (by rw [rgV_rng]; exact ints_allP)⟩)
def slcT {α : Type} (t : Tup α) (lo hi : Option Int) : Tup α := ⟨slc t.l lo hi⟩
theorem slc_all {α : Type} {xs : List α} {lo hi : Option Int} (h : HT.sIx xs.length 0 lo = 0 ∧ HT.sIx xs.length xs.length hi = xs.length) : slc xs lo hi = xs := by
  unfold slc
  rw [h.1, h.2]; simp
theorem v_slT {α : Type} [Py α] {xs : Tup α} {lo hi : Option Expr} {l h : Option Int} (ha : PV X Φ a xs) (h1 : PO' X Φ lo l) (h2 : PO' X Φ hi h) : PV X Φ (.Subscript a (.Slice lo hi none p2) pos) (slcT xs l h) := .mk fun H0 σ F H Q s sl q => by
  have step : ∀ (o : Option Expr) (v : Option Int), PO' X Φ o v → ∃ t : TO, PO X o t ∧ ∀ (F H : Hp) (R : Option Int → Hp → Prop), Ex F H → Sl H0 Φ σ F H → (∀ F' H', Gr F H F' H' → R v H') → t σ H R := fun o v hv => by
    cases o with
    | none =>
      cases v with
      | none => exact ⟨_, po_none, fun F H R s sl r => r F H (Gr.refl s)⟩
      | some i => exact hv.elim
    | some e =>
      cases v with
      | none => exact hv.elim
      | some i => exact ⟨_, po_some peW, fun F H R s sl r => (show PV X Φ e i from hv) H0 σ F H _ s sl fun v F' H' g z => by cases z; exact ⟨i, rfl, r F' H' g⟩⟩
  obtain ⟨t1, k1, r1⟩ := step _ _ h1
  obtain ⟨t2, k2, r2⟩ := step _ _ h2
  refine wE_of (pe_slice sl_tupA peW k1 k2) (ha H0 σ F H _ s sl fun x F1 H1 g1 hx => r1 F1 H1 _ g1.s (sl.gr g1) fun F2 H2 g2 => r2 F2 H2 _ g2.s ((sl.gr g1).gr g2) fun F3 H3 g3 => ?_)
  obtain ⟨t, vs, rfl, ht, p1⟩ := py_tup.mp hx
  have g := (g1.trans g2).trans g3
  have hl : vs.length = xs.l.length := by simpa using p1.1
  refine ⟨t, vs, rfl, ex_t (g1.s.trans (g2.trans g3).h) ht, fun w => ?_, fun w u hu => ?_⟩
  · refine q _ F3 H3 g (py_tup.mpr ⟨t, vs, rfl, ex_t (g2.trans g3).f ht, ?_⟩)
    rw [hl] at w
    show AllP (rps X.K (slc xs.l l h)) F3 vs
    rw [slc_all w]
    exact p1.mono (g2.trans g3).f
  · refine q _ _ _ (g.trans (Gr.new g.s hu)) (py_tup.mpr ⟨u, _, rfl, SqT.of upd_same, ?_⟩)
    have := ((p1.mono (g2.trans g3).f).mono (Gr.new (o := .tup (cutV vs l h)) g.s hu).f).slc l h
    rw [slc_map] at this
    exact this
theorem v_catT {α : Type} [Py α] {xs ys : Tup α} (ha : PV X Φ a xs) (hb : PV X Φ b ys) (hz : xs.l.length + ys.l.length ≤ sizeLine) : PV X Φ (.BinOp a .Add b pos) (Tup.mk (xs.l ++ ys.l)) := .mk fun H0 σ F H Q s sl q =>
  wE_of (pe_op op_catA peW peW) (ha H0 σ F H _ s sl fun v F1 H1 g1 p1 => hb H0 σ F1 H1 _ g1.s (sl.gr g1) fun w F2 H2 g2 p2 => by
    obtain ⟨t, vs, rfl, ht, q1⟩ := py_tup.mp p1
    obtain ⟨u, ws, rfl, hu, q2⟩ := py_tup.mp p2
    have hl : vs.length = xs.l.length := by simpa using q1.1
    have hl2 : ws.length = ys.l.length := by simpa using q2.1
    have g := g1.trans g2
    refine ⟨t, u, vs, ws, rfl, rfl, ex_t (g1.s.trans g2.h) ht, ex_t g2.s hu, by omega, fun e0 => ?_, fun e0 e1 => ?_, fun e0 e1 z hz' => ?_⟩
    · subst e0
      have e2 : xs.l = [] := List.eq_nil_of_length_eq_zero (by rw [← hl]; rfl)
      refine q _ F2 H2 g (py_tup.mpr ⟨u, ws, rfl, hu, ?_⟩)
      show AllP (rps X.K (xs.l ++ ys.l)) F2 ws
      rw [e2]; exact q2
    · subst e1
      have e2 : ys.l = [] := List.eq_nil_of_length_eq_zero (by rw [← hl2]; rfl)
      refine q _ F2 H2 g (py_tup.mpr ⟨t, vs, rfl, ex_t g2.f ht, ?_⟩)
      show AllP (rps X.K (xs.l ++ ys.l)) F2 vs
      rw [e2, List.append_nil]; exact q1.mono g2.f
    · refine q _ _ _ (g.trans (Gr.new g.s hz')) (py_tup.mpr ⟨z, _, rfl, SqT.of upd_same, ?_⟩)
      show AllP (rps X.K (xs.l ++ ys.l)) _ _
      unfold rps
      rw [List.map_append]
      exact ((q1.mono g2.f).append q2).mono (Gr.new (o := .tup (vs ++ ws)) g.s hz').f)

/-! ### more statements -/
/-- xs.insert(i, e) -/
theorem h_ins {α : Type} [Py α] {o : Ctl S R} (n : Nat) {x : Str} {xs : List α} {v : α} {np apos : Pos} (hb : PV X Φ b i) (he : PV X Φ e v) (hi : 0 ≤ i ∧ i < 2 ^ 63) (hz : xs.length < sizeLine) (h : HB X W (A :: r) (Φ.set n (sO X.K (xs.take i.toNat ++ [v] ++ xs.drop i.toNat))) M T o) (ho : Φ[n]? = some (sO X.K xs) := by rfl) (hN : X.N[n]? = some x := by rfl)
    (hv : Vis X.env.scope x := by first | exact Or.inl rfl | exact Or.inr (Or.inl rfl) | exact Or.inr (Or.inr rfl)) (hd : (x == ("__debug__" : Str)) = false := by decide) (hcd : (x == ("__classdict__" : Str)) = false := by decide)
    (hsb : nst b = true := by rfl) (hst : nst e = true := by rfl) (hl : (apos.endLine == p.line) = true := by rfl) (hfew : ((backTo p (starEach [b, e] X.env)).all (fun x => !x.1) && (backToKw p (keywordEach [] X.env)).all (fun x => x.1.isSome)
      && decide ([b, e].length + ([] : List Keyword).length + (if ([] : List Keyword).isEmpty then 0 else 1) < 30)) = true := by rfl) : HB X W ((.Expr (.Call (.Attribute (.Name x np) "insert" apos) [b, e] [] p) pos :: A) :: r) Φ M T o := .mk fun F0 H0 D σ F H g sl k => by
  obtain ⟨l, vs, h1, h2, h3, h4, h5⟩ := sl.ow ho
  have hlen : vs.length = xs.length := by simpa using h5.1
  refine wK_cons (wS_of (ps_expr (pe_bm PySem.F.plainAttrs_list PySem.F.slot_list_insert PySem.F.type_list_insert mt_insert (pe_var hN hv hd hcd) (pa_cons peW (pa_cons peW pa_nil (star_cons hst)) (star_cons hsb)) rfl hfew hl (star_cons hsb) (star_plain (by simp [hst]))) rfl)
    ⟨_, h1, .inl ⟨rfl, vs, SqL.of h4⟩, hb H0 σ F H _ g.s sl fun w F1 H1 g1 p1 => he H0 σ F1 H1 _ g1.s (sl.gr g1) fun u F2 H2 g2 p2 => ?_⟩)
  cases p1
  have g12 := g1.trans g2
  have f1 : F2 l = none := g12.n l h3 (ne_none h4)
  refine ⟨l, vs, i, u, rfl, rfl, g12.h _ _ h4, by omega, hi.1, hi.2, ?_⟩
  refine h F0 H0 D σ F2 _ ((g.trans g12).write h2 f1) (Sl.write (sl.gr g12) ho h1 h2 f1 ?_) k
  have h6 := h5.mono g12.f
  rw [List.map_append, List.map_append, List.map_take, List.map_drop]
  exact ((AllP.take h6 _).append (.cons p2 .nil)).append (AllP.drop h6 _)
/-- xs.clear() -/
theorem h_clr {α : Type} [Py α] {o : Ctl S R} (n : Nat) {x : Str} {xs : List α} {np apos : Pos} (h : HB X W (A :: r) (Φ.set n (sO X.K ([] : List α))) M T o) (ho : Φ[n]? = some (sO X.K xs) := by rfl) (hN : X.N[n]? = some x := by rfl)
    (hv : Vis X.env.scope x := by first | exact Or.inl rfl | exact Or.inr (Or.inl rfl) | exact Or.inr (Or.inr rfl)) (hd : (x == ("__debug__" : Str)) = false := by decide) (hcd : (x == ("__classdict__" : Str)) = false := by decide)
    (hl : (apos.endLine == p.line) = true := by rfl) : HB X W ((.Expr (.Call (.Attribute (.Name x np) "clear" apos) [] [] p) pos :: A) :: r) Φ M T o := .mk fun F0 H0 D σ F H g sl k => by
  obtain ⟨l, vs, h1, h2, h3, h4, h5⟩ := sl.ow ho
  refine wK_cons (wS_of (ps_expr (pe_bm0 PySem.F.plainAttrs_list PySem.F.slot_list_clear PySem.F.type_list_clear mt_clear (pe_var hN hv hd hcd) rfl hl) rfl)
    ⟨_, h1, .inl ⟨rfl, vs, SqL.of h4⟩, l, vs, rfl, rfl, h4, ?_⟩)
  exact h F0 H0 D σ F _ (g.write h2 h3) (Sl.write sl ho h1 h2 h3 .nil) k
theorem AllP.erase {Ps : List MP} {F : Hp} {vs : List V} (h : AllP Ps F vs) (n : Nat) : AllP (Ps.eraseIdx n) F (vs.eraseIdx n) := by
  rw [List.eraseIdx_eq_take_drop_succ, List.eraseIdx_eq_take_drop_succ]
  exact (AllP.take h _).append (AllP.drop h _)
theorem map_erase {α β : Type} (f : α → β) : ∀ (xs : List α) (n : Nat), (xs.eraseIdx n).map f = (xs.map f).eraseIdx n
  | [], n => by simp
  | x :: xs, 0 => by simp
  | x :: xs, n + 1 => by simp [map_erase f xs n]
theorem seqIx {i : Int} {n : Nat} (h : 0 ≤ i ∧ i < n) : seqIndex? i n = some i.toNat := by
  unfold seqIndex?
  have e : (if i < 0 then i + (n : Int) else i) = i := if_neg (by omega)
  simp only [e]
  rw [if_pos (by simp [h.1, h.2])]
theorem ix_map {α : Type} [Py α] [Inhabited α] {K : Fg} {xs : List α} {i : Int} (h : 0 ≤ i ∧ i < xs.length) : (xs.map fun x => py K (enc x))[i.toNat]? = some (py K (enc (ix xs i))) := by
  have hi : i.toNat < xs.length := by omega
  rw [List.getElem?_map, List.getElem?_eq_getElem hi]
  simp [ix, List.getD, List.getElem?_eq_getElem hi]
/-- t = ys.pop(i), ys one's own; t's slots are us -/
theorem h_pop {α : Type} [Py α] [Inhabited α] {o : Ctl S R} {us : List (Nat × SD)} (n : Nat) {x : Str} {xs : List α} {np apos cpos : Pos} (hb : PV X Φ b i) (hi : 0 ≤ i ∧ i < xs.length) (hg : PGv X tg (py X.K (enc (ix xs i))) us)
    (h : HB X W (A :: r) (setAll (Φ.set n (sO X.K (xs.eraseIdx i.toNat))) us) M T o) (hz : xs.length ≤ 2 ^ 62 := by assumption) (ho : Φ[n]? = some (sO X.K xs) := by rfl) (hN : X.N[n]? = some x := by rfl)
    (hv : Vis X.env.scope x := by first | exact Or.inl rfl | exact Or.inr (Or.inl rfl) | exact Or.inr (Or.inr rfl)) (hd : (x == ("__debug__" : Str)) = false := by decide) (hcd : (x == ("__classdict__" : Str)) = false := by decide)
    (hsb : nst b = true := by rfl) (hl : (apos.endLine == cpos.line) = true := by rfl)
    (hs : swapsWithSole [tg] (.Call (.Attribute (.Name x np) "pop" apos) [b] [] cpos) pos.line X.env = pure false := by rfl) (hw : swappedStores [tg] (.Call (.Attribute (.Name x np) "pop" apos) [b] [] cpos) X.env = pure none := by rfl)
    (h1 : (assignEach [tg] X.env).map (·.2) = [assign tg X.env] := by rfl) : HB X W ((.Assign [tg] (.Call (.Attribute (.Name x np) "pop" apos) [b] [] cpos) pos :: A) :: r) Φ M T o := .mk fun F0 H0 D σ F H g sl k => by
  obtain ⟨l, vs, e1, h2, h3, h4, h5⟩ := sl.ow ho
  have hlen : vs.length = xs.length := by simpa using h5.1
  refine wK_cons (wS_of (ps_asg (pe_bm PySem.F.plainAttrs_list PySem.F.slot_list_pop PySem.F.type_list_pop mt_popAt (pe_var hN hv hd hcd) (pa_cons peW pa_nil (star_cons hsb)) rfl (few1 hsb) hl (star_cons hsb) rfl) pgW hs hw h1)
    ⟨_, e1, .inl ⟨rfl, vs, SqL.of h4⟩, hb H0 σ F H _ g.s sl fun w F1 H1 g1 p1 => ?_⟩)
  cases p1
  have f1 : F1 l = none := g1.n l h3 (ne_none h4)
  obtain ⟨y, y1, y2⟩ := allP_at (h5.mono g1.f) (ix_map hi)
  refine ⟨l, vs, i, i.toNat, y, rfl, rfl, g1.h _ _ h4, by omega, by omega, seqIx (by omega), y1, ?_⟩
  have g2 := (g.trans g1).write (o := .lst (vs.eraseIdx i.toNat)) h2 f1
  have s2 := Sl.write (Qs := (xs.eraseIdx i.toNat).map fun x => py X.K (enc x)) (vs := vs.eraseIdx i.toNat) (sl.gr g1) ho e1 h2 f1 (by
    rw [show (xs.eraseIdx i.toNat).map (fun x => py X.K (enc x)) = (xs.map fun x => py X.K (enc x)).eraseIdx i.toNat from map_erase ..]
    exact (h5.mono g1.f).erase _)
  exact hg H0 _ σ F1 _ y _ g2.s s2 y2 fun σ' sl' _ => h F0 H0 D σ' F1 _ g2 sl' k
/-- xs.append(ys.pop(i)), both one's own -/
theorem h_appPop {α : Type} [Py α] [Inhabited α] {o : Ctl S R} (n m : Nat) {x y : Str} {xs ys : List α} {np apos np2 apos2 cpos : Pos} (hnm : n ≠ m) (hb : PV X Φ b i) (hi : 0 ≤ i ∧ i < ys.length) (hz : xs.length < sizeLine) (hy : ys.length ≤ 2 ^ 62)
    (h : HB X W (A :: r) ((Φ.set m (sO X.K (ys.eraseIdx i.toNat))).set n (sO X.K (xs ++ [ix ys i]))) M T o) (ho : Φ[n]? = some (sO X.K xs) := by rfl) (ho2 : Φ[m]? = some (sO X.K ys) := by rfl) (hN : X.N[n]? = some x := by rfl) (hN2 : X.N[m]? = some y := by rfl)
    (hv : Vis X.env.scope x := by first | exact Or.inl rfl | exact Or.inr (Or.inl rfl) | exact Or.inr (Or.inr rfl)) (hd : (x == ("__debug__" : Str)) = false := by decide) (hcd : (x == ("__classdict__" : Str)) = false := by decide)
    (hv2 : Vis X.env.scope y := by first | exact Or.inl rfl | exact Or.inr (Or.inl rfl) | exact Or.inr (Or.inr rfl)) (hd2 : (y == ("__debug__" : Str)) = false := by decide) (hcd2 : (y == ("__classdict__" : Str)) = false := by decide)
    (hsb : nst b = true := by rfl) (hl : (apos.endLine == p.line) = true := by rfl) (hl2 : (apos2.endLine == cpos.line) = true := by rfl) :
    HB X W ((.Expr (.Call (.Attribute (.Name x np) "append" apos) [.Call (.Attribute (.Name y np2) "pop" apos2) [b] [] cpos] [] p) pos :: A) :: r) Φ M T o := .mk fun F0 H0 D σ F H g sl k => by
  obtain ⟨l, vs, e1, h2, h3, h4, h5⟩ := sl.ow ho
  obtain ⟨l2, ws, e1', h2', h3', h4', h5'⟩ := sl.ow ho2
  have hne : l ≠ l2 := sl.ow_ne hnm ho ho2 e1 e1'
  have hlen : vs.length = xs.length := by simpa using h5.1
  have hlen2 : ws.length = ys.length := by simpa using h5'.1
  refine wK_cons (wS_of (ps_expr (pe_bm PySem.F.plainAttrs_list PySem.F.slot_list_append PySem.F.type_list_append mt_append (pe_var hN hv hd hcd) (pa_cons (pe_bm PySem.F.plainAttrs_list PySem.F.slot_list_pop PySem.F.type_list_pop mt_popAt (pe_var hN2 hv2 hd2 hcd2) (pa_cons peW pa_nil (star_cons hsb)) rfl (few1 hsb) hl2 (star_cons hsb) rfl) pa_nil (star_cons rfl)) rfl (few1 rfl) hl (star_cons rfl) rfl) rfl)
    ⟨_, e1, .inl ⟨rfl, vs, SqL.of h4⟩, _, e1', .inl ⟨rfl, ws, SqL.of h4'⟩, hb H0 σ F H _ g.s sl fun w F1 H1 g1 p1 => ?_⟩)
  cases p1
  have f1 : F1 l = none := g1.n l h3 (ne_none h4)
  have f2 : F1 l2 = none := g1.n l2 h3' (ne_none h4')
  obtain ⟨y, y1, y2⟩ := allP_at (h5'.mono g1.f) (ix_map hi)
  refine ⟨l2, ws, i, i.toNat, y, rfl, rfl, g1.h _ _ h4', by omega, by omega, seqIx (by omega), y1, ?_⟩
  have g2 := (g.trans g1).write (o := .lst (ws.eraseIdx i.toNat)) h2' f2
  have s2 := Sl.write (Qs := (ys.eraseIdx i.toNat).map fun x => py X.K (enc x)) (vs := ws.eraseIdx i.toNat) (sl.gr g1) ho2 e1' h2' f2 (by
    rw [show (ys.eraseIdx i.toNat).map (fun x => py X.K (enc x)) = (ys.map fun x => py X.K (enc x)).eraseIdx i.toNat from map_erase ..]
    exact (h5'.mono g1.f).erase _)
  refine ⟨l, vs, y, rfl, rfl, by rw [upd_ne hne]; exact g1.h _ _ h4, by omega, ?_⟩
  have g3 := g2.write (o := .lst (vs ++ [y])) h2 f1
  refine h F0 H0 D σ F1 _ g3 (Sl.write s2 (by rw [List.getElem?_set_ne (fun z => hnm z.symm)]; exact ho) e1 h2 f1 ?_) k
  rw [List.map_append]; exact (h5.mono g1.f).snoc y2
/-- xs[-1] = e -/
theorem h_putL {α : Type} [Py α] {o : Ctl S R} (n : Nat) {x : Str} {xs : List α} {v : α} {np sp q1 q2 : Pos} (he : PV X Φ e v) (hz : 0 < xs.length) (h : HB X W (A :: r) (Φ.set n (sO X.K (xs.set (xs.length - 1) v))) M T o) (ho : Φ[n]? = some (sO X.K xs) := by rfl) (hN : X.N[n]? = some x := by rfl)
    (hv : Vis X.env.scope x := by first | exact Or.inl rfl | exact Or.inr (Or.inl rfl) | exact Or.inr (Or.inr rfl)) (hd : (x == ("__debug__" : Str)) = false := by decide) (hcd : (x == ("__classdict__" : Str)) = false := by decide)
    (ha : ∀ v, assign (.Subscript (.Name x np) (.UnaryOp .USub (.Constant (.int 1) 0 q1) q2) sp) X.env v = (do
      let ov ← holding [v] (eval (.Name x np) X.env)
      let iv ← holding [v, ov] (eval (.UnaryOp .USub (.Constant (.int 1) 0 q1) q2) X.env)
      standAt sp
      holding [v, ov, iv] (setItem ov iv v)
      release [v, ov, iv] []) := by intro _; rfl)
    (hs : swapsWithSole [.Subscript (.Name x np) (.UnaryOp .USub (.Constant (.int 1) 0 q1) q2) sp] e pos.line X.env = pure false := by rfl) (hw : swappedStores [.Subscript (.Name x np) (.UnaryOp .USub (.Constant (.int 1) 0 q1) q2) sp] e X.env = pure none := by rfl) : HB X W ((.Assign [.Subscript (.Name x np) (.UnaryOp .USub (.Constant (.int 1) 0 q1) q2) sp] e pos :: A) :: r) Φ M T o := .mk fun F0 H0 D σ F H g sl k => by
  obtain ⟨l, vs, h1, h2, h3, h4, h5⟩ := sl.ow ho
  have hlen : vs.length = xs.length := by simpa using h5.1
  refine wK_cons (wS_of (ps_asg peW (pg_sub (pe_var hN hv hd hcd) peW set_list ha) hs hw rfl) (he H0 σ F H _ g.s sl fun u F1 H1 g1 p1 => ⟨_, h1, v_neg (X := X) (Φ := Φ) v_int H0 σ F1 H1 _ g1.s (sl.gr g1) fun w F2 H2 g2 p2 => ?_⟩))
  cases p2
  have g12 := g1.trans g2
  have f2 : F2 l = none := g12.n l h3 (ne_none h4)
  refine ⟨l, vs, -1, xs.length - 1, rfl, rfl, g12.h _ _ h4, ?_, ?_⟩
  · unfold ixN
    rw [if_neg (by decide), if_pos (by omega)]
    congr 1; omega
  · refine h F0 H0 D σ F2 _ ((g.trans g12).write h2 f2) (Sl.write (sl.gr g12) ho h1 h2 f2 ?_) k
    rw [List.map_set]; exact (h5.mono g12.f).setV _ (dq_mono g2.f _ _ p1)
/-- x *= e, x += e -/
theorem h_aug {o : Ctl S R} {op : Operator} {v : Int} {ti : TIp} (n : Nat) {x : Str} {u : Int} (hN : X.N.Nodup) (he : PV X Φ e j) (hp : PIp X op ti) (hti : ∀ (H : Hp) (Q : VK), Q (.int v) H → ti (.int u) (.int j) H Q) (h : HB X W (A :: r) (Φ.set n (sI X.K v)) M T o) (ho : Φ[n]? = some (sI X.K u) := by rfl) (hi : X.N[n]? = some x := by rfl) (hx : Loc X.env.scope x := by first | exact Or.inl rfl | exact Or.inr rfl) (hf : X.fn x = true ∨ X.env.scope.names.lookup x = some .local := by first | exact .inl rfl | exact .inr rfl) :
    HB X W ((.AugAssign (.Name x p) op e pos :: A) :: r) Φ M T o := .mk fun F0 H0 D σ F H g sl k => by
  obtain ⟨w, h1, h2⟩ := sl.im ho
  cases h2
  exact wK_cons (wS_of (ps_aug hN hi hx peW hp hf) ⟨_, h1, he H0 σ F H _ g.s sl fun y F1 H1 g1 p1 => by
    cases p1
    exact hti _ _ (h F0 H0 D _ F1 H1 (g.trans g1) ((sl.gr g1).set ⟨_, rfl, .int _⟩ rfl) k)⟩)
theorem h_doc {o : Ctl S R} {x j pos'} (h : HB X W (A :: r) Φ M T o) : HB X W ((.Expr (.Constant (.str x) j pos) pos' :: A) :: r) Φ M T o := .mk fun F0 H0 D σ F H g sl k => wK_cons (wS_of ps_doc (h F0 H0 D σ F H g sl k))
theorem Wk.any0 {Φ : List SD} : Wk Φ (Φ.map fun _ => .un) := by
  induction Φ with
  | nil => exact .nil
  | cons d Φ ih => exact .drop ih
theorem h_appV {α : Type} [Py α] (n : Nat) {x : Str} {xs : List α} {v : α} {np apos : Pos} {k : List α → R} (he : PV X Φ e v) (hz : xs.length < sizeLine) (h : ∀ nm, nm = (xs ++ [v]) → HB X W (A :: r) (Φ.set n (sO X.K nm)) M T (.rt (k nm))) (ho : Φ[n]? = some (sO X.K xs) := by rfl) (hN : X.N[n]? = some x := by rfl) (hv : Vis X.env.scope x := by first | exact Or.inl rfl | exact Or.inr (Or.inl rfl) | exact Or.inr (Or.inr rfl)) (hd : (x == ("__debug__" : Str)) = false := by decide) (hcd : (x == ("__classdict__" : Str)) = false := by decide) (hst : nst e = true := by rfl) (hl : (apos.endLine == p.line) = true := by rfl) : HB X W ((.Expr (.Call (.Attribute (.Name x np) "append" apos) [e] [] p) pos :: A) :: r) Φ M T (.rt (bindV (xs ++ [v]) k)) := h_app n he hz (h _ rfl) ho hN hv hd hcd hst hl
theorem h_appC {α : Type} [Py α] (n : Nat) {x : Str} {xs : List α} {v : α} {np apos : Pos} {k : List α → Ctl S R} (he : PV X Φ e v) (hz : xs.length < sizeLine) (h : ∀ nm, nm = (xs ++ [v]) → HB X W (A :: r) (Φ.set n (sO X.K nm)) M T (k nm)) (ho : Φ[n]? = some (sO X.K xs) := by rfl) (hN : X.N[n]? = some x := by rfl) (hv : Vis X.env.scope x := by first | exact Or.inl rfl | exact Or.inr (Or.inl rfl) | exact Or.inr (Or.inr rfl)) (hd : (x == ("__debug__" : Str)) = false := by decide) (hcd : (x == ("__classdict__" : Str)) = false := by decide) (hst : nst e = true := by rfl) (hl : (apos.endLine == p.line) = true := by rfl) : HB X W ((.Expr (.Call (.Attribute (.Name x np) "append" apos) [e] [] p) pos :: A) :: r) Φ M T (bindV (xs ++ [v]) k) := h_app n he hz (h _ rfl) ho hN hv hd hcd hst hl
theorem h_appS {α : Type} [Py α] (n : Nat) {x : Str} {xs : List α} {v : α} {np apos : Pos} {k : List α → S} (he : PV X Φ e v) (hz : xs.length < sizeLine) (h : ∀ nm, nm = (xs ++ [v]) → HB X W (A :: r) (Φ.set n (sO X.K nm)) M T (.nx (k nm))) (ho : Φ[n]? = some (sO X.K xs) := by rfl) (hN : X.N[n]? = some x := by rfl) (hv : Vis X.env.scope x := by first | exact Or.inl rfl | exact Or.inr (Or.inl rfl) | exact Or.inr (Or.inr rfl)) (hd : (x == ("__debug__" : Str)) = false := by decide) (hcd : (x == ("__classdict__" : Str)) = false := by decide) (hst : nst e = true := by rfl) (hl : (apos.endLine == p.line) = true := by rfl) : HB X W ((.Expr (.Call (.Attribute (.Name x np) "append" apos) [e] [] p) pos :: A) :: r) Φ M T (.nx (bindV (xs ++ [v]) k)) := h_app n he hz (h _ rfl) ho hN hv hd hcd hst hl
theorem h_extV {α : Type} [Py α] (n : Nat) {x : Str} {xs ys : List α} {np apos : Pos} {k : List α → R} (he : PK X Φ e ys) (hz : xs.length + ys.length ≤ sizeLine) (h : ∀ nm, nm = (xs ++ ys) → HB X W (A :: r) (Φ.set n (sO X.K nm)) M T (.rt (k nm))) (ho : Φ[n]? = some (sO X.K xs) := by rfl) (hN : X.N[n]? = some x := by rfl) (hv : Vis X.env.scope x := by first | exact Or.inl rfl | exact Or.inr (Or.inl rfl) | exact Or.inr (Or.inr rfl)) (hd : (x == ("__debug__" : Str)) = false := by decide) (hcd : (x == ("__classdict__" : Str)) = false := by decide) (hst : nst e = true := by rfl) (hl : (apos.endLine == p.line) = true := by rfl) : HB X W ((.Expr (.Call (.Attribute (.Name x np) "extend" apos) [e] [] p) pos :: A) :: r) Φ M T (.rt (bindV (xs ++ ys) k)) := h_ext n he hz (h _ rfl) ho hN hv hd hcd hst hl
theorem h_extC {α : Type} [Py α] (n : Nat) {x : Str} {xs ys : List α} {np apos : Pos} {k : List α → Ctl S R} (he : PK X Φ e ys) (hz : xs.length + ys.length ≤ sizeLine) (h : ∀ nm, nm = (xs ++ ys) → HB X W (A :: r) (Φ.set n (sO X.K nm)) M T (k nm)) (ho : Φ[n]? = some (sO X.K xs) := by rfl) (hN : X.N[n]? = some x := by rfl) (hv : Vis X.env.scope x := by first | exact Or.inl rfl | exact Or.inr (Or.inl rfl) | exact Or.inr (Or.inr rfl)) (hd : (x == ("__debug__" : Str)) = false := by decide) (hcd : (x == ("__classdict__" : Str)) = false := by decide) (hst : nst e = true := by rfl) (hl : (apos.endLine == p.line) = true := by rfl) : HB X W ((.Expr (.Call (.Attribute (.Name x np) "extend" apos) [e] [] p) pos :: A) :: r) Φ M T (bindV (xs ++ ys) k) := h_ext n he hz (h _ rfl) ho hN hv hd hcd hst hl
theorem h_extS {α : Type} [Py α] (n : Nat) {x : Str} {xs ys : List α} {np apos : Pos} {k : List α → S} (he : PK X Φ e ys) (hz : xs.length + ys.length ≤ sizeLine) (h : ∀ nm, nm = (xs ++ ys) → HB X W (A :: r) (Φ.set n (sO X.K nm)) M T (.nx (k nm))) (ho : Φ[n]? = some (sO X.K xs) := by rfl) (hN : X.N[n]? = some x := by rfl) (hv : Vis X.env.scope x := by first | exact Or.inl rfl | exact Or.inr (Or.inl rfl) | exact Or.inr (Or.inr rfl)) (hd : (x == ("__debug__" : Str)) = false := by decide) (hcd : (x == ("__classdict__" : Str)) = false := by decide) (hst : nst e = true := by rfl) (hl : (apos.endLine == p.line) = true := by rfl) : HB X W ((.Expr (.Call (.Attribute (.Name x np) "extend" apos) [e] [] p) pos :: A) :: r) Φ M T (.nx (bindV (xs ++ ys) k)) := h_ext n he hz (h _ rfl) ho hN hv hd hcd hst hl
theorem h_putV {α : Type} [Py α] (n : Nat) {x : Str} {xs : List α} {v : α} {np sp : Pos} {k : List α → R} (he : PV X Φ e v) (hb : PV X Φ b i) (hz : 0 ≤ i ∧ i < xs.length) (h : ∀ nm, nm = (xs.set i.toNat v) → HB X W (A :: r) (Φ.set n (sO X.K nm)) M T (.rt (k nm))) (ho : Φ[n]? = some (sO X.K xs) := by rfl) (hN : X.N[n]? = some x := by rfl) (hv : Vis X.env.scope x := by first | exact Or.inl rfl | exact Or.inr (Or.inl rfl) | exact Or.inr (Or.inr rfl)) (hd : (x == ("__debug__" : Str)) = false := by decide) (hcd : (x == ("__classdict__" : Str)) = false := by decide) (ha : ∀ v, assign (.Subscript (.Name x np) b sp) X.env v = (do
      let ov ← holding [v] (eval (.Name x np) X.env)
      let iv ← holding [v, ov] (eval b X.env)
      standAt sp
      holding [v, ov, iv] (setItem ov iv v)
      release [v, ov, iv] []) := by intro _; rfl)
    (hs : swapsWithSole [.Subscript (.Name x np) b sp] e pos.line X.env = pure false := by rfl) (hw : swappedStores [.Subscript (.Name x np) b sp] e X.env = pure none := by rfl) : HB X W ((.Assign [.Subscript (.Name x np) b sp] e pos :: A) :: r) Φ M T (.rt (bindV (xs.set i.toNat v) k)) := h_put n he hb hz (h _ rfl) ho hN hv hd hcd ha hs hw
theorem h_putC {α : Type} [Py α] (n : Nat) {x : Str} {xs : List α} {v : α} {np sp : Pos} {k : List α → Ctl S R} (he : PV X Φ e v) (hb : PV X Φ b i) (hz : 0 ≤ i ∧ i < xs.length) (h : ∀ nm, nm = (xs.set i.toNat v) → HB X W (A :: r) (Φ.set n (sO X.K nm)) M T (k nm)) (ho : Φ[n]? = some (sO X.K xs) := by rfl) (hN : X.N[n]? = some x := by rfl) (hv : Vis X.env.scope x := by first | exact Or.inl rfl | exact Or.inr (Or.inl rfl) | exact Or.inr (Or.inr rfl)) (hd : (x == ("__debug__" : Str)) = false := by decide) (hcd : (x == ("__classdict__" : Str)) = false := by decide) (ha : ∀ v, assign (.Subscript (.Name x np) b sp) X.env v = (do
      let ov ← holding [v] (eval (.Name x np) X.env)
      let iv ← holding [v, ov] (eval b X.env)
      standAt sp
      holding [v, ov, iv] (setItem ov iv v)
      release [v, ov, iv] []) := by intro _; rfl)
    (hs : swapsWithSole [.Subscript (.Name x np) b sp] e pos.line X.env = pure false := by rfl) (hw : swappedStores [.Subscript (.Name x np) b sp] e X.env = pure none := by rfl) : HB X W ((.Assign [.Subscript (.Name x np) b sp] e pos :: A) :: r) Φ M T (bindV (xs.set i.toNat v) k) := h_put n he hb hz (h _ rfl) ho hN hv hd hcd ha hs hw
theorem h_putS {α : Type} [Py α] (n : Nat) {x : Str} {xs : List α} {v : α} {np sp : Pos} {k : List α → S} (he : PV X Φ e v) (hb : PV X Φ b i) (hz : 0 ≤ i ∧ i < xs.length) (h : ∀ nm, nm = (xs.set i.toNat v) → HB X W (A :: r) (Φ.set n (sO X.K nm)) M T (.nx (k nm))) (ho : Φ[n]? = some (sO X.K xs) := by rfl) (hN : X.N[n]? = some x := by rfl) (hv : Vis X.env.scope x := by first | exact Or.inl rfl | exact Or.inr (Or.inl rfl) | exact Or.inr (Or.inr rfl)) (hd : (x == ("__debug__" : Str)) = false := by decide) (hcd : (x == ("__classdict__" : Str)) = false := by decide) (ha : ∀ v, assign (.Subscript (.Name x np) b sp) X.env v = (do
      let ov ← holding [v] (eval (.Name x np) X.env)
      let iv ← holding [v, ov] (eval b X.env)
      standAt sp
      holding [v, ov, iv] (setItem ov iv v)
      release [v, ov, iv] []) := by intro _; rfl)
    (hs : swapsWithSole [.Subscript (.Name x np) b sp] e pos.line X.env = pure false := by rfl) (hw : swappedStores [.Subscript (.Name x np) b sp] e X.env = pure none := by rfl) : HB X W ((.Assign [.Subscript (.Name x np) b sp] e pos :: A) :: r) Φ M T (.nx (bindV (xs.set i.toNat v) k)) := h_put n he hb hz (h _ rfl) ho hN hv hd hcd ha hs hw
theorem h_putLV {α : Type} [Py α] (n : Nat) {x : Str} {xs : List α} {v : α} {np sp q1 q2 : Pos} {k : List α → R} (he : PV X Φ e v) (hz : 0 < xs.length) (h : ∀ nm, nm = (xs.set (xs.length - 1) v) → HB X W (A :: r) (Φ.set n (sO X.K nm)) M T (.rt (k nm))) (ho : Φ[n]? = some (sO X.K xs) := by rfl) (hN : X.N[n]? = some x := by rfl) (hv : Vis X.env.scope x := by first | exact Or.inl rfl | exact Or.inr (Or.inl rfl) | exact Or.inr (Or.inr rfl)) (hd : (x == ("__debug__" : Str)) = false := by decide) (hcd : (x == ("__classdict__" : Str)) = false := by decide) (ha : ∀ v, assign (.Subscript (.Name x np) (.UnaryOp .USub (.Constant (.int 1) 0 q1) q2) sp) X.env v = (do
      let ov ← holding [v] (eval (.Name x np) X.env)
      let iv ← holding [v, ov] (eval (.UnaryOp .USub (.Constant (.int 1) 0 q1) q2) X.env)
      standAt sp
      holding [v, ov, iv] (setItem ov iv v)
      release [v, ov, iv] []) := by intro _; rfl)
    (hs : swapsWithSole [.Subscript (.Name x np) (.UnaryOp .USub (.Constant (.int 1) 0 q1) q2) sp] e pos.line X.env = pure false := by rfl) (hw : swappedStores [.Subscript (.Name x np) (.UnaryOp .USub (.Constant (.int 1) 0 q1) q2) sp] e X.env = pure none := by rfl) : HB X W ((.Assign [.Subscript (.Name x np) (.UnaryOp .USub (.Constant (.int 1) 0 q1) q2) sp] e pos :: A) :: r) Φ M T (.rt (bindV (xs.set (xs.length - 1) v) k)) := h_putL n he hz (h _ rfl) ho hN hv hd hcd ha hs hw
theorem h_putLC {α : Type} [Py α] (n : Nat) {x : Str} {xs : List α} {v : α} {np sp q1 q2 : Pos} {k : List α → Ctl S R} (he : PV X Φ e v) (hz : 0 < xs.length) (h : ∀ nm, nm = (xs.set (xs.length - 1) v) → HB X W (A :: r) (Φ.set n (sO X.K nm)) M T (k nm)) (ho : Φ[n]? = some (sO X.K xs) := by rfl) (hN : X.N[n]? = some x := by rfl) (hv : Vis X.env.scope x := by first | exact Or.inl rfl | exact Or.inr (Or.inl rfl) | exact Or.inr (Or.inr rfl)) (hd : (x == ("__debug__" : Str)) = false := by decide) (hcd : (x == ("__classdict__" : Str)) = false := by decide) (ha : ∀ v, assign (.Subscript (.Name x np) (.UnaryOp .USub (.Constant (.int 1) 0 q1) q2) sp) X.env v = (do
      let ov ← holding [v] (eval (.Name x np) X.env)
      let iv ← holding [v, ov] (eval (.UnaryOp .USub (.Constant (.int 1) 0 q1) q2) X.env)
      standAt sp
      holding [v, ov, iv] (setItem ov iv v)
      release [v, ov, iv] []) := by intro _; rfl)
    (hs : swapsWithSole [.Subscript (.Name x np) (.UnaryOp .USub (.Constant (.int 1) 0 q1) q2) sp] e pos.line X.env = pure false := by rfl) (hw : swappedStores [.Subscript (.Name x np) (.UnaryOp .USub (.Constant (.int 1) 0 q1) q2) sp] e X.env = pure none := by rfl) : HB X W ((.Assign [.Subscript (.Name x np) (.UnaryOp .USub (.Constant (.int 1) 0 q1) q2) sp] e pos :: A) :: r) Φ M T (bindV (xs.set (xs.length - 1) v) k) := h_putL n he hz (h _ rfl) ho hN hv hd hcd ha hs hw
theorem h_putLS {α : Type} [Py α] (n : Nat) {x : Str} {xs : List α} {v : α} {np sp q1 q2 : Pos} {k : List α → S} (he : PV X Φ e v) (hz : 0 < xs.length) (h : ∀ nm, nm = (xs.set (xs.length - 1) v) → HB X W (A :: r) (Φ.set n (sO X.K nm)) M T (.nx (k nm))) (ho : Φ[n]? = some (sO X.K xs) := by rfl) (hN : X.N[n]? = some x := by rfl) (hv : Vis X.env.scope x := by first | exact Or.inl rfl | exact Or.inr (Or.inl rfl) | exact Or.inr (Or.inr rfl)) (hd : (x == ("__debug__" : Str)) = false := by decide) (hcd : (x == ("__classdict__" : Str)) = false := by decide) (ha : ∀ v, assign (.Subscript (.Name x np) (.UnaryOp .USub (.Constant (.int 1) 0 q1) q2) sp) X.env v = (do
      let ov ← holding [v] (eval (.Name x np) X.env)
      let iv ← holding [v, ov] (eval (.UnaryOp .USub (.Constant (.int 1) 0 q1) q2) X.env)
      standAt sp
      holding [v, ov, iv] (setItem ov iv v)
      release [v, ov, iv] []) := by intro _; rfl)
    (hs : swapsWithSole [.Subscript (.Name x np) (.UnaryOp .USub (.Constant (.int 1) 0 q1) q2) sp] e pos.line X.env = pure false := by rfl) (hw : swappedStores [.Subscript (.Name x np) (.UnaryOp .USub (.Constant (.int 1) 0 q1) q2) sp] e X.env = pure none := by rfl) : HB X W ((.Assign [.Subscript (.Name x np) (.UnaryOp .USub (.Constant (.int 1) 0 q1) q2) sp] e pos :: A) :: r) Φ M T (.nx (bindV (xs.set (xs.length - 1) v) k)) := h_putL n he hz (h _ rfl) ho hN hv hd hcd ha hs hw
theorem h_insV {α : Type} [Py α] (n : Nat) {x : Str} {xs : List α} {v : α} {np apos : Pos} {k : List α → R} (hb : PV X Φ b i) (he : PV X Φ e v) (hi : 0 ≤ i ∧ i < 2 ^ 63) (hz : xs.length < sizeLine) (h : ∀ nm, nm = (xs.take i.toNat ++ [v] ++ xs.drop i.toNat) → HB X W (A :: r) (Φ.set n (sO X.K nm)) M T (.rt (k nm))) (ho : Φ[n]? = some (sO X.K xs) := by rfl) (hN : X.N[n]? = some x := by rfl) (hv : Vis X.env.scope x := by first | exact Or.inl rfl | exact Or.inr (Or.inl rfl) | exact Or.inr (Or.inr rfl)) (hd : (x == ("__debug__" : Str)) = false := by decide) (hcd : (x == ("__classdict__" : Str)) = false := by decide) (hsb : nst b = true := by rfl) (hst : nst e = true := by rfl) (hl : (apos.endLine == p.line) = true := by rfl) (hfew : ((backTo p (starEach [b, e] X.env)).all (fun x => !x.1) && (backToKw p (keywordEach [] X.env)).all (fun x => x.1.isSome)
      && decide ([b, e].length + ([] : List Keyword).length + (if ([] : List Keyword).isEmpty then 0 else 1) < 30)) = true := by rfl) : HB X W ((.Expr (.Call (.Attribute (.Name x np) "insert" apos) [b, e] [] p) pos :: A) :: r) Φ M T (.rt (bindV (xs.take i.toNat ++ [v] ++ xs.drop i.toNat) k)) := h_ins n hb he hi hz (h _ rfl) ho hN hv hd hcd hsb hst hl hfew
theorem h_insC {α : Type} [Py α] (n : Nat) {x : Str} {xs : List α} {v : α} {np apos : Pos} {k : List α → Ctl S R} (hb : PV X Φ b i) (he : PV X Φ e v) (hi : 0 ≤ i ∧ i < 2 ^ 63) (hz : xs.length < sizeLine) (h : ∀ nm, nm = (xs.take i.toNat ++ [v] ++ xs.drop i.toNat) → HB X W (A :: r) (Φ.set n (sO X.K nm)) M T (k nm)) (ho : Φ[n]? = some (sO X.K xs) := by rfl) (hN : X.N[n]? = some x := by rfl) (hv : Vis X.env.scope x := by first | exact Or.inl rfl | exact Or.inr (Or.inl rfl) | exact Or.inr (Or.inr rfl)) (hd : (x == ("__debug__" : Str)) = false := by decide) (hcd : (x == ("__classdict__" : Str)) = false := by decide) (hsb : nst b = true := by rfl) (hst : nst e = true := by rfl) (hl : (apos.endLine == p.line) = true := by rfl) (hfew : ((backTo p (starEach [b, e] X.env)).all (fun x => !x.1) && (backToKw p (keywordEach [] X.env)).all (fun x => x.1.isSome)
      && decide ([b, e].length + ([] : List Keyword).length + (if ([] : List Keyword).isEmpty then 0 else 1) < 30)) = true := by rfl) : HB X W ((.Expr (.Call (.Attribute (.Name x np) "insert" apos) [b, e] [] p) pos :: A) :: r) Φ M T (bindV (xs.take i.toNat ++ [v] ++ xs.drop i.toNat) k) := h_ins n hb he hi hz (h _ rfl) ho hN hv hd hcd hsb hst hl hfew
theorem h_insS {α : Type} [Py α] (n : Nat) {x : Str} {xs : List α} {v : α} {np apos : Pos} {k : List α → S} (hb : PV X Φ b i) (he : PV X Φ e v) (hi : 0 ≤ i ∧ i < 2 ^ 63) (hz : xs.length < sizeLine) (h : ∀ nm, nm = (xs.take i.toNat ++ [v] ++ xs.drop i.toNat) → HB X W (A :: r) (Φ.set n (sO X.K nm)) M T (.nx (k nm))) (ho : Φ[n]? = some (sO X.K xs) := by rfl) (hN : X.N[n]? = some x := by rfl) (hv : Vis X.env.scope x := by first | exact Or.inl rfl | exact Or.inr (Or.inl rfl) | exact Or.inr (Or.inr rfl)) (hd : (x == ("__debug__" : Str)) = false := by decide) (hcd : (x == ("__classdict__" : Str)) = false := by decide) (hsb : nst b = true := by rfl) (hst : nst e = true := by rfl) (hl : (apos.endLine == p.line) = true := by rfl) (hfew : ((backTo p (starEach [b, e] X.env)).all (fun x => !x.1) && (backToKw p (keywordEach [] X.env)).all (fun x => x.1.isSome)
      && decide ([b, e].length + ([] : List Keyword).length + (if ([] : List Keyword).isEmpty then 0 else 1) < 30)) = true := by rfl) : HB X W ((.Expr (.Call (.Attribute (.Name x np) "insert" apos) [b, e] [] p) pos :: A) :: r) Φ M T (.nx (bindV (xs.take i.toNat ++ [v] ++ xs.drop i.toNat) k)) := h_ins n hb he hi hz (h _ rfl) ho hN hv hd hcd hsb hst hl hfew
theorem h_clrV {α : Type} [Py α] (n : Nat) {x : Str} {xs : List α} {np apos : Pos} {k : List α → R}  (h : ∀ nm, nm = ([] : List α) → HB X W (A :: r) (Φ.set n (sO X.K nm)) M T (.rt (k nm))) (ho : Φ[n]? = some (sO X.K xs) := by rfl) (hN : X.N[n]? = some x := by rfl) (hv : Vis X.env.scope x := by first | exact Or.inl rfl | exact Or.inr (Or.inl rfl) | exact Or.inr (Or.inr rfl)) (hd : (x == ("__debug__" : Str)) = false := by decide) (hcd : (x == ("__classdict__" : Str)) = false := by decide) (hl : (apos.endLine == p.line) = true := by rfl) : HB X W ((.Expr (.Call (.Attribute (.Name x np) "clear" apos) [] [] p) pos :: A) :: r) Φ M T (.rt (bindV ([] : List α) k)) := h_clr n (h _ rfl) ho hN hv hd hcd hl
theorem h_clrC {α : Type} [Py α] (n : Nat) {x : Str} {xs : List α} {np apos : Pos} {k : List α → Ctl S R}  (h : ∀ nm, nm = ([] : List α) → HB X W (A :: r) (Φ.set n (sO X.K nm)) M T (k nm)) (ho : Φ[n]? = some (sO X.K xs) := by rfl) (hN : X.N[n]? = some x := by rfl) (hv : Vis X.env.scope x := by first | exact Or.inl rfl | exact Or.inr (Or.inl rfl) | exact Or.inr (Or.inr rfl)) (hd : (x == ("__debug__" : Str)) = false := by decide) (hcd : (x == ("__classdict__" : Str)) = false := by decide) (hl : (apos.endLine == p.line) = true := by rfl) : HB X W ((.Expr (.Call (.Attribute (.Name x np) "clear" apos) [] [] p) pos :: A) :: r) Φ M T (bindV ([] : List α) k) := h_clr n (h _ rfl) ho hN hv hd hcd hl
theorem h_clrS {α : Type} [Py α] (n : Nat) {x : Str} {xs : List α} {np apos : Pos} {k : List α → S}  (h : ∀ nm, nm = ([] : List α) → HB X W (A :: r) (Φ.set n (sO X.K nm)) M T (.nx (k nm))) (ho : Φ[n]? = some (sO X.K xs) := by rfl) (hN : X.N[n]? = some x := by rfl) (hv : Vis X.env.scope x := by first | exact Or.inl rfl | exact Or.inr (Or.inl rfl) | exact Or.inr (Or.inr rfl)) (hd : (x == ("__debug__" : Str)) = false := by decide) (hcd : (x == ("__classdict__" : Str)) = false := by decide) (hl : (apos.endLine == p.line) = true := by rfl) : HB X W ((.Expr (.Call (.Attribute (.Name x np) "clear" apos) [] [] p) pos :: A) :: r) Φ M T (.nx (bindV ([] : List α) k)) := h_clr n (h _ rfl) ho hN hv hd hcd hl
theorem h_augAV (n : Nat) {x : Str} {u : Int} {k : Int → R} (hN : X.N.Nodup) (he : PV X Φ e j) (h : ∀ nm, nm = (u + j) → HB X W (A :: r) (Φ.set n (sI X.K nm)) M T (.rt (k nm))) (ho : Φ[n]? = some (sI X.K u) := by rfl) (hi : X.N[n]? = some x := by rfl) (hx : Loc X.env.scope x := by first | exact Or.inl rfl | exact Or.inr rfl) (hf : X.fn x = true ∨ X.env.scope.names.lookup x = some .local := by first | exact .inl rfl | exact .inr rfl) : HB X W ((.AugAssign (.Name x p) .Add e pos :: A) :: r) Φ M T (.rt (bindV (u + j) k)) := h_aug n hN he ip_add (fun H Q q => ⟨u, j, rfl, rfl, q⟩) (h _ rfl) ho hi hx hf
theorem h_augAC (n : Nat) {x : Str} {u : Int} {k : Int → Ctl S R} (hN : X.N.Nodup) (he : PV X Φ e j) (h : ∀ nm, nm = (u + j) → HB X W (A :: r) (Φ.set n (sI X.K nm)) M T (k nm)) (ho : Φ[n]? = some (sI X.K u) := by rfl) (hi : X.N[n]? = some x := by rfl) (hx : Loc X.env.scope x := by first | exact Or.inl rfl | exact Or.inr rfl) (hf : X.fn x = true ∨ X.env.scope.names.lookup x = some .local := by first | exact .inl rfl | exact .inr rfl) : HB X W ((.AugAssign (.Name x p) .Add e pos :: A) :: r) Φ M T (bindV (u + j) k) := h_aug n hN he ip_add (fun H Q q => ⟨u, j, rfl, rfl, q⟩) (h _ rfl) ho hi hx hf
theorem h_augAS (n : Nat) {x : Str} {u : Int} {k : Int → S} (hN : X.N.Nodup) (he : PV X Φ e j) (h : ∀ nm, nm = (u + j) → HB X W (A :: r) (Φ.set n (sI X.K nm)) M T (.nx (k nm))) (ho : Φ[n]? = some (sI X.K u) := by rfl) (hi : X.N[n]? = some x := by rfl) (hx : Loc X.env.scope x := by first | exact Or.inl rfl | exact Or.inr rfl) (hf : X.fn x = true ∨ X.env.scope.names.lookup x = some .local := by first | exact .inl rfl | exact .inr rfl) : HB X W ((.AugAssign (.Name x p) .Add e pos :: A) :: r) Φ M T (.nx (bindV (u + j) k)) := h_aug n hN he ip_add (fun H Q q => ⟨u, j, rfl, rfl, q⟩) (h _ rfl) ho hi hx hf
theorem h_lcV {α β : Type} [Py α] [Py β] {xs : List α} {f : α → β} {k : List β → R} {elt : Expr} {scope : Scope} (n : Nat) {x : Str} {py_ spos : Pos} (own : List (Str × Nat)) (us : α → List (Nat × SD)) (hc : X.calm = true) (hN : X.N.Nodup) (ok : BlkOk X.N X.env.scope scope own) (hi : PIt X Φ tg iter xs) (hz : xs.length ≤ sizeLine)
    (hg : ∀ x, ∀ (s : Shared) (H : Hp) (C : Addr) (cl : List (Str × Addr)) (fp : List Addr), PGt (X.blk s H scope (compEnvC scope cl C X.env) fp) tg x (us x)) (hu : ∀ x, ∀ u ∈ us x, u.1 ∈ own.map (·.2))
    (he : ∀ x, x ∈ xs → ∀ (s : Shared) (H : Hp) (C : Addr) (cl : List (Str × Addr)) (fp : List Addr), PEv (X.blk s H scope (compEnvC scope cl C X.env) fp) (setAll (wipeS Φ (own.map (·.2))) (us x)) elt (py X.K (enc (f x))))
    (h : ∀ nm, nm = (xs.map f) → HB X W (A :: r) (Φ.set n (sO X.K nm)) M T (.rt (k nm)))
    (hn : X.N[n]? = some x := by rfl) (hl : X.env.scope.names.lookup x = some .local := by rfl) (hsw : swapsWith (.ListComp elt [⟨tg, iter, [], 0⟩] scope pos) (some (.Name x py_)) spos.line X.env = pure true := by exact sw_true rfl rfl rfl (by decide +kernel)) (hs : ∀ x, foldedSetIterable iter X.env x = pure x := by intro _; rfl) :
    HB X W ((.Assign [.Name x py_] (.ListComp elt [⟨tg, iter, [], 0⟩] scope pos) spos :: A) :: r) Φ M T (.rt (bindV (xs.map f) k)) := h_lc n own us hc hN ok hi hz hg hu he (h _ rfl) hn hl hsw hs
theorem h_lcIfV {α β : Type} [Py α] [Py β] {xs : List α} {cnd : α → Bool} {f : α → β} {k : List β → R} {elt : Expr} {scope : Scope} (n : Nat) {x : Str} {py_ spos : Pos} (own : List (Str × Nat)) (us : α → List (Nat × SD)) (hc : X.calm = true) (hN : X.N.Nodup) (ok : BlkOk X.N X.env.scope scope own) (hi : PIt X Φ tg iter xs) (hz : xs.length ≤ sizeLine)
    (hg : ∀ x, ∀ (s : Shared) (H : Hp) (C : Addr) (cl : List (Str × Addr)) (fp : List Addr), PGt (X.blk s H scope (compEnvC scope cl C X.env) fp) tg x (us x)) (hu : ∀ x, ∀ u ∈ us x, u.1 ∈ own.map (·.2))
    (ht : ∀ x, x ∈ xs → ∀ (s : Shared) (H : Hp) (C : Addr) (cl : List (Str × Addr)) (fp : List Addr), PTv (X.blk s H scope (compEnvC scope cl C X.env) fp) (setAll (wipeS Φ (own.map (·.2))) (us x)) c (cnd x))
    (he : ∀ x, x ∈ xs → cnd x = true → ∀ (s : Shared) (H : Hp) (C : Addr) (cl : List (Str × Addr)) (fp : List Addr), PEv (X.blk s H scope (compEnvC scope cl C X.env) fp) (setAll (wipeS Φ (own.map (·.2))) (us x)) elt (py X.K (enc (f x))))
    (h : ∀ nm, nm = ((xs.filter cnd).map f) → HB X W (A :: r) (Φ.set n (sO X.K nm)) M T (.rt (k nm)))
    (hn : X.N[n]? = some x := by rfl) (hl : X.env.scope.names.lookup x = some .local := by rfl) (hsw : swapsWith (.ListComp elt [⟨tg, iter, [c], 0⟩] scope pos) (some (.Name x py_)) spos.line X.env = pure true := by exact sw_true rfl rfl rfl (by decide +kernel)) (hs : ∀ x, foldedSetIterable iter X.env x = pure x := by intro _; rfl) :
    HB X W ((.Assign [.Name x py_] (.ListComp elt [⟨tg, iter, [c], 0⟩] scope pos) spos :: A) :: r) Φ M T (.rt (bindV ((xs.filter cnd).map f) k)) := h_lcIf n own us hc hN ok hi hz hg hu ht he (h _ rfl) hn hl hsw hs
theorem h_popV {α : Type} [Py α] [Inhabited α] {us : α → List (Nat × SD)} {k : α → List α → R} (n : Nat) {x : Str} {xs : List α} {np apos cpos : Pos} (hb : PV X Φ b i) (hi : 0 ≤ i ∧ i < xs.length) (hz : xs.length ≤ 2 ^ 62) (hg : ∀ z, PGv X tg (py X.K (enc z)) (us z))
    (h : ∀ nm, nm = ix xs i → ∀ nm2, nm2 = xs.eraseIdx i.toNat → HB X W (A :: r) (setAll (Φ.set n (sO X.K nm2)) (us nm)) M T (.rt (k nm nm2))) (ho : Φ[n]? = some (sO X.K xs) := by rfl) (hN : X.N[n]? = some x := by rfl)
    (hv : Vis X.env.scope x := by first | exact Or.inl rfl | exact Or.inr (Or.inl rfl) | exact Or.inr (Or.inr rfl)) (hd : (x == ("__debug__" : Str)) = false := by decide) (hcd : (x == ("__classdict__" : Str)) = false := by decide)
    (hsb : nst b = true := by rfl) (hl : (apos.endLine == cpos.line) = true := by rfl)
    (hs : swapsWithSole [tg] (.Call (.Attribute (.Name x np) "pop" apos) [b] [] cpos) pos.line X.env = pure false := by rfl) (hw : swappedStores [tg] (.Call (.Attribute (.Name x np) "pop" apos) [b] [] cpos) X.env = pure none := by rfl)
    (h1 : (assignEach [tg] X.env).map (·.2) = [assign tg X.env] := by rfl) : HB X W ((.Assign [tg] (.Call (.Attribute (.Name x np) "pop" apos) [b] [] cpos) pos :: A) :: r) Φ M T (.rt (bindV (ix xs i) fun nm => bindV (xs.eraseIdx i.toNat) fun nm2 => k nm nm2)) := h_pop n hb hi (hg _) (h _ rfl _ rfl) hz ho hN hv hd hcd hsb hl hs hw h1
theorem h_appPopV {α : Type} [Py α] [Inhabited α] {k : List α → List α → R} (n m : Nat) {x y : Str} {xs ys : List α} {np apos np2 apos2 cpos : Pos} (hnm : n ≠ m) (hb : PV X Φ b i) (hi : 0 ≤ i ∧ i < ys.length) (hz : xs.length < sizeLine) (hy : ys.length ≤ 2 ^ 62)
    (h : ∀ nm, nm = xs ++ [ix ys i] → ∀ nm2, nm2 = ys.eraseIdx i.toNat → HB X W (A :: r) ((Φ.set m (sO X.K nm2)).set n (sO X.K nm)) M T (.rt (k nm nm2))) (ho : Φ[n]? = some (sO X.K xs) := by rfl) (ho2 : Φ[m]? = some (sO X.K ys) := by rfl) (hN : X.N[n]? = some x := by rfl) (hN2 : X.N[m]? = some y := by rfl)
    (hv : Vis X.env.scope x := by first | exact Or.inl rfl | exact Or.inr (Or.inl rfl) | exact Or.inr (Or.inr rfl)) (hd : (x == ("__debug__" : Str)) = false := by decide) (hcd : (x == ("__classdict__" : Str)) = false := by decide)
    (hv2 : Vis X.env.scope y := by first | exact Or.inl rfl | exact Or.inr (Or.inl rfl) | exact Or.inr (Or.inr rfl)) (hd2 : (y == ("__debug__" : Str)) = false := by decide) (hcd2 : (y == ("__classdict__" : Str)) = false := by decide)
    (hsb : nst b = true := by rfl) (hl : (apos.endLine == p.line) = true := by rfl) (hl2 : (apos2.endLine == cpos.line) = true := by rfl) :
    HB X W ((.Expr (.Call (.Attribute (.Name x np) "append" apos) [.Call (.Attribute (.Name y np2) "pop" apos2) [b] [] cpos] [] p) pos :: A) :: r) Φ M T (.rt (bindV (xs ++ [ix ys i]) fun nm => bindV (ys.eraseIdx i.toNat) fun nm2 => k nm nm2)) := h_appPop n m hnm hb hi hz hy (h _ rfl _ rfl) ho ho2 hN hN2 hv hd hcd hv2 hd2 hcd2 hsb hl hl2
theorem h_lcC {α β : Type} [Py α] [Py β] {xs : List α} {f : α → β} {k : List β → Ctl S R} {elt : Expr} {scope : Scope} (n : Nat) {x : Str} {py_ spos : Pos} (own : List (Str × Nat)) (us : α → List (Nat × SD)) (hc : X.calm = true) (hN : X.N.Nodup) (ok : BlkOk X.N X.env.scope scope own) (hi : PIt X Φ tg iter xs) (hz : xs.length ≤ sizeLine)
    (hg : ∀ x, ∀ (s : Shared) (H : Hp) (C : Addr) (cl : List (Str × Addr)) (fp : List Addr), PGt (X.blk s H scope (compEnvC scope cl C X.env) fp) tg x (us x)) (hu : ∀ x, ∀ u ∈ us x, u.1 ∈ own.map (·.2))
    (he : ∀ x, x ∈ xs → ∀ (s : Shared) (H : Hp) (C : Addr) (cl : List (Str × Addr)) (fp : List Addr), PEv (X.blk s H scope (compEnvC scope cl C X.env) fp) (setAll (wipeS Φ (own.map (·.2))) (us x)) elt (py X.K (enc (f x))))
    (h : ∀ nm, nm = (xs.map f) → HB X W (A :: r) (Φ.set n (sO X.K nm)) M T (k nm))
    (hn : X.N[n]? = some x := by rfl) (hl : X.env.scope.names.lookup x = some .local := by rfl) (hsw : swapsWith (.ListComp elt [⟨tg, iter, [], 0⟩] scope pos) (some (.Name x py_)) spos.line X.env = pure true := by exact sw_true rfl rfl rfl (by decide +kernel)) (hs : ∀ x, foldedSetIterable iter X.env x = pure x := by intro _; rfl) :
    HB X W ((.Assign [.Name x py_] (.ListComp elt [⟨tg, iter, [], 0⟩] scope pos) spos :: A) :: r) Φ M T (bindV (xs.map f) k) := h_lc n own us hc hN ok hi hz hg hu he (h _ rfl) hn hl hsw hs
theorem h_lcIfC {α β : Type} [Py α] [Py β] {xs : List α} {cnd : α → Bool} {f : α → β} {k : List β → Ctl S R} {elt : Expr} {scope : Scope} (n : Nat) {x : Str} {py_ spos : Pos} (own : List (Str × Nat)) (us : α → List (Nat × SD)) (hc : X.calm = true) (hN : X.N.Nodup) (ok : BlkOk X.N X.env.scope scope own) (hi : PIt X Φ tg iter xs) (hz : xs.length ≤ sizeLine)
    (hg : ∀ x, ∀ (s : Shared) (H : Hp) (C : Addr) (cl : List (Str × Addr)) (fp : List Addr), PGt (X.blk s H scope (compEnvC scope cl C X.env) fp) tg x (us x)) (hu : ∀ x, ∀ u ∈ us x, u.1 ∈ own.map (·.2))
    (ht : ∀ x, x ∈ xs → ∀ (s : Shared) (H : Hp) (C : Addr) (cl : List (Str × Addr)) (fp : List Addr), PTv (X.blk s H scope (compEnvC scope cl C X.env) fp) (setAll (wipeS Φ (own.map (·.2))) (us x)) c (cnd x))
    (he : ∀ x, x ∈ xs → cnd x = true → ∀ (s : Shared) (H : Hp) (C : Addr) (cl : List (Str × Addr)) (fp : List Addr), PEv (X.blk s H scope (compEnvC scope cl C X.env) fp) (setAll (wipeS Φ (own.map (·.2))) (us x)) elt (py X.K (enc (f x))))
    (h : ∀ nm, nm = ((xs.filter cnd).map f) → HB X W (A :: r) (Φ.set n (sO X.K nm)) M T (k nm))
    (hn : X.N[n]? = some x := by rfl) (hl : X.env.scope.names.lookup x = some .local := by rfl) (hsw : swapsWith (.ListComp elt [⟨tg, iter, [c], 0⟩] scope pos) (some (.Name x py_)) spos.line X.env = pure true := by exact sw_true rfl rfl rfl (by decide +kernel)) (hs : ∀ x, foldedSetIterable iter X.env x = pure x := by intro _; rfl) :
    HB X W ((.Assign [.Name x py_] (.ListComp elt [⟨tg, iter, [c], 0⟩] scope pos) spos :: A) :: r) Φ M T (bindV ((xs.filter cnd).map f) k) := h_lcIf n own us hc hN ok hi hz hg hu ht he (h _ rfl) hn hl hsw hs
theorem h_popC {α : Type} [Py α] [Inhabited α] {us : α → List (Nat × SD)} {k : α → List α → Ctl S R} (n : Nat) {x : Str} {xs : List α} {np apos cpos : Pos} (hb : PV X Φ b i) (hi : 0 ≤ i ∧ i < xs.length) (hz : xs.length ≤ 2 ^ 62) (hg : ∀ z, PGv X tg (py X.K (enc z)) (us z))
    (h : ∀ nm, nm = ix xs i → ∀ nm2, nm2 = xs.eraseIdx i.toNat → HB X W (A :: r) (setAll (Φ.set n (sO X.K nm2)) (us nm)) M T (k nm nm2)) (ho : Φ[n]? = some (sO X.K xs) := by rfl) (hN : X.N[n]? = some x := by rfl)
    (hv : Vis X.env.scope x := by first | exact Or.inl rfl | exact Or.inr (Or.inl rfl) | exact Or.inr (Or.inr rfl)) (hd : (x == ("__debug__" : Str)) = false := by decide) (hcd : (x == ("__classdict__" : Str)) = false := by decide)
    (hsb : nst b = true := by rfl) (hl : (apos.endLine == cpos.line) = true := by rfl)
    (hs : swapsWithSole [tg] (.Call (.Attribute (.Name x np) "pop" apos) [b] [] cpos) pos.line X.env = pure false := by rfl) (hw : swappedStores [tg] (.Call (.Attribute (.Name x np) "pop" apos) [b] [] cpos) X.env = pure none := by rfl)
    (h1 : (assignEach [tg] X.env).map (·.2) = [assign tg X.env] := by rfl) : HB X W ((.Assign [tg] (.Call (.Attribute (.Name x np) "pop" apos) [b] [] cpos) pos :: A) :: r) Φ M T (bindV (ix xs i) fun nm => bindV (xs.eraseIdx i.toNat) fun nm2 => k nm nm2) := h_pop n hb hi (hg _) (h _ rfl _ rfl) hz ho hN hv hd hcd hsb hl hs hw h1
theorem h_appPopC {α : Type} [Py α] [Inhabited α] {k : List α → List α → Ctl S R} (n m : Nat) {x y : Str} {xs ys : List α} {np apos np2 apos2 cpos : Pos} (hnm : n ≠ m) (hb : PV X Φ b i) (hi : 0 ≤ i ∧ i < ys.length) (hz : xs.length < sizeLine) (hy : ys.length ≤ 2 ^ 62)
    (h : ∀ nm, nm = xs ++ [ix ys i] → ∀ nm2, nm2 = ys.eraseIdx i.toNat → HB X W (A :: r) ((Φ.set m (sO X.K nm2)).set n (sO X.K nm)) M T (k nm nm2)) (ho : Φ[n]? = some (sO X.K xs) := by rfl) (ho2 : Φ[m]? = some (sO X.K ys) := by rfl) (hN : X.N[n]? = some x := by rfl) (hN2 : X.N[m]? = some y := by rfl)
    (hv : Vis X.env.scope x := by first | exact Or.inl rfl | exact Or.inr (Or.inl rfl) | exact Or.inr (Or.inr rfl)) (hd : (x == ("__debug__" : Str)) = false := by decide) (hcd : (x == ("__classdict__" : Str)) = false := by decide)
    (hv2 : Vis X.env.scope y := by first | exact Or.inl rfl | exact Or.inr (Or.inl rfl) | exact Or.inr (Or.inr rfl)) (hd2 : (y == ("__debug__" : Str)) = false := by decide) (hcd2 : (y == ("__classdict__" : Str)) = false := by decide)
    (hsb : nst b = true := by rfl) (hl : (apos.endLine == p.line) = true := by rfl) (hl2 : (apos2.endLine == cpos.line) = true := by rfl) :
    HB X W ((.Expr (.Call (.Attribute (.Name x np) "append" apos) [.Call (.Attribute (.Name y np2) "pop" apos2) [b] [] cpos] [] p) pos :: A) :: r) Φ M T (bindV (xs ++ [ix ys i]) fun nm => bindV (ys.eraseIdx i.toNat) fun nm2 => k nm nm2) := h_appPop n m hnm hb hi hz hy (h _ rfl _ rfl) ho ho2 hN hN2 hv hd hcd hv2 hd2 hcd2 hsb hl hl2
theorem h_lcS {α β : Type} [Py α] [Py β] {xs : List α} {f : α → β} {k : List β → S} {elt : Expr} {scope : Scope} (n : Nat) {x : Str} {py_ spos : Pos} (own : List (Str × Nat)) (us : α → List (Nat × SD)) (hc : X.calm = true) (hN : X.N.Nodup) (ok : BlkOk X.N X.env.scope scope own) (hi : PIt X Φ tg iter xs) (hz : xs.length ≤ sizeLine)
    (hg : ∀ x, ∀ (s : Shared) (H : Hp) (C : Addr) (cl : List (Str × Addr)) (fp : List Addr), PGt (X.blk s H scope (compEnvC scope cl C X.env) fp) tg x (us x)) (hu : ∀ x, ∀ u ∈ us x, u.1 ∈ own.map (·.2))
    (he : ∀ x, x ∈ xs → ∀ (s : Shared) (H : Hp) (C : Addr) (cl : List (Str × Addr)) (fp : List Addr), PEv (X.blk s H scope (compEnvC scope cl C X.env) fp) (setAll (wipeS Φ (own.map (·.2))) (us x)) elt (py X.K (enc (f x))))
    (h : ∀ nm, nm = (xs.map f) → HB X W (A :: r) (Φ.set n (sO X.K nm)) M T (.nx (k nm)))
    (hn : X.N[n]? = some x := by rfl) (hl : X.env.scope.names.lookup x = some .local := by rfl) (hsw : swapsWith (.ListComp elt [⟨tg, iter, [], 0⟩] scope pos) (some (.Name x py_)) spos.line X.env = pure true := by exact sw_true rfl rfl rfl (by decide +kernel)) (hs : ∀ x, foldedSetIterable iter X.env x = pure x := by intro _; rfl) :
    HB X W ((.Assign [.Name x py_] (.ListComp elt [⟨tg, iter, [], 0⟩] scope pos) spos :: A) :: r) Φ M T (.nx (bindV (xs.map f) k)) := h_lc n own us hc hN ok hi hz hg hu he (h _ rfl) hn hl hsw hs
theorem h_lcIfS {α β : Type} [Py α] [Py β] {xs : List α} {cnd : α → Bool} {f : α → β} {k : List β → S} {elt : Expr} {scope : Scope} (n : Nat) {x : Str} {py_ spos : Pos} (own : List (Str × Nat)) (us : α → List (Nat × SD)) (hc : X.calm = true) (hN : X.N.Nodup) (ok : BlkOk X.N X.env.scope scope own) (hi : PIt X Φ tg iter xs) (hz : xs.length ≤ sizeLine)
    (hg : ∀ x, ∀ (s : Shared) (H : Hp) (C : Addr) (cl : List (Str × Addr)) (fp : List Addr), PGt (X.blk s H scope (compEnvC scope cl C X.env) fp) tg x (us x)) (hu : ∀ x, ∀ u ∈ us x, u.1 ∈ own.map (·.2))
    (ht : ∀ x, x ∈ xs → ∀ (s : Shared) (H : Hp) (C : Addr) (cl : List (Str × Addr)) (fp : List Addr), PTv (X.blk s H scope (compEnvC scope cl C X.env) fp) (setAll (wipeS Φ (own.map (·.2))) (us x)) c (cnd x))
    (he : ∀ x, x ∈ xs → cnd x = true → ∀ (s : Shared) (H : Hp) (C : Addr) (cl : List (Str × Addr)) (fp : List Addr), PEv (X.blk s H scope (compEnvC scope cl C X.env) fp) (setAll (wipeS Φ (own.map (·.2))) (us x)) elt (py X.K (enc (f x))))
    (h : ∀ nm, nm = ((xs.filter cnd).map f) → HB X W (A :: r) (Φ.set n (sO X.K nm)) M T (.nx (k nm)))
    (hn : X.N[n]? = some x := by rfl) (hl : X.env.scope.names.lookup x = some .local := by rfl) (hsw : swapsWith (.ListComp elt [⟨tg, iter, [c], 0⟩] scope pos) (some (.Name x py_)) spos.line X.env = pure true := by exact sw_true rfl rfl rfl (by decide +kernel)) (hs : ∀ x, foldedSetIterable iter X.env x = pure x := by intro _; rfl) :
    HB X W ((.Assign [.Name x py_] (.ListComp elt [⟨tg, iter, [c], 0⟩] scope pos) spos :: A) :: r) Φ M T (.nx (bindV ((xs.filter cnd).map f) k)) := h_lcIf n own us hc hN ok hi hz hg hu ht he (h _ rfl) hn hl hsw hs
theorem h_popS {α : Type} [Py α] [Inhabited α] {us : α → List (Nat × SD)} {k : α → List α → S} (n : Nat) {x : Str} {xs : List α} {np apos cpos : Pos} (hb : PV X Φ b i) (hi : 0 ≤ i ∧ i < xs.length) (hz : xs.length ≤ 2 ^ 62) (hg : ∀ z, PGv X tg (py X.K (enc z)) (us z))
    (h : ∀ nm, nm = ix xs i → ∀ nm2, nm2 = xs.eraseIdx i.toNat → HB X W (A :: r) (setAll (Φ.set n (sO X.K nm2)) (us nm)) M T (.nx (k nm nm2))) (ho : Φ[n]? = some (sO X.K xs) := by rfl) (hN : X.N[n]? = some x := by rfl)
    (hv : Vis X.env.scope x := by first | exact Or.inl rfl | exact Or.inr (Or.inl rfl) | exact Or.inr (Or.inr rfl)) (hd : (x == ("__debug__" : Str)) = false := by decide) (hcd : (x == ("__classdict__" : Str)) = false := by decide)
    (hsb : nst b = true := by rfl) (hl : (apos.endLine == cpos.line) = true := by rfl)
    (hs : swapsWithSole [tg] (.Call (.Attribute (.Name x np) "pop" apos) [b] [] cpos) pos.line X.env = pure false := by rfl) (hw : swappedStores [tg] (.Call (.Attribute (.Name x np) "pop" apos) [b] [] cpos) X.env = pure none := by rfl)
    (h1 : (assignEach [tg] X.env).map (·.2) = [assign tg X.env] := by rfl) : HB X W ((.Assign [tg] (.Call (.Attribute (.Name x np) "pop" apos) [b] [] cpos) pos :: A) :: r) Φ M T (.nx (bindV (ix xs i) fun nm => bindV (xs.eraseIdx i.toNat) fun nm2 => k nm nm2)) := h_pop n hb hi (hg _) (h _ rfl _ rfl) hz ho hN hv hd hcd hsb hl hs hw h1
theorem h_appPopS {α : Type} [Py α] [Inhabited α] {k : List α → List α → S} (n m : Nat) {x y : Str} {xs ys : List α} {np apos np2 apos2 cpos : Pos} (hnm : n ≠ m) (hb : PV X Φ b i) (hi : 0 ≤ i ∧ i < ys.length) (hz : xs.length < sizeLine) (hy : ys.length ≤ 2 ^ 62)
    (h : ∀ nm, nm = xs ++ [ix ys i] → ∀ nm2, nm2 = ys.eraseIdx i.toNat → HB X W (A :: r) ((Φ.set m (sO X.K nm2)).set n (sO X.K nm)) M T (.nx (k nm nm2))) (ho : Φ[n]? = some (sO X.K xs) := by rfl) (ho2 : Φ[m]? = some (sO X.K ys) := by rfl) (hN : X.N[n]? = some x := by rfl) (hN2 : X.N[m]? = some y := by rfl)
    (hv : Vis X.env.scope x := by first | exact Or.inl rfl | exact Or.inr (Or.inl rfl) | exact Or.inr (Or.inr rfl)) (hd : (x == ("__debug__" : Str)) = false := by decide) (hcd : (x == ("__classdict__" : Str)) = false := by decide)
    (hv2 : Vis X.env.scope y := by first | exact Or.inl rfl | exact Or.inr (Or.inl rfl) | exact Or.inr (Or.inr rfl)) (hd2 : (y == ("__debug__" : Str)) = false := by decide) (hcd2 : (y == ("__classdict__" : Str)) = false := by decide)
    (hsb : nst b = true := by rfl) (hl : (apos.endLine == p.line) = true := by rfl) (hl2 : (apos2.endLine == cpos.line) = true := by rfl) :
    HB X W ((.Expr (.Call (.Attribute (.Name x np) "append" apos) [.Call (.Attribute (.Name y np2) "pop" apos2) [b] [] cpos] [] p) pos :: A) :: r) Φ M T (.nx (bindV (xs ++ [ix ys i]) fun nm => bindV (ys.eraseIdx i.toNat) fun nm2 => k nm nm2)) := h_appPop n m hnm hb hi hz hy (h _ rfl _ rfl) ho ho2 hN hN2 hv hd hcd hv2 hd2 hcd2 hsb hl hl2
theorem h_setS {α : Type} [Py α] (n : Nat) {x : Str} {v : α} {k : α → S} (hN : X.N.Nodup) (he : PV X Φ e v) (h : ∀ x, x = v → HB X W (A :: r) (Φ.set n (sI X.K x)) M T (.nx (k x))) (hi : X.N[n]? = some x := by rfl) (hx : Loc X.env.scope x := by first | exact Or.inl rfl | exact Or.inr rfl) (hs : swapsWith e (some (.Name x p)) pos.line X.env = pure false := by rfl)
    (hf : X.fn x = true ∨ X.env.scope.names.lookup x = some .local := by first | exact .inl rfl | exact .inr rfl) : HB X W ((.Assign [.Name x p] e pos :: A) :: r) Φ M T (.nx (bindV v k)) := h_set n hN he (h v rfl) hi hx hs hf
theorem h_ownS {α : Type} [Py α] (n : Nat) {x : Str} {v : List α} {k : List α → S} (hN : X.N.Nodup) (he : PN X Φ e v) (h : ∀ x, x = v → HB X W (A :: r) (Φ.set n (sO X.K x)) M T (.nx (k x))) (hi : X.N[n]? = some x := by rfl) (hx : Loc X.env.scope x := by first | exact Or.inl rfl | exact Or.inr rfl) (hs : swapsWith e (some (.Name x p)) pos.line X.env = pure false := by rfl)
    (hf : X.fn x = true ∨ X.env.scope.names.lookup x = some .local := by first | exact .inl rfl | exact .inr rfl) : HB X W ((.Assign [.Name x p] e pos :: A) :: r) Φ M T (.nx (bindV v k)) := h_setN n hN he (h v rfl) hi hx hs hf
theorem h_ifS {A1 A2 : List Stmt} {k : Bool} {v1 v2 : S} (hc : PTv X Φ c k) (h1 : k = true → HB X W (A1 :: A :: r) Φ M T (.nx v1)) (h2 : k = false → HB X W (A2 :: A :: r) Φ M T (.nx v2)) : HB X W ((.If c A1 A2 pos :: A) :: r) Φ M T (.nx (cond k v1 v2)) := by
  have h := h_if (pos := pos) hc h1 h2
  cases k with
  | true => exact h
  | false => exact h
theorem h_ifMS {A1 A2 : List Stmt} {S' : Type} (M' : S' → List SD) {k : Bool} {s1 s2 : S'} {kk : S' → S} (hc : PTv X Φ c k) (h1 : k = true → HB X W [A1] Φ M' T (.nx s1)) (h2 : k = false → HB X W [A2] Φ M' T (.nx s2)) (h : ∀ s, s = cond k s1 s2 → HB X W (A :: r) (M' s) M T (.nx (kk s))) : HB X W ((.If c A1 A2 pos :: A) :: r) Φ M T (.nx (bindV (cond k s1 s2) kk)) :=
  h_ifM (M' := M') hc h1 h2 (h _ rfl)
theorem h_foldS {body : List Stmt} {α S' : Type} [Py α] {xs : List α} (M' : S' → List SD) (us : α → List (Nat × SD)) {f : S' → α → S'} {s0 : S'} {k : S' → S} (hp : PassesOwn (model X.prog X.w) X.A X.env X.xe) (hc : X.calm = true)
    (hi : PIt X Φ tg iter xs) (hg : ∀ x, PGt X tg x (us x)) (w0 : Wk Φ (M' s0))
    (hb : ∀ n s x, xs[n]? = some x → s = (xs.take n).foldl f s0 → HB X W [body] (setAll (M' s) (us x)) M' T (.nx (f s x)))
    (hr : ∀ s, s = xs.foldl f s0 → HB X W (A :: r) (M' s) M T (.nx (k s))) (hs : ∀ x, foldedSetIterable iter X.env x = pure x := by intro _; rfl) :
    HB X W ((.For tg iter body [] pos :: A) :: r) Φ M T (.nx (bindV (xs.foldl f s0) k)) := h_fold (M' := M') us f s0 hp hc hi hg w0 hb (hr _ rfl) hs

end
end GL

set_option Elab.async false
set_option linter.all false
set_option maxRecDepth 100000
set_option maxHeartbeats 4000000
namespace GL
open PySem PySem.Spec PyProof.Rows L2
open Evl (Ex ex_l ex_t)
theorem us_in {α : Type} {us : α → List (Nat × SD)} {own : List (Str × Nat)} (h : ∀ x, (us x).all (fun u => (own.map (·.2)).contains u.1) = true) : ∀ x, ∀ u ∈ us x, u.1 ∈ own.map (·.2) := fun x u hu => by
  have := List.all_eq_true.mp (h x) u hu
  exact List.contains_iff_mem.mp this
theorem cdiv_of {i j : Int} (h : 0 < j) (h2 : j < 2 ^ 64) : CDivW i j := ⟨h, by
  have : j.natAbs < 2 ^ 64 := by omega
  have h0 : j.natAbs ≠ 0 := by omega
  have := (Nat.log2_lt h0).mpr this
  omega⟩
theorem room1 {k : Nat} {A : Around} (r : Room k A) : A.units + 1 < cLine := by have := r.un; omega
/-! ### max, min with default= -/
def maxDf (xs : List Int) (d : Int) : Int := if xs.isEmpty then d else maxL xs
def minDf (xs : List Int) (d : Int) : Int := if xs.isEmpty then d else minL xs
theorem foldl_max_imax : ∀ (xs : List Int) (a : Int), xs.foldl max a = xs.foldl imax a
  | [], a => rfl
  | x :: xs, a => by
    have e : max a x = imax a x := by unfold imax; split <;> omega
    show xs.foldl max (max a x) = xs.foldl imax (imax a x)
    rw [e]; exact foldl_max_imax xs _
theorem foldl_min_imin : ∀ (xs : List Int) (a : Int), xs.foldl min a = xs.foldl imin a
  | [], a => rfl
  | x :: xs, a => by
    have e : min a x = imin a x := by unfold imin; split <;> omega
    show xs.foldl min (min a x) = xs.foldl imin (imin a x)
    rw [e]; exact foldl_min_imin xs _
theorem maxL_cons (n : Int) (ns : List Int) : maxL (n :: ns) = ns.foldl imax n := by
  show ns.foldl imax (imax n n) = _
  have : imax n n = n := by unfold imax; split <;> omega
  rw [this]
theorem minL_cons (n : Int) (ns : List Int) : minL (n :: ns) = ns.foldl imin n := by
  show ns.foldl imin (imin n n) = _
  have : imin n n = n := by unfold imin; split <;> omega
  rw [this]
section
variable {X : Cx}
def rDf (X : Cx) (f : List Int → Int → Int) : List V → List V → Hp → VK → Prop := fun vs zs H Q => ∃ (a : Addr) (ns : List Int) (d : Int), vs = [.ref a] ∧ zs = [.int d] ∧ SqL X.K H a (ns.map V.int) ∧ Q (.int (f ns d)) H
theorem int_dps {K : Fg} {H : Hp} : ∀ ns : List Int, DpAll K H (ns.map V.int) (ns.map PyData.int)
  | [] => .nil
  | n :: ns => .cons (.int n) (int_dps ns)
theorem ints_alike (ns : List Int) : PySem.W.AlikeAll (ns.map PyData.int) := ⟨fun x hx y hy => by
  obtain ⟨i, _, rfl⟩ := List.mem_map.mp hx
  obtain ⟨j, _, rfl⟩ := List.mem_map.mp hy
  simp [PySem.W.alike], fun x hx => by
  obtain ⟨i, _, rfl⟩ := List.mem_map.mp hx
  simp⟩
theorem ints_depth : ∀ ns : List Int, PyData.depthAll (ns.map PyData.int) = 0
  | [] => by simp [PyData.depthAll]
  | n :: ns => by simp [PyData.depthAll, PyData.depth, ints_depth ns]
theorem cr_maxDf (hc : X.calm = true) (hu : X.A.units + 1 < cLine) : CallRK X (.builtin "max") ["default"] (rDf X maxDf) := by
  intro pins s σ H xs zs us ws Q I r1 r2 h
  obtain ⟨a, ns, d, rfl, rfl, hs, q⟩ := h
  obtain ⟨its, rv, hl, hz⟩ := I.list hs
  rw [Vals.ref1 r1]
  obtain ⟨u, rfl, t, rfl⟩ := r2.one
  obtain ⟨as, rd⟩ := Dp.readsAll I (ns.map PyData.int) (ns.map V.int) its (int_dps ns) rv
  refine PySem.W.max_list_default (I.ok.hd hc) hl.isList rd (ints_alike ns) (by rw [ints_depth]; exact hu) (fun e h' tk hk => ?_) (fun y ys i v h' tk bs e hi r hk => ?_)
  · have e2 : ns = [] := List.map_eq_nil_iff.mp e
    subst e2
    exact ⟨.int _, H, I.kept hk, ⟨t, rfl⟩, q⟩
  · cases ns with
    | nil => cases e
    | cons n ns =>
      rw [List.map_cons] at e
      injection e with e1 e2
      subst e1; subst e2
      rw [PySem.W.maxD_ints] at r
      cases r with
      | int i t' =>
        refine ⟨.int _, H, I.kept hk, ⟨t', rfl⟩, ?_⟩
        have : maxDf (n :: ns) d = ns.foldl max n := by show maxL (n :: ns) = _; rw [maxL_cons, foldl_max_imax]
        rw [← this]; exact q
theorem cr_minDf (hc : X.calm = true) (hu : X.A.units + 1 < cLine) : CallRK X (.builtin "min") ["default"] (rDf X minDf) := by
  intro pins s σ H xs zs us ws Q I r1 r2 h
  obtain ⟨a, ns, d, rfl, rfl, hs, q⟩ := h
  obtain ⟨its, rv, hl, hz⟩ := I.list hs
  rw [Vals.ref1 r1]
  obtain ⟨u, rfl, t, rfl⟩ := r2.one
  obtain ⟨as, rd⟩ := Dp.readsAll I (ns.map PyData.int) (ns.map V.int) its (int_dps ns) rv
  refine PySem.W.min_list_default (I.ok.hd hc) hl.isList rd (ints_alike ns) (by rw [ints_depth]; exact hu) (fun e h' tk hk => ?_) (fun y ys i v h' tk bs e hi r hk => ?_)
  · have e2 : ns = [] := List.map_eq_nil_iff.mp e
    subst e2
    exact ⟨.int _, H, I.kept hk, ⟨t, rfl⟩, q⟩
  · cases ns with
    | nil => cases e
    | cons n ns =>
      rw [List.map_cons] at e
      injection e with e1 e2
      subst e1; subst e2
      rw [PySem.W.minD_ints] at r
      cases r with
      | int i t' =>
        refine ⟨.int _, H, I.kept hk, ⟨t', rfl⟩, ?_⟩
        have : minDf (n :: ns) d = ns.foldl min n := by show minL (n :: ns) = _; rw [minL_cons, foldl_min_imin]
        rw [← this]; exact q
variable {Φ : List SD} {a b c e : Expr} {pos p kp : Pos} {i j k : Int} {tg : Expr}
theorem v_maxDf {xs : List Int} {d : Int} (B : Blt X.mg) (hc : X.calm = true) (hu : X.A.units + 1 < cLine) (ha : PL X Φ a xs) (hb : PV X Φ b d) (hg : Gl X "max" := by rfl) (h1 : nst a = true := by rfl) : PV X Φ (.Call (.Name "max" p) [a] [⟨some "default", b, kp⟩] pos) (maxDf xs d) := .mk fun H0 σ F H Q s sl q =>
  wE_of (pe_callBK (cr_maxDf hc hu) hg B.max (by decide +kernel) (pa_cons peW pa_nil (star_cons h1)) (pk_cons peW pk_nil) (by decide +kernel) (by decide +kernel) (by rw [star_cons h1]; rfl) (by rw [star_cons h1]; rfl) rfl rfl rfl) (ha H0 σ F H _ s sl fun l vs F1 H1 g1 h1 p1 => hb H0 σ F1 H1 _ g1.s (sl.gr g1) fun v F2 H2 g2 p2 => by
    cases p2
    exact ⟨l, xs, d, rfl, rfl, by rw [← allP_ints p1]; exact ex_l g2.h h1, q _ F2 H2 (g1.trans g2) (.int _)⟩)
theorem v_minDf {xs : List Int} {d : Int} (B : Blt X.mg) (hc : X.calm = true) (hu : X.A.units + 1 < cLine) (ha : PL X Φ a xs) (hb : PV X Φ b d) (hg : Gl X "min" := by rfl) (h1 : nst a = true := by rfl) : PV X Φ (.Call (.Name "min" p) [a] [⟨some "default", b, kp⟩] pos) (minDf xs d) := .mk fun H0 σ F H Q s sl q =>
  wE_of (pe_callBK (cr_minDf hc hu) hg B.min (by decide +kernel) (pa_cons peW pa_nil (star_cons h1)) (pk_cons peW pk_nil) (by decide +kernel) (by decide +kernel) (by rw [star_cons h1]; rfl) (by rw [star_cons h1]; rfl) rfl rfl rfl) (ha H0 σ F H _ s sl fun l vs F1 H1 g1 h1 p1 => hb H0 σ F1 H1 _ g1.s (sl.gr g1) fun v F2 H2 g2 p2 => by
    cases p2
    exact ⟨l, xs, d, rfl, rfl, by rw [← allP_ints p1]; exact ex_l g2.h h1, q _ F2 H2 (g1.trans g2) (.int _)⟩)
/-! ### range(i, j, -1) -/
/-- i, i - 1, .. above j -/
def dwn (i j : Int) : List Int := (List.range (i - j).toNat).map fun (n : Nat) => i - (n : Int)
theorem dwn_length (i j : Int) : (dwn i j).length = (i - j).toNat := by simp [dwn]
theorem dwn_get {K : Fg} {i j : Int} {n : Nat} {P : MP} (h : ((dwn i j).map fun x => py K (enc x))[n]? = some P) : n < (i - j).toNat ∧ P = py K (.int (i - (n : Int))) := by
  have hn := (List.getElem?_eq_some_iff.mp h).1
  rw [List.length_map, dwn_length] at hn
  refine ⟨hn, ?_⟩
  simp only [dwn, List.map_map, List.getElem?_map, List.getElem?_range hn, Option.map_some, Option.some.injEq] at h
  exact h.symm
theorem dwn_memF {i j x : Int} (h : x ∈ dwn i j) : j < x ∧ x ≤ i := by
  unfold dwn at h
  obtain ⟨n, hn, rfl⟩ := List.mem_map.mp h
  have := List.mem_range.mp hn
  omega
theorem dwn_atF {i j x : Int} {n : Nat} (h : (dwn i j)[n]? = some x) : x = i - (n : Int) ∧ j < x ∧ x ≤ i := by
  have hn := (List.getElem?_eq_some_iff.mp h).1
  rw [dwn_length] at hn
  unfold dwn at h
  rw [List.getElem?_map, List.getElem?_range hn] at h
  have : i - (n : Int) = x := Option.some.inj h
  omega
theorem i_down {q1 q2 : Pos} (B : Blt X.mg) (ha : PV X Φ a i) (hb : PV X Φ b j) (hi : small62 i) (hj : small62 j) (hg : Gl X "range" := by rfl) (h1 : nst a = true := by rfl) (h2 : nst b = true := by rfl) : PIt X Φ tg (.Call (.Name "range" p) [a, b, .UnaryOp .USub (.Constant (.int 1) 0 q1) q2] [] pos) (dwn i j) := .mk fun H0 σ F H R s sl q =>
  wI_of (pi_range3 hg B.range paW (star_cons h1) (star_plain (by rw [List.all_cons, h2]; rfl))) (wA_of (pa_cons peW (pa_cons peW (pa_cons peW pa_nil (star_cons rfl)) (star_cons h2)) (star_cons h1)) (ha H0 σ F H _ s sl fun v F1 H1 g1 p1 => hb H0 σ F1 H1 _ g1.s (sl.gr g1) fun w F2 H2 g2 p2 =>
    v_neg (X := X) (Φ := Φ) v_int H0 σ F2 H2 _ g2.s ((sl.gr g1).gr g2) fun y F3 H3 g3 p3 => by
      cases p1; cases p2; cases p3
      refine ⟨i, j, -1, (i - j).toNat, rfl, RgC.neg hi.1 hi.2 hj.1 hj.2, q _ F3 H3 ((g1.trans g2).trans g3) ⟨fun n P F4 H4 hp e1 e2 => ?_, fun F4 H4 e1 e2 => by show (i - j).toNat ≤ _; simp [dwn_length]⟩⟩
      obtain ⟨hn, rfl⟩ := dwn_get hp
      refine ⟨hn, fun v H5 y => ?_⟩
      obtain ⟨rfl, rfl⟩ := y
      refine ⟨F4, Gr.refl e2, ?_⟩
      have ei : i + (n : Int) * (-1) = i - (n : Int) := by omega
      rw [ei]; exact .int _))
end

/-! ### targets of tuples -/
section
variable {X : Cx} {e1 e2 e3 e4 e5 : Expr} {pos : Pos} {kk : Nat} {us u1 u2 u3 u4 u5 : List (Nat × SD)}
theorem g_p2 {α β : Type} [Py α] [Py β] {x : α × β} (hc : X.calm = true) (h1 : PGv X e1 (py X.K (enc x.1)) u1) (h2 : PGv X e2 (py X.K (enc x.2)) u2) (hs : [e1, e2].all ntg = true := by rfl) (s1 : ntg e1 = true := by rfl) (s2 : ntg e2 = true := by rfl) (hu : us = u1 ++ (u2 ++ []) := by rfl) : PGv X (.Tuple [e1, e2] kk pos) (py X.K (enc x)) us := by
  subst hu; exact g_tup (ds := [enc x.1, enc x.2]) hc (gs_cons h1 (gs_cons h2 gs_nil s2) s1) hs rfl
theorem g_p3 {α β γ : Type} [Py α] [Py β] [Py γ] {x : T3 α β γ} (hc : X.calm = true) (h1 : PGv X e1 (py X.K (enc x.a)) u1) (h2 : PGv X e2 (py X.K (enc x.b)) u2) (h3 : PGv X e3 (py X.K (enc x.c)) u3) (hs : [e1, e2, e3].all ntg = true := by rfl) (s1 : ntg e1 = true := by rfl) (s2 : ntg e2 = true := by rfl) (s3 : ntg e3 = true := by rfl) (hu : us = u1 ++ (u2 ++ (u3 ++ [])) := by rfl) : PGv X (.Tuple [e1, e2, e3] kk pos) (py X.K (enc x)) us := by
  subst hu; exact g_tup (ds := [enc x.a, enc x.b, enc x.c]) hc (gs_cons h1 (gs_cons h2 (gs_cons h3 gs_nil s3) s2) s1) hs rfl
theorem g_p4 {α β γ δ : Type} [Py α] [Py β] [Py γ] [Py δ] {x : T4 α β γ δ} (hc : X.calm = true) (h1 : PGv X e1 (py X.K (enc x.a)) u1) (h2 : PGv X e2 (py X.K (enc x.b)) u2) (h3 : PGv X e3 (py X.K (enc x.c)) u3) (h4 : PGv X e4 (py X.K (enc x.d)) u4) (hs : [e1, e2, e3, e4].all ntg = true := by rfl) (s1 : ntg e1 = true := by rfl) (s2 : ntg e2 = true := by rfl) (s3 : ntg e3 = true := by rfl) (s4 : ntg e4 = true := by rfl) (hu : us = u1 ++ (u2 ++ (u3 ++ (u4 ++ []))) := by rfl) : PGv X (.Tuple [e1, e2, e3, e4] kk pos) (py X.K (enc x)) us := by
  subst hu; exact g_tup (ds := [enc x.a, enc x.b, enc x.c, enc x.d]) hc (gs_cons h1 (gs_cons h2 (gs_cons h3 (gs_cons h4 gs_nil s4) s3) s2) s1) hs rfl
theorem g_p5 {α β γ δ ε : Type} [Py α] [Py β] [Py γ] [Py δ] [Py ε] {x : T5 α β γ δ ε} (hc : X.calm = true) (h1 : PGv X e1 (py X.K (enc x.a)) u1) (h2 : PGv X e2 (py X.K (enc x.b)) u2) (h3 : PGv X e3 (py X.K (enc x.c)) u3) (h4 : PGv X e4 (py X.K (enc x.d)) u4) (h5 : PGv X e5 (py X.K (enc x.e)) u5) (hs : [e1, e2, e3, e4, e5].all ntg = true := by rfl) (s1 : ntg e1 = true := by rfl) (s2 : ntg e2 = true := by rfl) (s3 : ntg e3 = true := by rfl) (s4 : ntg e4 = true := by rfl) (s5 : ntg e5 = true := by rfl) (hu : us = u1 ++ (u2 ++ (u3 ++ (u4 ++ (u5 ++ [])))) := by rfl) : PGv X (.Tuple [e1, e2, e3, e4, e5] kk pos) (py X.K (enc x)) us := by
  subst hu; exact g_tup (ds := [enc x.a, enc x.b, enc x.c, enc x.d, enc x.e]) hc (gs_cons h1 (gs_cons h2 (gs_cons h3 (gs_cons h4 (gs_cons h5 gs_nil s5) s4) s3) s2) s1) hs rfl
end
/-! ### an invariant of a fold -/
theorem fold_inv {α S : Type} {f : S → α → S} {s0 : S} {xs : List α} (P : Nat → S → Prop) (h0 : P 0 s0) (hs : ∀ n s x, xs[n]? = some x → P n s → P (n + 1) (f s x)) : ∀ (n : Nat) (s : S), n ≤ xs.length → s = (xs.take n).foldl f s0 → P n s
  | 0, s, _, h => by
    simp at h; subst h; exact h0
  | n + 1, s, hn, h => by
    have hx : xs[n]? = some xs[n] := List.getElem?_eq_getElem (by omega)
    have tk : xs.take (n + 1) = xs.take n ++ [xs[n]] := by rw [List.take_succ, hx]; rfl
    rw [tk, List.foldl_append] at h
    subst h
    exact hs n _ _ hx (fold_inv P h0 hs n _ (by omega) rfl)
theorem fold_end {α S : Type} {f : S → α → S} {s0 : S} {xs : List α} (P : Nat → S → Prop) (h0 : P 0 s0) (hs : ∀ n s x, xs[n]? = some x → P n s → P (n + 1) (f s x)) : P xs.length (xs.foldl f s0) :=
  fold_inv P h0 hs xs.length _ (Nat.le_refl _) (by rw [List.take_length])
/-- of a loop with exits: what holds at its end -/
theorem forL_inv {α S R : Type} {f : S → α → Ctl S R} (P : S → List α → Prop) (B : S → Prop) (Q : R → Prop)
    (hs : ∀ s x xs, P s (x :: xs) → match f s x with | .nx s' => P s' xs | .ct s' => P s' xs | .bk s' => B s' | .rt r => Q r) (he : ∀ s, P s [] → B s) :
    ∀ (xs : List α) (s : S), P s xs → match forL f s xs with | .inl s => B s | .inr r => Q r
  | [], s, h => he s h
  | x :: xs, s, h => by
    have h1 := hs s x xs h
    unfold forL
    cases q : f s x with
    | nx s' => rw [q] at h1; exact forL_inv P B Q hs he xs s' h1
    | ct s' => rw [q] at h1; exact forL_inv P B Q hs he xs s' h1
    | bk s' => rw [q] at h1; exact h1
    | rt r => rw [q] at h1; exact h1

theorem mod_ix {a n : Int} (h : 0 < n) : 0 ≤ a % n ∧ a % n < n := ⟨Int.emod_nonneg _ (by omega), Int.emod_lt_of_pos _ h⟩
theorem pos_len {α : Type} [DecidableEq α] {xs : List α} (h : decide (xs = []) = false) : 0 < (xs.length : Int) := by
  have := List.length_pos_iff.mpr (of_decide_eq_false h)
  omega
theorem imin_eq (i j : Int) : imin i j = min i j := by unfold imin; split <;> omega
theorem imax_eq (i j : Int) : imax i j = max i j := by unfold imax; split <;> omega
theorem iabs_eq (i : Int) : iabs i = (i.natAbs : Int) := by unfold iabs; split <;> omega
theorem lt_of_at {α : Type} {xs : List α} {n : Nat} {x : α} (h : xs[n]? = some x) : n < xs.length := (List.getElem?_eq_some_iff.mp h).1
theorem ix_of_at {α : Type} [Inhabited α] {xs : List α} {n : Nat} {x : α} (h : xs[n]? = some x) : ix xs (n : Int) = x := by
  show xs.getD n default = x
  simp [List.getD, h]
theorem ix_mem {α : Type} [Inhabited α] {xs : List α} {i : Int} (h : 0 ≤ i ∧ i < xs.length) : ix xs i ∈ xs := by
  have hi : i.toNat < xs.length := by omega
  simp only [ix, List.getD, List.getElem?_eq_getElem hi, Option.getD_some]
  exact List.getElem_mem hi
theorem bindV_eq {α β : Type} (a : α) (k : α → β) : bindV a k = k a := rfl

theorem mod_ixle {a m n : Int} (h : 0 < m) (h2 : m ≤ n) : 0 ≤ a % m ∧ a % m < n := by
  have := mod_ix (a := a) h
  omega
/-! ### loops that only look -/
theorem forL_all {α R : Type} {f : Unit → α → Ctl Unit R} : ∀ {xs : List α}, (∀ x ∈ xs, f () x = .nx () ∨ f () x = .ct ()) → forL f () xs = .inl ()
  | [], _ => rfl
  | x :: xs, h => by
    have h2 := forL_all (f := f) (xs := xs) fun y hy => h y (List.mem_cons_of_mem _ hy)
    unfold forL
    rcases h x (List.mem_cons_self ..) with e | e
    · rw [e]; exact h2
    · rw [e]; exact h2
theorem forR_all {α R : Type} {f : Unit → α → Ctl Unit R} {xs : List α} {k : Unit → R} (h : ∀ x ∈ xs, f () x = .nx () ∨ f () x = .ct ()) : forR f () xs k = k () := by
  unfold forR; rw [forL_all h]
theorem forK_all {α S R : Type} {f : Unit → α → Ctl Unit R} {xs : List α} {k : Unit → Ctl S R} (h : ∀ x ∈ xs, f () x = .nx () ∨ f () x = .ct ()) : forK f () xs k = k () := by
  unfold forK; rw [forL_all h]
theorem enumL_eq {α : Type} [Inhabited α] (xs : List α) : enumL xs = (rng 0 xs.length).map fun p => (p, ix xs p) := by
  apply List.ext_getElem?
  intro n
  by_cases h : n < xs.length
  · rw [enumL_get (List.getElem?_eq_getElem h), List.getElem?_map, rng_at (by omega)]
    simp only [Option.map_some, Int.zero_add]
    rw [ix_of_at (List.getElem?_eq_getElem h)]
  · rw [List.getElem?_eq_none (by rw [enumL_length]; omega), List.getElem?_eq_none (by rw [List.length_map, rng_length]; omega)]
theorem maxL_le {xs : List Int} {s : Int} (h : 0 < xs.length) : maxL xs ≤ s ↔ ∀ y ∈ xs, y ≤ s :=
  ⟨fun h1 y hy => Int.le_trans (le_maxL hy) h1, fun h1 => h1 _ (maxL_mem h)⟩
theorem maxDf_le {xs : List Int} {s d : Int} (h : d ≤ s) : maxDf xs d ≤ s ↔ ∀ y ∈ xs, y ≤ s := by
  unfold maxDf
  cases xs with
  | nil => simpa using h
  | cons x xs => exact maxL_le (by simp)
theorem mem_rng {lo hi x : Int} : x ∈ rng lo hi ↔ lo ≤ x ∧ x < hi := ⟨rng_memF, fun h => by
  unfold rng
  exact List.mem_map.mpr ⟨(x - lo).toNat, List.mem_range.mpr (by omega), by omega⟩⟩
theorem ix_at {α : Type} [Inhabited α] {xs : List α} {i : Int} (h : 0 ≤ i ∧ i < xs.length) : xs[i.toNat]? = some (ix xs i) := by
  have hi : i.toNat < xs.length := by omega
  simp [ix, List.getD, List.getElem?_eq_getElem hi]

section
variable {X : Cx} {W : XK} {S R : Type} {Φ : List SD} {M : S → List SD} {T : R → RS} {e : Expr} {pos : Pos} {A : List Stmt} {r : List (List Stmt)}
theorem v_some {α : Type} [Py α] {x : α} (h : PV X Φ e x) : PV X Φ e (some x) := h
theorem v_noneO {α : Type} [Py α] : PV X Φ (.Constant .none 0 pos) (none : Option α) := v_non
theorem h_retT [Py R] {v : R} (he : PV X Φ e v) (hT : T v = .val (py X.K (enc v)) := by rfl) : HB X W ((.Return (some e) pos :: A) :: r) Φ M T (.rt v) := h_ret he hT
end
/-! ### sorted, of numbers and of pairs -/
theorem srt_perm {α : Type} [Py α] (xs : List α) : (srt xs).Perm xs := List.mergeSort_perm ..
theorem mem_srt {α : Type} [Py α] {xs : List α} {x : α} : x ∈ srt xs ↔ x ∈ xs := (srt_perm xs).mem_iff
theorem srt_length {α : Type} [Py α] (xs : List α) : (srt xs).length = xs.length := List.length_mergeSort ..
theorem srt_int (xs : List Int) : (srt xs).Pairwise (· ≤ ·) := by
  have e : PySem.W.dataLe false (enc (α := Int)) = fun a b => decide (a ≤ b) := PySem.W.dataLe_int fun (b : Int) => b
  unfold srt
  rw [e]
  refine (List.pairwise_mergeSort (le := fun (a b : Int) => decide (a ≤ b)) (fun a b c h1 h2 => ?_) (fun a b => ?_) xs).imp fun h => of_decide_eq_true h
  · simp only [decide_eq_true_eq] at *; omega
  · simp only [Bool.or_eq_true, decide_eq_true_eq]; omega
/-- the order of pairs -/
def le2 (p q : Int × Int) : Prop := p.1 < q.1 ∨ (p.1 = q.1 ∧ p.2 ≤ q.2)
theorem srt_pair (xs : List (Int × Int)) : (srt xs).Pairwise le2 := by
  have e : PySem.W.dataLe false (enc (α := Int × Int)) = fun p q => decide (p.1 < q.1 ∨ (p.1 = q.1 ∧ p.2 ≤ q.2)) := PySem.W.dataLe_ii (fun (b : Int × Int) => b.1) fun b => b.2
  unfold srt
  rw [e]
  refine (List.pairwise_mergeSort (le := fun (p q : Int × Int) => decide (p.1 < q.1 ∨ (p.1 = q.1 ∧ p.2 ≤ q.2))) (fun a b c h1 h2 => ?_) (fun a b => ?_) xs).imp fun h => of_decide_eq_true h
  · simp only [decide_eq_true_eq] at *; omega
  · simp only [Bool.or_eq_true, decide_eq_true_eq]; omega

/-! ### slices, counts -/
theorem slc_to {α : Type} (xs : List α) {k : Int} (h : 0 ≤ k) : slc xs none (some k) = xs.take k.toNat := by
  unfold slc HT.sIx
  simp only [if_neg (show ¬ k < 0 by omega), List.drop_zero, Nat.sub_zero]
  by_cases q : k.toNat ≤ xs.length
  · rw [Nat.min_eq_left q]
  · rw [Nat.min_eq_right (by omega), List.take_length, List.take_of_length_le (by omega)]
theorem slc_from {α : Type} (xs : List α) {k : Int} (h : 0 ≤ k) : slc xs (some k) none = xs.drop k.toNat := by
  unfold slc HT.sIx
  simp only [if_neg (show ¬ k < 0 by omega)]
  by_cases q : k.toNat ≤ xs.length
  · rw [Nat.min_eq_left q, List.take_of_length_le (by simp)]
  · rw [Nat.min_eq_right (by omega), List.drop_eq_nil_of_le (Nat.le_refl _), List.drop_eq_nil_of_le (by omega)]; simp
theorem slc_len {α : Type} (xs : List α) (lo hi : Option Int) : (slc xs lo hi).length ≤ xs.length := by
  unfold slc
  rw [List.length_take, List.length_drop]; omega
theorem slc_mem {α : Type} {xs : List α} {lo hi : Option Int} {x : α} (h : x ∈ slc xs lo hi) : x ∈ xs := List.mem_of_mem_drop (List.mem_of_mem_take h)
theorem filter_lt {α : Type} {p q : α → Bool} {xs : List α} (h : ∀ x ∈ xs, p x = true → q x = true) {y : α} (hy : y ∈ xs) (h1 : q y = true) (h2 : p y = false) : (xs.filter p).length < (xs.filter q).length := by
  induction xs with
  | nil => simp at hy
  | cons x xs ih =>
    have mono : ∀ zs : List α, (∀ x ∈ zs, p x = true → q x = true) → (zs.filter p).length ≤ (zs.filter q).length := by
      intro zs
      induction zs with
      | nil => intro _; simp
      | cons z zs ih2 =>
        intro hz
        have h3 := ih2 fun x hx => hz x (List.mem_cons_of_mem _ hx)
        rw [List.filter_cons, List.filter_cons]
        cases hp : p z with
        | true => rw [hz z (by simp) hp]; simp; exact h3
        | false =>
          cases q z with
          | true => simp; omega
          | false => simpa using h3
    rw [List.filter_cons, List.filter_cons]
    have h0 := mono xs fun x hx => h x (List.mem_cons_of_mem _ hx)
    rcases List.mem_cons.mp hy with e | e
    · subst e
      rw [h1, h2]; simp; omega
    · have h3 := ih (fun x hx => h x (List.mem_cons_of_mem _ hx)) e
      cases hp : p x with
      | true => rw [h x (by simp) hp]; simp; exact h3
      | false =>
        cases q x with
        | true => simp; omega
        | false => simpa using h3
/-- a while: what holds at its end -/
theorem whileL_inv {S R : Type} {c : S → Bool} {f : S → Ctl S R} (I : S → Prop) (m : S → Nat) (B : S → Prop) (Q : R → Prop)
    (hf : ∀ s, I s → c s = true → match f s with | .nx s' => I s' ∧ m s' < m s | .ct s' => I s' ∧ m s' < m s | .bk s' => B s' | .rt r => Q r) (hc : ∀ s, I s → c s = false → B s) :
    ∀ (n : Nat) (s : S), I s → m s < n → match whileL c f n s with | .inl s => B s | .inr r => Q r
  | 0, s, _, h => by omega
  | n + 1, s, hI, h => by
    unfold whileL
    cases q : c s with
    | false => exact hc s hI q
    | true =>
      have h1 := hf s hI q
      simp only []
      cases q2 : f s with
      | nx s' => rw [q2] at h1; exact whileL_inv I m B Q hf hc n s' h1.1 (by have := h1.2; omega)
      | ct s' => rw [q2] at h1; exact whileL_inv I m B Q hf hc n s' h1.1 (by have := h1.2; omega)
      | bk s' => rw [q2] at h1; exact h1
      | rt r => rw [q2] at h1; exact h1

/-! ### t[n], typed -/
section
variable {X : Cx} {Φ : List SD} {a : Expr} {pos q1 : Pos}
theorem v_f2_0 {α β : Type} [Py α] [Py β] {x : α × β} (h : PV X Φ a x) : PV X Φ (.Subscript a (.Constant (.int 0) 0 q1) pos) x.1 := v_fld 0 (q2 := pos) (ds := [enc x.1, enc x.2]) h
theorem v_f2_1 {α β : Type} [Py α] [Py β] {x : α × β} (h : PV X Φ a x) : PV X Φ (.Subscript a (.Constant (.int 1) 0 q1) pos) x.2 := v_fld 1 (q2 := pos) (ds := [enc x.1, enc x.2]) h
theorem v_f3_0 {α β γ : Type} [Py α] [Py β] [Py γ] {x : T3 α β γ} (h : PV X Φ a x) : PV X Φ (.Subscript a (.Constant (.int 0) 0 q1) pos) x.a := v_fld 0 (q2 := pos) (ds := [enc x.a, enc x.b, enc x.c]) h
theorem v_f3_1 {α β γ : Type} [Py α] [Py β] [Py γ] {x : T3 α β γ} (h : PV X Φ a x) : PV X Φ (.Subscript a (.Constant (.int 1) 0 q1) pos) x.b := v_fld 1 (q2 := pos) (ds := [enc x.a, enc x.b, enc x.c]) h
theorem v_f3_2 {α β γ : Type} [Py α] [Py β] [Py γ] {x : T3 α β γ} (h : PV X Φ a x) : PV X Φ (.Subscript a (.Constant (.int 2) 0 q1) pos) x.c := v_fld 2 (q2 := pos) (ds := [enc x.a, enc x.b, enc x.c]) h
theorem v_f4_0 {α β γ δ : Type} [Py α] [Py β] [Py γ] [Py δ] {x : T4 α β γ δ} (h : PV X Φ a x) : PV X Φ (.Subscript a (.Constant (.int 0) 0 q1) pos) x.a := v_fld 0 (q2 := pos) (ds := [enc x.a, enc x.b, enc x.c, enc x.d]) h
theorem v_f4_1 {α β γ δ : Type} [Py α] [Py β] [Py γ] [Py δ] {x : T4 α β γ δ} (h : PV X Φ a x) : PV X Φ (.Subscript a (.Constant (.int 1) 0 q1) pos) x.b := v_fld 1 (q2 := pos) (ds := [enc x.a, enc x.b, enc x.c, enc x.d]) h
theorem v_f4_2 {α β γ δ : Type} [Py α] [Py β] [Py γ] [Py δ] {x : T4 α β γ δ} (h : PV X Φ a x) : PV X Φ (.Subscript a (.Constant (.int 2) 0 q1) pos) x.c := v_fld 2 (q2 := pos) (ds := [enc x.a, enc x.b, enc x.c, enc x.d]) h
theorem v_f4_3 {α β γ δ : Type} [Py α] [Py β] [Py γ] [Py δ] {x : T4 α β γ δ} (h : PV X Φ a x) : PV X Φ (.Subscript a (.Constant (.int 3) 0 q1) pos) x.d := v_fld 3 (q2 := pos) (ds := [enc x.a, enc x.b, enc x.c, enc x.d]) h
theorem v_f5_0 {α β γ δ ε : Type} [Py α] [Py β] [Py γ] [Py δ] [Py ε] {x : T5 α β γ δ ε} (h : PV X Φ a x) : PV X Φ (.Subscript a (.Constant (.int 0) 0 q1) pos) x.a := v_fld 0 (q2 := pos) (ds := [enc x.a, enc x.b, enc x.c, enc x.d, enc x.e]) h
theorem v_f5_1 {α β γ δ ε : Type} [Py α] [Py β] [Py γ] [Py δ] [Py ε] {x : T5 α β γ δ ε} (h : PV X Φ a x) : PV X Φ (.Subscript a (.Constant (.int 1) 0 q1) pos) x.b := v_fld 1 (q2 := pos) (ds := [enc x.a, enc x.b, enc x.c, enc x.d, enc x.e]) h
theorem v_f5_2 {α β γ δ ε : Type} [Py α] [Py β] [Py γ] [Py δ] [Py ε] {x : T5 α β γ δ ε} (h : PV X Φ a x) : PV X Φ (.Subscript a (.Constant (.int 2) 0 q1) pos) x.c := v_fld 2 (q2 := pos) (ds := [enc x.a, enc x.b, enc x.c, enc x.d, enc x.e]) h
theorem v_f5_3 {α β γ δ ε : Type} [Py α] [Py β] [Py γ] [Py δ] [Py ε] {x : T5 α β γ δ ε} (h : PV X Φ a x) : PV X Φ (.Subscript a (.Constant (.int 3) 0 q1) pos) x.d := v_fld 3 (q2 := pos) (ds := [enc x.a, enc x.b, enc x.c, enc x.d, enc x.e]) h
theorem v_f5_4 {α β γ δ ε : Type} [Py α] [Py β] [Py γ] [Py δ] [Py ε] {x : T5 α β γ δ ε} (h : PV X Φ a x) : PV X Φ (.Subscript a (.Constant (.int 4) 0 q1) pos) x.e := v_fld 4 (q2 := pos) (ds := [enc x.a, enc x.b, enc x.c, enc x.d, enc x.e]) h
end

theorem slc_toL {α : Type} (xs : List α) (n : Nat) : slc xs none (some (@OfNat.ofNat Int n instOfNat)) = xs.take n := slc_to xs (k := (n : Int)) (by omega)
theorem slc_fromL {α : Type} (xs : List α) (n : Nat) : slc xs (some (@OfNat.ofNat Int n instOfNat)) none = xs.drop n := slc_from xs (k := (n : Int)) (by omega)

section
variable {X : Cx} {W : XK} {S R : Type} {Φ : List SD} {M : S → List SD} {T : R → RS} {o : Ctl S R} {a e : Expr} {pos p : Pos} {r : List (List Stmt)}
theorem v_lenF {ds : List PyData} (B : Blt X.mg) (ha : PEv X Φ e (py X.K (.tuple ds))) (hg : Gl X "len" := by rfl) (hst : nst e = true := by rfl) : PV X Φ (.Call (.Name "len" p) [e] [] pos) (ds.length : Int) := .mk fun H0 σ F H Q s sl q =>
  wE_callB call_len_seq hg B.len PySem.boot_len (by decide +kernel) (by decide +kernel) (by simp [hst]) (wA_one hst (ha H0 σ F H _ s sl fun v F1 H1 g1 p1 => by
    obtain ⟨l, vs, e1, h1, p3⟩ := py_tuple.mp p1
    subst e1
    exact ⟨l, vs, rfl, .inr (ex_t g1.s h1), by rw [p3.1, List.length_map]; exact q _ F1 H1 g1 (.int _)⟩))
theorem v_len2 {α β : Type} [Py α] [Py β] {x : α × β} (B : Blt X.mg) (ha : PV X Φ e x) (hg : Gl X "len" := by rfl) (hst : nst e = true := by rfl) : PV X Φ (.Call (.Name "len" p) [e] [] pos) (2 : Int) := v_lenF (ds := [enc x.1, enc x.2]) B ha hg hst
theorem v_len3 {α β γ : Type} [Py α] [Py β] [Py γ] {x : T3 α β γ} (B : Blt X.mg) (ha : PV X Φ e x) (hg : Gl X "len" := by rfl) (hst : nst e = true := by rfl) : PV X Φ (.Call (.Name "len" p) [e] [] pos) (3 : Int) := v_lenF (ds := [enc x.a, enc x.b, enc x.c]) B ha hg hst
theorem v_len4 {α β γ δ : Type} [Py α] [Py β] [Py γ] [Py δ] {x : T4 α β γ δ} (B : Blt X.mg) (ha : PV X Φ e x) (hg : Gl X "len" := by rfl) (hst : nst e = true := by rfl) : PV X Φ (.Call (.Name "len" p) [e] [] pos) (4 : Int) := v_lenF (ds := [enc x.a, enc x.b, enc x.c, enc x.d]) B ha hg hst
theorem v_len5 {α β γ δ ε : Type} [Py α] [Py β] [Py γ] [Py δ] [Py ε] {x : T5 α β γ δ ε} (B : Blt X.mg) (ha : PV X Φ e x) (hg : Gl X "len" := by rfl) (hst : nst e = true := by rfl) : PV X Φ (.Call (.Name "len" p) [e] [] pos) (5 : Int) := v_lenF (ds := [enc x.a, enc x.b, enc x.c, enc x.d, enc x.e]) B ha hg hst
/-- a slot's datum under another name -/
theorem h_cast {α β : Type} [Py α] [Py β] (n : Nat) {x : α} (y : β) (he : enc x = enc y) (h : HB X W r (Φ.set n (sI X.K y)) M T o) (ho : Φ[n]? = some (sI X.K x) := by rfl) : HB X W r Φ M T o := .mk fun F0 H0 D σ F H g sl k => by
  have e2 : Φ.set n (sI X.K y) = Φ := by
    have : sI X.K x = sI X.K y := congrArg (fun d => SD.im (py X.K d)) he
    rw [← this]
    apply List.ext_getElem?
    intro j
    by_cases q : n = j
    · subst q
      rw [List.getElem?_set_self (List.getElem?_eq_some_iff.mp ho).1, ho]
    · rw [List.getElem?_set_ne q]
  rw [e2] at h
  exact h F0 H0 D σ F H g sl k
end
theorem enc_get {α : Type} [Py α] {o : Option α} (w : α) (h : o.isSome = true) : enc o = enc (o.getD w) := by
  cases o with
  | none => cases h
  | some x => rfl
theorem isSome_of {α : Type} {o : Option α} (h : o.isNone = false) : o.isSome = true := by
  cases o with
  | none => cases h
  | some x => rfl

/-! ### a while without exits -/
def whileP {S : Type} (c : S → Bool) (f : S → S) : Nat → S → S
  | 0, s => s
  | n + 1, s => match c s with
    | false => s
    | true => whileP c f n (f s)
theorem whileL_P {S R : Type} {c : S → Bool} {f : S → S} : ∀ (n : Nat) (s : S), whileL c (fun s => (.nx (f s) : Ctl S R)) n s = .inl (whileP c f n s)
  | 0, s => rfl
  | n + 1, s => by
    unfold whileL whileP
    cases c s with
    | false => rfl
    | true => exact whileL_P n (f s)
theorem whileP_inv {S : Type} {c : S → Bool} {f : S → S} (I : S → Prop) (m : S → Nat) (hf : ∀ s, I s → c s = true → I (f s) ∧ m (f s) < m s) : ∀ (n : Nat) (s : S), I s → m s < n → I (whileP c f n s) ∧ c (whileP c f n s) = false
  | 0, s, _, h => by omega
  | n + 1, s, hI, h => by
    unfold whileP
    cases q : c s with
    | false => exact ⟨hI, q⟩
    | true =>
      have h1 := hf s hI q
      exact whileP_inv I m hf n (f s) h1.1 (by have := h1.2; omega)
section
variable {X : Cx} {W : XK} {S R : Type} {Φ : List SD} {M : S → List SD} {T : R → RS} {c : Expr} {pos : Pos} {A body : List Stmt} {r : List (List Stmt)}
theorem h_whileP {S' : Type} {o : Ctl S R} (M' : S' → List SD) (I : S' → Prop) (m : S' → Nat) {cn : S' → Bool} {f : S' → S'} {s0 : S'} (hp : PassesOwn (model X.prog X.w) X.A X.env X.xe) (w0 : Wk Φ (M' s0)) (i0 : I s0)
    (ht : ∀ s, I s → PTv X (M' s) c (cn s)) (hb : ∀ s, I s → cn s = true → HB X W [body] (M' s) M' T (.nx (f s)))
    (hm : ∀ s, I s → cn s = true → I (f s) ∧ m (f s) < m s)
    (hr : I (whileP cn f (m s0 + 1) s0) → cn (whileP cn f (m s0 + 1) s0) = false → HB X W (A :: r) (M' (whileP cn f (m s0 + 1) s0)) M T o) :
    HB X W ((.While c body [] pos :: A) :: r) Φ M T o := by
  have e := whileP_inv I m hm (m s0 + 1) s0 i0 (Nat.lt_succ_self _)
  have h := h_while (W := W) (S := S) (R := R) (M := M) (T := T) (pos := pos) (A := A) (r := r) (M' := M') (k := fun _ => o) I m cn (fun s => (.nx (f s) : Ctl S' R)) s0 hp w0 i0 ht hb (fun s s' hI hc hf => by
    rcases hf with hf | hf
    · cases hf; exact hm s hI hc
    · cases hf) (fun s hs => by
    rw [whileL_P] at hs
    rw [← Sum.inl.inj hs]; exact hr e.1 e.2)
  unfold whileK at h
  rw [whileL_P] at h
  exact h
theorem h_whilePV {S' : Type} (M' : S' → List SD) (I : S' → Prop) (m : S' → Nat) {cn : S' → Bool} {f : S' → S'} {s0 : S'} {k : S' → R} (hp : PassesOwn (model X.prog X.w) X.A X.env X.xe) (w0 : Wk Φ (M' s0)) (i0 : I s0)
    (ht : ∀ s, I s → PTv X (M' s) c (cn s)) (hb : ∀ s, I s → cn s = true → HB X W [body] (M' s) M' T (.nx (f s)))
    (hm : ∀ s, I s → cn s = true → I (f s) ∧ m (f s) < m s)
    (hr : ∀ s, s = whileP cn f (m s0 + 1) s0 → I s → cn s = false → HB X W (A :: r) (M' s) M T (.rt (k s))) :
    HB X W ((.While c body [] pos :: A) :: r) Φ M T (.rt (bindV (whileP cn f (m s0 + 1) s0) k)) := h_whileP M' I m hp w0 i0 ht hb hm (hr _ rfl)
theorem h_whilePC {S' : Type} (M' : S' → List SD) (I : S' → Prop) (m : S' → Nat) {cn : S' → Bool} {f : S' → S'} {s0 : S'} {k : S' → Ctl S R} (hp : PassesOwn (model X.prog X.w) X.A X.env X.xe) (w0 : Wk Φ (M' s0)) (i0 : I s0)
    (ht : ∀ s, I s → PTv X (M' s) c (cn s)) (hb : ∀ s, I s → cn s = true → HB X W [body] (M' s) M' T (.nx (f s)))
    (hm : ∀ s, I s → cn s = true → I (f s) ∧ m (f s) < m s)
    (hr : ∀ s, s = whileP cn f (m s0 + 1) s0 → I s → cn s = false → HB X W (A :: r) (M' s) M T (k s)) :
    HB X W ((.While c body [] pos :: A) :: r) Φ M T (bindV (whileP cn f (m s0 + 1) s0) k) := h_whileP M' I m hp w0 i0 ht hb hm (hr _ rfl)
theorem h_whilePS {S' : Type} (M' : S' → List SD) (I : S' → Prop) (m : S' → Nat) {cn : S' → Bool} {f : S' → S'} {s0 : S'} {k : S' → S} (hp : PassesOwn (model X.prog X.w) X.A X.env X.xe) (w0 : Wk Φ (M' s0)) (i0 : I s0)
    (ht : ∀ s, I s → PTv X (M' s) c (cn s)) (hb : ∀ s, I s → cn s = true → HB X W [body] (M' s) M' T (.nx (f s)))
    (hm : ∀ s, I s → cn s = true → I (f s) ∧ m (f s) < m s)
    (hr : ∀ s, s = whileP cn f (m s0 + 1) s0 → I s → cn s = false → HB X W (A :: r) (M' s) M T (.nx (k s))) :
    HB X W ((.While c body [] pos :: A) :: r) Φ M T (.nx (bindV (whileP cn f (m s0 + 1) s0) k)) := h_whileP M' I m hp w0 i0 ht hb hm (hr _ rfl)
end
end GL

set_option Elab.async false
set_option linter.all false
set_option maxRecDepth 100000
set_option maxHeartbeats 4000000
namespace GL
open PySem PySem.Spec PyProof.Rows L2
open Evl (Ex ex_l ex_t)
section
variable {X : Cx}
/-! ### x in t -/
def rInTD (K : Fg) : R2 := fun x y H Q => ∃ d ds, Dp K H x d ∧ Dp K H y (.tuple ds) ∧ d.canLay0 = true ∧ PyData.canLayAll0 ds = true ∧ PyData.depth d ≤ 64 ∧ Q (.bl (ds.any fun z => PyData.eqv z d)) H
def rNotInTD (K : Fg) : R2 := fun x y H Q => ∃ d ds, Dp K H x d ∧ Dp K H y (.tuple ds) ∧ d.canLay0 = true ∧ PyData.canLayAll0 ds = true ∧ PyData.depth d ≤ 64 ∧ Q (.bl (!ds.any fun z => PyData.eqv z d)) H
theorem plain_tup {ds : List PyData} (h : PyData.canLayAll0 ds = true) : PyData.plainAll ds = true := by
  have := PyData.plain_of_canLay0 (.tuple ds) (by simpa [PyData.canLay0] using h)
  simpa [PyData.plain] using this
theorem op_inTD (hu : X.A.units + 65 < cLine) : OpR X (compareOp .In) (rInTD X.K) := by
  intro pins s σ H x y v u Q I rx ry h
  obtain ⟨d, ds, hd, he, c1, c2, h64, q⟩ := h
  obtain ⟨as, r1⟩ := Dp.reads I d x v hd rx
  obtain ⟨bs, r2⟩ := Dp.reads I (.tuple ds) y u he ry
  exact SeqAt.in_tuple_data r2 r1 (plain_tup c2) (PyData.plain_of_canLay0 d c1) (by have := Nat.min_le_right (PyData.depthAll ds) d.depth; omega) ⟨.bl _, H, I, rfl, q⟩
theorem op_notInTD (hu : X.A.units + 65 < cLine) : OpR X (compareOp .NotIn) (rNotInTD X.K) := by
  intro pins s σ H x y v u Q I rx ry h
  obtain ⟨d, ds, hd, he, c1, c2, h64, q⟩ := h
  obtain ⟨as, r1⟩ := Dp.reads I d x v hd rx
  obtain ⟨bs, r2⟩ := Dp.reads I (.tuple ds) y u he ry
  exact SeqAt.notIn_tuple_data r2 r1 (plain_tup c2) (PyData.plain_of_canLay0 d c1) (by have := Nat.min_le_right (PyData.depthAll ds) d.depth; omega) ⟨.bl _, H, I, rfl, q⟩
/-! ### order of data of one make -/
def ltD {α : Type} [Py α] (x y : α) : Bool := PySem.W.dataLt (enc x) (enc y)
def rCmpD (K : Fg) (f : PyData → PyData → Bool) : R2 := fun x y H Q => ∃ d e, Dp K H x d ∧ Dp K H y e ∧ PySem.W.alike d e = true ∧ d ≠ .none ∧ PyData.depth d ≤ 64 ∧ Q (.bl (f d e)) H
theorem op_ltD (hu : X.A.units + 64 < cLine) : OpR X (compareOp .Lt) (rCmpD X.K PySem.W.dataLt) := by
  intro pins s σ H x y v u Q I rx ry h
  obtain ⟨d, e, hd, he, ha, hn, h64, q⟩ := h
  obtain ⟨as, r1⟩ := Dp.reads I d x v hd rx
  obtain ⟨bs, r2⟩ := Dp.reads I e y u he ry
  exact PySem.W.lt_data r1 r2 ha hn (by have := Nat.min_le_left d.depth e.depth; omega) ⟨.bl _, H, I, rfl, q⟩
theorem op_gtD (hu : X.A.units + 64 < cLine) : OpR X (compareOp .Gt) (rCmpD X.K fun d e => PySem.W.dataLt e d) := by
  intro pins s σ H x y v u Q I rx ry h
  obtain ⟨d, e, hd, he, ha, hn, h64, q⟩ := h
  obtain ⟨as, r1⟩ := Dp.reads I d x v hd rx
  obtain ⟨bs, r2⟩ := Dp.reads I e y u he ry
  exact PySem.W.gt_data r1 r2 ha hn (by have := Nat.min_le_left d.depth e.depth; omega) ⟨.bl _, H, I, rfl, q⟩
theorem op_leD (hu : X.A.units + 64 < cLine) : OpR X (compareOp .LtE) (rCmpD X.K fun d e => !PySem.W.dataLt e d) := by
  intro pins s σ H x y v u Q I rx ry h
  obtain ⟨d, e, hd, he, ha, hn, h64, q⟩ := h
  obtain ⟨as, r1⟩ := Dp.reads I d x v hd rx
  obtain ⟨bs, r2⟩ := Dp.reads I e y u he ry
  exact PySem.W.le_data r1 r2 ha hn (by have := Nat.min_le_left d.depth e.depth; omega) ⟨.bl _, H, I, rfl, q⟩
theorem op_geD (hu : X.A.units + 64 < cLine) : OpR X (compareOp .GtE) (rCmpD X.K fun d e => !PySem.W.dataLt d e) := by
  intro pins s σ H x y v u Q I rx ry h
  obtain ⟨d, e, hd, he, ha, hn, h64, q⟩ := h
  obtain ⟨as, r1⟩ := Dp.reads I d x v hd rx
  obtain ⟨bs, r2⟩ := Dp.reads I e y u he ry
  exact PySem.W.ge_data r1 r2 ha hn (by have := Nat.min_le_left d.depth e.depth; omega) ⟨.bl _, H, I, rfl, q⟩
end
section
variable {X : Cx} {Φ : List SD} {a b : Expr} {pos p p2 pos' : Pos} {i j : Int}
theorem inT_any {α : Type} [Py α] [PyQ α] [DecidableEq α] {y : α} {xs : Tup α} : ((xs.l.map enc).any fun z => PyData.eqv z (enc y)) = decide (y ∈ xs.l) := inL_any
theorem v_inT {α : Type} [Py α] [PyQ α] [DecidableEq α] {y : α} {xs : Tup α} (hu : X.A.units + 65 < cLine) (hd : Py.dep α ≤ 64) (ha : PD X Φ a y) (hb : PD X Φ b xs) (hm : behindInMarks .In b = false := by rfl) : PV X Φ (.Compare a [.In] [b] pos) (decide (y ∈ xs.l)) := .mk fun H0 σ F H Q s sl q =>
  wE_of (pe_cmpR (op_inTD hu) peW peW hm) (ha H0 σ F H _ s sl fun v F1 H1 g1 p1 => hb H0 σ F1 H1 _ g1.s (sl.gr g1) fun w F2 H2 g2 p2 =>
    ⟨enc y, xs.l.map enc, dp_mono (g2.f.trans g2.s) _ _ p1, dp_mono g2.s _ _ p2, Py.can y, canAll xs.l, Nat.le_trans (Py.deep y) hd, by rw [inT_any]; exact q _ _ _ (g1.trans g2) (.bl _)⟩)
theorem v_notInT {α : Type} [Py α] [PyQ α] [DecidableEq α] {y : α} {xs : Tup α} (hu : X.A.units + 65 < cLine) (hd : Py.dep α ≤ 64) (ha : PD X Φ a y) (hb : PD X Φ b xs) (hm : behindInMarks .NotIn b = false := by rfl) : PV X Φ (.Compare a [.NotIn] [b] pos) (!decide (y ∈ xs.l)) := .mk fun H0 σ F H Q s sl q =>
  wE_of (pe_cmpR (op_notInTD hu) peW peW hm) (ha H0 σ F H _ s sl fun v F1 H1 g1 p1 => hb H0 σ F1 H1 _ g1.s (sl.gr g1) fun w F2 H2 g2 p2 =>
    ⟨enc y, xs.l.map enc, dp_mono (g2.f.trans g2.s) _ _ p1, dp_mono g2.s _ _ p2, Py.can y, canAll xs.l, Nat.le_trans (Py.deep y) hd, by rw [inT_any]; exact q _ _ _ (g1.trans g2) (.bl _)⟩)
theorem t_inT {α : Type} [Py α] [PyQ α] [DecidableEq α] {y : α} {xs : Tup α} (hu : X.A.units + 65 < cLine) (hd : Py.dep α ≤ 64) (ha : PD X Φ a y) (hb : PD X Φ b xs) (hm : behindInMarks .In b = false := by rfl) : PTv X Φ (.Compare a [.In] [b] pos) (decide (y ∈ xs.l)) := .mk fun H0 σ F H Q s sl q =>
  wT_of (pt_cmpR (op_inTD hu) peW peW hm) (ha H0 σ F H _ s sl fun v F1 H1 g1 p1 => hb H0 σ F1 H1 _ g1.s (sl.gr g1) fun w F2 H2 g2 p2 =>
    ⟨enc y, xs.l.map enc, dp_mono (g2.f.trans g2.s) _ _ p1, dp_mono g2.s _ _ p2, Py.can y, canAll xs.l, Nat.le_trans (Py.deep y) hd, _, rfl, by rw [inT_any]; exact q _ _ (g1.trans g2)⟩)
theorem t_notInT {α : Type} [Py α] [PyQ α] [DecidableEq α] {y : α} {xs : Tup α} (hu : X.A.units + 65 < cLine) (hd : Py.dep α ≤ 64) (ha : PD X Φ a y) (hb : PD X Φ b xs) (hm : behindInMarks .NotIn b = false := by rfl) : PTv X Φ (.Compare a [.NotIn] [b] pos) (!decide (y ∈ xs.l)) := .mk fun H0 σ F H Q s sl q =>
  wT_of (pt_cmpR (op_notInTD hu) peW peW hm) (ha H0 σ F H _ s sl fun v F1 H1 g1 p1 => hb H0 σ F1 H1 _ g1.s (sl.gr g1) fun w F2 H2 g2 p2 =>
    ⟨enc y, xs.l.map enc, dp_mono (g2.f.trans g2.s) _ _ p1, dp_mono g2.s _ _ p2, Py.can y, canAll xs.l, Nat.le_trans (Py.deep y) hd, _, rfl, by rw [inT_any]; exact q _ _ (g1.trans g2)⟩)
theorem v_cmpD {α : Type} [Py α] [PyS α] [PyN α] {op : CmpOp} {f : PyData → PyData → Bool} {x y : α} (ho : OpR X (compareOp op) (rCmpD X.K f)) (hd : Py.dep α ≤ 64) (ha : PD X Φ a x) (hb : PD X Φ b y) (hm : behindInMarks op b = false := by first | exact nomark _ | rfl) : PV X Φ (.Compare a [op] [b] pos) (f (enc x) (enc y)) := .mk fun H0 σ F H Q s sl q =>
  wE_of (pe_cmpR ho peW peW hm) (ha H0 σ F H _ s sl fun v F1 H1 g1 p1 => hb H0 σ F1 H1 _ g1.s (sl.gr g1) fun w F2 H2 g2 p2 =>
    ⟨enc x, enc y, dp_mono (g2.f.trans g2.s) _ _ p1, dp_mono g2.s _ _ p2, PyS.alike x y, PyN.nn x, Nat.le_trans (Py.deep x) hd, q _ _ _ (g1.trans g2) (.bl _)⟩)
theorem t_cmpD {α : Type} [Py α] [PyS α] [PyN α] {op : CmpOp} {f : PyData → PyData → Bool} {x y : α} (ho : OpR X (compareOp op) (rCmpD X.K f)) (hd : Py.dep α ≤ 64) (ha : PD X Φ a x) (hb : PD X Φ b y) (hm : behindInMarks op b = false := by first | exact nomark _ | rfl) : PTv X Φ (.Compare a [op] [b] pos) (f (enc x) (enc y)) := .mk fun H0 σ F H Q s sl q =>
  wT_of (pt_cmpR ho peW peW hm) (ha H0 σ F H _ s sl fun v F1 H1 g1 p1 => hb H0 σ F1 H1 _ g1.s (sl.gr g1) fun w F2 H2 g2 p2 =>
    ⟨enc x, enc y, dp_mono (g2.f.trans g2.s) _ _ p1, dp_mono g2.s _ _ p2, PyS.alike x y, PyN.nn x, Nat.le_trans (Py.deep x) hd, _, rfl, q _ _ (g1.trans g2)⟩)
variable {α : Type} [Py α] [PyS α] [PyN α] {x y : α}
theorem v_ltD (hu : X.A.units + 64 < cLine) (hd : Py.dep α ≤ 64) (ha : PD X Φ a x) (hb : PD X Φ b y) : PV X Φ (.Compare a [.Lt] [b] pos) (ltD x y) := v_cmpD (op_ltD hu) hd ha hb (nomark _)
theorem v_gtD (hu : X.A.units + 64 < cLine) (hd : Py.dep α ≤ 64) (ha : PD X Φ a x) (hb : PD X Φ b y) : PV X Φ (.Compare a [.Gt] [b] pos) (ltD y x) := v_cmpD (f := fun d e => PySem.W.dataLt e d) (op_gtD hu) hd ha hb (nomark _)
theorem v_leD (hu : X.A.units + 64 < cLine) (hd : Py.dep α ≤ 64) (ha : PD X Φ a x) (hb : PD X Φ b y) : PV X Φ (.Compare a [.LtE] [b] pos) (!ltD y x) := v_cmpD (op_leD hu) hd ha hb (nomark _)
theorem v_geD (hu : X.A.units + 64 < cLine) (hd : Py.dep α ≤ 64) (ha : PD X Φ a x) (hb : PD X Φ b y) : PV X Φ (.Compare a [.GtE] [b] pos) (!ltD x y) := v_cmpD (op_geD hu) hd ha hb (nomark _)
theorem t_ltD (hu : X.A.units + 64 < cLine) (hd : Py.dep α ≤ 64) (ha : PD X Φ a x) (hb : PD X Φ b y) : PTv X Φ (.Compare a [.Lt] [b] pos) (ltD x y) := t_cmpD (op_ltD hu) hd ha hb (nomark _)
theorem t_gtD (hu : X.A.units + 64 < cLine) (hd : Py.dep α ≤ 64) (ha : PD X Φ a x) (hb : PD X Φ b y) : PTv X Φ (.Compare a [.Gt] [b] pos) (ltD y x) := t_cmpD (f := fun d e => PySem.W.dataLt e d) (op_gtD hu) hd ha hb (nomark _)
theorem t_leD (hu : X.A.units + 64 < cLine) (hd : Py.dep α ≤ 64) (ha : PD X Φ a x) (hb : PD X Φ b y) : PTv X Φ (.Compare a [.LtE] [b] pos) (!ltD y x) := t_cmpD (op_leD hu) hd ha hb (nomark _)
theorem t_geD (hu : X.A.units + 64 < cLine) (hd : Py.dep α ≤ 64) (ha : PD X Φ a x) (hb : PD X Φ b y) : PTv X Φ (.Compare a [.GtE] [b] pos) (!ltD x y) := t_cmpD (op_geD hu) hd ha hb (nomark _)
end
instance : PyS Bool := ⟨fun x y => by simp [enc, Py.enc, PySem.W.alike], .inr fun x => ⟨by simp [enc, Py.enc], by simp [enc, Py.enc]⟩⟩
instance {α : Type} [Py α] [PyS α] : PyS (List α) := ⟨fun x y => by
  show PySem.W.alike (.list (x.map enc)) (.list (y.map enc)) = true
  simp only [PySem.W.alike, alikeAll_of], .inr fun x => ⟨by simp [enc, Py.enc], by simp [enc, Py.enc]⟩⟩
instance {α β γ : Type} [Py α] [Py β] [Py γ] [PyS α] [PyS β] [PyS γ] : PyS (T3 α β γ) := ⟨fun x y => by
  have h1 := PyS.alike x.a y.a
  have h2 := PyS.alike x.b y.b
  have h3 := PyS.alike x.c y.c
  show PySem.W.alike (.tuple [enc x.a, enc x.b, enc x.c]) (.tuple [enc y.a, enc y.b, enc y.c]) = true
  simp only [PySem.W.alike, PySem.W.alikeAll, h1, h2, h3, Bool.and_self], .inl fun x => ⟨_, _, rfl⟩⟩
instance {α β γ δ : Type} [Py α] [Py β] [Py γ] [Py δ] [PyS α] [PyS β] [PyS γ] [PyS δ] : PyS (T4 α β γ δ) := ⟨fun x y => by
  have h1 := PyS.alike x.a y.a
  have h2 := PyS.alike x.b y.b
  have h3 := PyS.alike x.c y.c
  have h4 := PyS.alike x.d y.d
  show PySem.W.alike (.tuple [enc x.a, enc x.b, enc x.c, enc x.d]) (.tuple [enc y.a, enc y.b, enc y.c, enc y.d]) = true
  simp only [PySem.W.alike, PySem.W.alikeAll, h1, h2, h3, h4, Bool.and_self], .inl fun x => ⟨_, _, rfl⟩⟩
instance {α β γ δ ε : Type} [Py α] [Py β] [Py γ] [Py δ] [Py ε] [PyS α] [PyS β] [PyS γ] [PyS δ] [PyS ε] : PyS (T5 α β γ δ ε) := ⟨fun x y => by
  have h1 := PyS.alike x.a y.a
  have h2 := PyS.alike x.b y.b
  have h3 := PyS.alike x.c y.c
  have h4 := PyS.alike x.d y.d
  have h5 := PyS.alike x.e y.e
  show PySem.W.alike (.tuple [enc x.a, enc x.b, enc x.c, enc x.d, enc x.e]) (.tuple [enc y.a, enc y.b, enc y.c, enc y.d, enc y.e]) = true
  simp only [PySem.W.alike, PySem.W.alikeAll, h1, h2, h3, h4, h5, Bool.and_self], .inl fun x => ⟨_, _, rfl⟩⟩
theorem tup_alike {α : Type} [Py α] [PyS α] (x y : Tup α) : PySem.W.alike (enc x) (enc y) = true := by
  show PySem.W.alike (.tuple (x.l.map enc)) (.tuple (y.l.map enc)) = true
  simp only [PySem.W.alike, alikeAll_of]
/-! ### tuple(range(n)) -/
section
variable {X : Cx} {Φ : List SD} {a b : Expr} {pos p p2 pos' : Pos} {i j : Int}
theorem v_tupR1 (B : Blt X.mg) (hc : X.calm = true) (ha : PV X Φ a i) (hi : 0 ≤ i ∧ i ≤ 16777216) (hg : Gl X "range" := by rfl) (hgl : Gl X "tuple" := by rfl) (h1 : nst a = true := by rfl) : PV X Φ (.Call (.Name "tuple" p) [.Call (.Name "range" p2) [a] [] pos'] [] pos) (Tup.mk (rng 0 i)) := .mk fun H0 σ F H Q s sl q =>
  wE_of (pe_tupRg hc hgl B.tuple (prg_1 hg B.range peW (by rw [star_cons h1]))) (ha H0 σ F H _ s sl fun v F1 H1 g1 p1 => by
    cases p1
    exact ⟨i, rfl, RgOk.of_le (by omega) hi.2 (by omega) hi.1, fun t ht => q _ _ _ (g1.trans (Gr.new g1.s ht)) (py_tup.mpr ⟨t, _, rfl, SqT.of upd_same, by rw [rgV_rng]; exact ints_allP⟩)⟩)
end

/-! ### sorted, of tuples of any length: none empty, or one alone -/
theorem sorts_one {prog : Program} {w : World} {A : Around} {s : Shared} {v : Value} {d : PyData} {as : List Addr}
    (r : Reads s.heap v d as) (ha : PySem.W.alike d d = true)
    (hn : d ≠ .none) (hu : A.units + d.depth < cLine) :
    PySem.W.SortsAt prog w A s (PySem.W.dataKind s.heap [d]) [v] := by
  have hal : PySem.W.AllAlike [d] := fun x hx y hy => by
    rw [List.mem_singleton.mp hx, List.mem_singleton.mp hy]; exact ha
  refine ⟨fun x hx => ?_, PyProof.Rows.general', fun E x y a b Q ha hb hq => ?_, fun h2 => absurd h2 (by simp)⟩
  · rw [List.mem_singleton.mp hx]
    exact ⟨_, PySem.W.dataKind_some hal (List.mem_singleton.mpr rfl) r⟩
  · obtain ⟨d1, as1, m1, r1, rfl⟩ := PySem.W.dataKind_inv ha
    obtain ⟨d2, as2, m2, r2, rfl⟩ := PySem.W.dataKind_inv hb
    rw [List.mem_singleton.mp m1] at r1 hq
    rw [List.mem_singleton.mp m2] at r2 hq
    exact PySem.W.oneLt_alike (f := false) (fun z => (by cases z)) r1 r2 (hal _ (List.mem_singleton.mpr rfl) _ (List.mem_singleton.mpr rfl)) hn
      (by have := Nat.min_le_left d.depth d.depth; omega) hq
section
variable {X : Cx} {Φ : List SD} {e : Expr} {pos p : Pos}
theorem cr_sort1 {β : Type} {en : β → PyData} {b : β} (hal : PySem.W.alike (en b) (en b) = true) (hn : en b ≠ .none) (hu : X.A.units + 2 + (en b).depth < cLine) : CallR X (.builtin "sorted") (rSortG X en [b]) := by
  intro pins s σ H vs us Q I r h
  obtain ⟨a, ws, rfl, hs, hd, q⟩ := h
  obtain ⟨its, rv, hl, hz⟩ := I.list hs
  rw [Vals.ref1 r]
  obtain ⟨as, rd⟩ := Dp.readsAll I ([b].map en) ws its hd rv
  cases hd with
  | cons h1 h2 =>
    cases h2
    rename_i v
    cases rv with
    | cons rv1 rv2 =>
      cases rv2
      rename_i u
      have e1 : PySem.W.EachIs (fun u b' => ∃ v', RelV v' u ∧ ∃ j : Nat, [v][j]? = some v' ∧ [b][j]? = some b') [u] [b] := .cons ⟨v, rv1, 0, rfl, rfl⟩ .nil
      have er := PySem.W.readsAll_each en (bs := [b]) rd
      have er2 : PySem.W.EachIs (fun v b => ∃ as, Reads (PySem.W.sortingHeap (PySem.W.copyHeap s.heap [u]) (s.heap.objs.size + 1) [u]) v (en b) as) [u] [b] :=
        er.mono fun _ _ ⟨as, r⟩ => ⟨as, PyProof.Rows.Reads.keeps (fun _ _ => PySem.W.sorting_copy_old) r⟩
      have hal1 : PySem.W.AllAlike ([b].map en) := fun x hx y hy => by
        simp at hx hy
        rw [hx, hy]; exact hal
      have S : PySem.W.SortsAt X.prog X.w X.A.in1.in1 { s with heap := PySem.W.sortingHeap (PySem.W.copyHeap s.heap [u]) (s.heap.objs.size + 1) [u] } (PySem.W.dataKind (PySem.W.sortingHeap (PySem.W.copyHeap s.heap [u]) (s.heap.objs.size + 1) [u]) [en b]) [u] := by
        cases er2 with
        | cons h3 _ =>
          obtain ⟨as3, r3⟩ := h3
          exact sorts_one (s := { s with heap := PySem.W.sortingHeap (PySem.W.copyHeap s.heap [u]) (s.heap.objs.size + 1) [u] }) r3 hal hn (by show X.A.units + 1 + 1 + _ < _; omega)
      refine PySem.W.sorted_vals hl.isList S (by rw [sizeLine_eq, List.length_singleton]; omega) ?_
      have ho := PySem.W.sortVals_length (κ := PySem.W.dataKind (PySem.W.sortingHeap (PySem.W.copyHeap s.heap [u]) (s.heap.objs.size + 1) [u]) [en b]) false (ks := [u]) (vs := [u]) rfl
      have eo := PySem.W.sortVals_data false e1 er2 hal1
      obtain ⟨ep, he'⟩ := PyProof.Rows.sortedAll_at s.heap [u] (PySem.W.sortVals (PySem.W.dataKind (PySem.W.sortingHeap (PySem.W.copyHeap s.heap [u]) (s.heap.objs.size + 1) [u]) [en b]) false [u] [u]).toArray
      obtain ⟨ys, k1, k2, k3⟩ := of_eachIs (R := fun v' b' => ∃ j : Nat, [v][j]? = some v' ∧ [b][j]? = some b') eo
      have k2' : ys.length = 1 := by rw [k2, List.length_mergeSort]; rfl
      exact ⟨.ref _, upd H (s.heap.objs.size + 1) (.lst ys), I.laid (t' := s.toks) (fun _ _ => PyProof.Rows.sortedAll_old) (Nat.le_succ _) ⟨by rw [k2', sizeLine_eq]; omega, _, ep, k1, he'⟩, rfl, q ys _ (I.hok.fresh (Nat.le_succ _)) k2' k3⟩
end

section
variable {X : Cx} {Φ : List SD} {e : Expr} {pos p : Pos}
theorem v_sortG {α : Type} [Py α] {xs : List α} (B : Blt X.mg) (hcr : CallR X (.builtin "sorted") (rSortG X enc xs)) (ha : PL X Φ e xs) (hg : Gl X "sorted" := by rfl) (hst : nst e = true := by rfl) : PN X Φ (.Call (.Name "sorted" p) [e] [] pos) (srt xs) := .mk fun H0 σ F H Q s sl q =>
  wE_callB hcr hg B.sorted (by decide +kernel) (by decide +kernel) (by decide +kernel) (by simp [hst]) (wA_one hst (ha H0 σ F H _ s sl fun l vs F1 H1 g1 h1 p1 => ⟨l, vs, rfl, h1, dpAll_mono g1.s _ _ (allP_dpAll2 p1), fun ys t ht hl hy => by
      refine q t ys F1 _ (g1.trans (Gr.own g1.s ht)) (fresh_of g1 ht).2 (fresh_of g1 ht).1 upd_same ⟨by rw [hl]; simp [srt, List.length_mergeSort], fun n P v h2 h3 => ?_⟩
      rw [List.getElem?_map] at h2
      cases hb : (srt xs)[n]? with
      | none => rw [hb] at h2; cases h2
      | some b =>
        rw [hb] at h2; cases h2
        obtain ⟨m, m1, m2⟩ := hy n v b h3 hb
        exact p1.2 m _ v (by rw [List.getElem?_map, m2]; rfl) m1⟩))
theorem v_sortedT {α : Type} [Py α] [PyS α] {xs : List (Tup α)} (B : Blt X.mg) (hu : X.A.units + 2 + Py.dep (Tup α) < cLine) (ha : PL X Φ e xs) (hs : (∀ x ∈ xs, x.l ≠ []) ∨ xs.length ≤ 1) (hg : Gl X "sorted" := by rfl) (hst : nst e = true := by rfl) : PN X Φ (.Call (.Name "sorted" p) [e] [] pos) (srt xs) := by
  refine v_sortG B ?_ ha hg hst
  have hd : ∀ b : Tup α, X.A.units + 2 + (enc b).depth < cLine := fun b => by have := Py.deep b; show X.A.units + 2 + (Py.enc b).depth < cLine; omega
  have al : PySem.W.AllAlike (xs.map enc) := fun d hd d' hd' => by
    obtain ⟨x, _, rfl⟩ := List.mem_map.mp hd
    obtain ⟨y, _, rfl⟩ := List.mem_map.mp hd'
    exact tup_alike x y
  have ne : (∀ x ∈ xs, x.l ≠ []) → CallR X (.builtin "sorted") (rSortG X enc xs) := fun h =>
    cr_sortG al (.inl fun d hd => by
      obtain ⟨x, hx, rfl⟩ := List.mem_map.mp hd
      have := h x hx
      obtain ⟨l⟩ := x
      cases l with
      | nil => exact absurd rfl this
      | cons a r => exact ⟨enc a, r.map enc, rfl⟩) fun b _ => hd b
  rcases hs with h | h
  · exact ne h
  · match xs, h, ne with
    | [], _, ne => exact ne (by simp)
    | [x], _, _ => exact cr_sort1 (tup_alike x x) (by show enc x ≠ .none; simp [enc, Py.enc]) (hd x)
    | _ :: _ :: _, h, _ => simp at h
end
/-- the order of tuples of numbers -/
theorem ltD_tup (x y : Tup Int) : ltD x y = decide (x.l < y.l) := by
  show PySem.W.dataLt (.tuple (x.l.map enc)) (.tuple (y.l.map enc)) = _
  rw [PySem.W.dataLt_tuple]
  exact PySem.W.dataLt_ints x.l y.l
theorem srt_tup (xs : List (Tup Int)) : (srt xs).Pairwise fun a b => a.l ≤ b.l := by
  have e : PySem.W.dataLe false (enc (α := Tup Int)) = fun a b => decide (a.l ≤ b.l) := by
    funext a b
    show (!PySem.W.dataLt (enc b) (enc a)) = _
    have := ltD_tup b a
    unfold ltD at this
    rw [this]
    by_cases h : b.l < a.l
    · rw [decide_eq_true h, decide_eq_false (by exact fun z => List.not_lt.mpr z h)]; rfl
    · rw [decide_eq_false h, decide_eq_true (List.not_lt.mp h)]; rfl
  unfold srt
  rw [e]
  refine (List.pairwise_mergeSort (le := fun (a b : Tup Int) => decide (a.l ≤ b.l)) (fun a b c h1 h2 => ?_) (fun a b => ?_) xs).imp fun h => of_decide_eq_true h
  · exact decide_eq_true (List.le_trans (of_decide_eq_true h1) (of_decide_eq_true h2))
  · rw [Bool.or_eq_true, decide_eq_true_eq, decide_eq_true_eq]
    exact List.le_total a.l b.l
end GL

set_option Elab.async false
set_option linter.all false
set_option maxRecDepth 100000
set_option maxHeartbeats 4000000
namespace GL
open PySem PySem.Spec PyProof.Rows L2
open Evl (Ex ex_l ex_t)
/-! ### instances, their attributes settled -/
def insP (C : Addr) (fs : List (Str × MP)) : MP where
  p F v := ∃ a dx us, v = .ref a ∧ F a = some (.ins C dx ((fs.map (·.1)).zip us)) ∧ AllP (fs.map (·.2)) F us
  mono := by
    rintro F F' v e ⟨a, dx, us, h1, h2, h3⟩
    exact ⟨a, dx, us, h1, e _ _ h2, h3.mono e⟩
theorem zip_lookup {β : Type} {f : Str} : ∀ {ns : List Str} {us : List β} {n : Nat}, ns.Nodup → ns[n]? = some f → us.length = ns.length → (ns.zip us).lookup f = us[n]?
  | [], _, n, _, h, _ => by simp at h
  | m :: ns, [], _, _, _, h => by simp at h
  | m :: ns, u :: us, 0, hd, h, hl => by
    simp at h
    subst h
    simp [List.zip_cons_cons, List.lookup]
  | m :: ns, u :: us, n + 1, hd, h, hl => by
    rw [List.nodup_cons] at hd
    have hm : (f == m) = false := by
      rw [beq_eq_false_iff_ne]
      intro e
      subst e
      exact hd.1 (List.mem_of_getElem? (by simpa using h))
    simp only [List.zip_cons_cons, List.lookup, hm, List.getElem?_cons_succ]
    exact zip_lookup hd.2 (by simpa using h) (by simpa using hl)
theorem zip_lookup_none {β : Type} {f : Str} : ∀ {ns : List Str} {us : List β}, f ∉ ns → (ns.zip us).lookup f = none
  | [], us, _ => by simp [List.lookup]
  | m :: ns, [], _ => by simp [List.lookup]
  | m :: ns, u :: us, h => by
    have hm : (f == m) = false := by
      rw [beq_eq_false_iff_ne]
      intro e; subst e; exact h (by simp)
    simp only [List.zip_cons_cons, List.lookup, hm]
    exact zip_lookup_none fun z => h (by simp [z])
theorem putF_zip {f : Str} {y : V} : ∀ {ns : List Str} {us : List V}, f ∉ ns → us.length = ns.length → putF f y (ns.zip us) = (ns ++ [f]).zip (us ++ [y])
  | [], [], _, _ => rfl
  | [], _ :: _, _, h => by simp at h
  | _ :: _, [], _, h => by simp at h
  | m :: ns, u :: us, h, hl => by
    have hm : ¬ m = f := fun e => h (by simp [e])
    simp only [List.zip_cons_cons, List.cons_append, putF, if_neg hm]
    rw [putF_zip (fun z => h (by simp [z])) (by simpa using hl)]
section
variable {X : Cx} {Φ : List SD} {o e : Expr} {es : List Expr} {pos apos p : Pos} {P : MP} {Qs : List MP} {C : Addr} {fs : List (Str × MP)}
/-- o.f -/
theorem v_att {f : Str} (n : Nat) (c : Cls X.K C) (na : NoAttr X.K C f) (he : PEv X Φ o (insP C fs)) (hn : fs[n]? = some (f, P) := by rfl) (hd : (fs.map (·.1)).Nodup := by decide +kernel) (hb : attributeBase o f X.env (eval o X.env) = eval o X.env := by rfl) : PEv X Φ (.Attribute o f pos) P := .mk fun H0 σ F H Q s sl q =>
  wE_of (pe_fld peW hb) (he H0 σ F H _ s sl fun v F1 H1 g1 ⟨a, dx, us, e1, h1, p1⟩ => by
    subst e1
    have hp : (fs.map (·.2))[n]? = some P := by rw [List.getElem?_map, hn]; rfl
    obtain ⟨u, hu, pu⟩ := allP_at p1 hp
    exact ⟨a, C, dx, _, u, rfl, g1.s _ _ h1, c, na, by rw [zip_lookup hd (by rw [List.getElem?_map, hn]; rfl) (by rw [p1.1]; simp), hu], q u F1 H1 g1 pu⟩)
/-- a method of a class -/
structure MthG (P : Program) (w : World) (K : Fg) (mg : Str → Option Value) (base : Heap) (CX : CXT) (k : Nat) (C : Addr) (m : Str) (sp : Sp) : Prop where
  ex : ∃ (f : Addr) (fd : FuncData) (ps : List Str), FnOk P w K mg base CX k f fd ps sp ∧ Meth K C m f ∧ Cls K C ∧ Binds K fd ps []
theorem v_meth {A : Type} {argP : A → List MP} {pre : A → Prop} {res : A → RS} {m : Str} {CX : CXT} {n : Nat} {pl : Sem Bool} (G : MthG X.prog X.w X.K X.mg X.base CX n C m (spG argP pre res)) (hr : Room n X.A) (hx : Passes CX X E0) (z : A) (hp : pre z) (hv : res z = .val P)
    (he : PEv X Φ o (insP C fs)) (ha : PAs X Φ (e :: es) Qs) (hz : argP z = insP C fs :: Qs := by rfl) (hm : (fs.map (·.1)).contains m = false := by decide +kernel) (hst : (e :: es).all nst = true := by rfl)
    (ht : eval (.Call (.Attribute o m apos) (e :: es) [] pos) X.env = (do
      let ov ← eval o X.env
      standAt apos.atName
      let (f, first) ← holding [ov] (getMethod ov m pl)
      callWith pos f first (backTo pos (starEach (e :: es) X.env)) (backToKw pos (keywordEach [] X.env))) := by rfl) : PEv X Φ (.Call (.Attribute o m apos) (e :: es) [] pos) P := .mk fun H0 σ F H Q s sl q => by
  obtain ⟨f, fd, ps, h1, h2, h3, h4⟩ := G.ex
  have hst2 := hst
  rw [List.all_cons, Bool.and_eq_true] at hst2
  have hm' : m ∉ fs.map (·.1) := fun z => by rw [List.contains_iff_mem.mpr z] at hm; cases hm
  refine wE_of (pe_meth (pl := pl) peW h3 h2 h1 hr h4 .nil hx paW (star_cons hst2.1) (star_plain hst2.2) ht) (he H0 σ F H _ s sl fun v F1 H1 g1 ⟨a, dx, us, e1, k1, p1⟩ => ?_)
  subst e1
  refine ⟨a, dx, _, rfl, g1.s _ _ k1, zip_lookup_none hm', ha H0 σ F1 H1 _ g1.s (sl.gr g1) fun vs F2 H2 g2 p2 => ⟨z, F2, g2.s, ?_, hp, ?_⟩⟩
  · rw [hz, List.append_nil]
    exact .cons ⟨a, dx, us, rfl, g2.f _ _ k1, p1.mono g2.f⟩ p2
  · rw [hv]
    exact fun v F3 H3 g3 p3 => q v F3 H3 ((g1.trans g2).trans g3) p3
theorem v_meth0 {A : Type} {argP : A → List MP} {pre : A → Prop} {res : A → RS} {m : Str} {CX : CXT} {n : Nat} {pl : Sem Bool} (G : MthG X.prog X.w X.K X.mg X.base CX n C m (spG argP pre res)) (hr : Room n X.A) (hx : Passes CX X E0) (z : A) (hp : pre z) (hv : res z = .val P)
    (he : PEv X Φ o (insP C fs)) (hz : argP z = [insP C fs] := by rfl) (hm : (fs.map (·.1)).contains m = false := by decide +kernel)
    (ht : eval (.Call (.Attribute o m apos) [] [] pos) X.env = (do
      let ov ← eval o X.env
      standAt apos.atName
      let (f, first) ← holding [ov] (getMethod ov m pl)
      callWith pos f first (backTo pos (starEach [] X.env)) (backToKw pos (keywordEach [] X.env))) := by rfl) : PEv X Φ (.Call (.Attribute o m apos) [] [] pos) P := .mk fun H0 σ F H Q s sl q => by
  obtain ⟨f, fd, ps, h1, h2, h3, h4⟩ := G.ex
  have hm' : m ∉ fs.map (·.1) := fun z => by rw [List.contains_iff_mem.mpr z] at hm; cases hm
  refine wE_of (pe_meth0 (pl := pl) peW h3 h2 h1 hr h4 .nil hx ht) (he H0 σ F H _ s sl fun v F1 H1 g1 ⟨a, dx, us, e1, k1, p1⟩ => ?_)
  subst e1
  refine ⟨a, dx, _, rfl, g1.s _ _ k1, zip_lookup_none hm', z, F1, g1.s, ?_, hp, ?_⟩
  · rw [hz]
    exact .cons ⟨a, dx, us, rfl, k1, p1⟩ .nil
  · rw [hv]
    exact fun v F3 H3 g3 p3 => q v F3 H3 (g1.trans g3) p3
theorem v_meth0N {A : Type} {argP : A → List MP} {pre : A → Prop} {res : A → RS} {m : Str} {CX : CXT} {n : Nat} {pl : Sem Bool} {Ps : List MP} (G : MthG X.prog X.w X.K X.mg X.base CX n C m (spG argP pre res)) (hr : Room n X.A) (hx : Passes CX X E0) (z : A) (hp : pre z) (hv : res z = .new Ps)
    (he : PEv X Φ o (insP C fs)) (hz : argP z = [insP C fs] := by rfl) (hm : (fs.map (·.1)).contains m = false := by decide +kernel)
    (ht : eval (.Call (.Attribute o m apos) [] [] pos) X.env = (do
      let ov ← eval o X.env
      standAt apos.atName
      let (f, first) ← holding [ov] (getMethod ov m pl)
      callWith pos f first (backTo pos (starEach [] X.env)) (backToKw pos (keywordEach [] X.env))) := by rfl) : PEn X Φ (.Call (.Attribute o m apos) [] [] pos) Ps := .mk fun H0 σ F H Q s sl q => by
  obtain ⟨f, fd, ps, h1, h2, h3, h4⟩ := G.ex
  have hm' : m ∉ fs.map (·.1) := fun z => by rw [List.contains_iff_mem.mpr z] at hm; cases hm
  refine wE_of (pe_meth0 (pl := pl) peW h3 h2 h1 hr h4 .nil hx ht) (he H0 σ F H _ s sl fun v F1 H1 g1 ⟨a, dx, us, e1, k1, p1⟩ => ?_)
  subst e1
  refine ⟨a, dx, _, rfl, g1.s _ _ k1, zip_lookup_none hm', z, F1, g1.s, ?_, hp, ?_⟩
  · rw [hz]
    exact .cons ⟨a, dx, us, rfl, k1, p1⟩ .nil
  · rw [hv]
    exact fun a vs F3 H3 g3 k1 k2 k3 p3 => q a vs F3 H3 (g1.trans g3) (by
      cases w : H a with
      | none => rfl
      | some u => rw [g1.h a u w] at k1; cases k1) k2 k3 p3
end
/-! ### an object under construction: x's, unsettled -/
structure GrX (x : Addr) (F H F' H' : Hp) : Prop where
  f : Ex F F'
  h : ∀ a o, a ≠ x → H a = some o → H' a = some o
  s : Ex F' H'
  n : ∀ a, F a = none → H a ≠ none → F' a = none
theorem GrX.refl {x : Addr} {F H : Hp} (s : Ex F H) : GrX x F H F H := ⟨Ex.refl F, fun _ _ _ h => h, s, fun _ h _ => h⟩
theorem GrX.gr {x : Addr} {F H F1 H1 F2 H2 : Hp} (a : GrX x F H F1 H1) (b : Gr F1 H1 F2 H2) (hx : F1 x = none) (hx2 : H1 x ≠ none) : GrX x F H F2 H2 :=
  ⟨a.f.trans b.f, fun y o h1 h2 => b.h y o (a.h y o h1 h2), b.s, fun y h1 h2 => by
    by_cases q : y = x
    · subst q; exact b.n y hx hx2
    · refine b.n y (a.n y h1 h2) ?_
      cases e : H y with
      | none => exact absurd e h2
      | some o => rw [a.h y o q e]; exact fun z => nomatch z⟩
theorem GrX.write {x : Addr} {F H F1 H1 : Hp} {o : HO} (a : GrX x F H F1 H1) (hx : F1 x = none) : GrX x F H F1 (upd H1 x o) :=
  ⟨a.f, fun y u h1 h2 => by rw [upd_ne h1]; exact a.h y u h1 h2, fun y u z => by rw [upd_ne (ne_of_none z hx)]; exact a.s y u z, a.n⟩
theorem GrX.trans {x : Addr} {F H F1 H1 F2 H2 : Hp} (a : GrX x F H F1 H1) (b : GrX x F1 H1 F2 H2) (hx : F1 x = none) (hx2 : H1 x ≠ none) : GrX x F H F2 H2 :=
  ⟨a.f.trans b.f, fun y o h1 h2 => b.h y o h1 (a.h y o h1 h2), b.s, fun y h1 h2 => by
    by_cases q : y = x
    · subst q; exact b.n y hx hx2
    · refine b.n y (a.n y h1 h2) ?_
      cases e : H y with
      | none => exact absurd e h2
      | some o => rw [a.h y o q e]; exact fun z => nomatch z⟩
/-- self -/
def selfP (x : Addr) : MP := ⟨fun _ v => v = .ref x, fun _ _ _ _ h => h⟩
/-- what an __init__ does -/
def spI {A : Type} (C : Addr) (argP : A → List MP) (pre : A → Prop) (fs : A → List (Str × MP)) : Sp := fun vs H Q E => ∃ (z : A) (F : Hp) (x dx : Addr) (us : List V), H x = some (.ins C dx []) ∧ F x = none ∧ Ex F H ∧ vs = .ref x :: us ∧ AllP (argP z) F us ∧ pre z ∧
  ∀ F' H' dx' ws, GrX x F H F' H' → H' x = some (.ins C dx' (((fs z).map (·.1)).zip ws)) → F' x = none → AllP ((fs z).map (·.2)) F' ws → Q .non H'
theorem Sl.any {H0 H0' F H H' : Hp} {Φ : List SD} {σ : L2.St} (h : Sl H0 Φ σ F H) (hΦ : Φ.all (fun d => !d.isOw) = true) : Sl H0' Φ σ F H' := by
  have no : ∀ (i : Nat) (d : SD), Φ[i]? = some d → d.isOw = false := fun i d e => by
    have := List.all_eq_true.mp hΦ d (List.mem_of_getElem? e)
    simpa using this
  refine ⟨h.len, fun i d o a b => ?_, fun i j d e o o' l hij a b f g p q => ?_⟩
  · have k := h.at_ i d o a b
    have kn := no i d a
    cases d with
    | un => trivial
    | im P => exact k
    | ow Ps => cases kn
    | ob P => cases kn
  · rw [SD.fo_un (no i d a)] at p; cases p
structure HI (X : Cx) (ks : List (List Stmt)) (Φ : List SD) (x C : Addr) (fs fin : List (Str × MP)) : Prop where
  run : ∀ (F0 H0 : Hp) (D : Ends) (σ : L2.St) (F H : Hp) (dx : Addr) (us : List V), GrX x F0 H0 F H → Sl H0 Φ σ F H → H x = some (.ins C dx ((fs.map (·.1)).zip us)) → F x = none → AllP (fs.map (·.2)) F us →
    (∀ σ' F' H' dx' ws, GrX x F0 H0 F' H' → H' x = some (.ins C dx' ((fin.map (·.1)).zip ws)) → F' x = none → AllP (fin.map (·.2)) F' ws → D.nx σ' H') → wK X ks D σ H
section
variable {X : Cx} {Φ : List SD} {a b c e : Expr} {es : List Expr} {pos apos p np : Pos} {P : MP} {Ps Qs : List MP} {x C : Addr} {fs fin : List (Str × MP)} {A A1 A2 : List Stmt} {r : List (List Stmt)}
theorem hi_nil : HI X [] Φ x C fs fs := ⟨fun F0 H0 D σ F H dx us g sl hx fx ha k => k σ F H dx us g hx fx ha⟩
theorem hi_end (h : HI X r Φ x C fs fin) : HI X ([] :: r) Φ x C fs fin := ⟨fun F0 H0 D σ F H dx us g sl hx fx ha k => wSs_of pss_nil (h.run F0 H0 D σ F H dx us g sl hx fx ha k)⟩
theorem keep_x {F H F' H' : Hp} (g : Gr F H F' H') {o : HO} (hx : H x = some o) (fx : F x = none) : H' x = some o ∧ F' x = none := ⟨g.h _ _ hx, g.n x fx (ne_none hx)⟩
/-- self.f = e -/
theorem hi_fld {f s0 : Str} (cl : Cls X.K C) (na : NoAttr X.K C f) (he : PEv X Φ e P) (hΦ : Φ.all (fun d => !d.isOw) = true) (h : HI X (A :: r) Φ x C (fs ++ [(f, P)]) fin) (hfr : (fs.map (·.1)).contains f = false := by decide +kernel) (hlen : fs.length < 900 := by decide) (h0 : Φ[0]? = some (.im (selfP x)) := by rfl)
    (hN : X.N[0]? = some s0 := by rfl) (hv : Vis X.env.scope s0 := by first | exact Or.inl rfl | exact Or.inr (Or.inl rfl) | exact Or.inr (Or.inr rfl)) (hd : (s0 == ("__debug__" : Str)) = false := by decide) (hcd : (s0 == ("__classdict__" : Str)) = false := by decide)
    (hs : swapsWith e (some (.Attribute (.Name s0 np) f apos)) pos.line X.env = pure false := by rfl) : HI X ((.Assign [.Attribute (.Name s0 np) f apos] e pos :: A) :: r) Φ x C fs fin := ⟨fun F0 H0 D σ F H dx us g sl hx fx ha k => by
  have hm' : f ∉ fs.map (·.1) := fun z => by rw [List.contains_iff_mem.mpr z] at hfr; cases hfr
  refine wK_cons (wS_of (ps_fld (pe_var hN hv hd hcd) peW hs) (he H0 σ F H _ g.s sl fun u F1 H1 g1 p1 => ?_))
  obtain ⟨kx, kf⟩ := keep_x g1 hx fx
  obtain ⟨w, h1, h2⟩ := (sl.gr g1).im h0
  have h2 : w = .ref x := h2
  subst h2
  refine ⟨_, h1, x, C, dx, _, rfl, kx, cl, na, ?_, ?_⟩
  · have := ha.1
    rw [List.length_zip]; simp at this ⊢; omega
  · have hl : us.length = (fs.map (·.1)).length := by rw [ha.1]; simp
    rw [putF_zip hm' hl]
    have g2 := (g.gr g1 fx (ne_none hx)).write (o := .ins C dx ((fs.map (·.1) ++ [f]).zip (us ++ [u]))) kf
    refine h.run F0 H0 D σ F1 _ dx (us ++ [u]) g2 ((sl.gr g1).any hΦ) (by rw [upd_same, List.map_append]; rfl) kf ?_ k
    rw [List.map_append]
    exact (ha.mono g1.f).snoc p1⟩
/-- an expression, its value dropped -/
theorem hi_drop (he : PEv X Φ e P) (h : HI X (A :: r) Φ x C fs fin) (hs : swapsWith e none pos.line X.env = pure false := by rfl) : HI X ((.Expr e pos :: A) :: r) Φ x C fs fin := ⟨fun F0 H0 D σ F H dx us g sl hx fx ha k =>
  wK_cons (wS_of (ps_expr peW hs) (he H0 σ F H _ g.s sl fun v F1 H1 g1 _ => h.run F0 H0 D σ F1 H1 dx us (g.gr g1 fx (ne_none hx)) (sl.gr g1) (keep_x g1 hx fx).1 (keep_x g1 hx fx).2 (ha.mono g1.f) k))⟩
/-- a test that is false, its road not taken -/
theorem hi_ifno (hc : PTv X Φ c false) (h : HI X (A2 :: A :: r) Φ x C fs fin) : HI X ((.If c A1 A2 pos :: A) :: r) Φ x C fs fin := ⟨fun F0 H0 D σ F H dx us g sl hx fx ha k =>
  wK_cons (wS_of (ps_if ptW pssW pssW) (hc H0 σ F H _ g.s sl fun F1 H1 g1 => iteF (h.run F0 H0 D σ F1 H1 dx us (g.gr g1 fx (ne_none hx)) (sl.gr g1) (keep_x g1 hx fx).1 (keep_x g1 hx fx).2 (ha.mono g1.f) k)))⟩
variable {S R : Type} {M : S → List SD} {T : R → RS} {W : XK} {o : Ctl S R}
theorem h_ifno (hc : PTv X Φ c false) (h : HB X W (A2 :: A :: r) Φ M T o) : HB X W ((.If c A1 A2 pos :: A) :: r) Φ M T o := .mk fun F0 H0 D σ F H g sl kp =>
  wK_cons (wS_of (ps_if ptW pssW pssW) (hc H0 σ F H _ g.s sl fun F1 H1 g1 => iteF (h F0 H0 D σ F1 H1 (g.trans g1) (sl.gr g1) kp)))
end
end GL

set_option Elab.async false
set_option linter.all false
set_option maxRecDepth 100000
set_option maxHeartbeats 4000000
namespace GL
open PySem PySem.Spec PyProof.Rows L2
open Evl (Ex ex_l ex_t)
/-! ### C.m(x, ..): a def read off its class -/
/-- what of the head is wanted for it -/
def cfunB (K : Fg) (C f : Addr) (m : Str) : Bool := PySem.W.readsIn K C (.type "type") && (decide (PySem.W.specialIn K (.ref C) "__getattribute__" = some (some (.builtin "type.__getattribute__"))) && (match PySem.W.findCls K (.ref C) (.type "type") m with
  | some (.val (.ref a)) => decide (a = f)
  | _ => false))
structure CFn (K : Fg) (C f : Addr) (m : Str) : Prop where
  rd : ClX.CRead K C (.type "type")
  vl : ClX.CVal K C (.type "type") m (.ref f) (.ref f)
theorem cfn_of {K : Fg} {C f : Addr} {m : Str} (h : cfunB K C f m = true) : CFn K C f m := by
  unfold cfunB at h
  rw [Bool.and_eq_true, Bool.and_eq_true] at h
  obtain ⟨h1, h2, h3⟩ := h
  refine ⟨⟨h1, of_decide_eq_true h2⟩, ?_, rfl⟩
  cases e : PySem.W.findCls K (.ref C) (.type "type") m with
  | none => rw [e] at h3; cases h3
  | some r =>
    rw [e] at h3
    cases r with
    | get g a o t => cases h3
    | val v =>
      cases v with
      | ref a => rw [of_decide_eq_true h3]
      | _ => cases h3
section
variable {X : Cx} {CX : CXT} {k : Nat} {C f : Addr} {fd : FuncData} {ps : List Str} {sp : Sp} {E : XK} {c m : Str} {p pos apos cp : Pos} {e : Expr} {es : List Expr} {t : TA}
theorem pe_cfun {pl : Sem Bool} (hg : Gl X c) (hm : X.mg c = some (.ref C)) (cf : CFn X.K C f m) (F : FnOk X.prog X.w X.K X.mg X.base CX k f fd ps sp) (hr : Room k X.A) (hb : Binds X.K fd ps []) (hk : PySem.W.keepIn X.K (.ref f) = true) (hx : Passes CX X E) (ha : PA X (e :: es) t)
    (hd : (c == ("__debug__" : Str)) = false) (hst : starEach (e :: es) X.env = (false, eval e X.env) :: starEach es X.env) (hpl : (backTo pos (starEach es X.env)).any (·.1) = false)
    (ht : eval (.Call (.Attribute (.Name c cp) m apos) (e :: es) [] pos) X.env = (do
      let ov ← eval (.Name c cp) X.env
      standAt apos.atName
      let (f, first) ← holding [ov] (getMethod ov m pl)
      callWith pos f first (backTo pos (starEach (e :: es) X.env)) (backToKw pos (keywordEach [] X.env)))) :
    PE X (.Call (.Attribute (.Name c cp) m apos) (e :: es) [] pos) (fun σ H Q => t σ H fun vs H1 => sp vs H1 Q E) := by
  refine ⟨fun pins s σ H Q I h => ?_⟩
  refine PySem.W.methodCall_KW (pl := pl) (ld_glob I hg hm ?_ hd) ht
  refine PySem.W.method_cls I.kIn cf.rd.ga (ClX.getcval_ok I cf.rd cf.vl fun s1 I1 => ?_)
  refine PySem.W.callWith_K (first := []) (h₀ := X.base) I1.ok.mod.kin hk (thn (ha.run pos pins s1 σ H _ I1 h) fun us s2 ⟨vs, H2, I2, r, q2⟩ => ⟨I2.kIn, ?_⟩) hst hpl
  exact run_fn (us := us) (vs := vs) (dvs := []) F hr hb .nil hx I2 r (by rw [List.append_nil]; exact q2)
end
/-! ### a class that is made; its __init__ -/
structure IniG (P : Program) (w : World) (K : Fg) (mg : Str → Option Value) (base : Heap) (CX : CXT) (k : Nat) (f : Addr) (sp : Sp) : Prop where
  ex : ∃ (fd : FuncData) (ps : List Str), FnOk P w K mg base CX k f fd ps sp ∧ Binds K fd ps [] ∧ PySem.W.keepIn K (.ref f) = true
section
variable {X : Cx} {Φ : List SD} {e : Expr} {es : List Expr} {pos apos p np cp : Pos} {C f : Addr} {A : List Stmt} {r : List (List Stmt)}
theorem v_mk {Ar : Type} {argP : Ar → List MP} {pre : Ar → Prop} {fs : Ar → List (Str × MP)} {CX : CXT} {k : Nat} {c : Str} (M : Mk X.K C f) (G : IniG X.prog X.w X.K X.mg X.base CX k f (spI C argP pre fs)) (hr : Room (k + 1) X.A) (hm : X.mg c = some (.ref C)) (hx : Passes CX X E0) (z : Ar) (hp : pre z) (ha : PAs X Φ (e :: es) (argP z))
    (hg : Gl X c := by rfl) (hd : (c == ("__debug__" : Str)) = false := by decide) (hst : (e :: es).all nst = true := by rfl) : PEv X Φ (.Call (.Name c p) (e :: es) [] pos) (insP C (fs z)) := .mk fun H0 σ F H Q s sl q => by
  obtain ⟨fd, ps, h1, h2, _⟩ := G.ex
  have hst2 := hst
  rw [List.all_cons, Bool.and_eq_true] at hst2
  refine wE_of (pe_make M h1 hr hg hm h2 .nil hx paW hd (star_cons hst2.1) (star_plain hst2.2)) (ha H0 σ F H _ s sl fun vs F1 H1 g1 p1 x dx hx0 hdx ne => ?_)
  have fx : F1 x = none := (fresh_of g1 hx0).1
  have fdx : F1 dx = none := (fresh_of g1 hdx).1
  have s1 : Ex F1 (upd (upd H1 dx (.own x)) x (.ins C dx [])) := fun b u z => by
    rw [upd_ne (ne_of_none z fx), upd_ne (ne_of_none z fdx)]; exact g1.s b u z
  refine ⟨z, F1, x, dx, vs, upd_same, fx, s1, by rw [List.append_nil], p1, hp, fun F' H' dx' ws g hx' fx' pw => ⟨rfl, ?_⟩⟩
  obtain ⟨k1, k2⟩ := Gr.settle g.s fx' hx'
  refine q (.ref x) (upd F' x (.ins C dx' (((fs z).map (·.1)).zip ws))) H' ⟨(g1.f.trans g.f).trans k1, fun b u zb => ?_, k2, fun b z1 z2 => ?_⟩ ⟨x, dx', ws, rfl, upd_same, pw.mono k1⟩
  · have hb : H1 b = some u := g1.h b u zb
    have n1 : b ≠ x := ne_of_none hb hx0
    refine g.h b u n1 ?_
    rw [upd_ne n1, upd_ne (ne_of_none hb hdx)]; exact hb
  · have n1 : b ≠ x := fun w => by
      subst w
      cases hb : H b with
      | none => exact z2 hb
      | some u => rw [g1.h b u hb] at hx0; cases hx0
    rw [upd_ne n1]
    refine g.n b (g1.n b z1 z2) ?_
    cases hb : H b with
    | none => exact absurd hb z2
    | some u =>
      have h3 := g1.h b u hb
      rw [upd_ne n1, upd_ne (ne_of_none h3 hdx), h3]; exact fun w => nomatch w
/-- Base.__init__(self, ..) -/
theorem hi_super {Ar : Type} {argP : Ar → List MP} {pre : Ar → Prop} {fs : Ar → List (Str × MP)} {fin : List (Str × MP)} {CX : CXT} {k : Nat} {c s0 : Str} {x D0 : Addr} {pl : Sem Bool} (cf : CFn X.K D0 f "__init__") (G : IniG X.prog X.w X.K X.mg X.base CX k f (spI C argP pre fs)) (hr : Room k X.A) (hm : X.mg c = some (.ref D0)) (hx : Passes CX X E0) (z : Ar) (hp : pre z)
    (ha : PAs X Φ es (argP z)) (hΦ : Φ.all (fun d => !d.isOw) = true) (h : HI X (A :: r) Φ x C (fs z) fin) (hg : Gl X c := by rfl) (hd : (c == ("__debug__" : Str)) = false := by decide) (hst : es.all nst = true := by rfl) (h0 : Φ[0]? = some (.im (selfP x)) := by rfl)
    (hN : X.N[0]? = some s0 := by rfl) (hv : Vis X.env.scope s0 := by first | exact Or.inl rfl | exact Or.inr (Or.inl rfl) | exact Or.inr (Or.inr rfl)) (hd0 : (s0 == ("__debug__" : Str)) = false := by decide) (hcd : (s0 == ("__classdict__" : Str)) = false := by decide)
    (ht : eval (.Call (.Attribute (.Name c cp) "__init__" apos) (.Name s0 np :: es) [] p) X.env = (do
      let ov ← eval (.Name c cp) X.env
      standAt apos.atName
      let (f, first) ← holding [ov] (getMethod ov "__init__" pl)
      callWith p f first (backTo p (starEach (.Name s0 np :: es) X.env)) (backToKw p (keywordEach [] X.env))) := by rfl)
    (hs : swapsWith (.Call (.Attribute (.Name c cp) "__init__" apos) (.Name s0 np :: es) [] p) none pos.line X.env = pure false := by rfl) :
    HI X ((.Expr (.Call (.Attribute (.Name c cp) "__init__" apos) (.Name s0 np :: es) [] p) pos :: A) :: r) Φ x C [] fin := ⟨fun F0 H0 D σ F H dx us g sl hx0 fx hu k => by
  obtain ⟨fd, ps, h1, h2, h3⟩ := G.ex
  obtain ⟨w, w1, w2⟩ := sl.im h0
  have w2 : w = .ref x := w2
  subst w2
  refine wK_cons (wS_of (ps_expr (pe_cfun (pl := pl) hg hm cf h1 hr h2 h3 hx (pa_cons (pe_var hN hv hd0 hcd) paW (star_cons rfl)) hd (star_cons rfl) (star_plain hst) ht) hs) ⟨_, w1, ha H0 σ F H _ g.s sl fun vs F1 H1 g1 p1 => ?_⟩)
  obtain ⟨kx, kf⟩ := keep_x g1 hx0 fx
  have g0 := g.gr g1 fx (ne_none hx0)
  have hus : us = [] := by
    have := hu.1; simp at this; exact this
  subst hus
  refine ⟨z, F1, x, dx, vs, by simpa using kx, kf, g1.s, rfl, p1, hp, fun F' H' dx' ws g2 hx2 fx2 pw => ?_⟩
  have hsl : Sl H0 Φ σ F' H' := by
    have e := (sl.gr g1)
    have no : ∀ (i : Nat) (d : SD), Φ[i]? = some d → d.isOw = false := fun i d a => by
      have := List.all_eq_true.mp hΦ d (List.mem_of_getElem? a)
      simpa using this
    refine ⟨e.len, fun i d o a b => ?_, fun i j d e2 o o' l hij a b f g p q => ?_⟩
    · have kk := e.at_ i d o a b
      have kn := no i d a
      cases d with
      | un => trivial
      | im P => obtain ⟨v, v1, v2⟩ := kk; exact ⟨v, v1, P.mono _ _ _ g2.f v2⟩
      | ow Ps => cases kn
      | ob P => cases kn
    · rw [SD.fo_un (no i d a)] at p; cases p
  exact h.run F0 H0 D σ F' H' dx' ws (g0.trans g2 kf (ne_none kx)) hsl hx2 fx2 pw k⟩
end
section
variable {P : Program} {w : World} {K : Fg} {mg : Str → Option Value} {base : Heap}
theorem def_okI {x qual : Str} {st : Stmt} {f C : Addr} {fd : FuncData} {N ps : List Str} {k : Nat} {Ar : Type} {argP : Ar → List MP} {pre : Ar → Prop} {fs : Ar → List (Str × MP)} (F : DefOf K x qual st f fd) (S : FnScope N ps (defScope st)) (n : Nat) (hlen : ∀ z, (argP z).length + 1 = ps.length) (hN : N.length = ps.length + n)
    (hb : ∀ (cdv : Value) (A : Around) (outer : List Env) (s : Shared) (H : Hp) (E : XK), Room k (A.deeper (envOfC qual (defScope st) s.heap.objs.size f cdv)) → ∀ z, pre z → ∀ o,
      HI (bx P w K mg base N qual st f cdv A outer s H E) [defBody st] (enter (selfP o :: argP z) n) o C [] (fs z)) : FnOk P w K mg base CX0 (k + 1) f fd ps (spI C argP pre fs) := by
  refine FunD.ok F S (fun vs H Q E h => ?_) fun cdv A outer s H vs Q E hr h => ?_
  · obtain ⟨z, F, o, dx, us, _, _, _, rfl, ha, _⟩ := h
    rw [List.length_cons, ha.1, hlen]
  · obtain ⟨z, G, o, dx, us, hx, fx, s0, rfl, ha, hp, hs⟩ := h
    have hall : AllP (selfP o :: argP z) G (.ref o :: us) := .cons rfl ha
    refine ⟨_, PSs.nox pssW, (hb cdv A outer s H E hr z hp o).run G H { nx := fun _ H' => Q .non H', rt := Q } (L2.start N (.ref o :: us)) G H dx [] (GrX.refl s0) (sl_start hall (by rw [hN, List.length_cons, hlen])) (by simpa using hx) fx .nil ?_⟩
    exact fun σ' F' H' dx' ws g1 g2 g3 g4 => hs F' H' dx' ws g1 g2 g3 g4
theorem ini_mk {x : Str} {f : Addr} {fd : FuncData} {ps : List Str} {k : Nat} {CX : CXT} {sp : Sp} {qual : Str} {st : Stmt} (F : DefOf K x qual st f fd) (G : FnOk P w K mg base CX k f fd ps sp)
    (hb : ∀ (kV doc pm : Value) (an : Option Addr) (cdv ct : Value) (us : List Value), us.length = ps.length → bindArgs (PySem.W.fnOf x qual (defArgs st) (defBody st) (defScope st) .none kV doc pm an cdv ct) ⟨us, []⟩ = pure (ps.zip us)) : IniG P w K mg base CX k f sp :=
  ⟨fd, ps, G, FunD.bindsN F hb, F.kp⟩
theorem mth_mk {C : Addr} {x m : Str} {f : Addr} {fd : FuncData} {ps : List Str} {k : Nat} {CX : CXT} {sp : Sp} {qual : Str} {st : Stmt} (c : Cls K C) (hm : Meth K C m f) (F : DefOf K x qual st f fd) (G : FnOk P w K mg base CX k f fd ps sp)
    (hb : ∀ (kV doc pm : Value) (an : Option Addr) (cdv ct : Value) (us : List Value), us.length = ps.length → bindArgs (PySem.W.fnOf x qual (defArgs st) (defBody st) (defScope st) .none kV doc pm an cdv ct) ⟨us, []⟩ = pure (ps.zip us)) : MthG P w K mg base CX k C m sp :=
  ⟨f, fd, ps, G, hm, c, FunD.bindsN F hb⟩
end
end GL

set_option Elab.async false
set_option linter.all false
set_option maxRecDepth 100000
set_option maxHeartbeats 4000000
namespace GL
open PySem PySem.Spec PyProof.Rows L2
open Evl (Ex ex_l ex_t)
section
variable {P : Program} {w : World} {K : Fg} {mg : Str → Option Value} {base : Heap}
/-- a def that ends without a return -/
theorem def_okM {x qual : Str} {st : Stmt} {f : Addr} {fd : FuncData} {N ps : List Str} {k : Nat} {Ar ρ : Type} {argP : Ar → List MP} {pre : Ar → Prop} {T : ρ → RS} (M0 : List SD) (F : DefOf K x qual st f fd) (S : FnScope N ps (defScope st)) (n : Nat) (hlen : ∀ z, (argP z).length = ps.length) (hN : N.length = ps.length + n)
    (hb : ∀ (cdv : Value) (A : Around) (outer : List Env) (s : Shared) (H : Hp) (E : XK), Room k (A.deeper (envOfC qual (defScope st) s.heap.objs.size f cdv)) → ∀ z, pre z →
      HB (S := Unit) (bx P w K mg base N qual st f cdv A outer s H E) (fun _ _ _ => False) [defBody st] (enter (argP z) n) (fun _ => M0) T (.nx ())) : FnOk P w K mg base CX0 (k + 1) f fd ps (spG argP pre fun _ => .val (py K .none)) := by
  refine FunD.ok F S (fun vs H Q E h => ?_) fun cdv A outer s H vs Q E hr h => ?_
  · obtain ⟨z, F, _, ha, _⟩ := h
    rw [ha.1, hlen]
  · obtain ⟨z, G, s0, ha, hp, hs⟩ := h
    refine ⟨_, PSs.nox pssW, run_body (X := bx P w K mg base N qual st f cdv A outer s H E) (W := fun _ _ _ => False) s0 ha (by rw [hlen]; exact hN) (hb cdv A outer s H E hr z hp) ?_⟩
    exact fun σ F' H' g _ => hs .non F' H' g .non
end
/-! ### lists of a written make -/
structure H2 (α β : Type) where
  a : α
  b : β
  deriving DecidableEq, Inhabited
instance {α β : Type} [Py α] [Py β] : Py (H2 α β) := ⟨fun p => .list [enc p.a, enc p.b], fun p => by simp [PyData.canLay0, PyData.canLayAll0, Py.can], max (Py.dep α) (Py.dep β) + 1, fun p => by
  have := Py.deep p.a
  have := Py.deep p.b
  simp only [PyData.depth, PyData.depthAll, enc]; omega⟩
instance {α β : Type} [Py α] [Py β] [PyQ α] [PyQ β] : PyQ (H2 α β) := ⟨fun p q => by
  show PyData.eqv (.list [enc p.a, enc p.b]) (.list [enc q.a, enc q.b]) = true ↔ _
  have h0 := PyQ.eqv p.a q.a
  have h1 := PyQ.eqv p.b q.b
  simp only [PyData.eqv, PyData.eqvAll, Bool.and_true, Bool.and_eq_true, h0, h1]
  cases p; cases q; simp⟩
structure H3 (α β γ : Type) where
  a : α
  b : β
  c : γ
  deriving DecidableEq, Inhabited
instance {α β γ : Type} [Py α] [Py β] [Py γ] : Py (H3 α β γ) := ⟨fun p => .list [enc p.a, enc p.b, enc p.c], fun p => by simp [PyData.canLay0, PyData.canLayAll0, Py.can], max (max (Py.dep α) (Py.dep β)) (Py.dep γ) + 1, fun p => by
  have := Py.deep p.a
  have := Py.deep p.b
  have := Py.deep p.c
  simp only [PyData.depth, PyData.depthAll, enc]; omega⟩
instance {α β γ : Type} [Py α] [Py β] [Py γ] [PyQ α] [PyQ β] [PyQ γ] : PyQ (H3 α β γ) := ⟨fun p q => by
  show PyData.eqv (.list [enc p.a, enc p.b, enc p.c]) (.list [enc q.a, enc q.b, enc q.c]) = true ↔ _
  have h0 := PyQ.eqv p.a q.a
  have h1 := PyQ.eqv p.b q.b
  have h2 := PyQ.eqv p.c q.c
  simp only [PyData.eqv, PyData.eqvAll, Bool.and_true, Bool.and_eq_true, h0, h1, h2]
  cases p; cases q; simp⟩
structure H4 (α β γ δ : Type) where
  a : α
  b : β
  c : γ
  d : δ
  deriving DecidableEq, Inhabited
instance {α β γ δ : Type} [Py α] [Py β] [Py γ] [Py δ] : Py (H4 α β γ δ) := ⟨fun p => .list [enc p.a, enc p.b, enc p.c, enc p.d], fun p => by simp [PyData.canLay0, PyData.canLayAll0, Py.can], max (max (Py.dep α) (Py.dep β)) (max (Py.dep γ) (Py.dep δ)) + 1, fun p => by
  have := Py.deep p.a
  have := Py.deep p.b
  have := Py.deep p.c
  have := Py.deep p.d
  simp only [PyData.depth, PyData.depthAll, enc]; omega⟩
instance {α β γ δ : Type} [Py α] [Py β] [Py γ] [Py δ] [PyQ α] [PyQ β] [PyQ γ] [PyQ δ] : PyQ (H4 α β γ δ) := ⟨fun p q => by
  show PyData.eqv (.list [enc p.a, enc p.b, enc p.c, enc p.d]) (.list [enc q.a, enc q.b, enc q.c, enc q.d]) = true ↔ _
  have h0 := PyQ.eqv p.a q.a
  have h1 := PyQ.eqv p.b q.b
  have h2 := PyQ.eqv p.c q.c
  have h3 := PyQ.eqv p.d q.d
  simp only [PyData.eqv, PyData.eqvAll, Bool.and_true, Bool.and_eq_true, h0, h1, h2, h3]
  cases p; cases q; simp⟩
section
variable {X : Cx} {Φ : List SD} {a b : Expr} {es : List Expr} {pos q1 : Pos}
theorem v_fldLP {n : Nat} {ds : List PyData} {d : PyData} (ha : PEv X Φ a (py X.K (.list ds))) (hd : ds[n]? = some d) : PEv X Φ (.Subscript a (.Constant (.int (n : Int)) 0 q1) pos) (py X.K d) :=
  v_ixP (n := n) (i := (n : Int)) (PEk.l (PEv.xk (ha.imp fun _ _ z => py_list.mp z))) v_int rfl (by rw [List.getElem?_map, hd]; rfl) (fun _ _ => rfl)
theorem v_h2 {α β : Type} [Py α] [Py β] {x : α} {y : β} (h : PAs X Φ es [py X.K (enc x), py X.K (enc y)]) : PV X Φ (.List es pos) (H2.mk x y) := (PEn.v (v_list h)).imp fun _ _ z => py_list.mpr z
theorem v_g2_0 {α β : Type} [Py α] [Py β] {x : H2 α β} (h : PV X Φ a x) : PV X Φ (.Subscript a (.Constant (.int 0) 0 q1) pos) x.a := v_fldLP (n := 0) (ds := [enc x.a, enc x.b]) h rfl
theorem v_g2_1 {α β : Type} [Py α] [Py β] {x : H2 α β} (h : PV X Φ a x) : PV X Φ (.Subscript a (.Constant (.int 1) 0 q1) pos) x.b := v_fldLP (n := 1) (ds := [enc x.a, enc x.b]) h rfl
theorem v_h3 {α β γ : Type} [Py α] [Py β] [Py γ] {x : α} {y : β} {z : γ} (h : PAs X Φ es [py X.K (enc x), py X.K (enc y), py X.K (enc z)]) : PV X Φ (.List es pos) (H3.mk x y z) := (PEn.v (v_list h)).imp fun _ _ z => py_list.mpr z
theorem v_g3_0 {α β γ : Type} [Py α] [Py β] [Py γ] {x : H3 α β γ} (h : PV X Φ a x) : PV X Φ (.Subscript a (.Constant (.int 0) 0 q1) pos) x.a := v_fldLP (n := 0) (ds := [enc x.a, enc x.b, enc x.c]) h rfl
theorem v_g3_1 {α β γ : Type} [Py α] [Py β] [Py γ] {x : H3 α β γ} (h : PV X Φ a x) : PV X Φ (.Subscript a (.Constant (.int 1) 0 q1) pos) x.b := v_fldLP (n := 1) (ds := [enc x.a, enc x.b, enc x.c]) h rfl
theorem v_g3_2 {α β γ : Type} [Py α] [Py β] [Py γ] {x : H3 α β γ} (h : PV X Φ a x) : PV X Φ (.Subscript a (.Constant (.int 2) 0 q1) pos) x.c := v_fldLP (n := 2) (ds := [enc x.a, enc x.b, enc x.c]) h rfl
theorem v_h4 {α β γ δ : Type} [Py α] [Py β] [Py γ] [Py δ] {x : α} {y : β} {z : γ} {u : δ} (h : PAs X Φ es [py X.K (enc x), py X.K (enc y), py X.K (enc z), py X.K (enc u)]) : PV X Φ (.List es pos) (H4.mk x y z u) := (PEn.v (v_list h)).imp fun _ _ z => py_list.mpr z
theorem v_g4_0 {α β γ δ : Type} [Py α] [Py β] [Py γ] [Py δ] {x : H4 α β γ δ} (h : PV X Φ a x) : PV X Φ (.Subscript a (.Constant (.int 0) 0 q1) pos) x.a := v_fldLP (n := 0) (ds := [enc x.a, enc x.b, enc x.c, enc x.d]) h rfl
theorem v_g4_1 {α β γ δ : Type} [Py α] [Py β] [Py γ] [Py δ] {x : H4 α β γ δ} (h : PV X Φ a x) : PV X Φ (.Subscript a (.Constant (.int 1) 0 q1) pos) x.b := v_fldLP (n := 1) (ds := [enc x.a, enc x.b, enc x.c, enc x.d]) h rfl
theorem v_g4_2 {α β γ δ : Type} [Py α] [Py β] [Py γ] [Py δ] {x : H4 α β γ δ} (h : PV X Φ a x) : PV X Φ (.Subscript a (.Constant (.int 2) 0 q1) pos) x.c := v_fldLP (n := 2) (ds := [enc x.a, enc x.b, enc x.c, enc x.d]) h rfl
theorem v_g4_3 {α β γ δ : Type} [Py α] [Py β] [Py γ] [Py δ] {x : H4 α β γ δ} (h : PV X Φ a x) : PV X Φ (.Subscript a (.Constant (.int 3) 0 q1) pos) x.d := v_fldLP (n := 3) (ds := [enc x.a, enc x.b, enc x.c, enc x.d]) h rfl
end
end GL

set_option Elab.async false
set_option linter.all false
set_option maxRecDepth 100000
set_option maxHeartbeats 4000000
namespace GL
open PySem PySem.Spec PyProof.Rows L2
/-! ### the head's hook, one more place of the heap in its part -/
def asY (g : Addr → Option Obj) (n : Nat) : List Addr := PySem.cStatics :: He.asD g n
def obsY (n : Nat) (fa : List He.Fa) (fn : List He.DefD) (ex : Fg → Bool) (g : Addr → Option Obj) : He.AlD × Bool :=
  (He.obsD fa fn (He.frG g (asY g n)), ex (He.frG g (asY g n)))
def hookY (n : Nat) (fa : List He.Fa) (fn : List He.DefD) (ex : Fg → Bool) : PySem.W.Hook where
  α := He.AlD × Bool
  obs := fun s => obsY n fa fn ex s.heap.get?
  val := fun _ => (He.valD fn, true)
  says := fun _ h => ∃ K : Fg, K.In h ∧ He.SaysD fa fn K ∧ ex K = true
  of := fun _ _ e => ⟨_, He.frG_in, congrArg (fun z : He.AlD × Bool => z.1) e, congrArg (fun z : He.AlD × Bool => z.2) e⟩
  keeps := fun _ _ _ ⟨K, hK, c⟩ k => ⟨K, PySem.W.Frag.In.keeps hK k, c⟩
theorem obsY_eq {n : Nat} {fa : List He.Fa} {fn : List He.DefD} {ex : Fg → Bool} {g : Addr → Option Obj} {s : Shared} (h : ∀ a, g a = s.heap.get? a) : obsY n fa fn ex g = (hookY n fa fn ex).obs s := by
  have e : g = s.heap.get? := funext h
  rw [e]; rfl
end GL

set_option Elab.async false
set_option linter.all false
set_option maxRecDepth 100000
set_option maxHeartbeats 4000000
namespace GL
open PySem PySem.Spec PyProof.Rows L2
open Evl (Ex ex_l ex_t)
/-! ### one of two makes, told apart by their class -/
inductive Alt (α β : Type) where
  | l (x : α)
  | r (y : β)
  deriving DecidableEq
instance {α β : Type} [Inhabited α] : Inhabited (Alt α β) := ⟨.l default⟩
def Alt.isL {α β : Type} : Alt α β → Bool
  | .l _ => true
  | .r _ => false
def Alt.isR {α β : Type} : Alt α β → Bool
  | .l _ => false
  | .r _ => true
def Alt.getL {α β : Type} [Inhabited α] : Alt α β → α
  | .l x => x
  | .r _ => default
def Alt.getR {α β : Type} [Inhabited β] : Alt α β → β
  | .l _ => default
  | .r y => y
instance {α β : Type} [Py α] [Py β] : Py (Alt α β) := ⟨fun x => match x with
  | .l x => enc x
  | .r y => enc y, fun x => by
  cases x with
  | l x => exact Py.can x
  | r y => exact Py.can y, max (Py.dep α) (Py.dep β), fun x => by
  cases x with
  | l x => exact Nat.le_trans (Py.deep x) (Nat.le_max_left _ _)
  | r y => exact Nat.le_trans (Py.deep y) (Nat.le_max_right _ _)⟩
section
variable {X : Cx} {Φ : List SD} {a e : Expr} {p p2 pos : Pos}
theorem v_altL {α β : Type} [Py α] [Py β] {x : α} (h : PV X Φ e x) : PV X Φ e (Alt.l x : Alt α β) := h
theorem v_altR {α β : Type} [Py α] [Py β] {y : β} (h : PV X Φ e y) : PV X Φ e (Alt.r y : Alt α β) := h
theorem v_getL {α β : Type} [Py α] [Py β] [Inhabited α] {x : Alt α β} (hx : x.isL = true) (h : PV X Φ e x) : PV X Φ e x.getL := by
  cases x with
  | l x => exact h
  | r y => cases hx
theorem v_getR {α β : Type} [Py α] [Py β] [Inhabited β] {x : Alt α β} (hx : x.isR = true) (h : PV X Φ e x) : PV X Φ e x.getR := by
  cases x with
  | l x => cases hx
  | r y => exact h
/-- isinstance(x, tuple), x a tuple of the left make or a list of the right one -/
theorem v_isTup {α β : Type} [Py α] [Py β] {x : Alt α β} (B : Blt X.mg) (hl : ∀ x : α, tyN (enc x) = "tuple") (hr : ∀ y : β, tyN (enc y) = "list") (ha : PV X Φ a x) (hgx : Gl X "tuple" := by rfl) (hg : Gl X "isinstance" := by rfl) (h1 : nst a = true := by rfl) : PV X Φ (.Call (.Name "isinstance" p) [a, .Name "tuple" p2] [] pos) x.isL := by
  cases x with
  | l x => exact v_isiTuple B (dd := enc x) ha (by rw [hl]; rfl) hgx hg h1
  | r y => exact v_isiTuple B (dd := enc y) ha (by rw [hr]; rfl) hgx hg h1
theorem v_isLst {α β : Type} [Py α] [Py β] {x : Alt α β} (B : Blt X.mg) (hl : ∀ x : α, tyN (enc x) = "tuple") (hr : ∀ y : β, tyN (enc y) = "list") (ha : PV X Φ a x) (hgx : Gl X "list" := by rfl) (hg : Gl X "isinstance" := by rfl) (h1 : nst a = true := by rfl) : PV X Φ (.Call (.Name "isinstance" p) [a, .Name "list" p2] [] pos) x.isR := by
  cases x with
  | l x => exact v_isiList B (dd := enc x) ha (by rw [hl]; rfl) hgx hg h1
  | r y => exact v_isiList B (dd := enc y) ha (by rw [hr]; rfl) hgx hg h1
end
theorem encL {α β : Type} [Py α] [Py β] [Inhabited α] {x : Alt α β} (h : x.isL = true) : enc x = enc x.getL := by
  cases x with
  | l x => rfl
  | r y => cases h
theorem encR {α β : Type} [Py α] [Py β] [Inhabited β] {x : Alt α β} (h : x.isR = true) : enc x = enc x.getR := by
  cases x with
  | l x => cases h
  | r y => rfl
theorem isR_of {α β : Type} {x : Alt α β} (h : x.isL = false) : x.isR = true := by
  cases x with
  | l x => cases h
  | r y => rfl
theorem isL_of {α β : Type} {x : Alt α β} (h : x.isR = false) : x.isL = true := by
  cases x with
  | l x => rfl
  | r y => cases h
end GL

set_option Elab.async false
set_option linter.all false
set_option maxRecDepth 100000
set_option maxHeartbeats 4000000
namespace GL
open PySem PySem.Spec PyProof.Rows L2
open Evl (Ex ex_l ex_t)
/-! ### values that may fail: .ok, .ex (an own exception), .st (nothing is said) -/
inductive Exn where
  | noRules | noPlace | notFree | tooMany | noRow
  | noTime (flight time : Int) | noPlan (crowd : List Int) | noSheet (row : Int)
  deriving DecidableEq, Inhabited
inductive M (α : Type) where
  | ok (a : α)
  | ex (e : Exn)
  | st
namespace M
def get {α : Type} [Inhabited α] : M α → α
  | .ok a => a
  | _ => default
def Ok {α : Type} (m : M α) : Prop := ∃ a, m = .ok a
def map {α β : Type} (f : α → β) : M α → M β
  | .ok a => .ok (f a)
  | .ex e => .ex e
  | .st => .st
theorem Ok.get {α : Type} [Inhabited α] {m : M α} (h : m.Ok) : m = .ok m.get := by
  obtain ⟨a, rfl⟩ := h; rfl
theorem get_ok {α : Type} [Inhabited α] {a : α} : (M.ok a).get = a := rfl
end M
def bindM {α β : Type} (m : M α) (k : α → M β) : M β := match m with
  | .ok a => k a
  | .ex e => .ex e
  | .st => .st
/-- nothing is said of an exception here -/
def bindO {α β : Type} (m : M α) (k : α → M β) : M β := match m with
  | .ok a => k a
  | _ => .st
open Classical in
noncomputable def asr {β : Type} (c : Prop) (o : M β) : M β := if c then o else .st
theorem asr_pos {β : Type} {c : Prop} {o : M β} (h : c) : asr c o = o := if_pos h
theorem asr_neg {β : Type} {c : Prop} {o : M β} (h : ¬ c) : asr c o = .st := if_neg h
theorem bindM_ok {α β : Type} {a : α} {k : α → M β} : bindM (.ok a) k = k a := rfl
theorem bindO_ok {α β : Type} {a : α} {k : α → M β} : bindO (.ok a) k = k a := rfl
def ctlOk {S R : Type} : Ctl S R → Ctl S (Except Exn R)
  | .nx s => .nx s
  | .ct s => .ct s
  | .bk s => .bk s
  | .rt r => .rt (.ok r)
def lift {S R β : Type} (j : β → Ctl S R) : M β → Option (Ctl S (Except Exn R))
  | .ok b => some (ctlOk (j b))
  | .ex e => some (.rt (.error e))
  | .st => none
/-- a block's promise: as far as the mirror says something -/
structure HM (X : Cx) (W : XK) {S R β : Type} (j : β → Ctl S R) (ks : List (List Stmt)) (Φ : List SD) (Mm : S → List SD) (T : Except Exn R → RS) (o : M β) : Prop where
  run : ∀ c, lift j o = some c → HB X W ks Φ Mm T c
/-! ### loops -/
def forLM {α S R : Type} (f : S → α → M (Ctl S R)) : S → List α → M (Sum S R)
  | s, [] => .ok (.inl s)
  | s, x :: xs => match f s x with
    | .ok (.nx s') => forLM f s' xs
    | .ok (.ct s') => forLM f s' xs
    | .ok (.bk s') => .ok (.inl s')
    | .ok (.rt r) => .ok (.inr r)
    | .ex e => .ex e
    | .st => .st
def forM' {α S R β : Type} (f : S → α → M (Ctl S R)) (s0 : S) (xs : List α) (rt : R → β) (k : S → M β) : M β := match forLM f s0 xs with
  | .ok (.inl s) => k s
  | .ok (.inr r) => .ok (rt r)
  | .ex e => .ex e
  | .st => .st
def foldM' {α S : Type} (f : S → α → M S) : S → List α → M S
  | s, [] => .ok s
  | s, x :: xs => bindM (f s x) fun s' => foldM' f s' xs
@[irreducible] def fuelN : Nat := 2 ^ 64
theorem fuel_ge : 2 ^ 64 ≤ fuelN := by unfold fuelN; exact Nat.le_refl _
def whileLM {S R : Type} (c : S → M Bool) (f : S → M (Ctl S R)) : Nat → S → M (Sum S R)
  | 0, _ => .st
  | n + 1, s => match c s with
    | .ok false => .ok (.inl s)
    | .ok true => match f s with
      | .ok (.nx s') => whileLM c f n s'
      | .ok (.ct s') => whileLM c f n s'
      | .ok (.bk s') => .ok (.inl s')
      | .ok (.rt r) => .ok (.inr r)
      | .ex e => .ex e
      | .st => .st
    | _ => .st
def whileM' {S R β : Type} (c : S → M Bool) (f : S → M (Ctl S R)) (s0 : S) (rt : R → β) (k : S → M β) : M β := match whileLM c f fuelN s0 with
  | .ok (.inl s) => k s
  | .ok (.inr r) => .ok (rt r)
  | .ex e => .ex e
  | .st => .st
/-- a while without break, return -/
def whileS {S : Type} (c : S → M Bool) (f : S → M S) : Nat → S → M S
  | 0, _ => .st
  | n + 1, s => match c s with
    | .ok false => .ok s
    | .ok true => bindM (f s) fun s' => whileS c f n s'
    | _ => .st
def tot {S R : Type} (s : S) (m : M (Ctl S R)) : Ctl S (Except Exn R) := (lift id m).getD (.bk s)
def sumX {S R : Type} : M (Sum S R) → Option (Sum S (Except Exn R))
  | .ok (.inl s) => some (.inl s)
  | .ok (.inr r) => some (.inr (.ok r))
  | .ex e => some (.inr (.error e))
  | .st => none
theorem forL_of {α S R : Type} {f : S → α → M (Ctl S R)} : ∀ (xs : List α) (s : S) {u}, sumX (forLM f s xs) = some u → forL (fun s x => tot s (f s x)) s xs = u
  | [], s, u, h => by simpa [forLM, sumX, forL] using h
  | x :: xs, s, u, h => by
    simp only [forLM] at h
    simp only [forL, tot]
    cases e : f s x with
    | ok c =>
      rw [e] at h
      cases c with
      | nx s' => exact forL_of xs s' h
      | ct s' => exact forL_of xs s' h
      | bk s' => simpa [sumX, lift, ctlOk] using h
      | rt r => simpa [sumX, lift, ctlOk] using h
    | ex e' => rw [e] at h; simpa [sumX, lift] using h
    | st => rw [e] at h; simp [sumX] at h
theorem steps_of {α S R : Type} {f : S → α → M (Ctl S R)} : ∀ (xs : List α) (s : S) (n : Nat) {s' : S}, n ≤ xs.length → forLM f s xs ≠ .st → steps (fun s x => tot s (f s x)) s (xs.take n) = some s' → forLM f s' (xs.drop n) = forLM f s xs
  | xs, s, 0, s', _, _, h => by
    have e : s = s' := Option.some.inj (by simpa [steps] using h)
    subst e; rfl
  | [], s, n + 1, s', hn, _, h => by simp at hn
  | x :: xs, s, n + 1, s', hn, hs, h => by
    simp only [List.take_succ_cons, steps, tot] at h
    simp only [forLM] at hs ⊢
    cases e : f s x with
    | ok c =>
      rw [e] at h hs
      cases c with
      | nx s2 => exact steps_of xs s2 n (by simpa using hn) hs h
      | ct s2 => exact steps_of xs s2 n (by simpa using hn) hs h
      | bk s2 => simp [lift, ctlOk] at h
      | rt r => simp [lift, ctlOk] at h
    | ex e' => rw [e] at h; simp [lift] at h
    | st => rw [e] at hs; exact absurd rfl hs
section
variable {X : Cx} {W : XK} {S R β : Type} {j : β → Ctl S R} {Φ : List SD} {Mm : S → List SD} {T : Except Exn R → RS} {o o1 o2 : M β} {a b c e : Expr} {es : List Expr} {pos p p2 : Pos} {P : MP} {Ps Qs : List MP} {i : Int} {tg iter : Expr} {A A1 A2 body : List Stmt} {r ks : List (List Stmt)} {st : Stmt}
theorem k_lift {ks1 : List (List Stmt)} {Φ1 : List SD} (hh : ∀ c, HB X W ks1 Φ1 Mm T c → HB X W ks Φ Mm T c) (h : HM X W j ks1 Φ1 Mm T o) : HM X W j ks Φ Mm T o := ⟨fun c hc => hh c (h.run c hc)⟩
theorem k_C {α : Type} {v : α} {k : α → M β} {ks1 : List (List Stmt)} {Φ1 : α → List SD} (hh : ∀ c, (∀ nm, nm = v → HB X W ks1 (Φ1 nm) Mm T c) → HB X W ks Φ Mm T (bindV v fun _ => c)) (h : ∀ nm, nm = v → HM X W j ks1 (Φ1 nm) Mm T (k nm)) : HM X W j ks Φ Mm T (bindV v k) :=
  ⟨fun c hc => hh c fun nm e => (h nm e).run c (by subst e; exact hc)⟩
theorem k_C2 {α α2 : Type} {v : α} {v2 : α2} {k : α → α2 → M β} {ks1 : List (List Stmt)} {Φ1 : α → α2 → List SD} (hh : ∀ c, (∀ nm, nm = v → ∀ nm2, nm2 = v2 → HB X W ks1 (Φ1 nm nm2) Mm T c) → HB X W ks Φ Mm T (bindV v fun _ => bindV v2 fun _ => c)) (h : ∀ nm, nm = v → ∀ nm2, nm2 = v2 → HM X W j ks1 (Φ1 nm nm2) Mm T (k nm nm2)) : HM X W j ks Φ Mm T (bindV v fun nm => bindV v2 fun nm2 => k nm nm2) :=
  ⟨fun c hc => hh c fun nm e nm2 e2 => (h nm e nm2 e2).run c (by subst e; subst e2; exact hc)⟩
theorem k_asr {q : Prop} (h : q → HM X W j ks Φ Mm T o) : HM X W j ks Φ Mm T (asr q o) := ⟨fun c hc => by
  by_cases hq : q
  · rw [asr_pos hq] at hc; exact (h hq).run c hc
  · rw [asr_neg hq] at hc; cases hc⟩
theorem k_let {α : Type} {v : α} {k : α → M β} (h : ∀ x, x = v → HM X W j ks Φ Mm T (k x)) : HM X W j ks Φ Mm T (bindV v k) := h v rfl
theorem k_bindO {α : Type} {m : M α} {k : α → M β} (h : ∀ t, m = .ok t → HM X W j ks Φ Mm T (k t)) : HM X W j ks Φ Mm T (bindO m k) := ⟨fun c hc => by
  cases e : m with
  | ok t => rw [e] at hc; exact (h t e).run c hc
  | ex e' => rw [e] at hc; cases hc
  | st => rw [e] at hc; cases hc⟩
theorem k_bindM {α : Type} {m : M α} {k : α → M β} (h : ∀ t, m = .ok t → HM X W j ks Φ Mm T (k t)) (he : ∀ x, m = .ex x → HB X W ks Φ Mm T (.rt (.error x))) : HM X W j ks Φ Mm T (bindM m k) := ⟨fun c hc => by
  cases e : m with
  | ok t => rw [e] at hc; exact (h t e).run c hc
  | ex e' => rw [e] at hc; cases hc; exact he e' e
  | st => rw [e] at hc; cases hc⟩
theorem k_end (h : HM X W j r Φ Mm T o) : HM X W j ([] :: r) Φ Mm T o := k_lift (fun _ z => h_end z) h
theorem k_nil {v : β} {s : S} (w : Wk Φ (Mm s)) (hj : j v = .nx s := by rfl) : HM X W j [] Φ Mm T (.ok v) := ⟨fun c hc => by
  simp only [lift, hj, ctlOk, Option.some.injEq] at hc
  subst hc; exact h_nil w⟩
theorem k_ret {v : β} {u : R} (he : PEv X Φ e P) (hj : j v = .rt u := by rfl) (hT : T (.ok u) = .val P := by rfl) : HM X W j ((.Return (some e) pos :: A) :: r) Φ Mm T (.ok v) := ⟨fun c hc => by
  simp only [lift, hj, ctlOk, Option.some.injEq] at hc
  subst hc; exact h_ret he hT⟩
theorem k_retN {v : β} {u : R} (he : PEn X Φ e Ps) (hj : j v = .rt u := by rfl) (hT : T (.ok u) = .new Ps := by rfl) : HM X W j ((.Return (some e) pos :: A) :: r) Φ Mm T (.ok v) := ⟨fun c hc => by
  simp only [lift, hj, ctlOk, Option.some.injEq] at hc
  subst hc; exact h_retN he hT⟩
theorem k_retT {α : Type} [Py α] {v : β} {u : R} {x : α} (he : PV X Φ e x) (hj : j v = .rt u := by rfl) (hT : T (.ok u) = .val (py X.K (enc x)) := by rfl) : HM X W j ((.Return (some e) pos :: A) :: r) Φ Mm T (.ok v) := k_ret he hj hT
theorem k_retOw (n : Nat) {v : β} {u : R} {x : Str} (ho : Φ[n]? = some (.ow Ps) := by rfl) (hj : j v = .rt u := by rfl) (hT : T (.ok u) = .new Ps := by rfl) (hN : X.N[n]? = some x := by rfl) (hv : Vis X.env.scope x := by first | exact Or.inl rfl | exact Or.inr (Or.inl rfl) | exact Or.inr (Or.inr rfl)) (hd : (x == ("__debug__" : Str)) = false := by decide)
    (hcd : (x == ("__classdict__" : Str)) = false := by decide) : HM X W j ((.Return (some (.Name x p)) pos :: A) :: r) Φ Mm T (.ok v) := ⟨fun c hc => by
  simp only [lift, hj, ctlOk, Option.some.injEq] at hc
  subst hc; exact h_retOw n ho hT hN hv hd hcd⟩
theorem k_bk {v : β} {s : S} (w : Wk Φ (Mm s)) (hj : j v = .bk s := by rfl) : HM X W j ((.Break pos :: A) :: r) Φ Mm T (.ok v) := ⟨fun c hc => by
  simp only [lift, hj, ctlOk, Option.some.injEq] at hc
  subst hc; exact h_bk w⟩
theorem k_ct {v : β} {s : S} (w : Wk Φ (Mm s)) (hj : j v = .ct s := by rfl) : HM X W j ((.Continue pos :: A) :: r) Φ Mm T (.ok v) := ⟨fun c hc => by
  simp only [lift, hj, ctlOk, Option.some.injEq] at hc
  subst hc; exact h_ct w⟩
theorem k_if {k : Bool} (hc : PTv X Φ c k) (h1 : k = true → HM X W j (A1 :: A :: r) Φ Mm T o1) (h2 : k = false → HM X W j (A2 :: A :: r) Φ Mm T o2) : HM X W j ((.If c A1 A2 pos :: A) :: r) Φ Mm T (cond k o1 o2) := ⟨fun x hx => by
  cases k with
  | true => exact h_if (o2 := .rt (.error default)) hc (fun _ => (h1 rfl).run x hx) (fun h => nomatch h)
  | false => exact h_if (o1 := .rt (.error default)) hc (fun h => nomatch h) (fun _ => (h2 rfl).run x hx)⟩
theorem hb_exit {S' : Type} {M' : S' → List SD} {x : Except Exn R} (h : HB X W (S := S') [A1] Φ M' T (.rt x)) : HB X W (A1 :: r) Φ Mm T (.rt x) := .mk fun F0 H0 D σ F H g sl k =>
  h F0 H0 { D with nx := fun σ' H' => wK X r D σ' H' } σ F H g sl k
/-- an if whose ways meet -/
theorem k_ifM {S' : Type} (M' : S' → List SD) {k : Bool} {m1 m2 : M S'} {kk : S' → M β} (hc : PTv X Φ c k) (h1 : k = true → HM X W (Ctl.nx (R := R)) [A1] Φ M' T m1) (h2 : k = false → HM X W (Ctl.nx (R := R)) [A2] Φ M' T m2)
    (h : ∀ s, cond k m1 m2 = .ok s → HM X W j (A :: r) (M' s) Mm T (kk s)) : HM X W j ((.If c A1 A2 pos :: A) :: r) Φ Mm T (bindM (cond k m1 m2) kk) := ⟨fun x hx => by
  cases k with
  | true =>
    simp only [cond_true] at hx h
    cases e : m1 with
    | ok s =>
      rw [e] at hx
      exact h_ifM (s2 := s) hc (fun _ => (h1 rfl).run _ (by rw [e]; rfl)) (fun h => nomatch h) ((h s e).run x hx)
    | ex x' =>
      rw [e] at hx; cases hx
      exact h_if (o2 := .rt (.error default)) hc (fun _ => hb_exit ((h1 rfl).run (.rt (.error x')) (by rw [e]; rfl))) (fun h => nomatch h)
    | st => rw [e] at hx; cases hx
  | false =>
    simp only [cond_false] at hx h
    cases e : m2 with
    | ok s =>
      rw [e] at hx
      exact h_ifM (s1 := s) hc (fun h => nomatch h) (fun _ => (h2 rfl).run _ (by rw [e]; rfl)) ((h s e).run x hx)
    | ex x' =>
      rw [e] at hx; cases hx
      exact h_if (o1 := .rt (.error default)) hc (fun h => nomatch h) (fun _ => hb_exit ((h2 rfl).run (.rt (.error x')) (by rw [e]; rfl)))
    | st => rw [e] at hx; cases hx⟩
/-- a for, in general -/
theorem k_forG {α S' : Type} [Py α] {xs : List α} (M' : S' → List SD) (us : α → List (Nat × SD)) {f : S' → α → M (Ctl S' R)} {s0 : S'} {k : S' → M β} (hp : PassesOwn (model X.prog X.w) X.A X.env X.xe) (hc : X.calm = true)
    (hi : PIt X Φ tg iter xs) (hg : ∀ x, PGt X tg x (us x)) (w0 : Wk Φ (M' s0))
    (hb : ∀ s x, HM X W id [body] (setAll (M' s) (us x)) M' T (f s x))
    (hr : ∀ s, HM X W j (A :: r) (M' s) Mm T (k s))
    (q1 : ∀ s, forLM f s0 xs = .ok (.inl s) → o = k s) (q2 : ∀ u, forLM f s0 xs = .ok (.inr u) → ∃ v, o = .ok v ∧ j v = .rt u) (q3 : ∀ x, forLM f s0 xs = .ex x → o = .ex x) (q4 : forLM f s0 xs = .st → o = .st)
    (hs : ∀ x, foldedSetIterable iter X.env x = pure x) : HM X W j ((.For tg iter body [] pos :: A) :: r) Φ Mm T o := ⟨fun x hx => by
  have nst : forLM f s0 xs ≠ .st := fun z => by rw [q4 z] at hx; cases hx
  have h := h_for (W := W) (S := S) (R := Except Exn R) (M := Mm) (T := T) (pos := pos) (A := A) (r := r) (k := fun _ => x) (M' := M') us (fun s x => tot s (f s x)) s0 hp hc hi hg w0 (fun n s y hy hst => by
    have hn : n ≤ xs.length := Nat.le_of_lt (List.getElem?_eq_some_iff.mp hy).1
    have e := steps_of xs s0 n hn nst hst
    have hlt := (List.getElem?_eq_some_iff.mp hy).1
    rw [List.drop_eq_getElem_cons hlt, (List.getElem?_eq_some_iff.mp hy).2] at e
    simp only [forLM] at e
    cases e2 : f s y with
    | ok c => exact (hb s y).run _ (by rw [e2]; rfl)
    | ex e' => exact (hb s y).run _ (by rw [e2]; rfl)
    | st => rw [e2] at e; exact absurd e.symm nst) (fun s hs => by
    have key : forLM f s0 xs = .ok (.inl s) := by
      cases e : forLM f s0 xs with
      | ok u =>
        have := forL_of xs s0 (u := (match u with | .inl s => .inl s | .inr r => .inr (.ok r))) (by rw [e]; cases u <;> rfl)
        rw [this] at hs
        cases u with
        | inl s' => simp at hs; rw [hs]
        | inr r => simp at hs
      | ex e' =>
        have := forL_of xs s0 (u := .inr (.error e')) (by rw [e]; rfl)
        rw [this] at hs; cases hs
      | st => exact absurd e nst
    refine (hr s).run x ?_
    rw [← q1 s key]; exact hx) hs
  have e : forK (S := S) (fun s x => tot s (f s x)) s0 xs (fun _ => x) = x := by
    unfold forK
    cases e : forLM f s0 xs with
    | ok u =>
      have h2 := forL_of xs s0 (u := (match u with | .inl s => .inl s | .inr r => .inr (.ok r))) (by rw [e]; cases u <;> rfl)
      rw [h2]
      cases u with
      | inl s => rfl
      | inr u =>
        obtain ⟨v, ho, hj⟩ := q2 u e
        rw [ho] at hx
        simp only [lift, hj, ctlOk, Option.some.injEq] at hx
        exact hx
    | ex x' =>
      have h2 := forL_of xs s0 (u := .inr (.error x')) (by rw [e]; rfl)
      rw [h2]
      rw [q3 _ e] at hx
      simp only [lift, Option.some.injEq] at hx
      exact hx
    | st => exact absurd e nst
  rw [e] at h
  exact h⟩
theorem k_for {α S' : Type} [Py α] {xs : List α} (M' : S' → List SD) (us : α → List (Nat × SD)) {f : S' → α → M (Ctl S' R)} {s0 : S'} {rt : R → β} {k : S' → M β} (hp : PassesOwn (model X.prog X.w) X.A X.env X.xe) (hc : X.calm = true)
    (hi : PIt X Φ tg iter xs) (hg : ∀ x, PGt X tg x (us x)) (w0 : Wk Φ (M' s0))
    (hb : ∀ s x, HM X W id [body] (setAll (M' s) (us x)) M' T (f s x))
    (hr : ∀ s, HM X W j (A :: r) (M' s) Mm T (k s)) (hj : ∀ u, j (rt u) = .rt u := by intro _; rfl) (hs : ∀ x, foldedSetIterable iter X.env x = pure x := by intro _; rfl) : HM X W j ((.For tg iter body [] pos :: A) :: r) Φ Mm T (forM' f s0 xs rt k) :=
  k_forG M' us hp hc hi hg w0 hb hr (fun s h => by unfold forM'; rw [h]) (fun u h => ⟨rt u, by unfold forM'; rw [h], hj u⟩) (fun x h => by unfold forM'; rw [h]) (fun h => by unfold forM'; rw [h]) hs
theorem forLM_fold {α S R : Type} {f : S → α → M S} : ∀ (xs : List α) (s : S), forLM (R := R) (fun s x => (f s x).map .nx) s xs = (foldM' f s xs).map .inl
  | [], s => rfl
  | x :: xs, s => by
    simp only [forLM, foldM']
    cases e : f s x with
    | ok s' => exact forLM_fold xs s'
    | ex e' => rfl
    | st => rfl
theorem k_fold {α S' : Type} [Py α] {xs : List α} (M' : S' → List SD) (us : α → List (Nat × SD)) {f : S' → α → M S'} {s0 : S'} {k : S' → M β} (hp : PassesOwn (model X.prog X.w) X.A X.env X.xe) (hc : X.calm = true)
    (hi : PIt X Φ tg iter xs) (hg : ∀ x, PGt X tg x (us x)) (w0 : Wk Φ (M' s0))
    (hb : ∀ s x, HM X W (Ctl.nx (R := R)) [body] (setAll (M' s) (us x)) M' T (f s x))
    (hr : ∀ s, HM X W j (A :: r) (M' s) Mm T (k s)) (hs : ∀ x, foldedSetIterable iter X.env x = pure x := by intro _; rfl) : HM X W j ((.For tg iter body [] pos :: A) :: r) Φ Mm T (bindM (foldM' f s0 xs) k) :=
  k_forG (f := fun s x => (f s x).map .nx) M' us hp hc hi hg w0 (fun s x => ⟨fun c hc => (hb s x).run c (by cases e : f s x <;> rw [e] at hc <;> exact hc)⟩) hr
    (fun s h => by rw [forLM_fold] at h; cases e : foldM' f s0 xs <;> rw [e] at h <;> simp [M.map] at h; rw [h]; rfl)
    (fun u h => by rw [forLM_fold] at h; cases e : foldM' f s0 xs <;> rw [e] at h <;> simp [M.map] at h)
    (fun x h => by rw [forLM_fold] at h; cases e : foldM' f s0 xs <;> rw [e] at h <;> simp [M.map] at h; rw [h]; rfl)
    (fun h => by rw [forLM_fold] at h; cases e : foldM' f s0 xs <;> rw [e] at h <;> simp [M.map] at h; rfl) hs
/-! tests that may fail -/
structure KT (X : Cx) (Φ : List SD) (e : Expr) (m : M Bool) : Prop where
  run : ∀ b, m = .ok b → PTv X Φ e b
theorem kt_ok {v : Bool} (h : PTv X Φ e v) : KT X Φ e (.ok v) := ⟨fun b hb => by cases hb; exact h⟩
theorem kt_asr {q : Prop} {m : M Bool} (h : q → KT X Φ e m) : KT X Φ e (asr q m) := ⟨fun b hb => by
  by_cases hq : q
  · rw [asr_pos hq] at hb; exact (h hq).run b hb
  · rw [asr_neg hq] at hb; cases hb⟩
theorem kt_bindO {α : Type} {m : M α} {k : α → M Bool} (h : ∀ t, m = .ok t → KT X Φ e (k t)) : KT X Φ e (bindO m k) := ⟨fun b hb => by
  cases q : m with
  | ok t => rw [q] at hb; exact (h t q).run b hb
  | ex e' => rw [q] at hb; cases hb
  | st => rw [q] at hb; cases hb⟩
theorem kt_let {α : Type} {v : α} {k : α → M Bool} (h : ∀ x, x = v → KT X Φ e (k x)) : KT X Φ e (bindV v k) := h v rfl
end
/-! ### while -/
section
variable {S R : Type} {c : S → M Bool} {f : S → M (Ctl S R)}
def testB (c : S → M Bool) (s : S) : Bool := (c s).get
theorem whileL_of : ∀ (n : Nat) (s : S) {u}, sumX (whileLM c f n s) = some u → ∀ m, n ≤ m → whileL (testB c) (fun s => tot s (f s)) m s = u
  | 0, s, u, h, _, _ => by simp [whileLM, sumX] at h
  | n + 1, s, u, h, 0, hm => by omega
  | n + 1, s, u, h, m + 1, hm => by
    simp only [whileLM] at h
    simp only [whileL, testB]
    cases e : c s with
    | ok b =>
      rw [e] at h
      cases b with
      | false => simpa [sumX, M.get] using h
      | true =>
        simp only [M.get]
        cases e2 : f s with
        | ok x =>
          rw [e2] at h
          cases x with
          | nx s' => exact whileL_of n s' h m (by omega)
          | ct s' => exact whileL_of n s' h m (by omega)
          | bk s' => simpa [sumX, tot, lift, ctlOk] using h
          | rt r => simpa [sumX, tot, lift, ctlOk] using h
        | ex x => rw [e2] at h; simpa [sumX, tot, lift] using h
        | st => rw [e2] at h; simp [sumX] at h
    | ex x => rw [e] at h; simp [sumX] at h
    | st => rw [e] at h; simp [sumX] at h
theorem while_more : ∀ (n : Nat) (s : S), whileLM c f n s ≠ .st → ∀ m, n ≤ m → whileLM c f m s = whileLM c f n s
  | 0, s, h, _, _ => absurd rfl h
  | n + 1, s, h, 0, hm => by omega
  | n + 1, s, h, m + 1, hm => by
    simp only [whileLM] at h ⊢
    cases e : c s with
    | ok b =>
      rw [e] at h
      cases b with
      | false => rfl
      | true =>
        simp only at h ⊢
        cases e2 : f s with
        | ok x =>
          rw [e2] at h
          cases x with
          | nx s' => exact while_more n s' h m (by omega)
          | ct s' => exact while_more n s' h m (by omega)
          | bk s' => rfl
          | rt r => rfl
        | ex x => rfl
        | st => rfl
    | ex x => rfl
    | st => rfl
/-- it ends within some turns -/
def Ends' (c : S → M Bool) (f : S → M (Ctl S R)) (s : S) : Prop := ∃ n, whileLM c f n s ≠ .st
theorem least_nat {p : Nat → Prop} : ∀ (k n : Nat), p n → n ≤ k → ∃ m, p m ∧ ∀ i, p i → m ≤ i
  | 0, n, h, hk => ⟨n, h, fun i _ => by omega⟩
  | k + 1, n, h, hk => by
    by_cases q : ∃ i, p i ∧ i < n
    · obtain ⟨i, hi, hl⟩ := q
      exact least_nat k i hi (by omega)
    · exact ⟨n, h, fun i hi => by
        by_cases z : i < n
        · exact absurd ⟨i, hi, z⟩ q
        · omega⟩
theorem ends_least {s : S} (h : Ends' c f s) : ∃ m, whileLM c f m s ≠ .st ∧ ∀ i, whileLM c f i s ≠ .st → m ≤ i := by
  obtain ⟨n, hn⟩ := h
  exact least_nat n n hn (Nat.le_refl _)
open Classical in
noncomputable def endN (c : S → M Bool) (f : S → M (Ctl S R)) (s : S) : Nat := if h : Ends' c f s then Classical.choose (ends_least h) else 0
open Classical in
theorem endN_spec {s : S} (h : Ends' c f s) : whileLM c f (endN c f s) s ≠ .st := by
  unfold endN; rw [dif_pos h]; exact (Classical.choose_spec (ends_least h)).1
open Classical in
theorem endN_le {s : S} {n : Nat} (h : whileLM c f n s ≠ .st) : endN c f s ≤ n := by
  have h' : Ends' c f s := ⟨n, h⟩
  unfold endN; rw [dif_pos h']; exact (Classical.choose_spec (ends_least h')).2 n h
theorem ends_test {s : S} (h : Ends' c f s) : c s = .ok (testB c s) := by
  obtain ⟨n, hn⟩ := h
  cases n with
  | zero => exact absurd rfl hn
  | succ n =>
    simp only [whileLM] at hn
    unfold testB
    cases e : c s with
    | ok b => rfl
    | ex x => rw [e] at hn; exact absurd rfl hn
    | st => rw [e] at hn; exact absurd rfl hn
theorem ends_turn {s : S} (h : Ends' c f s) (hc : testB c s = true) : f s ≠ .st ∧ ∀ s', (f s = .ok (.nx s') ∨ f s = .ok (.ct s')) → Ends' c f s' ∧ endN c f s' < endN c f s := by
  have ht := ends_test h
  rw [hc] at ht
  have hn := endN_spec h
  cases q : endN c f s with
  | zero => rw [q] at hn; exact absurd rfl hn
  | succ n =>
    rw [q] at hn
    simp only [whileLM, ht] at hn
    refine ⟨fun z => by rw [z] at hn; exact absurd rfl hn, fun s' hs => ?_⟩
    have : whileLM c f n s' ≠ .st := by
      rcases hs with e | e <;> · rw [e] at hn; exact hn
    exact ⟨⟨n, this⟩, Nat.lt_succ_of_le (endN_le this)⟩
end
section
variable {X : Cx} {W : XK} {S R β : Type} {j : β → Ctl S R} {Φ : List SD} {Mm : S → List SD} {T : Except Exn R → RS} {o o1 o2 : M β} {a b e : Expr} {es : List Expr} {pos p p2 : Pos} {P : MP} {Ps Qs : List MP} {i : Int} {tg iter ce : Expr} {A A1 A2 body : List Stmt} {r ks : List (List Stmt)} {st : Stmt}
theorem k_whileG {S' : Type} (M' : S' → List SD) {c : S' → M Bool} {f : S' → M (Ctl S' R)} {s0 : S'} {k : S' → M β} (hp : PassesOwn (model X.prog X.w) X.A X.env X.xe) (w0 : Wk Φ (M' s0))
    (ht : ∀ s, KT X (M' s) ce (c s)) (hb : ∀ s, HM X W id [body] (M' s) M' T (f s)) (hr : ∀ s, HM X W j (A :: r) (M' s) Mm T (k s))
    (q1 : ∀ s, whileLM c f fuelN s0 = .ok (.inl s) → o = k s) (q2 : ∀ u, whileLM c f fuelN s0 = .ok (.inr u) → ∃ v, o = .ok v ∧ j v = .rt u) (q3 : ∀ x, whileLM c f fuelN s0 = .ex x → o = .ex x) (q4 : whileLM c f fuelN s0 = .st → o = .st) :
    HM X W j ((.While ce body [] pos :: A) :: r) Φ Mm T o := ⟨fun x hx => by
  have nst : whileLM c f fuelN s0 ≠ .st := fun z => by rw [q4 z] at hx; cases hx
  have I0 : Ends' c f s0 := ⟨_, nst⟩
  have hsum : ∃ u, sumX (whileLM c f (endN c f s0) s0) = some u ∧ sumX (whileLM c f fuelN s0) = some u := by
    have h1 := endN_spec I0
    have h2 := while_more (endN c f s0) s0 h1 fuelN (endN_le nst)
    rw [h2]
    cases e : whileLM c f (endN c f s0) s0 with
    | ok u => cases u <;> exact ⟨_, rfl, rfl⟩
    | ex x => exact ⟨_, rfl, rfl⟩
    | st => exact absurd e h1
  obtain ⟨u, hu1, hu2⟩ := hsum
  have hw := whileL_of (endN c f s0) s0 hu1 (endN c f s0 + 1) (Nat.le_succ _)
  have h := h_while (W := W) (S := S) (R := Except Exn R) (M := Mm) (T := T) (pos := pos) (A := A) (r := r) (c := ce) (body := body) (k := fun _ => x) (M' := M') (Ends' c f) (endN c f) (testB c) (fun s => tot s (f s)) s0 hp w0 I0
    (fun s hI => (ht s).run _ (ends_test hI)) (fun s hI hc => by
      cases e2 : f s with
      | ok c => exact (hb s).run _ (by rw [e2]; rfl)
      | ex e' => exact (hb s).run _ (by rw [e2]; rfl)
      | st => exact absurd e2 (ends_turn hI hc).1) (fun s s' hI hc hs => by
      refine (ends_turn hI hc).2 s' ?_
      have n1 := (ends_turn hI hc).1
      cases e2 : f s with
      | ok x =>
        rw [e2] at hs
        cases x with
        | nx s2 => rcases hs with z | z <;> cases z; exact .inl rfl
        | ct s2 => rcases hs with z | z <;> cases z; exact .inr rfl
        | bk s2 => rcases hs with z | z <;> cases z
        | rt s2 => rcases hs with z | z <;> cases z
      | ex x => rw [e2] at hs; rcases hs with z | z <;> cases z
      | st => exact absurd e2 n1) (fun s hs => by
      rw [hw] at hs
      refine (hr s).run x ?_
      rw [← q1 s ?_]; exact hx
      subst hs
      revert hu2
      cases whileLM c f fuelN s0 with
      | ok v => cases v with
        | inl s' => intro z; cases z; rfl
        | inr r => intro z; cases z
      | ex x => intro z; cases z
      | st => intro z; cases z)
  have e : whileK (S := S) (testB c) (fun s => tot s (f s)) (endN c f s0 + 1) s0 (fun _ => x) = x := by
    unfold whileK
    rw [hw]
    cases u with
    | inl s => rfl
    | inr v =>
      cases e : whileLM c f fuelN s0 with
      | ok y =>
        rw [e] at hu2
        cases y with
        | inl s' => cases hu2
        | inr y =>
          cases hu2
          obtain ⟨v, ho, hj⟩ := q2 y e
          rw [ho] at hx
          simp only [lift, hj, ctlOk, Option.some.injEq] at hx
          exact hx
      | ex y =>
        rw [e] at hu2; cases hu2
        rw [q3 _ e] at hx
        simp only [lift, Option.some.injEq] at hx
        exact hx
      | st => exact absurd e nst
  rw [e] at h
  exact h⟩
theorem k_while {S' : Type} (M' : S' → List SD) {c : S' → M Bool} {f : S' → M (Ctl S' R)} {s0 : S'} {rt : R → β} {k : S' → M β} (hp : PassesOwn (model X.prog X.w) X.A X.env X.xe) (w0 : Wk Φ (M' s0))
    (ht : ∀ s, KT X (M' s) ce (c s)) (hb : ∀ s, HM X W id [body] (M' s) M' T (f s)) (hr : ∀ s, HM X W j (A :: r) (M' s) Mm T (k s)) (hj : ∀ u, j (rt u) = .rt u := by intro _; rfl) :
    HM X W j ((.While ce body [] pos :: A) :: r) Φ Mm T (whileM' c f s0 rt k) :=
  k_whileG M' hp w0 ht hb hr (fun s h => by unfold whileM'; rw [h]) (fun u h => ⟨rt u, by unfold whileM'; rw [h], hj u⟩) (fun x h => by unfold whileM'; rw [h]) (fun h => by unfold whileM'; rw [h])
theorem whileLM_S {S R : Type} {c : S → M Bool} {f : S → M S} : ∀ (n : Nat) (s : S), whileLM (R := R) c (fun s => (f s).map .nx) n s = (whileS c f n s).map .inl
  | 0, s => rfl
  | n + 1, s => by
    simp only [whileLM, whileS]
    cases e : c s with
    | ok b =>
      cases b with
      | false => rfl
      | true =>
        simp only
        cases e2 : f s with
        | ok s' => exact whileLM_S n s'
        | ex e' => rfl
        | st => rfl
    | ex x => rfl
    | st => rfl
theorem k_whileS {S' : Type} (M' : S' → List SD) {c : S' → M Bool} {f : S' → M S'} {s0 : S'} {k : S' → M β} (hp : PassesOwn (model X.prog X.w) X.A X.env X.xe) (w0 : Wk Φ (M' s0))
    (ht : ∀ s, KT X (M' s) ce (c s)) (hb : ∀ s, HM X W (Ctl.nx (R := R)) [body] (M' s) M' T (f s)) (hr : ∀ s, HM X W j (A :: r) (M' s) Mm T (k s)) :
    HM X W j ((.While ce body [] pos :: A) :: r) Φ Mm T (bindM (whileS c f fuelN s0) k) :=
  k_whileG (f := fun s => (f s).map .nx) M' hp w0 ht (fun s => ⟨fun c hc => (hb s).run c (by cases e : f s <;> rw [e] at hc <;> exact hc)⟩) hr
    (fun s h => by rw [whileLM_S] at h; cases e : whileS c f fuelN s0 <;> rw [e] at h <;> simp [M.map] at h; rw [h]; rfl)
    (fun u h => by rw [whileLM_S] at h; cases e : whileS c f fuelN s0 <;> rw [e] at h <;> simp [M.map] at h)
    (fun x h => by rw [whileLM_S] at h; cases e : whileS c f fuelN s0 <;> rw [e] at h <;> simp [M.map] at h; rw [h]; rfl)
    (fun h => by rw [whileLM_S] at h; cases e : whileS c f fuelN s0 <;> rw [e] at h <;> simp [M.map] at h; rfl)
/-! ### calls -/
theorem v_callK {A ρ : Type} [Py ρ] [Inhabited ρ] {argP : A → List MP} {m : A → M ρ} {x : Str} {CX : CXT} {n : Nat} {p1 : Pos} {t : ρ} (G : FnG X.prog X.w X.K X.mg X.base CX n x (spG argP (fun z => (m z).Ok) fun z => .val (py X.K (enc (m z).get)))) (hr : Room n X.A) (hx : Passes CX X E0) (z : A) (ht : m z = .ok t)
    (ha : PAs X Φ (e :: es) (argP z)) (hg : Gl X x := by rfl) (hd : (x == ("__debug__" : Str)) = false := by decide) (hst : (e :: es).all nst = true := by rfl) : PV X Φ (.Call (.Name x p1) (e :: es) [] pos) t :=
  v_call G hr hx z ⟨t, ht⟩ (congrArg (fun y => RS.val (py X.K (enc (M.get y)))) ht) ha hg hd hst
theorem v_callKN {A ρ : Type} [Py ρ] {argP : A → List MP} {m : A → M (List ρ)} {x : Str} {CX : CXT} {n : Nat} {p1 : Pos} {t : List ρ} (G : FnG X.prog X.w X.K X.mg X.base CX n x (spG argP (fun z => (m z).Ok) fun z => .new (rps X.K (m z).get))) (hr : Room n X.A) (hx : Passes CX X E0) (z : A) (ht : m z = .ok t)
    (ha : PAs X Φ (e :: es) (argP z)) (hg : Gl X x := by rfl) (hd : (x == ("__debug__" : Str)) = false := by decide) (hst : (e :: es).all nst = true := by rfl) : PN X Φ (.Call (.Name x p1) (e :: es) [] pos) t :=
  v_callN G hr hx z ⟨t, ht⟩ (congrArg (fun y => RS.new (rps X.K (M.get y))) ht) ha hg hd hst
/-- a def's object (of P): no datum -/
theorem v_callKO {A ρ : Type} [Inhabited ρ] {argP : A → List MP} {m : A → M ρ} {P : ρ → MP} {x : Str} {CX : CXT} {n : Nat} {p1 : Pos} {t : ρ} (G : FnG X.prog X.w X.K X.mg X.base CX n x (spG argP (fun z => (m z).Ok) fun z => .val (P (m z).get))) (hr : Room n X.A) (hx : Passes CX X E0) (z : A) (ht : m z = .ok t)
    (ha : PAs X Φ (e :: es) (argP z)) (hg : Gl X x := by rfl) (hd : (x == ("__debug__" : Str)) = false := by decide) (hst : (e :: es).all nst = true := by rfl) : PEv X Φ (.Call (.Name x p1) (e :: es) [] pos) (P t) :=
  v_call G hr hx z ⟨t, ht⟩ (congrArg (fun y => RS.val (P (M.get y))) ht) ha hg hd hst
/-! ### defs -/
/-- what a def hands back: T0 of a value, ER of an own exception -/
def TE {R : Type} (T0 : R → RS) (ER : Exn → RS) : Except Exn R → RS
  | .ok v => T0 v
  | .error x => ER x
def noER : Exn → RS := fun _ => .val ⟨fun _ _ => False, fun _ _ _ _ h => h⟩
end
section
variable {P : Program} {w : World} {K : Fg} {mg : Str → Option Value} {base : Heap}
/-- a def that lets nothing out -/
theorem def_okK {x qual : Str} {st : Stmt} {f : Addr} {fd : FuncData} {N ps : List Str} {k : Nat} {Ar ρ : Type} [Inhabited ρ] {argP : Ar → List MP} {T0 : ρ → RS} {m : Ar → M ρ} (F : DefOf K x qual st f fd) (S : FnScope N ps (defScope st)) (n : Nat) (hlen : ∀ z, (argP z).length = ps.length) (hN : N.length = ps.length + n)
    (hT : ∀ r, (T0 r).isErr = false)
    (hb : ∀ (cdv : Value) (A : Around) (outer : List Env) (s : Shared) (H : Hp) (E : XK), Room k (A.deeper (envOfC qual (defScope st) s.heap.objs.size f cdv)) → ∀ z,
      HM (S := Unit) (bx P w K mg base N qual st f cdv A outer s H E) (fun _ _ _ => False) Ctl.rt [defBody st] (enter (argP z) n) (fun _ => []) (TE T0 noER) (m z)) : FnOk P w K mg base CX0 (k + 1) f fd ps (spG argP (fun z => (m z).Ok) fun z => T0 (m z).get) :=
  def_ok (T := T0) (fv := fun z => (m z).get) F S n hlen hN hT fun cdv A outer s Hq E hr z hp => .mk fun F0 H0 D σ F H g sl k =>
    ((hb cdv A outer s Hq E hr z).run (.rt (.ok (m z).get)) (by rw [hp.get]; rfl)) F0 H0 D σ F H g sl k
/-- .. and hands back nothing -/
theorem def_okKN {x qual : Str} {st : Stmt} {f : Addr} {fd : FuncData} {N ps : List Str} {k : Nat} {Ar : Type} {argP : Ar → List MP} {m : Ar → M Unit} (F : DefOf K x qual st f fd) (S : FnScope N ps (defScope st)) (n : Nat) (hlen : ∀ z, (argP z).length = ps.length) (hN : N.length = ps.length + n)
    (M0 : List SD) (hb : ∀ (cdv : Value) (A : Around) (outer : List Env) (s : Shared) (H : Hp) (E : XK), Room k (A.deeper (envOfC qual (defScope st) s.heap.objs.size f cdv)) → ∀ z,
      HM (S := Unit) (R := Unit) (bx P w K mg base N qual st f cdv A outer s H E) (fun _ _ _ => False) Ctl.nx [defBody st] (enter (argP z) n) (fun _ => M0) (TE (fun _ => .val (py K .none)) noER) (m z)) : FnOk P w K mg base CX0 (k + 1) f fd ps (spG argP (fun z => (m z).Ok) fun _ => .val (py K .none)) :=
  def_okM (T := fun (_ : Unit) => .val (py K .none)) M0 F S n hlen hN fun cdv A outer s Hq E hr z hp => .mk fun F0 H0 D σ F H g sl k =>
    ((hb cdv A outer s Hq E hr z).run (.nx ()) (by obtain ⟨u, e⟩ := hp; rw [e]; rfl)) F0 H0 D σ F H g sl k
end
end GL

set_option Elab.async false
set_option linter.all false
set_option maxRecDepth 100000
set_option maxHeartbeats 4000000
namespace GL
open PySem PySem.Spec PyProof.Rows L2
section
variable {X : Cx} {W : XK} {S R β : Type} {j : β → Ctl S R} {Φ : List SD} {Mm : S → List SD} {T : Except Exn R → RS} {ks : List (List Stmt)}
theorem k_nilS {s : S} (w : Wk Φ (Mm s)) : HM X W (Ctl.nx (R := R)) [] Φ Mm T (.ok s) := k_nil w
theorem k_nilC {s : S} (w : Wk Φ (Mm s)) : HM X W (id : Ctl S R → Ctl S R) [] Φ Mm T (.ok (.nx s)) := k_nil w
variable {e : Expr} {pos : Pos} {A : List Stmt} {r : List (List Stmt)} {P : MP} {Ps : List MP}
theorem k_retTV {v : R} [Py R] (he : PV X Φ e v) (hT : T (.ok v) = .val (py X.K (enc v)) := by rfl) : HM X W (Ctl.rt (S := S)) ((.Return (some e) pos :: A) :: r) Φ Mm T (.ok v) := k_ret he rfl hT
theorem k_retTC {v : R} [Py R] (he : PV X Φ e v) (hT : T (.ok v) = .val (py X.K (enc v)) := by rfl) : HM X W (id : Ctl S R → Ctl S R) ((.Return (some e) pos :: A) :: r) Φ Mm T (.ok (.rt v)) := k_ret he rfl hT
theorem k_bkC {s : S} (w : Wk Φ (Mm s)) : HM X W (id : Ctl S R → Ctl S R) ((.Break pos :: A) :: r) Φ Mm T (.ok (.bk s)) := k_bk w
theorem k_ctC {s : S} (w : Wk Φ (Mm s)) : HM X W (id : Ctl S R → Ctl S R) ((.Continue pos :: A) :: r) Φ Mm T (.ok (.ct s)) := k_ct w
theorem k_st : HM X W j ks Φ Mm T (.st : M β) := ⟨fun c hc => nomatch hc⟩
end
end GL

set_option Elab.async false
set_option linter.all false
set_option maxRecDepth 100000
set_option maxHeartbeats 4000000
namespace GL
open PySem L2
/-! ### plain law: what a mirror gives -/
/-- m gives a value of which Q -/
def Y {α : Type} (m : M α) (Q : α → Prop) : Prop := ∃ a, m = .ok a ∧ Q a
namespace Y
variable {α β S R : Type} {Q : β → Prop} {P : α → Prop}
theorem ok {a : β} (h : Q a) : Y (.ok a) Q := ⟨a, rfl, h⟩
theorem of {m : M β} {a : β} (e : m = .ok a) (h : Q a) : Y m Q := ⟨a, e, h⟩
theorem eq {m : M β} {a : β} (h : Y m fun x => x = a) : m = .ok a := by obtain ⟨x, e, rfl⟩ := h; exact e
theorem asr {c : Prop} {m : M β} (h : c) (q : Y m Q) : Y (asr c m) Q := by rw [asr_pos h]; exact q
theorem bindO {m : M α} {k : α → M β} (h : Y m P) (q : ∀ a, P a → Y (k a) Q) : Y (bindO m k) Q := by
  obtain ⟨a, e, p⟩ := h; rw [e]; exact q a p
theorem bindM {m : M α} {k : α → M β} (h : Y m P) (q : ∀ a, P a → Y (k a) Q) : Y (bindM m k) Q := by
  obtain ⟨a, e, p⟩ := h; rw [e]; exact q a p
theorem bindOe {m : M α} {k : α → M β} {a : α} (e : m = .ok a) (q : Y (k a) Q) : Y (GL.bindO m k) Q := by rw [e]; exact q
theorem bindMe {m : M α} {k : α → M β} {a : α} (e : m = .ok a) (q : Y (k a) Q) : Y (GL.bindM m k) Q := by rw [e]; exact q
theorem let_ {v : α} {k : α → M β} (q : Y (k v) Q) : Y (bindV v k) Q := q
theorem cond {b : Bool} {m1 m2 : M β} (h1 : b = true → Y m1 Q) (h2 : b = false → Y m2 Q) : Y (cond b m1 m2) Q := by
  cases b with
  | true => exact h1 rfl
  | false => exact h2 rfl
theorem imp {m : M β} {P : β → Prop} (h : Y m P) (w : ∀ a, P a → Q a) : Y m Q := by obtain ⟨a, e, p⟩ := h; exact ⟨a, e, w a p⟩
theorem Ok {m : M β} (h : Y m Q) : m.Ok := by obtain ⟨a, e, _⟩ := h; exact ⟨a, e⟩
theorem get [Inhabited β] {m : M β} (h : Y m Q) : m = .ok m.get ∧ Q m.get := by obtain ⟨a, e, p⟩ := h; rw [e]; exact ⟨rfl, p⟩
/-- a loop that only carries a state -/
theorem fold {f : S → α → M S} : ∀ {xs : List α} {s0 : S} (I : Nat → S → Prop), I 0 s0 → (∀ n s x, xs[n]? = some x → I n s → Y (f s x) (I (n + 1))) → Y (foldM' f s0 xs) (I xs.length)
  | [], s0, I, h0, _ => ⟨s0, rfl, h0⟩
  | x :: xs, s0, I, h0, hs => by
    obtain ⟨s1, e, h1⟩ := hs 0 s0 x rfl h0
    have := fold (xs := xs) (s0 := s1) (fun n s => I (n + 1) s) h1 fun n s y hy hI => hs (n + 1) s y (by simpa using hy) hI
    unfold foldM'
    rw [e]
    exact this
/-- .. with the items at hand, no places -/
theorem foldA {f : S → α → M S} {xs : List α} {s0 : S} (I : S → Prop) (h0 : I s0) (hs : ∀ s x, x ∈ xs → I s → Y (f s x) I) : Y (foldM' f s0 xs) I :=
  fold (fun _ => I) h0 fun n s x hx => hs s x (List.mem_of_getElem? hx)
theorem foldK {f : S → α → M S} {xs : List α} {s0 : S} {k : S → M β} (I : Nat → S → Prop) (h0 : I 0 s0) (hs : ∀ n s x, xs[n]? = some x → I n s → Y (f s x) (I (n + 1))) (q : ∀ s, I xs.length s → Y (k s) Q) : Y (GL.bindM (foldM' f s0 xs) k) Q := bindM (fold I h0 hs) q
/-- what a turn may leave -/
def Turn (N : S → Prop) (B : S → Prop) (E : R → Prop) : Ctl S R → Prop
  | .nx s => N s
  | .ct s => N s
  | .bk s => B s
  | .rt r => E r
theorem forL {f : S → α → M (Ctl S R)} {B : S → Prop} {E : R → Prop} : ∀ {xs : List α} {s0 : S} (I : Nat → S → Prop), I 0 s0 → (∀ n s x, xs[n]? = some x → I n s → Y (f s x) (Turn (I (n + 1)) B E)) → (∀ s, I xs.length s → B s) →
    Y (forLM f s0 xs) fun u => match u with | .inl s => B s | .inr r => E r
  | [], s0, I, h0, _, hb => ⟨.inl s0, rfl, hb s0 h0⟩
  | x :: xs, s0, I, h0, hs, hb => by
    obtain ⟨c, e, h1⟩ := hs 0 s0 x rfl h0
    unfold forLM
    rw [e]
    cases c with
    | nx s1 => exact forL (xs := xs) (fun n s => I (n + 1) s) h1 (fun n s y hy hI => hs (n + 1) s y (by simpa using hy) hI) (fun s h => hb s (by simpa using h))
    | ct s1 => exact forL (xs := xs) (fun n s => I (n + 1) s) h1 (fun n s y hy hI => hs (n + 1) s y (by simpa using hy) hI) (fun s h => hb s (by simpa using h))
    | bk s1 => exact ⟨_, rfl, h1⟩
    | rt r => exact ⟨_, rfl, h1⟩
theorem for_ {f : S → α → M (Ctl S R)} {B : S → Prop} {E : R → Prop} {xs : List α} {s0 : S} {rt : R → β} {k : S → M β} (I : Nat → S → Prop) (h0 : I 0 s0) (hs : ∀ n s x, xs[n]? = some x → I n s → Y (f s x) (Turn (I (n + 1)) B E)) (hb : ∀ s, I xs.length s → B s)
    (q : ∀ s, B s → Y (k s) Q) (qr : ∀ r, E r → Q (rt r)) : Y (forM' f s0 xs rt k) Q := by
  obtain ⟨u, e, h⟩ := forL (B := B) (E := E) I h0 hs hb
  unfold forM'
  rw [e]
  cases u with
  | inl s => exact q s h
  | inr r => exact ⟨_, rfl, qr r h⟩
/-- a while that only carries a state -/
theorem whileS_ {c : S → M Bool} {f : S → M S} (I : S → Prop) (mz : S → Nat) (hc : ∀ s, I s → ∃ b, c s = .ok b) (hf : ∀ s, I s → c s = .ok true → Y (f s) fun s' => I s' ∧ mz s' < mz s) : ∀ (n : Nat) (s : S), I s → mz s < n → Y (GL.whileS c f n s) fun s' => I s' ∧ c s' = .ok false
  | 0, s, _, h => by omega
  | n + 1, s, hI, h => by
    obtain ⟨b, e⟩ := hc s hI
    unfold GL.whileS
    rw [e]
    cases b with
    | false => exact ⟨s, rfl, hI, e⟩
    | true =>
      obtain ⟨s', e2, i2, m2⟩ := hf s hI e
      simp only []
      rw [e2]
      exact whileS_ I mz hc hf n s' i2 (by omega)
theorem whileK {c : S → M Bool} {f : S → M S} {s0 : S} {k : S → M β} (I : S → Prop) (mz : S → Nat) (h0 : I s0) (hz : mz s0 < 2 ^ 64) (hc : ∀ s, I s → ∃ b, c s = .ok b) (hf : ∀ s, I s → c s = .ok true → Y (f s) fun s' => I s' ∧ mz s' < mz s)
    (q : ∀ s, I s → c s = .ok false → Y (k s) Q) : Y (GL.bindM (GL.whileS c f fuelN s0) k) Q :=
  bindM (whileS_ I mz hc hf fuelN s0 h0 (Nat.lt_of_lt_of_le hz fuel_ge)) fun s h => q s h.1 h.2
/-- a while with exits -/
theorem whileL {c : S → M Bool} {f : S → M (Ctl S R)} {B : S → Prop} {E : R → Prop} (I : S → Prop) (mz : S → Nat) (hc : ∀ s, I s → ∃ b, c s = .ok b) (hf : ∀ s, I s → c s = .ok true → Y (f s) (Turn (fun s' => I s' ∧ mz s' < mz s) B E))
    (hb : ∀ s, I s → c s = .ok false → B s) : ∀ (n : Nat) (s : S), I s → mz s < n → Y (whileLM c f n s) fun u => match u with | .inl s => B s | .inr r => E r
  | 0, s, _, h => by omega
  | n + 1, s, hI, h => by
    obtain ⟨b, e⟩ := hc s hI
    unfold whileLM
    rw [e]
    cases b with
    | false => exact ⟨.inl s, rfl, hb s hI e⟩
    | true =>
      obtain ⟨u, e2, h2⟩ := hf s hI e
      simp only []
      rw [e2]
      cases u with
      | nx s' => exact whileL I mz hc hf hb n s' h2.1 (by have := h2.2; omega)
      | ct s' => exact whileL I mz hc hf hb n s' h2.1 (by have := h2.2; omega)
      | bk s' => exact ⟨_, rfl, h2⟩
      | rt r => exact ⟨_, rfl, h2⟩
theorem whileM {c : S → M Bool} {f : S → M (Ctl S R)} {B : S → Prop} {E : R → Prop} {s0 : S} {rt : R → β} {k : S → M β} (I : S → Prop) (mz : S → Nat) (h0 : I s0) (hz : mz s0 < 2 ^ 64) (hc : ∀ s, I s → ∃ b, c s = .ok b)
    (hf : ∀ s, I s → c s = .ok true → Y (f s) (Turn (fun s' => I s' ∧ mz s' < mz s) B E)) (hb : ∀ s, I s → c s = .ok false → B s) (q : ∀ s, B s → Y (k s) Q) (qr : ∀ r, E r → Q (rt r)) : Y (whileM' c f s0 rt k) Q := by
  obtain ⟨u, e, h⟩ := whileL I mz hc hf hb fuelN s0 h0 (Nat.lt_of_lt_of_le hz fuel_ge)
  unfold whileM'
  rw [e]
  cases u with
  | inl s => exact q s h
  | inr r => exact ⟨_, rfl, qr r h⟩
/-- a loop that only looks: it hands back r0 where G fails -/
theorem check {f : Unit → α → M (Ctl Unit R)} {xs : List α} {r0 : R} (G : Nat → Prop) (hs : ∀ n x, xs[n]? = some x → Y (f () x) fun c => (c = .nx () ∧ G n) ∨ (c = .rt r0 ∧ ¬ G n)) :
    Y (forLM f () xs) fun u => (u = .inl () ∧ ∀ n, n < xs.length → G n) ∨ (u = .inr r0 ∧ ∃ n, n < xs.length ∧ ¬ G n) := by
  refine (forL (B := fun _ => ∀ n, n < xs.length → G n) (E := fun r => r = r0 ∧ ∃ n, n < xs.length ∧ ¬ G n) (fun n _ => ∀ m, m < n → G m) (fun m h => by omega) (fun n s x hx hI => (hs n x hx).imp fun c hc => ?_) fun s h => h).imp fun u hu => ?_
  · rcases hc with ⟨rfl, g⟩ | ⟨rfl, g⟩
    · intro m hm
      by_cases e : m = n
      · subst e; exact g
      · exact hI m (by omega)
    · exact ⟨rfl, n, lt_of_at hx, g⟩
  · cases u with
    | inl u => exact .inl ⟨rfl, hu⟩
    | inr r => obtain ⟨h1, h2⟩ := hu; subst h1; exact .inr ⟨rfl, h2⟩
theorem checkK {f : Unit → α → M (Ctl Unit R)} {xs : List α} {r0 : R} {rt : R → β} {k : Unit → M β} (G : Nat → Prop) (hs : ∀ n x, xs[n]? = some x → Y (f () x) fun c => (c = .nx () ∧ G n) ∨ (c = .rt r0 ∧ ¬ G n))
    (q1 : (∀ n, n < xs.length → G n) → Y (k ()) Q) (q2 : (∃ n, n < xs.length ∧ ¬ G n) → Q (rt r0)) : Y (forM' f () xs rt k) Q := by
  obtain ⟨u, e, h⟩ := check G hs
  unfold forM'
  rw [e]
  rcases h with ⟨rfl, g⟩ | ⟨rfl, g⟩
  · exact q1 g
  · exact ⟨_, rfl, q2 g⟩
end Y
theorem rng_at' {lo hi : Int} {n : Nat} {x : Int} (h : (rng lo hi)[n]? = some x) : x = lo + (n : Int) ∧ (n : Int) < hi - lo := by
  have := rng_atF h; omega
/-! equations -/
section
variable {α β S R : Type}
theorem fold_ok {f : S → α → M S} {g : S → α → S} : ∀ {xs : List α} {s : S}, (∀ s x, x ∈ xs → f s x = .ok (g s x)) → foldM' f s xs = .ok (xs.foldl g s)
  | [], s, _ => rfl
  | x :: xs, s, h => by
    unfold foldM'
    rw [h s x (List.mem_cons_self ..), bindM_ok, fold_ok fun s y hy => h s y (List.mem_cons_of_mem _ hy)]
    rfl
/-- a loop that appends -/
theorem fold_app {f : List β → α → M (List β)} {g : α → β} : ∀ {xs : List α} {s0 : List β}, s0.length + xs.length ≤ sizeLine → (∀ s x, x ∈ xs → s.length < sizeLine → f s x = .ok (s ++ [g x])) → foldM' f s0 xs = .ok (s0 ++ xs.map g)
  | [], s0, _, _ => by simp [foldM']
  | x :: xs, s0, hz, h => by
    unfold foldM'
    simp only [List.length_cons] at hz
    rw [h s0 x (List.mem_cons_self ..) (by omega), bindM_ok, fold_app (by simp only [List.length_append, List.length_cons, List.length_nil]; omega) fun s y hy => h s y (List.mem_cons_of_mem _ hy)]
    simp
/-- .. what is appended may hang on the place -/
theorem fold_appN {f : List β → α → M (List β)} {Q : Nat → α → β → Prop} {xs : List α} {s0 : List β} (hz : s0.length + xs.length ≤ sizeLine) (h : ∀ n s x, xs[n]? = some x → s.length = s0.length + n → s.length < sizeLine → Y (f s x) fun s' => ∃ y, s' = s ++ [y] ∧ Q n x y) :
    Y (foldM' f s0 xs) fun s => s.length = s0.length + xs.length ∧ s0 <+: s ∧ ∀ n y, s[s0.length + n]? = some y → ∃ x, xs[n]? = some x ∧ Q n x y := by
  refine (Y.fold (fun n s => s.length = s0.length + n ∧ s0 <+: s ∧ ∀ m y, s[s0.length + m]? = some y → ∃ x, xs[m]? = some x ∧ Q m x y) ⟨rfl, List.prefix_refl _, fun m y hy => ?_⟩ fun n s x hx hI => ?_)
  · rw [List.getElem?_eq_none (by omega)] at hy; cases hy
  · have hn := (List.getElem?_eq_some_iff.mp hx).1
    obtain ⟨i1, i2, i3⟩ := hI
    refine (h n s x hx i1 (by omega)).imp fun s' hs' => ?_
    obtain ⟨y, rfl, hq⟩ := hs'
    refine ⟨by simp; omega, i2.trans (List.prefix_append ..), fun m z hz => ?_⟩
    by_cases hm : s0.length + m < s.length
    · rw [List.getElem?_append_left hm] at hz; exact i3 m z hz
    · have hlt := (List.getElem?_eq_some_iff.mp hz).1
      simp at hlt
      have em : m = n := by omega
      subst em
      rw [List.getElem?_append_right (by omega)] at hz
      rw [show s0.length + m - s.length = 0 by omega] at hz
      simp at hz
      subst hz
      exact ⟨x, hx, hq⟩
/-- a loop that looks for what is bad -/
theorem for_look {f : Unit → α → M (Ctl Unit R)} {bad : α → Bool} {r : R} : ∀ {xs : List α}, (∀ x, x ∈ xs → f () x = .ok (cond (bad x) (.rt r) (.nx ()))) → forLM f () xs = .ok (cond (xs.any bad) (.inr r) (.inl ()))
  | [], _ => rfl
  | x :: xs, h => by
    unfold forLM
    rw [h x (List.mem_cons_self ..)]
    rw [List.any_cons]
    cases e : bad x with
    | true => rfl
    | false => exact for_look fun y hy => h y (List.mem_cons_of_mem _ hy)
theorem forM_look {f : Unit → α → M (Ctl Unit R)} {bad : α → Bool} {r : R} {xs : List α} {rt : R → β} {k : Unit → M β} (h : ∀ x, x ∈ xs → f () x = .ok (cond (bad x) (.rt r) (.nx ()))) : forM' f () xs rt k = cond (xs.any bad) (.ok (rt r)) (k ()) := by
  unfold forM'
  rw [for_look h]
  cases xs.any bad <;> rfl
theorem cond_ok {b : Bool} {x y : α} : cond b (M.ok x) (M.ok y) = M.ok (cond b x y) := by cases b <;> rfl
theorem M.ok_inj {a b : α} (h : M.ok a = M.ok b) : a = b := by cases h; rfl
theorem any_rng {p : Int → Bool} {n : Nat} : (rng 0 (n : Int)).any p = true ↔ ∃ k : Nat, k < n ∧ p k = true := by
  rw [List.any_eq_true]
  constructor
  · rintro ⟨x, hx, hp⟩
    have := mem_rng.mp hx
    refine ⟨x.toNat, by omega, ?_⟩
    rw [show ((x.toNat : Nat) : Int) = x by omega]; exact hp
  · rintro ⟨k, hk, hp⟩
    exact ⟨k, mem_rng.mpr ⟨by omega, by omega⟩, hp⟩
theorem small_of {i : Int} (h : -1000000000000000 ≤ i ∧ i ≤ 1000000000000000) : small62 i := by unfold small62; omega
theorem list_rng [Inhabited α] (xs : List α) : (rng 0 xs.length).map (fun k => ix xs k) = xs := by
  apply List.ext_getElem?
  intro n
  by_cases h : n < xs.length
  · rw [List.getElem?_map, rng_at (by omega), List.getElem?_eq_getElem h]
    simp only [Option.map_some, Int.zero_add]
    rw [ix_of_at (List.getElem?_eq_getElem h)]
  · rw [List.getElem?_eq_none (by rw [List.length_map, rng_length]; omega), List.getElem?_eq_none (by omega)]
theorem mem_ix [Inhabited α] {xs : List α} {x : α} (h : x ∈ xs) : ∃ k : Int, 0 ≤ k ∧ k < xs.length ∧ ix xs k = x := by
  obtain ⟨n, hn, e⟩ := List.getElem_of_mem h
  exact ⟨n, by omega, by omega, ix_of_at (by rw [List.getElem?_eq_getElem hn, e])⟩
theorem foldM_append {f : S → α → M S} : ∀ (xs ys : List α) (s : S), foldM' f s (xs ++ ys) = bindM (foldM' f s xs) fun s' => foldM' f s' ys
  | [], ys, s => rfl
  | x :: xs, ys, s => by
    simp only [List.cons_append, foldM']
    cases f s x with
    | ok a => exact foldM_append xs ys a
    | ex e => rfl
    | st => rfl
end
end GL

set_option Elab.async false
set_option linter.all false
set_option maxRecDepth 100000
set_option maxHeartbeats 4000000
/-! isinstance of a caught exception that has fields -/
namespace PySem.W
open PySem PySem.Spec PySem.Calls PyProof.Rows
section
variable {prog : Program} {w : World} {A : Around} {E : Value → Shared → Prop} {s : Shared} {K : Frag} {x D : Addr} {ox : Obj} {od : Option Obj}
theorem findObj_dataO {C : Addr} {name : Str} {a g : Value} (hc : (clsIn K C).isSome = true) (ha : findIn K (.ref C) name = some (some a)) (hg : specialIn K a "__get__" = some (some g)) (ht : takesIn K a = some true) : findObj K C od name = some (.bind g a) := by
  obtain ⟨cd, hc⟩ := Option.isSome_iff_exists.mp hc
  unfold findObj
  rw [hc, Option.bind_some, ha, Option.bind_some]
  simp [hg, ht]
theorem kin_classO {Q : Option Value → Shared → Prop} (hga : findIn K (.ref D) "__getattribute__" = some (some (.builtin "BaseException.__getattribute__"))) (hgt : findIn K (.ref D) "__getattr__" = some none) (hsub : subIn K (.ref D) (.type "BaseException") = some true)
    (hdct : hasDictIn K D = true) (ha : findIn K (.ref D) "__class__" = some (some (.builtin "object.__class__")))
    (hn : specialIn K (.builtin "object.__class__") "__get__" = some (some (.builtin "getset_descriptor.__get__"))) (htk : takesIn K (.builtin "object.__class__") = some true) (hm : mroIn K D (.type "object") = some true)
    (X : K.In s.heap) (I : InstAt s.heap x ox D od) (h : Q (some (.ref D)) { s with toks := s.toks + 1 }) : wpAny (model prog w) A (getAttr? (.ref x) "__class__") Q E s := by
  have hf : findObj K D od "__class__" = some (.bind (.builtin "getset_descriptor.__get__") (.builtin "object.__class__")) := findObj_dataO (by obtain ⟨cd, hc, _⟩ := any_some hdct; rw [hc]; rfl) ha hn htk
  obtain ⟨hp, g, d, t, os⟩ := s
  have L0 := I.type (M := model prog w)
  have L1 := looks_findIn (M := model prog w) X hga
  have L2 := looks_findIn (M := model prog w) X hgt
  have L3 := looks_find (M := model prog w) X I hf
  have sub : Looks (model prog w) hp (isInstance (.ref x) (.type "BaseException")) true := L0.andThen (looks_subIn X hsub)
  have hx0 : (false && onTheHeap (Value.builtin "BaseException.__getattribute__")) = false := rfl
  have hx2 : (Value.builtin "BaseException.__getattribute__" == Value.builtin "object.__getattribute__") = false := by decide +kernel
  have hx1 : (onTheHeap (Value.ref D) && Value.builtin "BaseException.__getattribute__" == Value.builtin "object.__getattribute__") = false := by rw [hx2]; rfl
  unfold getAttr? getAttrBy? getAttrBy
  refine wpAny_bind (wpAny_mkText (wpAny_bind (wpAny_attempt (wpAny_holding (wpAny_bind (L0.at (wpAny_bind (L1.at ?_))))))))
  show wpAny _ _ (if (onTheHeap (Value.ref D) && Value.builtin "BaseException.__getattribute__" == Value.builtin "object.__getattribute__") = true then _ else _) _ _ _
  rw [hx1, if_neg Bool.false_ne_true]
  unfold getAttrByItsOwn hookBefore
  refine wpAny_bind ?_
  rw [if_pos (show onTheHeap (Value.ref D) = true from rfl)]
  refine L2.at ?_
  refine wpAny_bind (wpAny_attempt (wpAny_holding ?_))
  unfold callGetattribute
  rw [hx0, if_neg Bool.false_ne_true]
  unfold boundAndCalled
  rw [PySem.F.excAttr_ValueError.ga.bind (.ref x)]
  refine wpAny_bind (wpAny_pure ?_)
  show wpAny _ _ (call (.builtin "BaseException.__getattribute__") [.ref x, .str "__class__" t]) _ _ _
  refine wpAny_call (codeAny_call_builtin PySem.F.excAttr_ValueError.ga.plain PySem.F.entry_bexc_ga ?_)
  refine @check_slot (model prog w) _ _ ⟨hp, g, d, t + 1, os⟩ "BaseException.__getattribute__" "BaseException" "__getattribute__" (.ref x) [.str "__class__" t] [] _ (by decide +kernel) (by decide +kernel) sub (PySem.F.args_bexc_ga (.ref x) (.str "__class__" t)) ?_
  unfold Builtin.«object.__getattribute__»
  refine wpAny_bind (wpAny_of_eq (a := ((Value.ref x : Value), [Value.str "__class__" t])) (by first | rfl | (simp only [slotArgs]; rfl)) ?_)
  refine wpAny_bind (wpAny_pure (wpAny_bind (L0.at (wpAny_bind (L3.at ?_)))))
  show wpAny _ _ (holding [Value.builtin "object.__class__"] (call (.builtin "getset_descriptor.__get__") [.builtin "object.__class__", .ref x, .ref D]) >>= ret) _ _ _
  refine wpAny_bind (wpAny_holding (wpAny_call (class_get (s := ⟨hp, g, d, t + 1, os⟩) (ox := ox) (od := od) X I hm ?_)))
  refine wpAny_pure ?_
  show wpAny _ _ (handedOut (.ref D)) _ _ _
  rw [handedOut_of (v := .ref D) rfl]
  first
    | exact wpAny_pure (wpAny_pure h)
    | exact wpAny_pure h
    | exact wpAny_pure (wpAny_bind (wpAny_pure (wpAny_pure h)))
theorem kitx_excO (hga : findIn K (.ref D) "__getattribute__" = some (some (.builtin "BaseException.__getattribute__"))) (hgt : findIn K (.ref D) "__getattr__" = some none) (hsub : subIn K (.ref D) (.type "BaseException") = some true) (hdct : hasDictIn K D = true) (ha : findIn K (.ref D) "__class__" = some (some (.builtin "object.__class__")))
    (hn : specialIn K (.builtin "object.__class__") "__get__" = some (some (.builtin "getset_descriptor.__get__"))) (htk : takesIn K (.builtin "object.__class__") = some true) (hm : mroIn K D (.type "object") = some true) :
    KitX K (.ref x) (.ref D) (fun h => ∃ od, InstAt h x ox D od) where
  ty := fun _ _ _ ⟨_, I⟩ => I.type
  it := fun _ _ X _ => by
    obtain ⟨cdD, hcD, _⟩ := any_some hdct
    unfold clsIn at hcD
    split at hcD
    · rename_i c' d' cd' sl' ho
      intro A' Q' E' s' k q
      unfold isType loadHead
      exact wpAny_bind (wpAny_loadPart (k _ _ (X _ _ ho)) (wpAny_pure q))
    · cases hcD
  ne := fun h tp dd its n sl X htp => by
    obtain ⟨cdD, hcD, _⟩ := any_some hdct
    refine Bool.eq_false_iff.mpr fun q => ?_
    have e : D = tp := Value.ref.inj (beq_iff_eq.mp q)
    subst e
    unfold clsIn at hcD
    split at hcD
    · rename_i c' d' cd' sl' ho
      have z := (X _ _ ho).symm.trans htp
      cases z
    · cases hcD
  ca := fun X I k => by
    obtain ⟨od, I⟩ := I
    exact kin_classO hga hgt hsub hdct ha hn htk hm X I k
end
end PySem.W
namespace GL
open PySem PySem.Spec PyProof.Rows L2
/-- the exception's object stands, with its fields -/
theorem call_isO {X : Cx} {a D : Addr} {oe : Obj} {pn : List (Addr × Obj)} {d : Option Addr} (C : ExcC X.K D) (hz : Zc (.ref D) d oe) (hf : ∃ vs, oe.data = .fields vs) :
    CallR (X.suite a ((a, oe) :: pn)) (.builtin "isinstance") (fun xs H Q => (∀ dd, d = some dd → ∃ fs, H dd = some (.xd fs)) ∧ rIsE X.K D a xs H Q) := by
  intro pins s σ H xs us Q I r h
  obtain ⟨hd, c, cv, b, rfl, hcv, e, q⟩ := h
  cases r with
  | cons rx rr =>
    cases rr with
    | cons rt rr =>
      cases rr
      cases rx
      have ec := hcv _ rt
      subst ec
      obtain ⟨hget, _⟩ := I.pin (a, oe) (List.mem_append.mpr (.inl List.mem_cons_self))
      obtain ⟨vs, hv⟩ := hf
      have J : ∃ od, PySem.W.InstAt s.heap a oe D od := by
        cases d with
        | none =>
          obtain ⟨oc, od, oda, osl⟩ := oe
          obtain ⟨h1, h2⟩ := hz
          dsimp only at h1 h2 hv
          subst h1 h2 hv
          exact ⟨none, hget, rfl, rfl, trivial⟩
        | some dd =>
          obtain ⟨fs, ea⟩ := hd dd rfl
          have hx : ObjOk X.prog X.w H s.heap dd (.xd fs) := I.hok dd _ ea
          obtain ⟨mA, hns, hr⟩ := hx
          obtain ⟨od, ho, hl⟩ := lookIn_ns hns
          exact ⟨some od, hget, hz.1, by unfold PySem.W.notCls; rw [hv] <;> rfl, by rw [hz.2]; exact ho⟩
      exact PySem.W.kia_one (PySem.W.kitx_excO C.hg C.hk C.hs C.hd C.ha C.hn C.ht C.hm) I.kIn J e (fun z => nomatch z) fun tk => ⟨.bl b, H, I.kept (t' := tk) fun _ _ z => z, rfl, q⟩
/-- .. of a tuple of classes -/
theorem vals_refs : ∀ {Ds : List Addr} {us : List Value}, Vals (Ds.map V.ref) us → us = Ds.map Value.ref
  | [], _, .nil => rfl
  | D :: Ds, _, .cons r t => by
    have h1 : _ = Value.ref D := r
    rw [h1, vals_refs t]; rfl
theorem call_isOs {X : Cx} {a D : Addr} {oe : Obj} {pn : List (Addr × Obj)} {d : Option Addr} (C : ExcC X.K D) (hz : Zc (.ref D) d oe) (hf : ∃ vs, oe.data = .fields vs) :
    CallR (X.suite a ((a, oe) :: pn)) (.builtin "isinstance") (fun xs H Q => (∀ dd, d = some dd → ∃ fs, H dd = some (.xd fs)) ∧ ∃ (t : Addr) (Ds : List Addr) (b : Bool), xs = [.ref a, .ref t] ∧ SqT X.K H t (Ds.map V.ref) ∧ PySem.W.kitAny X.K (.ref D) (Ds.map Value.ref) = some b ∧ Q (.bl b) H) := by
  intro pins s σ H xs us Q I r h
  obtain ⟨hd, t, Ds, b, rfl, hs, e, q⟩ := h
  cases r with
  | cons rx rr =>
    cases rr with
    | cons rt rr =>
      cases rr
      cases rx
      cases (show _ = Value.ref t from rt)
      obtain ⟨hget, _⟩ := I.pin (a, oe) (List.mem_append.mpr (.inl List.mem_cons_self))
      obtain ⟨vs, hv⟩ := hf
      have J : ∃ od, PySem.W.InstAt s.heap a oe D od := by
        cases d with
        | none =>
          obtain ⟨oc, od, oda, osl⟩ := oe
          obtain ⟨h1, h2⟩ := hz
          dsimp only at h1 h2 hv
          subst h1 h2 hv
          exact ⟨none, hget, rfl, rfl, trivial⟩
        | some dd =>
          obtain ⟨fs, ea⟩ := hd dd rfl
          have hx : ObjOk X.prog X.w H s.heap dd (.xd fs) := I.hok dd _ ea
          obtain ⟨mA, hns, hr⟩ := hx
          obtain ⟨od, ho, hl⟩ := lookIn_ns hns
          exact ⟨some od, hget, hz.1, by unfold PySem.W.notCls; rw [hv] <;> rfl, by rw [hz.2]; exact ho⟩
      obtain ⟨its, rv, ⟨o, h1, h2, n, h3⟩, _⟩ := I.tuple hs
      have e3 := vals_refs rv
      subst e3
      obtain ⟨oc, od, dt, sl⟩ := o
      simp only at h2 h3
      subst h2 h3
      exact PySem.W.kia_tup (PySem.W.kitx_excO C.hg C.hk C.hs C.hd C.ha C.hn C.ht C.hm) I.kIn J h1 e (fun z => nomatch z) fun tk => ⟨.bl b, H, I.kept (t' := tk) fun _ _ z => z, rfl, q⟩
/-! StripError.__init__(self, ..) -/
structure SeI (K : Fg) (C0 : Addr) : Prop where
  rd : ClX.CRead K C0 (.type "type")
  at_ : PySem.W.findCls K (.ref C0) (.type "type") "__init__" = some (.val (.builtin "ValueError.__init__"))
theorem pe_seinit {X : Cx} {c : Str} {C0 : Addr} {e : Expr} {es : List Expr} {ta : TA} {p1 p2 pos : Pos} {pl : Sem Bool} (hg : Gl X c) (hm : X.mg c = some (.ref C0)) (T : SeI X.K C0) (ha : PA X (e :: es) ta) (hd : (c == ("__debug__" : Str)) = false)
    (hc : eval (.Call (.Attribute (.Name c p1) "__init__" p2) (e :: es) [] pos) X.env = (do
      let ov ← eval (.Name c p1) X.env
      standAt p2.atName
      let (f, first) ← holding [ov] (getMethod ov "__init__" pl)
      callWith pos f first (backTo pos (starEach (e :: es) X.env)) (backToKw pos (keywordEach [] X.env))))
    (he : starEach (e :: es) X.env = (false, eval e X.env) :: starEach es X.env) (hpl : (backTo pos (starEach es X.env)).any (·.1) = false) :
    PE X (.Call (.Attribute (.Name c p1) "__init__" p2) (e :: es) [] pos) (tVeI X.K ta) := by
  refine ⟨fun pins s σ H Q I h => ?_⟩
  refine PySem.W.methodCall_KW (pl := pl) (ld_glob I hg hm ?_ hd) hc
  refine PySem.W.method_cls I.kIn T.rd.ga (PySem.W.cls_value I.kIn T.rd.rd T.at_ (by decide +kernel) ?_)
  have I1 := I.tok (s.toks + 1)
  show wpAny _ _ (callWith pos (Value.builtin "ValueError.__init__") [] (backTo pos (starEach (e :: es) X.env)) []) _ _ _
  refine PyProof.Rows.callWith_method1 (thn (ha.run pos pins _ σ H _ (I1.tok _) h) fun us s1 ⟨vs, H1, I1, r1, a, C, ws, ev, hl, T, ea, q⟩ => ?_) he hpl
  subst ev
  cases r1 with
  | @cons _ u0 _ ur ra rw' =>
    obtain rfl : u0 = Value.ref a := ra
    have hlen : ur.length ≤ sizeLine := by
      rw [← Paired.length rw', sizeLine_eq]
      omega
    exact oinit_ok T I1 ea hlen fun s' J => ⟨.non, H1, J, rfl, q⟩
end GL

set_option Elab.async false
set_option linter.all false
set_option maxRecDepth 100000
set_option maxHeartbeats 4000000
namespace GL
open PySem PySem.Spec PyProof.Rows L2
open Evl (Ex ex_l ex_t)
/-! ### the program's exceptions -/
def Exn.cls : Exn → Str
  | .noRules => "NoRules"
  | .noPlace => "NoPlace"
  | .notFree => "NotFree"
  | .tooMany => "TooMany"
  | .noRow => "NoRow"
  | .noTime _ _ => "NoTime"
  | .noPlan _ => "NoPlan"
  | .noSheet _ => "NoSheet"
/-- its fields, the last one set first -/
def Exn.pay : Exn → List (Str × PyData)
  | .noTime f t => [("time", .int t), ("flight", .int f)]
  | .noPlan c => [("crowd", enc c)]
  | .noSheet r => [("row", .int r)]
  | _ => []
/-- d: its dict, G: the heap where it stands, F: where its fields are data -/
def PayP (K : Fg) (G F : Hp) (d : Option Addr) : List (Str × PyData) → Prop
  | [] => d = none
  | p :: ps => ∃ dd vs, d = some dd ∧ G dd = some (.xd (((p :: ps).map (·.1)).zip vs)) ∧ DqAll K F vs ((p :: ps).map (·.2))
theorem PayP.mono {K : Fg} {G F G' F' : Hp} {d : Option Addr} (g : Ex G G') (f : Ex F F') : ∀ {ps : List (Str × PyData)}, PayP K G F d ps → PayP K G' F' d ps
  | [], h => h
  | p :: ps, ⟨dd, vs, h1, h2, h3⟩ => ⟨dd, vs, h1, g _ _ h2, dqAll_mono f _ _ h3⟩
theorem PayP.xd {K : Fg} {G F : Hp} {d : Option Addr} : ∀ {ps : List (Str × PyData)}, PayP K G F d ps → ∀ dd, d = some dd → ∃ fs, G dd = some (.xd fs)
  | [], h, dd, e => by rw [show d = none from h] at e; cases e
  | p :: ps, ⟨d2, vs, h1, h2, h3⟩, dd, e => by rw [h1] at e; cases e; exact ⟨_, h2⟩
def ER (K : Fg) (x : Exn) : RS := .err (.ref (He.ga K x.cls)) fun d F H => PayP K H F d x.pay
def resM {ρ : Type} (T0 : ρ → RS) (E : Exn → RS) : M ρ → RS
  | .ok r => T0 r
  | .ex e => E e
  | .st => .val ⟨fun _ _ => False, fun _ _ _ _ h => h⟩
/-- the caught exception, as its name's value -/
def excP (K : Fg) (a : Addr) (x : Exn) (d : Option Addr) : MP := ⟨fun F v => v = .ref a ∧ PayP K F F d x.pay, fun _ _ _ e ⟨h1, h2⟩ => ⟨h1, h2.mono e e⟩⟩
/-! ### what raises -/
section
variable (X : Cx)
/-- e raises x -/
structure PR (Wx : WX) (Φ : List SD) (e : Expr) (x : Exn) : Prop where
  run : ∀ (H0 : Hp) (σ : L2.St) (F H : Hp) (Q : VK), Ex F H → Sl H0 Φ σ F H → (∀ d F' H', Gr F H F' H' → (∀ a, d = some a → H a = none) → PayP X.K H' F' d x.pay → Wx (.ref (He.ga X.K x.cls)) d σ H') → wE X e σ H Q
structure PRa (Wx : WX) (Φ : List SD) (es : List Expr) (x : Exn) : Prop where
  run : ∀ (H0 : Hp) (σ : L2.St) (F H : Hp) (Q : List V → Hp → Prop), Ex F H → Sl H0 Φ σ F H → (∀ d F' H', Gr F H F' H' → (∀ a, d = some a → H a = none) → PayP X.K H' F' d x.pay → Wx (.ref (He.ga X.K x.cls)) d σ H') → wA X es σ H Q
end
section
variable {X : Cx} {Wx : WX} {Φ : List SD} {a b c e : Expr} {es : List Expr} {pos p p2 : Pos} {P : MP} {Ps Qs : List MP} {i j k : Int} {tg : Expr} {x : Exn}
theorem fresh_up {F H F' H' : Hp} (g : Gr F H F' H') {d : Option Addr} (h : ∀ a, d = some a → H' a = none) : ∀ a, d = some a → H a = none := fun a e => by
  cases w : H a with
  | none => rfl
  | some u => have := g.h a u w; rw [h a e] at this; cases this
theorem pr_call {A ρ : Type} {argP : A → List MP} {m : A → M ρ} {T0 : ρ → RS} {y : Str} {n : Nat} (G : FnG X.prog X.w X.K X.mg X.base (L2.CX X.prog X.w) n y (spG argP (fun z => m z ≠ .st) fun z => resM T0 (ER X.K) (m z))) (hr : Room n X.A) (tk : Takes X Wx) (z : A) (hx : m z = .ex x)
    (ha : PAs X Φ (e :: es) (argP z)) (hg : Gl X y := by rfl) (hd : (y == ("__debug__" : Str)) = false := by decide) (hst : (e :: es).all nst = true := by rfl) : PR X Wx Φ (.Call (.Name y p) (e :: es) [] pos) x := .mk fun H0 σ F H Q s sl q => by
  obtain ⟨f, fd, ps, h1, h2, h3, h4⟩ := G.ex
  have h2' := hst
  rw [List.all_cons, Bool.and_eq_true] at h2'
  refine wE_of (pe_callS h1 hr hg h2 h3 h4 (fun σ => passAt tk σ) paW hd (star_cons h2'.1) (star_plain h2'.2)) (ha H0 σ F H _ s sl fun vs F1 H1 g1 p1 => ⟨z, F1, g1.s, p1, (show m z ≠ .st by rw [hx]; exact fun z => (nomatch z)), ?_⟩)
  show (resM T0 (ER X.K) (m z)).sat F1 H1 Q (WE Wx σ)
  rw [hx]
  exact fun d F' H' g hn hp => q d F' H' (g1.trans g) (fresh_up g1 hn) hp
theorem v_callX {A ρ : Type} [Py ρ] {argP : A → List MP} {m : A → M ρ} {y : Str} {n : Nat} {t : ρ} (G : FnG X.prog X.w X.K X.mg X.base (L2.CX X.prog X.w) n y (spG argP (fun z => m z ≠ .st) fun z => resM (fun r => .val (py X.K (enc r))) (ER X.K) (m z))) (hr : Room n X.A) (z : A) (ht : m z = .ok t)
    (ha : PAs X Φ (e :: es) (argP z)) (hg : Gl X y := by rfl) (hd : (y == ("__debug__" : Str)) = false := by decide) (hst : (e :: es).all nst = true := by rfl) : PV X Φ (.Call (.Name y p) (e :: es) [] pos) t :=
  v_call G hr passL z (by rw [ht]; exact fun z => nomatch z) (by rw [ht]; rfl) ha hg hd hst
theorem v_callXN {A ρ : Type} [Py ρ] {argP : A → List MP} {m : A → M (List ρ)} {y : Str} {n : Nat} {t : List ρ} (G : FnG X.prog X.w X.K X.mg X.base (L2.CX X.prog X.w) n y (spG argP (fun z => m z ≠ .st) fun z => resM (fun r => .new (rps X.K r)) (ER X.K) (m z))) (hr : Room n X.A) (z : A) (ht : m z = .ok t)
    (ha : PAs X Φ (e :: es) (argP z)) (hg : Gl X y := by rfl) (hd : (y == ("__debug__" : Str)) = false := by decide) (hst : (e :: es).all nst = true := by rfl) : PN X Φ (.Call (.Name y p) (e :: es) [] pos) t :=
  v_callN G hr passL z (by rw [ht]; exact fun z => nomatch z) (by rw [ht]; rfl) ha hg hd hst
/-! through what stands around -/
theorem pra_here (h : PR X Wx Φ e x) (hst : nst e = true := by rfl) : PRa X Wx Φ (e :: es) x := .mk fun H0 σ F H Q s sl q => wA_of (pa_cons peW paW (star_cons hst)) (h.run H0 σ F H _ s sl q)
theorem pra_next (ha : PEv X Φ e P) (h : PRa X Wx Φ es x) (hst : nst e = true := by rfl) : PRa X Wx Φ (e :: es) x := .mk fun H0 σ F H Q s sl q =>
  wA_of (pa_cons peW paW (star_cons hst)) (ha H0 σ F H _ s sl fun v F1 H1 g1 p1 => h.run H0 σ F1 H1 _ g1.s (sl.gr g1) fun d F' H' g hn hp => q d F' H' (g1.trans g) (fresh_up g1 hn) hp)
theorem pr_tuple {x1} (h : PRa X Wx Φ es x) : PR X Wx Φ (.Tuple es x1 pos) x := .mk fun H0 σ F H Q s sl q => wE_of (pe_tup paW) (h.run H0 σ F H _ s sl q)
theorem pr_sub (h : PR X Wx Φ a x) (hs : PlainIx b := by exact fun _ _ => rfl) : PR X Wx Φ (.Subscript a b pos) x := .mk fun H0 σ F H Q s sl q => wE_of (pe_ix ix_list peW peW hs) (h.run H0 σ F H _ s sl q)
end
/-! ### blocks that raise -/
section
variable {X : Cx} {W : XK} {S R : Type} {Φ : List SD} {Mm : S → List SD} {T : Except Exn R → RS} {a b c e : Expr} {es : List Expr} {pos p p2 : Pos} {P : MP} {A A1 A2 : List Stmt} {r : List (List Stmt)} {x : Exn} {tg : Expr}
theorem er_sat {F0 H0 F H : Hp} {D : Ends} (hT : T (.error x) = ER X.K x) (g : Gr F0 H0 F H) (kp : (T (.error x)).sat F0 H0 D.rt W) : ∀ (σ : L2.St) d F' H', Gr F H F' H' → (∀ a, d = some a → H a = none) → PayP X.K H' F' d x.pay → W (.ref (He.ga X.K x.cls)) d H' := by
  rw [hT] at kp
  exact fun σ d F' H' g' hn hp => kp d F' H' (g.trans g') (fresh_up g hn) hp
theorem hx_set (n : Nat) {y : Str} (hN : X.N.Nodup) (he : PR X (fun c d _ H => W c d H) Φ e x) (hT : T (.error x) = ER X.K x := by rfl) (hi : X.N[n]? = some y := by rfl) (hx : Loc X.env.scope y := by first | exact Or.inl rfl | exact Or.inr rfl) (hs : swapsWith e (some (.Name y p)) pos.line X.env = pure false := by rfl)
    (hf : X.fn y = true ∨ X.env.scope.names.lookup y = some .local := by first | exact .inl rfl | exact .inr rfl) : HB X W ((.Assign [.Name y p] e pos :: A) :: r) Φ Mm T (.rt (.error x)) := .mk fun F0 H0 D σ F H g sl k =>
  wK_cons (wS_of (ps_set hN hi hx peW hs hf) (he.run H0 σ F H _ g.s sl (er_sat hT g k σ)))
theorem hx_asg (he : PR X (fun c d _ H => W c d H) Φ e x) (hT : T (.error x) = ER X.K x := by rfl) (hs : swapsWithSole [tg] e pos.line X.env = pure false := by rfl) (hw : swappedStores [tg] e X.env = pure none := by rfl)
    (h1 : (assignEach [tg] X.env).map (·.2) = [assign tg X.env] := by rfl) : HB X W ((.Assign [tg] e pos :: A) :: r) Φ Mm T (.rt (.error x)) := .mk fun F0 H0 D σ F H g sl k =>
  wK_cons (wS_of (ps_asg peW pgW hs hw h1) (he.run H0 σ F H _ g.s sl (er_sat hT g k σ)))
theorem hx_ret (he : PR X (fun c d _ H => W c d H) Φ e x) (hT : T (.error x) = ER X.K x := by rfl) : HB X W ((.Return (some e) pos :: A) :: r) Φ Mm T (.rt (.error x)) := .mk fun F0 H0 D σ F H g sl k =>
  wK_cons (wS_of (ps_ret peW) (he.run H0 σ F H _ g.s sl (er_sat hT g k σ)))
theorem hx_drop (he : PR X (fun c d _ H => W c d H) Φ e x) (hT : T (.error x) = ER X.K x := by rfl) (hs : swapsWith e none pos.line X.env = pure false := by rfl) : HB X W ((.Expr e pos :: A) :: r) Φ Mm T (.rt (.error x)) := .mk fun F0 H0 D σ F H g sl k =>
  wK_cons (wS_of (ps_expr peW hs) (he.run H0 σ F H _ g.s sl (er_sat hT g k σ)))
/-- raise C('..'), C without an own __init__ -/
theorem h_raise {m : Str} {j : Nat} (hc : X.calm = true) (tk : Takes X fun c d _ H => W c d H) (q : PySem.W.excIn X.K (He.ga X.K x.cls) He.veBase "ValueError.__new__" = true) (gC : X.mg x.cls = some (.ref (He.ga X.K x.cls))) (kC : PySem.W.keepIn X.K (.ref (He.ga X.K x.cls)) = true)
    (rs : Raises X (.ref (He.ga X.K x.cls))) (hp : x.pay = [] := by rfl) (hT : T (.error x) = ER X.K x := by rfl) (hg : Gl X x.cls := by rfl) (hdb : (x.cls == ("__debug__" : Str)) = false := by decide) :
    HB X W ((.Raise (some (.Call (.Name x.cls p) [.Constant (.str m) j p2] [] pos)) none tg.pos :: A) :: r) Φ Mm T (.rt (.error x)) := .mk fun F0 H0 D σ F H g sl k =>
  wK_cons (wS_of (ps_raise hc tk (pmk_own PySem.F.excBase_ValueError q gC kC rs hg hdb)) (er_sat hT g k σ none F H (Gr.refl g.s) (fun _ e => nomatch e) (by rw [hp]; rfl)))
end
/-! ### raise C(e, ..), C with an own __init__ -/
/-- what __init__ keeps: n arguments become the fields names -/
def spOx (C : Addr) (names : List Str) : Sp := fun vs H Q _ => ∃ (a : Addr) (us : List V), vs = .ref a :: us ∧ us.length = names.length ∧ H a = some (exo a C none) ∧
  ∀ (d : Addr) (H' : Hp), H d = none → d ≠ a → H' a = some (exo a C (some d)) → H' d = some (exd d (names.reverse.zip us.reverse)) → (∀ b, b ≠ a → b ≠ d → H' b = H b) → Q .non H'
structure OxG (P : Program) (w : World) (K : Fg) (mg : Str → Option Value) (base : Heap) (k : Nat) (c : Str) (names : List Str) : Prop where
  T : OexC K (He.ga K c)
  g : mg c = some (.ref (He.ga K c))
  iC : PySem.W.findIn K (.ref (He.ga K c)) "__init__" = some (some (.ref (He.ma K (He.ga K c) "__init__")))
  tI : PySem.W.typeIn K (.ref (He.ma K (He.ga K c) "__init__")) = some (.type "function")
  ex : ∃ (fd : FuncData) (ps : List Str), FnOk P w K mg base CX0 k (He.ma K (He.ga K c) "__init__") fd ps (spOx (He.ga K c) names) ∧ Binds K fd ps []
theorem allP_rev {Ps : List MP} {F : Hp} {vs : List V} (h : AllP Ps F vs) : AllP Ps.reverse F vs.reverse := h.reverse
section
variable {X : Cx} {W : XK} {S R : Type} {Φ : List SD} {Mm : S → List SD} {T : Except Exn R → RS} {e : Expr} {es : List Expr} {pos p p2 : Pos} {A : List Stmt} {r : List (List Stmt)} {x : Exn} {rpos : Pos}
theorem h_raiseO {n : Nat} {q0 : Str × PyData} {qs : List (Str × PyData)} (hc : X.calm = true) (tk : Takes X fun c d _ H => W c d H) (hp : x.pay = q0 :: qs) (G : OxG X.prog X.w X.K X.mg X.base n x.cls ((q0 :: qs).map (·.1)).reverse) (hr : Room (n + 1) X.A)
    (ha : PAs X Φ (e :: es) (((q0 :: qs).map fun q => py X.K q.2).reverse)) (hT : T (.error x) = ER X.K x := by rfl) (hg : Gl X x.cls := by rfl) (hst : (e :: es).all nst = true := by rfl) (hdb : (x.cls == ("__debug__" : Str)) = false := by decide) :
    HB X W ((.Raise (some (.Call (.Name x.cls p) (e :: es) [] pos)) none rpos :: A) :: r) Φ Mm T (.rt (.error x)) := .mk fun F0 H0 D σ F H g sl k => by
  obtain ⟨fd, ps, h1, h2⟩ := G.ex
  have h2' := hst
  rw [List.all_cons, Bool.and_eq_true] at h2'
  refine wK_cons (wS_of (ps_raise hc tk (pmk_oex G.T G.iC G.tI h1 hr h2 .nil pass0 hg G.g paW hdb (star_cons h2'.1) (star_plain h2'.2))) (ha H0 σ F H _ g.s sl fun vs F1 H1 g1 p1 => ?_))
  have hl : vs.length = (q0 :: qs).length := by rw [p1.1]; simp
  have hz : (q0 :: qs).length ≤ 1000 := by rw [← hp]; cases x <;> simp [Exn.pay]
  refine ⟨by omega, fun a hn => ?_⟩
  refine ⟨a, vs, by simp, by rw [hl]; simp, upd_same, fun d H2 h3 hda h4 h5 h6 => ?_⟩
  rw [upd_ne hda] at h3
  refine ⟨rfl, d, _, h4, h5, h3, ?_⟩
  have rev : AllP (((q0 :: qs).map fun q => py X.K q.2)) F1 vs.reverse := by
    have := p1.reverse
    rwa [List.reverse_reverse] at this
  have eH : upd (del H2 a) d (.xd (((q0 :: qs).map (·.1)).reverse.reverse.zip vs.reverse)) = upd H1 d (.xd (((q0 :: qs).map (·.1)).zip vs.reverse)) := by
    funext b
    by_cases hbd : b = d
    · subst hbd; rw [upd_same, upd_same, List.reverse_reverse]
    · rw [upd_ne hbd, upd_ne hbd]
      by_cases hba : b = a
      · subst hba; rw [del_same, hn]
      · rw [del_ne hba, h6 b hba hbd, upd_ne hba]
  rw [eH]
  have hdn : H d = none := (fresh_of g1 h3).2
  refine er_sat hT g k σ (some d) F1 _ (g1.trans (Gr.hp g1.s (Ex.new h3))) (fun a e => by cases e; exact hdn) ?_
  rw [hp]
  refine ⟨d, vs.reverse, rfl, upd_same, allP_dqAll ?_⟩
  have e2 : ((q0 :: qs).map (·.2)).map (py X.K) = (q0 :: qs).map fun q => py X.K q.2 := by rw [List.map_map]; rfl
  rw [e2]; exact rev
/-! raises, as blocks of mirrors -/
theorem k_ex {β : Type} {j : β → Ctl S R} {ks : List (List Stmt)} (h : HB X W ks Φ Mm T (.rt (.error x))) : HM X W j ks Φ Mm T (.ex x) := ⟨fun c hc => by cases hc; exact h⟩
end
/-! ### __init__ of such a class -/
section
variable {X : Cx} {C C0 a : Addr} {se f1 f2 : Str} {m : Str} {j : Nat} {p1 p2 p3 p4 p5 p6 q1 q2 q3 q4 s1 s2 s3 s4 : Pos} {pl : Sem Bool} {D : Ends} {u1 u2 : V} {H : Hp}
theorem ox_walk1 (hN0 : X.N[0]? = some ("self" : Str)) (hN1 : X.N[1]? = some f1) (hv : ∀ x ∈ [("self" : Str), f1], Vis X.env.scope x) (hd : ∀ x ∈ [("self" : Str), f1], (x == ("__debug__" : Str)) = false ∧ (x == ("__classdict__" : Str)) = false)
    (hg : Gl X se) (hm : X.mg se = some (.ref C0)) (I : SeI X.K C0) (hse : (se == ("__debug__" : Str)) = false) (T : OexC X.K C) (n1 : PySem.W.findIn X.K (.ref C) f1 = some none)
    (ht : eval (.Call (.Attribute (.Name se p1) "__init__" p2) [.Name "self" p3, .Constant (.str m) j p4] [] p5) X.env = (do
      let ov ← eval (.Name se p1) X.env
      standAt p2.atName
      let (f, first) ← holding [ov] (getMethod ov "__init__" pl)
      callWith p5 f first (backTo p5 (starEach [.Name "self" p3, .Constant (.str m) j p4] X.env)) (backToKw p5 (keywordEach [] X.env))))
    (hs1 : swapsWith (.Call (.Attribute (.Name se p1) "__init__" p2) [.Name "self" p3, .Constant (.str m) j p4] [] p5) none p6.line X.env = pure false) (hs2 : swapsWith (.Name f1 q3) (some (.Attribute (.Name "self" q1) f1 q2)) q4.line X.env = pure false)
    (ha : H a = some (exo a C none)) (k : ∀ (d : Addr) (H' : Hp), H d = none → d ≠ a → H' a = some (exo a C (some d)) → H' d = some (exd d [(f1, u1)]) → (∀ b, b ≠ a → b ≠ d → H' b = H b) → D.nx [some (.ref a), some u1] H') :
    wSs X [.Expr (.Call (.Attribute (.Name se p1) "__init__" p2) [.Name "self" p3, .Constant (.str m) j p4] [] p5) p6, .Assign [.Attribute (.Name "self" q1) f1 q2] (.Name f1 q3) q4] D [some (.ref a), some u1] H := by
  have d0 := hd ("self" : Str) (by simp)
  have d1 := hd f1 (by simp)
  refine wSs_of (pss_cons (ps_expr (pe_seinit hg hm I (pa_cons (pe_var (i := 0) hN0 (hv _ (by simp)) d0.1 d0.2) (pa_cons pe_str pa_nil (star_cons rfl)) (star_cons rfl)) hse ht (star_cons rfl) (star_plain rfl)) hs1)
    (pss_one (ps_ost (pe_var (i := 0) hN0 (hv _ (by simp)) d0.1 d0.2) (pe_var (i := 1) hN1 (hv _ (by simp)) d1.1 d1.2) hs2))) ?_
  refine ⟨_, rfl, a, C, [V.str m], rfl, by simp, T, ha, ?_⟩
  refine ⟨_, rfl, _, rfl, a, C, rfl, T, n1, .inl ⟨ha, fun dx hx hne => ?_⟩⟩
  exact k dx _ hx hne upd_same (by rw [upd_ne hne, upd_same]) (fun b h1 h2 => by rw [upd_ne h1, upd_ne h2])
theorem ox_walk2 (hN0 : X.N[0]? = some ("self" : Str)) (hN1 : X.N[1]? = some f1) (hN2 : X.N[2]? = some f2) (hv : ∀ x ∈ [("self" : Str), f1, f2], Vis X.env.scope x) (hd : ∀ x ∈ [("self" : Str), f1, f2], (x == ("__debug__" : Str)) = false ∧ (x == ("__classdict__" : Str)) = false)
    (hg : Gl X se) (hm : X.mg se = some (.ref C0)) (I : SeI X.K C0) (hse : (se == ("__debug__" : Str)) = false) (T : OexC X.K C) (n1 : PySem.W.findIn X.K (.ref C) f1 = some none) (n2 : PySem.W.findIn X.K (.ref C) f2 = some none)
    (ht : eval (.Call (.Attribute (.Name se p1) "__init__" p2) [.Name "self" p3, .Constant (.str m) j p4] [] p5) X.env = (do
      let ov ← eval (.Name se p1) X.env
      standAt p2.atName
      let (f, first) ← holding [ov] (getMethod ov "__init__" pl)
      callWith p5 f first (backTo p5 (starEach [.Name "self" p3, .Constant (.str m) j p4] X.env)) (backToKw p5 (keywordEach [] X.env))))
    (hs1 : swapsWith (.Call (.Attribute (.Name se p1) "__init__" p2) [.Name "self" p3, .Constant (.str m) j p4] [] p5) none p6.line X.env = pure false) (hs2 : swapsWith (.Name f1 q3) (some (.Attribute (.Name "self" q1) f1 q2)) q4.line X.env = pure false)
    (hs3 : swapsWith (.Name f2 s3) (some (.Attribute (.Name "self" s1) f2 s2)) s4.line X.env = pure false)
    (ha : H a = some (exo a C none)) (k : ∀ (d : Addr) (H' : Hp), H d = none → d ≠ a → H' a = some (exo a C (some d)) → H' d = some (exd d [(f2, u2), (f1, u1)]) → (∀ b, b ≠ a → b ≠ d → H' b = H b) → D.nx [some (.ref a), some u1, some u2] H') :
    wSs X [.Expr (.Call (.Attribute (.Name se p1) "__init__" p2) [.Name "self" p3, .Constant (.str m) j p4] [] p5) p6, .Assign [.Attribute (.Name "self" q1) f1 q2] (.Name f1 q3) q4, .Assign [.Attribute (.Name "self" s1) f2 s2] (.Name f2 s3) s4] D [some (.ref a), some u1, some u2] H := by
  have d0 := hd ("self" : Str) (by simp)
  have d1 := hd f1 (by simp)
  have d2 := hd f2 (by simp)
  refine wSs_of (pss_cons (ps_expr (pe_seinit hg hm I (pa_cons (pe_var (i := 0) hN0 (hv _ (by simp)) d0.1 d0.2) (pa_cons pe_str pa_nil (star_cons rfl)) (star_cons rfl)) hse ht (star_cons rfl) (star_plain rfl)) hs1)
    (pss_cons (ps_ost (pe_var (i := 0) hN0 (hv _ (by simp)) d0.1 d0.2) (pe_var (i := 1) hN1 (hv _ (by simp)) d1.1 d1.2) hs2)
      (pss_one (ps_ost (pe_var (i := 0) hN0 (hv _ (by simp)) d0.1 d0.2) (pe_var (i := 2) hN2 (hv _ (by simp)) d2.1 d2.2) hs3)))) ?_
  refine ⟨_, rfl, a, C, [V.str m], rfl, by simp, T, ha, ?_⟩
  refine ⟨_, rfl, _, rfl, a, C, rfl, T, n1, .inl ⟨ha, fun dx hx hne => ?_⟩⟩
  refine ⟨_, rfl, _, rfl, a, C, rfl, T, n2, .inr ⟨dx, _, upd_same, by rw [upd_ne hne, upd_same], by simp, ?_⟩⟩
  exact k dx _ hx hne (by rw [upd_ne hne.symm, upd_same]) upd_same (fun b h1 h2 => by rw [upd_ne h2, upd_ne h1, upd_ne h2])
end
/-! ### try: .. except C as n: .. -/
/-- a block of one statement that may raise: the slots stand as they stood -/
structure TB {S : Type} (X : Cx) (Wx : WX) (bs : List Stmt) (Φ : List SD) (Mm : S → List SD) (m : M S) : Prop where
  run : ∀ (F0 H0 : Hp) (D : Ends) (σ : L2.St) (F H : Hp), Gr F0 H0 F H → Sl H0 Φ σ F H → m ≠ .st →
    (∀ s, m = .ok s → ∀ σ' F' H', Gr F0 H0 F' H' → Sl H0 (Mm s) σ' F' H' → D.nx σ' H') →
    (∀ x, m = .ex x → ∀ σ' d F' H', Gr F0 H0 F' H' → Sl H0 Φ σ' F' H' → (∀ a, d = some a → H0 a = none) → PayP X.K H' F' d x.pay → Wx (.ref (He.ga X.K x.cls)) d σ' H') → wSs X bs D σ H
def tryM {S : Type} (m : M S) (hn : Exn → M S) : M S := match m with
  | .ok s => .ok s
  | .ex x => hn x
  | .st => .st
section
variable {X : Cx} {Wx : WX} {S : Type} {Φ : List SD} {Mm : S → List SD} {e c : Expr} {pos p : Pos} {P : MP} {A1 A2 : List Stmt}
theorem tb_asr {bs : List Stmt} {q : Prop} {m : M S} (h : q → TB X Wx bs Φ Mm m) : TB X Wx bs Φ Mm (asr q m) := by
  by_cases hq : q
  · rw [asr_pos hq]; exact h hq
  · rw [asr_neg hq]; exact ⟨fun _ _ _ _ _ _ _ _ z => absurd rfl z⟩
theorem tb_bindO {α : Type} {bs : List Stmt} {m : M α} {k : α → M S} (h : ∀ t, m = .ok t → TB X Wx bs Φ Mm (k t)) : TB X Wx bs Φ Mm (bindO m k) := by
  cases e : m with
  | ok t => exact h t e
  | ex x => exact ⟨fun _ _ _ _ _ _ _ _ z => absurd rfl z⟩
  | st => exact ⟨fun _ _ _ _ _ _ _ _ z => absurd rfl z⟩
theorem tb_set {α : Type} (n : Nat) {y : Str} {m : M α} {k : α → S} {P : α → MP} (hN : X.N.Nodup) (hok : ∀ t, m = .ok t → PEv X Φ e (P t)) (hex : ∀ x, m = .ex x → PR X Wx Φ e x) (hM : ∀ t, Mm (k t) = Φ.set n (.im (P t)) := by intro _; rfl) (hi : X.N[n]? = some y := by rfl) (hx : Loc X.env.scope y := by first | exact Or.inl rfl | exact Or.inr rfl)
    (hs : swapsWith e (some (.Name y p)) pos.line X.env = pure false := by rfl) (hf : X.fn y = true ∨ X.env.scope.names.lookup y = some .local := by first | exact .inl rfl | exact .inr rfl) : TB X Wx [.Assign [.Name y p] e pos] Φ Mm (bindM m fun t => .ok (k t)) := ⟨fun F0 H0 D σ F H g sl hn h1 h2 =>
  wSs_of (pss_one (ps_set hN hi hx peW hs hf)) (by
    cases q : m with
    | ok t => exact hok t q H0 σ F H _ g.s sl fun v F1 H1 g1 p1 => h1 (k t) (by rw [q]; rfl) _ F1 H1 (g.trans g1) (by rw [hM]; exact (sl.gr g1).set ⟨v, rfl, p1⟩ rfl)
    | ex x => exact (hex x q).run H0 σ F H _ g.s sl fun d F' H' g1 hn hp => h2 x (by rw [q]; rfl) σ d F' H' (g.trans g1) (sl.gr g1) (fresh_up g hn) hp
    | st => rw [q] at hn; exact absurd rfl hn)⟩
theorem tb_setN {α : Type} [Py α] (n : Nat) {y : Str} {m : M (List α)} {k : List α → S} (hN : X.N.Nodup) (hok : ∀ t, m = .ok t → PN X Φ e t) (hex : ∀ x, m = .ex x → PR X Wx Φ e x) (hM : ∀ t, Mm (k t) = Φ.set n (sO X.K t) := by intro _; rfl) (hi : X.N[n]? = some y := by rfl) (hx : Loc X.env.scope y := by first | exact Or.inl rfl | exact Or.inr rfl)
    (hs : swapsWith e (some (.Name y p)) pos.line X.env = pure false := by rfl) (hf : X.fn y = true ∨ X.env.scope.names.lookup y = some .local := by first | exact .inl rfl | exact .inr rfl) : TB X Wx [.Assign [.Name y p] e pos] Φ Mm (bindM m fun t => .ok (k t)) := ⟨fun F0 H0 D σ F H g sl hn h1 h2 =>
  wSs_of (pss_one (ps_set hN hi hx peW hs hf)) (by
    cases q : m with
    | ok t => exact hok t q H0 σ F H _ g.s sl fun l vs F1 H1 g1 n1 n2 n3 n4 => h1 (k t) (by rw [q]; rfl) _ F1 H1 (g.trans g1) (by
        rw [hM]
        exact Sl.setOw (sl.gr g1) (by
          cases z : H0 l with
          | none => rfl
          | some u => rw [g.h l u z] at n1; cases n1) n2 n3 n4 (sl.new g1 n1))
    | ex x => exact (hex x q).run H0 σ F H _ g.s sl fun d F' H' g1 hn hp => h2 x (by rw [q]; rfl) σ d F' H' (g.trans g1) (sl.gr g1) (fresh_up g hn) hp
    | st => rw [q] at hn; exact absurd rfl hn)⟩
theorem tb_drop {α : Type} {m : M α} {s : S} {P : α → MP} (hok : ∀ t, m = .ok t → PEv X Φ e (P t)) (hex : ∀ x, m = .ex x → PR X Wx Φ e x) (hM : Mm s = Φ := by rfl) (hs : swapsWith e none pos.line X.env = pure false := by rfl) : TB X Wx [.Expr e pos] Φ Mm (bindM m fun _ => .ok s) := ⟨fun F0 H0 D σ F H g sl hn h1 h2 =>
  wSs_of (pss_one (ps_expr peW hs)) (by
    cases q : m with
    | ok t => exact hok t q H0 σ F H _ g.s sl fun v F1 H1 g1 p1 => h1 s (by rw [q]; rfl) _ F1 H1 (g.trans g1) (by rw [hM]; exact sl.gr g1)
    | ex x => exact (hex x q).run H0 σ F H _ g.s sl fun d F' H' g1 hn hp => h2 x (by rw [q]; rfl) σ d F' H' (g.trans g1) (sl.gr g1) (fresh_up g hn) hp
    | st => rw [q] at hn; exact absurd rfl hn)⟩
theorem tb_if {k : Bool} {m1 m2 : M S} (hc : PTv X Φ c k) (h1 : k = true → TB X Wx A1 Φ Mm m1) (h2 : k = false → TB X Wx A2 Φ Mm m2) : TB X Wx [.If c A1 A2 pos] Φ Mm (cond k m1 m2) := ⟨fun F0 H0 D σ F H g sl hn k1 k2 =>
  wSs_of (pss_one (ps_if ptW pssW pssW)) (hc H0 σ F H _ g.s sl fun F1 H1 g1 => by
    cases k with
    | true => exact iteT ((h1 rfl).run F0 H0 D σ F1 H1 (g.trans g1) (sl.gr g1) hn k1 k2)
    | false => exact iteF ((h2 rfl).run F0 H0 D σ F1 H1 (g.trans g1) (sl.gr g1) hn k1 k2))⟩
end
section
variable {X : Cx} {W : XK} {S R β S' : Type} {j : β → Ctl S R} {Φ : List SD} {Mm : S → List SD} {T : Except Exn R → RS} {pos np pos' : Pos} {A body suite : List Stmt} {b₀ : Stmt} {r : List (List Stmt)}
theorem suite_run {a : Addr} {oe : Obj} {pn : List (Addr × Obj)} {x : Exn} {d : Option Addr} {i : Nat} (M' : S' → List SD) {m : M S'} {F0 H0 : Hp} {D : Ends} {σ : L2.St} {F H : Hp} (g : Gr F0 H0 F H) (sl : Sl H0 Φ σ F H) (fr : ∀ a, d = some a → H0 a = none) (hp : PayP X.K H F d x.pay)
    (i0 : i < σ.length) (hs : HM (X.suite a ((a, oe) :: pn)) W (Ctl.nx (R := R)) [b₀ :: suite] (Φ.set i (.im (excP X.K a x d))) M' T m) (o : L2.St) (ho : o = σ.set i (some (.ref a)))
    (h1 : ∀ s, m = .ok s → ∀ σ' F' H', Gr F0 H0 F' H' → Sl H0 (M' s) σ' F' H' → D.nx σ' H') (h2 : ∀ y, m = .ex y → (T (.error y)).sat F0 H0 D.rt W) (h3 : m ≠ .st) : wSs (X.suite a ((a, oe) :: pn)) (b₀ :: suite) D o H := by
  subst ho
  have fin : ∀ F2, Gr F0 H0 F2 H → Sl H0 Φ σ F2 H → PayP X.K F2 F2 d x.pay → wSs (X.suite a ((a, oe) :: pn)) (b₀ :: suite) D (σ.set i (some (.ref a))) H := fun F2 g2 sl2 hp2 => by
    have sl3 : Sl H0 (Φ.set i (.im (excP X.K a x d))) (σ.set i (some (.ref a))) F2 H := sl2.set ⟨.ref a, rfl, rfl, hp2⟩ rfl
    cases e : m with
    | ok s => exact (hs.run (.nx s) (by rw [e]; rfl)) F0 H0 D _ F2 H g2 sl3 (h1 s e)
    | ex y => exact (hs.run (.rt (.error y)) (by rw [e]; rfl)) F0 H0 D _ F2 H g2 sl3 (h2 y e)
    | st => exact absurd e h3
  cases q : x.pay with
  | nil => rw [q] at hp; exact fin F g sl (by rw [q]; exact hp)
  | cons p0 ps =>
    rw [q] at hp
    obtain ⟨dd, vs, e1, e2, e3⟩ := hp
    subst e1
    have n0 := fr dd rfl
    have eF : Ex F (upd F dd (.xd (((p0 :: ps).map (·.1)).zip vs))) := fun b u z => by
      by_cases hb : b = dd
      · subst hb; rw [upd_same, ← e2, g.s b u z]
      · rw [upd_ne hb]; exact z
    have eH : Ex (upd F dd (.xd (((p0 :: ps).map (·.1)).zip vs))) H := fun b u z => by
      by_cases hb : b = dd
      · subst hb; rw [upd_same] at z; rw [e2]; exact z
      · rw [upd_ne hb] at z; exact g.s b u z
    refine fin _ ⟨g.f.trans eF, g.h, eH, fun b z1 z2 => ?_⟩ ⟨sl.len, fun k D' o a b => ?_, sl.apart⟩ (by rw [q]; exact ⟨dd, vs, rfl, upd_same, dqAll_mono eF _ _ e3⟩)
    · have hb : b ≠ dd := fun w => z2 (by rw [w]; exact n0)
      rw [upd_ne hb]; exact g.n b z1 z2
    · have z := sl.at_ k D' o a b
      cases D' with
      | un => trivial
      | im P => obtain ⟨v, z1, z2⟩ := z; exact ⟨v, z1, P.mono _ _ _ eF z2⟩
      | ow Ps =>
        obtain ⟨l, ws, z1, z2, z3, z4, z5⟩ := z
        have hl : l ≠ dd := fun w => by rw [w, e2] at z4; cases z4
        exact ⟨l, ws, z1, z2, by rw [upd_ne hl]; exact z3, z4, z5.mono eF⟩
      | ob P =>
        obtain ⟨l, z1, z2, z3, z4⟩ := z
        exact ⟨l, z1, z2, fun a ha => ⟨(z3 a ha).1, by
          rw [upd_ne fun w => P.lay _ _ _ z4 a ha _ (by rw [w]; exact e2)]
          exact (z3 a ha).2.1, (z3 a ha).2.2⟩, P.frame _ _ _ _ _ eF (fun _ _ => rfl) z4⟩
theorem set_un {α : Type} : ∀ {l : List α} {i : Nat} {u : α}, l[i]? = some u → l.set i u = l := fun {l i u} h => by
  apply List.ext_getElem?
  intro k
  by_cases q : i = k
  · subst q
    rw [List.getElem?_set_self (List.getElem?_eq_some_iff.mp h).1, h]
  · rw [List.getElem?_set_ne q]
theorem k_tryAs (i : Nat) {n y : Str} {C : Addr} (M' : S' → List SD) {m : M S'} {hn : Exn → M S'} {kk : S' → M β} (hN : X.N.Nodup) (hC : X.mg y = some (.ref C))
    (hb : ∀ W' pn xe, Takes (X.tr pn xe) W' → PassesOwn (model X.prog X.w) X.A X.env xe → TB (X.tr pn xe) W' body Φ M' m)
    (hsu : ∀ x, hn x ≠ .st → PySem.W.exmOne X.K (.ref (He.ga X.K x.cls)) (.ref C) = some true ∧ ∀ a oe d pn, Zc (.ref (He.ga X.K x.cls)) d oe → (∃ vs, oe.data = .fields vs) → HM (X.suite a ((a, oe) :: pn)) W (Ctl.nx (R := R)) [b₀ :: suite] (Φ.set i (.im (excP X.K a x d))) M' T (hn x))
    (hun : ∀ s, (M' s)[i]? = some .un) (hr : ∀ s, HM X W j (A :: r) (M' s) Mm T (kk s))
    (hi : X.N[i]? = some n := by rfl) (hΦ : Φ[i]?.isSome = true := by rfl) (hs : X.stack = X.env :: X.outer := by rfl) (hf : X.env.frame = some X.env.locals := by rfl) (hln : X.env.kindOf n = some .local := by rfl) (hg : Gl X y := by rfl) (hd : (y == ("__debug__" : Str)) = false := by decide) :
    HM X W j ((.Try body [.ExceptHandler (some (.Name y np)) (some n) (b₀ :: suite) pos'] [] [] pos :: A) :: r) Φ Mm T (bindM (tryM m hn) kk) := ⟨fun c hc => .mk fun F0 H0 D σ F H g sl kp => by
  have key : ∀ s, tryM m hn = .ok s → ∀ σ' F' H', Gr F0 H0 F' H' → Sl H0 (M' s) σ' F' H' → wK X (A :: r) D σ' H' := fun s es σ' F' H' g' sl' => by
    rw [es] at hc
    exact ((hr s).run c hc) F0 H0 D σ' F' H' g' sl' kp
  have kex : ∀ x, tryM m hn = .ex x → (T (.error x)).sat F0 H0 D.rt W := fun x es => by
    rw [es] at hc; cases hc; exact kp
  have nst : tryM m hn ≠ .st := fun es => by rw [es] at hc; cases hc
  refine wK_cons (wS_of (ps_try_as (tb := fun W D σ H => ∀ pn xe, Takes (X.tr pn xe) W → PassesOwn (model X.prog X.w) X.A X.env xe → wSs (X.tr pn xe) body D σ H) (ts := fun a cls d D σ H => ∀ oe pn, Zc cls d oe → (∃ vs, oe.data = .fields vs) → wSs (X.suite a ((a, oe) :: pn)) (b₀ :: suite) D σ H)
    hs hf hN hi hln ⟨hg, hd, .inl hC⟩ takes0 (fun W' pn xe tk po => ⟨fun pins s σ H D I h => (h pn xe tk po) pins s I⟩) (fun a oe cls d pn hz hf => ⟨fun pins s σ H D I h => (h oe pn hz hf) pins s I⟩)) ?_)
  intro pn xe tk po
  refine (hb _ pn xe tk po).run F0 H0 _ σ F H g sl (fun e => nst (by unfold tryM; rw [e])) (fun s e => key s (by unfold tryM; rw [e])) fun x e σ' d F' H' g' sl' fr hp => ?_
  have htry : tryM m hn = hn x := by unfold tryM; rw [e]
  obtain ⟨hex, hsu⟩ := hsu x (fun z => nst (htry.trans z))
  refine ⟨true, hex, fun _ a na oe pn hz hf => ?_, fun h => nomatch h⟩
  have hi' : i < σ'.length := by
    rw [sl'.len]
    cases q : Φ[i]? with
    | none => rw [q] at hΦ; cases hΦ
    | some u => exact (List.getElem?_eq_some_iff.mp q).1
  refine suite_run M' g' sl' fr hp hi' (hsu a oe d pn hz hf) _ rfl (fun s es σ3 F3 H3 g3 sl3 => ?_) (fun y es => kex y (by rw [htry, es])) (fun es => nst (by rw [htry, es]))
  refine key s (by rw [htry, es]) _ F3 H3 g3 ?_
  have := sl3.set (i := i) (d := .un) (o := none) trivial rfl
  rwa [set_un (hun s)] at this⟩
theorem suite_run0 {a : Addr} {oe : Obj} {pn : List (Addr × Obj)} (M' : S' → List SD) {m : M S'} {F0 H0 : Hp} {D : Ends} {σ : L2.St} {F H : Hp} (g : Gr F0 H0 F H) (sl : Sl H0 Φ σ F H)
    (hs : HM (X.suite a ((a, oe) :: pn)) W (Ctl.nx (R := R)) [b₀ :: suite] Φ M' T m)
    (h1 : ∀ s, m = .ok s → ∀ σ' F' H', Gr F0 H0 F' H' → Sl H0 (M' s) σ' F' H' → D.nx σ' H') (h2 : ∀ y, m = .ex y → (T (.error y)).sat F0 H0 D.rt W) (h3 : m ≠ .st) : wSs (X.suite a ((a, oe) :: pn)) (b₀ :: suite) D σ H := by
  cases e : m with
  | ok s => exact (hs.run (.nx s) (by rw [e]; rfl)) F0 H0 D _ F H g sl (h1 s e)
  | ex y => exact (hs.run (.rt (.error y)) (by rw [e]; rfl)) F0 H0 D _ F H g sl (h2 y e)
  | st => exact absurd e h3
/-- try: .. except C: .. -/
theorem k_tryOnly {y : Str} {C : Addr} (M' : S' → List SD) {m : M S'} {hn : Exn → M S'} {kk : S' → M β} (hC : X.mg y = some (.ref C))
    (hb : ∀ W' pn xe, Takes (X.tr pn xe) W' → PassesOwn (model X.prog X.w) X.A X.env xe → TB (X.tr pn xe) W' body Φ M' m)
    (hsu : ∀ x, hn x ≠ .st → PySem.W.exmOne X.K (.ref (He.ga X.K x.cls)) (.ref C) = some true ∧ ∀ a oe d pn, Zc (.ref (He.ga X.K x.cls)) d oe → (∃ vs, oe.data = .fields vs) → HM (X.suite a ((a, oe) :: pn)) W (Ctl.nx (R := R)) [b₀ :: suite] Φ M' T (hn x))
    (hr : ∀ s, HM X W j (A :: r) (M' s) Mm T (kk s)) (hs : X.stack = X.env :: X.outer := by rfl) (hf : X.env.frame = some X.env.locals := by rfl) (hg : Gl X y := by rfl) (hd : (y == ("__debug__" : Str)) = false := by decide) :
    HM X W j ((.Try body [.ExceptHandler (some (.Name y np)) none (b₀ :: suite) pos'] [] [] pos :: A) :: r) Φ Mm T (bindM (tryM m hn) kk) := ⟨fun c hc => .mk fun F0 H0 D σ F H g sl kp => by
  have key : ∀ s, tryM m hn = .ok s → ∀ σ' F' H', Gr F0 H0 F' H' → Sl H0 (M' s) σ' F' H' → wK X (A :: r) D σ' H' := fun s es σ' F' H' g' sl' => by
    rw [es] at hc
    exact ((hr s).run c hc) F0 H0 D σ' F' H' g' sl' kp
  have kex : ∀ x, tryM m hn = .ex x → (T (.error x)).sat F0 H0 D.rt W := fun x es => by
    rw [es] at hc; cases hc; exact kp
  have nst : tryM m hn ≠ .st := fun es => by rw [es] at hc; cases hc
  refine wK_cons (wS_of (ps_try_only (tb := fun W D σ H => ∀ pn xe, Takes (X.tr pn xe) W → PassesOwn (model X.prog X.w) X.A X.env xe → wSs (X.tr pn xe) body D σ H) (ts := fun a cls d D σ H => ∀ oe pn, Zc cls d oe → (∃ vs, oe.data = .fields vs) → wSs (X.suite a ((a, oe) :: pn)) (b₀ :: suite) D σ H)
    hs hf ⟨hg, hd, .inl hC⟩ takes0 (fun W' pn xe tk po => ⟨fun pins s σ H D I h => (h pn xe tk po) pins s I⟩) (fun a oe cls d pn hz hf => ⟨fun pins s σ H D I h => (h oe pn hz hf) pins s I⟩)) ?_)
  intro pn xe tk po
  refine (hb _ pn xe tk po).run F0 H0 _ σ F H g sl (fun e => nst (by unfold tryM; rw [e])) (fun s e => key s (by unfold tryM; rw [e])) fun x e σ' d F' H' g' sl' fr hp => ?_
  have htry : tryM m hn = hn x := by unfold tryM; rw [e]
  obtain ⟨hex, hsu⟩ := hsu x (fun z => nst (htry.trans z))
  refine ⟨true, hex, fun _ a na oe pn hz hf => ?_, fun h => nomatch h⟩
  exact suite_run0 M' g' sl' (hsu a oe d pn hz hf) (fun s es => key s (by rw [htry, es])) (fun y es => kex y (by rw [htry, es])) (fun es => nst (by rw [htry, es]))⟩
end
end GL

set_option Elab.async false
set_option linter.all false
set_option maxRecDepth 100000
set_option maxHeartbeats 4000000
namespace GL
open PySem PySem.Spec PyProof.Rows L2
open Evl (Ex ex_l ex_t)
/-! ### in an except suite -/
/-- a class, as a value -/
def clsP (D : Addr) : MP := ⟨fun _ v => v = .ref D, fun _ _ _ _ h => h⟩
section
variable {X : Cx} {Φ : List SD} {e : Expr} {es : List Expr} {pos p p2 : Pos} {a D : Addr} {oe : Obj} {pn : List (Addr × Obj)} {x : Exn} {d : Option Addr} {b : Bool}
theorem v_cls {y : Str} (hg : Gl X y) (hm : X.mg y = some (.ref D)) (hd : (y == ("__debug__" : Str)) = false := by decide) : PEv X Φ (.Name y pos) (clsP D) := .mk fun H0 σ F H Q s sl q =>
  wE_of (pe_glob (v := .ref D) hg hm rfl hd) (q _ _ _ (Gr.refl s) rfl)
theorem lk_put {α : Type} (f g : Str) (y : α) (fs : List (Str × α)) : ((f, y) :: fs).lookup g = if g = f then some y else fs.lookup g := by
  by_cases h : g = f
  · subst h; simp [List.lookup]
  · have e : (g == f) = false := by simpa using h
    rw [if_neg h]; simp [List.lookup, e]
theorem dq_lookup {K : Fg} {F : Hp} {f : Str} {dat : PyData} : ∀ {ps : List (Str × PyData)} {vs : List V}, DqAll K F vs (ps.map (·.2)) → ps.lookup f = some dat → ∃ v, ((ps.map (·.1)).zip vs).lookup f = some v ∧ Dq K F v dat
  | [], _, _, h => by cases h
  | (g, u) :: ps, _, .cons (v := v) (vs := vs) h1 h2, h => by
    rw [lk_put] at h
    show ∃ w, (((g, v) :: ((ps.map (·.1)).zip vs))).lookup f = some w ∧ _
    rw [lk_put]
    by_cases q : f = g
    · rw [if_pos q] at h ⊢; cases h; exact ⟨v, rfl, h1⟩
    · rw [if_neg q] at h ⊢; exact dq_lookup h2 h
theorem x_fld {f : Str} {dat : PyData} (T : XfC X.K (He.ga X.K x.cls)) (hno : PySem.W.findIn X.K (.ref (He.ga X.K x.cls)) f = some none) (hz : Zc (.ref (He.ga X.K x.cls)) d oe) (hf : ∃ vs, oe.data = .fields vs) (hl : x.pay.lookup f = some dat)
    (he : PEv (X.suite a ((a, oe) :: pn)) Φ e (excP X.K a x d)) (hb : attributeBase e f X.env (eval e X.env) = eval e X.env := by rfl) : PEv (X.suite a ((a, oe) :: pn)) Φ (.Attribute e f pos) (py X.K dat) := .mk fun H0 σ F H Q s sl q =>
  wE_of (pe_xf T hno hz hf peW hb) (he H0 σ F H _ s sl fun v F1 H1 g1 p1 => by
    obtain ⟨e1, e2⟩ := p1
    subst e1
    cases hp : x.pay with
    | nil => rw [hp] at hl; cases hl
    | cons p0 ps =>
      rw [hp] at e2 hl
      obtain ⟨dd, vs, e1, e3, e4⟩ := e2
      obtain ⟨w, l, dw⟩ := dq_lookup e4 hl
      exact ⟨rfl, rfl, dd, _, w, e1, g1.s _ _ e3, l, q w F1 H1 g1 dw⟩)
theorem exc_dict {K : Fg} {F H : Hp} {v : V} (s : Ex F H) (h : (excP K a x d).p F v) : ∀ dd, d = some dd → ∃ fs, H dd = some (.xd fs) := fun dd e => by
  obtain ⟨fs, h2⟩ := h.2.xd dd e
  exact ⟨fs, s _ _ h2⟩
theorem x_is {y : Str} (B : Blt X.mg) (C : ExcC X.K (He.ga X.K x.cls)) (hz : Zc (.ref (He.ga X.K x.cls)) d oe) (hf : ∃ vs, oe.data = .fields vs) (he : PEv (X.suite a ((a, oe) :: pn)) Φ e (excP X.K a x d)) (hm : X.mg y = some (.ref D)) (hk : PySem.W.kitOne X.K (.ref (He.ga X.K x.cls)) (.ref D) = some b)
    (hy : Gl X y := by rfl) (hg : Gl X "isinstance" := by rfl) (h1 : nst e = true := by rfl) (hd : (y == ("__debug__" : Str)) = false := by decide) : PV (X.suite a ((a, oe) :: pn)) Φ (.Call (.Name "isinstance" p) [e, .Name y p2] [] pos) b := .mk fun H0 σ F H Q s sl q =>
  wE_callB (X := X.suite a ((a, oe) :: pn)) (call_isO C hz hf) hg B.isinstance (by decide +kernel) (by decide +kernel) (by decide +kernel) (by rw [List.all_cons, h1]; rfl) (wA_of (pa_cons peW (pa_cons peW pa_nil (star_cons rfl)) (star_cons h1)) (he H0 σ F H _ s sl fun v F1 H1 g1 p1 =>
    wE_of (pe_glob (X := X.suite a ((a, oe) :: pn)) (v := .ref D) hy hm rfl hd) ⟨exc_dict g1.s p1, .ref D, .ref D, b, by rw [p1.1], fun u h => h, hk, q _ F1 H1 g1 (.bl _)⟩))
theorem x_isV {T : String} {y : Str} (B : Blt X.mg) (C : ExcC X.K (He.ga X.K x.cls)) (hz : Zc (.ref (He.ga X.K x.cls)) d oe) (hf : ∃ vs, oe.data = .fields vs) (he : PEv (X.suite a ((a, oe) :: pn)) Φ e (excP X.K a x d)) (hm : X.mg y = none) (hv : bootBuiltins y = some (.type T)) (hk : PySem.W.kitOne X.K (.ref (He.ga X.K x.cls)) (.type T) = some b)
    (hy : Gl X y := by rfl) (hg : Gl X "isinstance" := by rfl) (h1 : nst e = true := by rfl) (hn : y ≠ "__name__" := by decide +kernel) (hd : (y == ("__debug__" : Str)) = false := by decide) : PV (X.suite a ((a, oe) :: pn)) Φ (.Call (.Name "isinstance" p) [e, .Name y p2] [] pos) b := .mk fun H0 σ F H Q s sl q =>
  wE_callB (X := X.suite a ((a, oe) :: pn)) (call_isO C hz hf) hg B.isinstance (by decide +kernel) (by decide +kernel) (by decide +kernel) (by rw [List.all_cons, h1]; rfl) (wA_of (pa_cons peW (pa_cons peW pa_nil (star_cons rfl)) (star_cons h1)) (he H0 σ F H _ s sl fun v F1 H1 g1 p1 =>
    wE_bty (X := X.suite a ((a, oe) :: pn)) hy hm hv hn hd ⟨exc_dict g1.s p1, .ty T, .type T, b, by rw [p1.1], fun u h => h, hk, q _ F1 H1 g1 (.bl _)⟩))
theorem allP_cls {F : Hp} : ∀ {Ds : List Addr} {vs : List V}, AllP (Ds.map clsP) F vs → vs = Ds.map V.ref
  | [], vs, h => h.inv0
  | D :: Ds, vs, h => by
    obtain ⟨v, us, rfl, h1, h2⟩ := AllP.inv (P := clsP D) (Ps := Ds.map clsP) h
    rw [show v = .ref D from h1, allP_cls h2]; rfl
theorem x_isT {Ds : List Addr} {e2 : Expr} (B : Blt X.mg) (C : ExcC X.K (He.ga X.K x.cls)) (hz : Zc (.ref (He.ga X.K x.cls)) d oe) (hf : ∃ vs, oe.data = .fields vs) (he : PEv (X.suite a ((a, oe) :: pn)) Φ e (excP X.K a x d)) (ht : PEv (X.suite a ((a, oe) :: pn)) Φ e2 (tupP X.K (Ds.map clsP))) (hk : PySem.W.kitAny X.K (.ref (He.ga X.K x.cls)) (Ds.map Value.ref) = some b)
    (hg : Gl X "isinstance" := by rfl) (h1 : nst e = true := by rfl) (h2 : nst e2 = true := by rfl) : PV (X.suite a ((a, oe) :: pn)) Φ (.Call (.Name "isinstance" p) [e, e2] [] pos) b := .mk fun H0 σ F H Q s sl q =>
  wE_callB (X := X.suite a ((a, oe) :: pn)) (call_isOs C hz hf) hg B.isinstance (by decide +kernel) (by decide +kernel) (by decide +kernel) (by rw [List.all_cons, List.all_cons, h1, h2]; rfl) (wA_of (pa_cons peW (pa_cons peW pa_nil (star_cons h2)) (star_cons h1)) (he H0 σ F H _ s sl fun v F1 H1 g1 p1 =>
    ht H0 σ F1 H1 _ g1.s (sl.gr g1) fun u F2 H2 g2 p2 => by
      obtain ⟨t, vs, rfl, h3, h4⟩ := p2
      have ev := allP_cls h4
      subst ev
      exact ⟨exc_dict (g2.f.trans g2.s) p1, t, Ds, b, by rw [p1.1], ex_t g2.s h3, hk, q _ F2 H2 (g1.trans g2) (.bl _)⟩))
end
/-! ### what the head tells of the classes -/
inductive XF where
  | base (c : Str) | plain (c : Str) | oex (c : Str) | fld (c f : Str) | se (c : Str) | is_ (c d : Str) (b : Bool) | isV (c : Str) (b : Bool) | exm (c d : Str) (b : Bool)
def oexB (K : Fg) (C : Addr) : Bool := match K.lookup C with
  | some ⟨.type "type", _, .cls cd, sl⟩ => (match cd.mro, sl.toList with
    | .ref C' :: bm, [_, _, _, _, some (.builtin n), _] => C' == C && (n == "ValueError.__new__" && (!cd.hasDel && (cd.hasDict && PySem.HandSPX.refsVE bm)))
    | _, _ => false)
  | _ => false
def XF.ok (K : Fg) : XF → Bool
  | .base c => PySem.W.keepIn K (.ref (He.ga K c)) && (decide (PySem.W.subIn K (.ref (He.ga K c)) (.type "BaseException") = some true) && (decide (PySem.W.typeIn K (.ref (He.ga K c)) = some (.type "type")) && (decide (PySem.W.findIn K (.ref (He.ga K c)) "__getattribute__" = some (some (.builtin "BaseException.__getattribute__"))) &&
    (decide (PySem.W.findIn K (.ref (He.ga K c)) "__getattr__" = some none) && (PySem.W.hasDictIn K (He.ga K c) && (decide (PySem.W.findIn K (.ref (He.ga K c)) "__class__" = some (some (.builtin "object.__class__"))) && (decide (PySem.W.specialIn K (.builtin "object.__class__") "__get__" = some (some (.builtin "getset_descriptor.__get__"))) &&
    (decide (PySem.W.takesIn K (.builtin "object.__class__") = some true) && decide (PySem.W.mroIn K (He.ga K c) (.type "object") = some true)))))))))
  | .plain c => PySem.W.excIn K (He.ga K c) He.veBase "ValueError.__new__"
  | .oex c => oexB K (He.ga K c) && (decide (PySem.W.findIn K (.ref (He.ga K c)) "__setattr__" = some (some (.builtin "object.__setattr__"))) && (decide (PySem.W.findIn K (.ref (He.ga K c)) "__init__" = some (some (.ref (He.ma K (He.ga K c) "__init__")))) && decide (PySem.W.typeIn K (.ref (He.ma K (He.ga K c) "__init__")) = some (.type "function"))))
  | .fld c f => decide (PySem.W.findIn K (.ref (He.ga K c)) f = some none)
  | .se c => PySem.W.readsIn K (He.ga K c) (.type "type") && (decide (PySem.W.specialIn K (.ref (He.ga K c)) "__getattribute__" = some (some (.builtin "type.__getattribute__"))) && (match PySem.W.findCls K (.ref (He.ga K c)) (.type "type") "__init__" with
    | some (.val (.builtin n)) => n == "ValueError.__init__"
    | _ => false))
  | .is_ c d b => decide (PySem.W.kitOne K (.ref (He.ga K c)) (.ref (He.ga K d)) = some b)
  | .isV c b => decide (PySem.W.kitOne K (.ref (He.ga K c)) (.type "ValueError") = some b)
  | .exm c d b => decide (PySem.W.exmOne K (.ref (He.ga K c)) (.ref (He.ga K d)) = some b)
theorem XF.get {K : Fg} {fs : List XF} (h : (fs.all fun f => f.ok K) = true) (i : Nat) {f : XF} (e : fs[i]? = some f) : f.ok K = true := List.all_eq_true.mp h f (List.mem_of_getElem? e)
/-- a class of exceptions -/
structure XcB (K : Fg) (c : Str) : Prop where
  keep : PySem.W.keepIn K (.ref (He.ga K c)) = true
  ty : PySem.W.typeIn K (.ref (He.ga K c)) = some (.type "type")
  c : ExcC K (He.ga K c)
theorem xf_base {K : Fg} {c : Str} (h : (XF.base c).ok K = true) : XcB K c := by
  unfold XF.ok at h
  simp only [Bool.and_eq_true, decide_eq_true_eq] at h
  obtain ⟨h1, h2, h3, h4, h5, h6, h7, h8, h9, h10⟩ := h
  exact ⟨h1, h3, ⟨h4, h5, h2, h6, h7, h8, h9, h10⟩⟩
theorem XcB.raises {X : Cx} {c : Str} (h : XcB X.K c) : Raises X (.ref (He.ga X.K c)) := raises_own h.c.hs h.ty
theorem XcB.xf {K : Fg} {c : Str} (h : XcB K c) : XfC K (He.ga K c) := ⟨h.c.hg, h.c.hk, h.c.hs, h.c.hd⟩
theorem oex_cls {K : Fg} {C : Addr} (q : oexB K C = true) : ∃ nm q N bs bm sn sub ab col dd k0 k1 k2 k3 k5, K.lookup C = some (excClassObj nm q C N bs bm true sn sub ab col dd k0 k1 k2 k3 k5 "ValueError.__new__") ∧ PySem.HandSPX.refsVE bm = true := by
  unfold oexB at q
  split at q
  · rename_i dd cd sl ho
    split at q
    · rename_i C' bm k0 k1 k2 k3 n k5 hm hs
      simp only [Bool.and_eq_true, beq_iff_eq, Bool.not_eq_true'] at q
      obtain ⟨rfl, rfl, hdel, hd, hr⟩ := q
      obtain ⟨nm, bs, mro, ns, qn, hd', sn, sub, ab, col, del⟩ := cd
      dsimp only at hm hdel hd hr
      subst hm hdel hd
      have hsl : sl = #[k0, k1, k2, k3, some (.builtin "ValueError.__new__"), k5] := by
        obtain ⟨l⟩ := sl
        simp only at hs
        rw [hs]
      subst hsl
      exact ⟨_, _, _, _, _, _, _, _, _, _, _, _, _, _, _, ho, hr⟩
    · cases q
  · cases q
theorem xf_oex {K : Fg} {c : Str} (hb : XcB K c) (h : (XF.oex c).ok K = true) : OexC K (He.ga K c) ∧ PySem.W.findIn K (.ref (He.ga K c)) "__init__" = some (some (.ref (He.ma K (He.ga K c) "__init__"))) ∧ PySem.W.typeIn K (.ref (He.ma K (He.ga K c) "__init__")) = some (.type "function") := by
  unfold XF.ok at h
  simp only [Bool.and_eq_true, decide_eq_true_eq] at h
  obtain ⟨h1, h2, h3, h4⟩ := h
  exact ⟨⟨oex_cls h1, h2, hb.c.hs, hb.ty, hb.keep⟩, h3, h4⟩
theorem xf_se {K : Fg} {c : Str} (h : (XF.se c).ok K = true) : SeI K (He.ga K c) := by
  unfold XF.ok at h
  simp only [Bool.and_eq_true, decide_eq_true_eq] at h
  obtain ⟨h1, h2, h3⟩ := h
  refine ⟨⟨h1, h2⟩, ?_⟩
  split at h3
  · rename_i n e; rw [e, beq_iff_eq.mp h3]
  · cases h3
/-! ### defs that may raise -/
section
variable {P : Program} {w : World} {K : Fg} {mg : Str → Option Value} {base : Heap}
theorem def_okX {x qual : Str} {st : Stmt} {f : Addr} {fd : FuncData} {N ps : List Str} {k : Nat} {Ar ρ : Type} {argP : Ar → List MP} {T0 : ρ → RS} {m : Ar → M ρ} (F : DefOf K x qual st f fd) (S : FnScope N ps (defScope st)) (n : Nat) (hlen : ∀ z, (argP z).length = ps.length) (hN : N.length = ps.length + n)
    (hb : ∀ (cdv : Value) (A : Around) (outer : List Env) (s : Shared) (H : Hp) (E : XK), Room k (A.deeper (envOfC qual (defScope st) s.heap.objs.size f cdv)) → ∀ z,
      HM (S := Unit) (bxX P w K mg base N qual st f cdv A outer s H E) E Ctl.rt [defBody st] (enter (argP z) n) (fun _ => []) (TE T0 (ER K)) (m z)) : FnOk P w K mg base (L2.CX P w) (k + 1) f fd ps (spG argP (fun z => m z ≠ .st) fun z => resM T0 (ER K) (m z)) := by
  refine FunD.ok F S (fun vs H Q E h => ?_) fun cdv A outer s H vs Q E hr h => ?_
  · obtain ⟨z, F, _, ha, _⟩ := h
    rw [ha.1, hlen]
  · obtain ⟨z, G, s0, ha, hp, hs⟩ := h
    have hm := hb cdv A outer s H E hr z
    refine ⟨_, pssW, ?_⟩
    cases e : m z with
    | ok v =>
      exact run_body (X := bxX P w K mg base N qual st f cdv A outer s H E) (W := E) s0 ha (by rw [hlen]; exact hN) (hm.run (.rt (.ok v)) (by rw [e]; rfl)) (by
        have hs' : (resM T0 (ER K) (m z)).sat G H Q E := hs
        rw [e] at hs'; exact hs')
    | ex y =>
      exact run_body (X := bxX P w K mg base N qual st f cdv A outer s H E) (W := E) s0 ha (by rw [hlen]; exact hN) (hm.run (.rt (.error y)) (by rw [e]; rfl)) (by
        have hs' : (resM T0 (ER K) (m z)).sat G H Q E := hs
        rw [e] at hs'; exact hs')
    | st => exact absurd e hp
theorem def_okXN {x qual : Str} {st : Stmt} {f : Addr} {fd : FuncData} {N ps : List Str} {k : Nat} {Ar : Type} {argP : Ar → List MP} {m : Ar → M Unit} (F : DefOf K x qual st f fd) (S : FnScope N ps (defScope st)) (n : Nat) (hlen : ∀ z, (argP z).length = ps.length) (hN : N.length = ps.length + n) (M0 : List SD)
    (hb : ∀ (cdv : Value) (A : Around) (outer : List Env) (s : Shared) (H : Hp) (E : XK), Room k (A.deeper (envOfC qual (defScope st) s.heap.objs.size f cdv)) → ∀ z,
      HM (S := Unit) (R := Unit) (bxX P w K mg base N qual st f cdv A outer s H E) E Ctl.nx [defBody st] (enter (argP z) n) (fun _ => M0) (TE (fun _ => .val (py K .none)) (ER K)) (m z)) : FnOk P w K mg base (L2.CX P w) (k + 1) f fd ps (spG argP (fun z => m z ≠ .st) fun z => resM (fun _ => .val (py K .none)) (ER K) (m z)) := by
  refine FunD.ok F S (fun vs H Q E h => ?_) fun cdv A outer s H vs Q E hr h => ?_
  · obtain ⟨z, F, _, ha, _⟩ := h
    rw [ha.1, hlen]
  · obtain ⟨z, G, s0, ha, hp, hs⟩ := h
    have hm := hb cdv A outer s H E hr z
    refine ⟨_, pssW, ?_⟩
    have hs' : (resM (fun _ => .val (py K .none)) (ER K) (m z)).sat G H Q E := hs
    cases e : m z with
    | ok v =>
      rw [e] at hs'
      exact run_body (X := bxX P w K mg base N qual st f cdv A outer s H E) (W := E) s0 ha (by rw [hlen]; exact hN) (hm.run (.nx v) (by rw [e]; rfl)) (fun σ F' H' g _ => hs' .non F' H' g .non)
    | ex y =>
      rw [e] at hs'
      exact run_body (X := bxX P w K mg base N qual st f cdv A outer s H E) (W := E) s0 ha (by rw [hlen]; exact hN) (hm.run (.rt (.error y)) (by rw [e]; rfl)) hs'
    | st => exact absurd e hp
/-- a def's __init__ promise, with its binding -/
theorem ox_mk {c : Str} {fd : FuncData} {ps : List Str} {k : Nat} {qual : Str} {st : Stmt} {names : List Str} (F : DefOf K "__init__" qual st (He.ma K (He.ga K c) "__init__") fd) (G : FnOk P w K mg base CX0 k (He.ma K (He.ga K c) "__init__") fd ps (spOx (He.ga K c) names)) (g : mg c = some (.ref (He.ga K c)))
    (T : OexC K (He.ga K c) ∧ PySem.W.findIn K (.ref (He.ga K c)) "__init__" = some (some (.ref (He.ma K (He.ga K c) "__init__"))) ∧ PySem.W.typeIn K (.ref (He.ma K (He.ga K c) "__init__")) = some (.type "function"))
    (hb : ∀ (kV doc pm : Value) (an : Option Addr) (cdv ct : Value) (us : List Value), us.length = ps.length → bindArgs (PySem.W.fnOf "__init__" qual (defArgs st) (defBody st) (defScope st) .none kV doc pm an cdv ct) ⟨us, []⟩ = pure (ps.zip us)) : OxG P w K mg base k c names :=
  ⟨T.1, g, T.2.1, T.2.2, fd, ps, G, FunD.bindsN F hb⟩
end
section
variable {X : Cx} {W : XK} {S R : Type} {Φ : List SD} {Mm : S → List SD} {T : Except Exn R → RS} {e e1 e2 : Expr} {pos p p2 rpos : Pos} {A : List Stmt} {r : List (List Stmt)} {n : Nat}
theorem h_raiseC {c : Str} {x : Exn} {m : Str} {j : Nat} (hxc : x.cls = c) (hp : x.pay = []) (hc : X.calm = true) (tk : Takes X fun c d _ H => W c d H) (q : PySem.W.excIn X.K (He.ga X.K c) He.veBase "ValueError.__new__" = true) (gC : X.mg c = some (.ref (He.ga X.K c))) (hb : XcB X.K c)
    (hT : T (.error x) = ER X.K x := by rfl) (hg : Gl X c := by rfl) (hdb : (c == ("__debug__" : Str)) = false := by decide) :
    HB X W ((.Raise (some (.Call (.Name c p) [.Constant (.str m) j p2] [] pos)) none rpos :: A) :: r) Φ Mm T (.rt (.error x)) := .mk fun F0 H0 D σ F H g sl k => by
  subst hxc
  exact wK_cons (wS_of (ps_raise hc tk (pmk_own PySem.F.excBase_ValueError q gC hb.keep hb.raises hg hdb)) (er_sat hT g k σ none F H (Gr.refl g.s) (fun _ e => nomatch e) (by rw [hp]; rfl)))
theorem h_noTime {f t : Int} (hc : X.calm = true) (tk : Takes X fun c d _ H => W c d H) (G : OxG X.prog X.w X.K X.mg X.base n "NoTime" ["flight", "time"]) (hr : Room (n + 1) X.A) (ha : PV X Φ e1 f) (hb : PV X Φ e2 t) (hT : T (.error (.noTime f t)) = ER X.K (.noTime f t) := by rfl)
    (hg : Gl X "NoTime" := by rfl) (hst : [e1, e2].all nst = true := by rfl) (h1 : nst e1 = true := by rfl) (h2 : nst e2 = true := by rfl) : HB X W ((.Raise (some (.Call (.Name "NoTime" p) [e1, e2] [] pos)) none rpos :: A) :: r) Φ Mm T (.rt (.error (.noTime f t))) :=
  h_raiseO (x := .noTime f t) (q0 := ("time", .int t)) (qs := [("flight", .int f)]) hc tk rfl G hr (as_cons ha (as_cons hb as_nil h2) h1) hT hg hst (show (("NoTime" : Str) == ("__debug__" : Str)) = false by decide)
theorem h_noPlan {v : List Int} (hc : X.calm = true) (tk : Takes X fun c d _ H => W c d H) (G : OxG X.prog X.w X.K X.mg X.base n "NoPlan" ["crowd"]) (hr : Room (n + 1) X.A) (ha : PV X Φ e1 v) (hT : T (.error (.noPlan v)) = ER X.K (.noPlan v) := by rfl)
    (hg : Gl X "NoPlan" := by rfl) (hst : [e1].all nst = true := by rfl) (h1 : nst e1 = true := by rfl) : HB X W ((.Raise (some (.Call (.Name "NoPlan" p) [e1] [] pos)) none rpos :: A) :: r) Φ Mm T (.rt (.error (.noPlan v))) :=
  h_raiseO (x := .noPlan v) (q0 := ("crowd", enc v)) (qs := []) hc tk rfl G hr (as_cons ha as_nil h1) hT hg hst (show (("NoPlan" : Str) == ("__debug__" : Str)) = false by decide)
theorem h_noSheet {v : Int} (hc : X.calm = true) (tk : Takes X fun c d _ H => W c d H) (G : OxG X.prog X.w X.K X.mg X.base n "NoSheet" ["row"]) (hr : Room (n + 1) X.A) (ha : PV X Φ e1 v) (hT : T (.error (.noSheet v)) = ER X.K (.noSheet v) := by rfl)
    (hg : Gl X "NoSheet" := by rfl) (hst : [e1].all nst = true := by rfl) (h1 : nst e1 = true := by rfl) : HB X W ((.Raise (some (.Call (.Name "NoSheet" p) [e1] [] pos)) none rpos :: A) :: r) Φ Mm T (.rt (.error (.noSheet v))) :=
  h_raiseO (x := .noSheet v) (q0 := ("row", .int v)) (qs := []) hc tk rfl G hr (as_cons ha as_nil h1) hT hg hst (show (("NoSheet" : Str) == ("__debug__" : Str)) = false by decide)
end
/-! the fields, by name -/
theorem pay_flight {f t : Int} : (Exn.noTime f t).pay.lookup ("flight" : Str) = some (enc f) := rfl
theorem pay_time {f t : Int} : (Exn.noTime f t).pay.lookup ("time" : Str) = some (enc t) := rfl
theorem pay_crowd {c : List Int} : (Exn.noPlan c).pay.lookup ("crowd" : Str) = some (enc c) := rfl
theorem pay_row {r : Int} : (Exn.noSheet r).pay.lookup ("row" : Str) = some (enc r) := rfl
/-! ### values of several makes -/
inductive Dy where
  | none
  | bool (b : Bool)
  | int (i : Int)
  deriving DecidableEq, Inhabited
def Dy.isInt : Dy → Bool
  | .int _ => true
  | _ => false
def Dy.toInt : Dy → Int
  | .int i => i
  | _ => 0
instance : Py Dy := ⟨fun d => match d with | .none => .none | .bool b => .bool b | .int i => .int i, fun d => by cases d <;> simp [PyData.canLay0], 0, fun d => by cases d <;> simp [PyData.depth]⟩
instance : Fl Dy := ⟨fun K F F' v x h => by cases x <;> cases h <;> constructor⟩
section
variable {X : Cx} {Φ : List SD} {a b e : Expr} {pos : Pos}
theorem v_dyI {i : Int} (h : PV X Φ e i) : PV X Φ e (Dy.int i) := h
theorem v_dyB {i : Bool} (h : PV X Φ e i) : PV X Φ e (Dy.bool i) := h
theorem v_dyN (h : PV X Φ e ()) : PV X Φ e Dy.none := h
theorem v_dyTo {d : Dy} (hd : d.isInt = true) (h : PV X Φ e d) : PV X Φ e d.toInt := by
  cases d with
  | int i => exact h
  | none => cases hd
  | bool b => cases hd
/-- == of data of any two makes -/
def eqG {α β : Type} [Py α] [Py β] (x : α) (y : β) : Bool := PyData.eqv (enc x) (enc y)
theorem v_eqG {α β : Type} [Py α] [Py β] {x : α} {y : β} (hu : X.A.units + 64 < cLine) (h1 : Py.dep α ≤ 64) (h2 : Py.dep β ≤ 64) (ha : PD X Φ a x) (hb : PD X Φ b y) : PV X Φ (.Compare a [.Eq] [b] pos) (eqG x y) := .mk fun H0 σ F H Q s sl q =>
  wE_of (pe_cmpR (op_eqD hu) peW peW (nomark _)) (ha H0 σ F H _ s sl fun x F1 H1 g1 p1 => hb H0 σ F1 H1 _ g1.s (sl.gr g1) fun y F2 H2 g2 p2 =>
    ⟨_, _, dp_mono (g2.f.trans g2.s) _ _ p1, dp_mono g2.s _ _ p2, shaped_of h1 _, shaped_of h2 _, q _ _ _ (g1.trans g2) (.bl _)⟩)
theorem v_neG {α β : Type} [Py α] [Py β] {x : α} {y : β} (hu : X.A.units + 64 < cLine) (h1 : Py.dep α ≤ 64) (h2 : Py.dep β ≤ 64) (ha : PD X Φ a x) (hb : PD X Φ b y) : PV X Φ (.Compare a [.NotEq] [b] pos) (!eqG x y) := .mk fun H0 σ F H Q s sl q =>
  wE_of (pe_cmpR (op_neD hu) peW peW (nomark _)) (ha H0 σ F H _ s sl fun x F1 H1 g1 p1 => hb H0 σ F1 H1 _ g1.s (sl.gr g1) fun y F2 H2 g2 p2 =>
    ⟨_, _, dp_mono (g2.f.trans g2.s) _ _ p1, dp_mono g2.s _ _ p2, shaped_of h1 _, shaped_of h2 _, q _ _ _ (g1.trans g2) (.bl _)⟩)
theorem t_eqG {α β : Type} [Py α] [Py β] {x : α} {y : β} (hu : X.A.units + 64 < cLine) (h1 : Py.dep α ≤ 64) (h2 : Py.dep β ≤ 64) (ha : PD X Φ a x) (hb : PD X Φ b y) : PTv X Φ (.Compare a [.Eq] [b] pos) (eqG x y) := .mk fun H0 σ F H Q s sl q =>
  wT_of (pt_cmpR (op_eqD hu) peW peW (nomark _)) (ha H0 σ F H _ s sl fun x F1 H1 g1 p1 => hb H0 σ F1 H1 _ g1.s (sl.gr g1) fun y F2 H2 g2 p2 =>
    ⟨_, _, dp_mono (g2.f.trans g2.s) _ _ p1, dp_mono g2.s _ _ p2, shaped_of h1 _, shaped_of h2 _, _, rfl, q _ _ (g1.trans g2)⟩)
theorem t_neG {α β : Type} [Py α] [Py β] {x : α} {y : β} (hu : X.A.units + 64 < cLine) (h1 : Py.dep α ≤ 64) (h2 : Py.dep β ≤ 64) (ha : PD X Φ a x) (hb : PD X Φ b y) : PTv X Φ (.Compare a [.NotEq] [b] pos) (!eqG x y) := .mk fun H0 σ F H Q s sl q =>
  wT_of (pt_cmpR (op_neD hu) peW peW (nomark _)) (ha H0 σ F H _ s sl fun x F1 H1 g1 p1 => hb H0 σ F1 H1 _ g1.s (sl.gr g1) fun y F2 H2 g2 p2 =>
    ⟨_, _, dp_mono (g2.f.trans g2.s) _ _ p1, dp_mono g2.s _ _ p2, shaped_of h1 _, shaped_of h2 _, _, rfl, q _ _ (g1.trans g2)⟩)
theorem eqG_same {α : Type} [Py α] [PyQ α] [DecidableEq α] {x y : α} : eqG x y = decide (x = y) := eqv_dec x y
/-! the rest of a call that raises -/
variable {Wx : WX} {x : Exn} {es : List Expr} {p : Pos}
theorem pr_callB {y : Str} {id : String} {r : List V → Hp → VK → Prop} (hc : CallR X (.builtin id) r) (hg : Gl X y) (hm : X.mg y = none) (hv : bootBuiltins y = some (.builtin id)) (hn : y ≠ "__name__") (hd : (y == ("__debug__" : Str)) = false) (hst : (e :: es).all nst = true) (h : PRa X Wx Φ (e :: es) x) : PR X Wx Φ (.Call (.Name y p) (e :: es) [] pos) x := .mk fun H0 σ F H Q s sl q =>
  wE_callB hc hg hm hv hn hd hst (h.run H0 σ F H _ s sl q)
end
end GL

set_option Elab.async false
set_option linter.all false
set_option maxRecDepth 100000
set_option maxHeartbeats 4000000
namespace GL
open PySem PySem.Spec PyProof.Rows L2
open Evl (Ex ex_l ex_t)
/-! ### min, max of a tuple of ints -/
section
variable {X : Cx}
def rTm (K : Fg) (f : List Int → Int) : List V → Hp → VK → Prop := fun vs H Q => ∃ (a : Addr) (ns : List Int), vs = [.ref a] ∧ SqT K H a (ns.map V.int) ∧ ns ≠ [] ∧ Q (.int (f ns)) H
theorem cr_minT (hc : X.calm = true) (hu : X.A.units + 1 < cLine) : CallR X (.builtin "min") (rTm X.K minL) := by
  intro pins s σ H vs us Q I r h
  obtain ⟨a, ns, rfl, hs, hne, q⟩ := h
  obtain ⟨its, rv, hl, hz⟩ := I.tuple hs
  rw [Vals.ref1 r]
  obtain ⟨as, rd⟩ := Dp.readsAll I (ns.map PyData.int) (ns.map V.int) its (int_dps ns) rv
  cases ns with
  | nil => cases hne rfl
  | cons n ns =>
    refine PySem.W.min_tuple_data (I.ok.hd hc) hl rd (ints_alike (n :: ns)) (by rw [show PyData.depthAll (.int n :: ns.map PyData.int) = 0 from ints_depth (n :: ns)]; exact hu) (fun i v h' tk bs hi r hk => ?_)
    rw [PySem.W.minD_ints] at r
    cases r with
    | int i t' =>
      refine ⟨.int _, H, I.kept hk, ⟨t', rfl⟩, ?_⟩
      have : minL (n :: ns) = ns.foldl min n := by rw [minL_cons, foldl_min_imin]
      rw [← this]; exact q
theorem cr_maxT (hc : X.calm = true) (hu : X.A.units + 1 < cLine) : CallR X (.builtin "max") (rTm X.K maxL) := by
  intro pins s σ H vs us Q I r h
  obtain ⟨a, ns, rfl, hs, hne, q⟩ := h
  obtain ⟨its, rv, hl, hz⟩ := I.tuple hs
  rw [Vals.ref1 r]
  obtain ⟨as, rd⟩ := Dp.readsAll I (ns.map PyData.int) (ns.map V.int) its (int_dps ns) rv
  cases ns with
  | nil => cases hne rfl
  | cons n ns =>
    refine PySem.W.max_tuple_data (I.ok.hd hc) hl rd (ints_alike (n :: ns)) (by rw [show PyData.depthAll (.int n :: ns.map PyData.int) = 0 from ints_depth (n :: ns)]; exact hu) (fun i v h' tk bs hi r hk => ?_)
    rw [PySem.W.maxD_ints] at r
    cases r with
    | int i t' =>
      refine ⟨.int _, H, I.kept hk, ⟨t', rfl⟩, ?_⟩
      have : maxL (n :: ns) = ns.foldl max n := by rw [maxL_cons, foldl_max_imax]
      rw [← this]; exact q
theorem pair_ints {K : Fg} {F : Hp} {x : Int × Int} {vs : List V} (h : AllP ([enc x.1, enc x.2].map fun d => py K d) F vs) : vs = [x.1, x.2].map V.int := allP_ints (xs := [x.1, x.2]) h
variable {Φ : List SD} {e : Expr} {pos p : Pos}
theorem v_min2T {x : Int × Int} (B : Blt X.mg) (hc : X.calm = true) (hu : X.A.units + 1 < cLine) (ha : PV X Φ e x) (hg : Gl X "min" := by rfl) (hst : nst e = true := by rfl) : PV X Φ (.Call (.Name "min" p) [e] [] pos) (imin x.1 x.2) := .mk fun H0 σ F H Q s sl q =>
  wE_callB (cr_minT hc hu) hg B.min (by decide +kernel) (by decide +kernel) (by decide +kernel) (by simp [hst]) (wA_one hst (ha H0 σ F H _ s sl fun v F1 H1 g1 p1 => by
    obtain ⟨l, vs, e1, h1, p3⟩ := py_tuple.mp p1
    subst e1
    exact ⟨l, [x.1, x.2], rfl, by rw [← pair_ints p3]; exact ex_t g1.s h1, by simp, by
      rw [show minL [x.1, x.2] = imin x.1 x.2 by rw [minL_cons]; rfl]
      exact q _ F1 H1 g1 (.int _)⟩))
theorem v_max2T {x : Int × Int} (B : Blt X.mg) (hc : X.calm = true) (hu : X.A.units + 1 < cLine) (ha : PV X Φ e x) (hg : Gl X "max" := by rfl) (hst : nst e = true := by rfl) : PV X Φ (.Call (.Name "max" p) [e] [] pos) (imax x.1 x.2) := .mk fun H0 σ F H Q s sl q =>
  wE_callB (cr_maxT hc hu) hg B.max (by decide +kernel) (by decide +kernel) (by decide +kernel) (by simp [hst]) (wA_one hst (ha H0 σ F H _ s sl fun v F1 H1 g1 p1 => by
    obtain ⟨l, vs, e1, h1, p3⟩ := py_tuple.mp p1
    subst e1
    exact ⟨l, [x.1, x.2], rfl, by rw [← pair_ints p3]; exact ex_t g1.s h1, by simp, by
      rw [show maxL [x.1, x.2] = imax x.1 x.2 by rw [maxL_cons]; rfl]
      exact q _ F1 H1 g1 (.int _)⟩))
end
/-! ### tuples of ints, of a fixed length and of any -/
def tup2 (t : Tup Int) : Int × Int := (t.l.getD 0 0, t.l.getD 1 0)
def tup3 (t : Tup Int) : T3 Int Int Int := ⟨t.l.getD 0 0, t.l.getD 1 0, t.l.getD 2 0⟩
def tup4 (t : Tup Int) : T4 Int Int Int Int := ⟨t.l.getD 0 0, t.l.getD 1 0, t.l.getD 2 0, t.l.getD 3 0⟩
def tup5 (t : Tup Int) : T5 Int Int Int Int Int := ⟨t.l.getD 0 0, t.l.getD 1 0, t.l.getD 2 0, t.l.getD 3 0, t.l.getD 4 0⟩
section
variable {X : Cx} {Φ : List SD} {e : Expr}
theorem v_toTup2 {x : Int × Int} (h : PV X Φ e x) : PV X Φ e (Tup.mk [x.1, x.2]) := h
theorem v_toTup3 {x : T3 Int Int Int} (h : PV X Φ e x) : PV X Φ e (Tup.mk [x.a, x.b, x.c]) := h
theorem v_toTup4 {x : T4 Int Int Int Int} (h : PV X Φ e x) : PV X Φ e (Tup.mk [x.a, x.b, x.c, x.d]) := h
theorem v_toTup5 {x : T5 Int Int Int Int Int} (h : PV X Φ e x) : PV X Φ e (Tup.mk [x.a, x.b, x.c, x.d, x.e]) := h
theorem v_ofTup2 {t : Tup Int} (hl : t.l.length = 2) (h : PV X Φ e t) : PV X Φ e (tup2 t) := by
  obtain ⟨l⟩ := t
  match l, hl, h with
  | [a, b], _, h => exact h
theorem v_ofTup3 {t : Tup Int} (hl : t.l.length = 3) (h : PV X Φ e t) : PV X Φ e (tup3 t) := by
  obtain ⟨l⟩ := t
  match l, hl, h with
  | [a, b, c], _, h => exact h
theorem v_ofTup4 {t : Tup Int} (hl : t.l.length = 4) (h : PV X Φ e t) : PV X Φ e (tup4 t) := by
  obtain ⟨l⟩ := t
  match l, hl, h with
  | [a, b, c, d], _, h => exact h
theorem v_ofTup5 {t : Tup Int} (hl : t.l.length = 5) (h : PV X Φ e t) : PV X Φ e (tup5 t) := by
  obtain ⟨l⟩ := t
  match l, hl, h with
  | [a, b, c, d, f], _, h => exact h
end
/-! ### a call that hands back one of two makes, the list a new one -/
def altRS {α β : Type} [Py α] [Py β] (K : Fg) : Alt α (List β) → RS
  | .l x => .val (py K (enc x))
  | .r y => .new (rps K y)
theorem altRS_ok {α β : Type} [Py α] [Py β] (K : Fg) (r : Alt α (List β)) : (altRS K r).isErr = false := by cases r <;> rfl
section
variable {X : Cx} {Φ : List SD} {e : Expr} {es : List Expr} {pos : Pos}
theorem v_callAL {A ρ σ : Type} [Py ρ] [Py σ] [Inhabited ρ] {argP : A → List MP} {m : A → M (Alt ρ (List σ))} {x : Str} {CX : CXT} {n : Nat} {p1 : Pos} {t : Alt ρ (List σ)} (G : FnG X.prog X.w X.K X.mg X.base CX n x (spG argP (fun z => (m z).Ok) fun z => altRS X.K (m z).get)) (hr : Room n X.A) (hx : Passes CX X E0) (z : A) (ht : m z = .ok t) (hl : t.isL = true)
    (ha : PAs X Φ (e :: es) (argP z)) (hg : Gl X x := by rfl) (hd : (x == ("__debug__" : Str)) = false := by decide) (hst : (e :: es).all nst = true := by rfl) : PV X Φ (.Call (.Name x p1) (e :: es) [] pos) t.getL :=
  v_call G hr hx z ⟨t, ht⟩ (by
    cases t with
    | l y => exact congrArg (fun w => altRS X.K (M.get w)) ht
    | r y => cases hl) ha hg hd hst
theorem v_callAR {A ρ σ : Type} [Py ρ] [Py σ] [Inhabited ρ] {argP : A → List MP} {m : A → M (Alt ρ (List σ))} {x : Str} {CX : CXT} {n : Nat} {p1 : Pos} {t : Alt ρ (List σ)} (G : FnG X.prog X.w X.K X.mg X.base CX n x (spG argP (fun z => (m z).Ok) fun z => altRS X.K (m z).get)) (hr : Room n X.A) (hx : Passes CX X E0) (z : A) (ht : m z = .ok t) (hl : t.isL = false)
    (ha : PAs X Φ (e :: es) (argP z)) (hg : Gl X x := by rfl) (hd : (x == ("__debug__" : Str)) = false := by decide) (hst : (e :: es).all nst = true := by rfl) : PN X Φ (.Call (.Name x p1) (e :: es) [] pos) t.getR :=
  v_callN G hr hx z ⟨t, ht⟩ (by
    cases t with
    | l y => cases hl
    | r y => exact congrArg (fun w => altRS X.K (M.get w)) ht) ha hg hd hst
theorem v_callA {A ρ σ : Type} [Py ρ] [Py σ] [Inhabited ρ] {argP : A → List MP} {m : A → M (Alt ρ (List σ))} {x : Str} {CX : CXT} {n : Nat} {p1 : Pos} {t : Alt ρ (List σ)} (G : FnG X.prog X.w X.K X.mg X.base CX n x (spG argP (fun z => (m z).Ok) fun z => altRS X.K (m z).get)) (hr : Room n X.A) (hx : Passes CX X E0) (z : A) (ht : m z = .ok t)
    (ha : PAs X Φ (e :: es) (argP z)) (hg : Gl X x := by rfl) (hd : (x == ("__debug__" : Str)) = false := by decide) (hst : (e :: es).all nst = true := by rfl) : PV X Φ (.Call (.Name x p1) (e :: es) [] pos) t := by
  cases t with
  | l y => exact v_callAL G hr hx z ht rfl ha hg hd hst
  | r y => exact PN.v (v_callAR G hr hx z ht rfl ha hg hd hst)
end
section
variable {X : Cx} {W : XK} {S R β : Type} {j : β → Ctl S R} {ks : List (List Stmt)} {Φ : List SD} {Mm : S → List SD} {T : Except Exn R → RS} {o1 o2 : M β}
theorem k_phi (Φ' : List SD) (e : Φ = Φ') (h : HM X W j ks Φ' Mm T o1) : HM X W j ks Φ Mm T o1 := e ▸ h
theorem k_of (o' : M β) (e : o1 = o') (h : HM X W j ks Φ Mm T o') : HM X W j ks Φ Mm T o1 := e ▸ h
theorem k_alt (b : Bool) (h1 : b = true → HM X W j ks Φ Mm T o1) (h2 : b = false → HM X W j ks Φ Mm T o2) : HM X W j ks Φ Mm T (cond b o1 o2) := by
  cases b with
  | true => exact h1 rfl
  | false => exact h2 rfl
end
end GL

set_option Elab.async false
set_option linter.all false
set_option maxRecDepth 100000
set_option maxHeartbeats 4000000
namespace GL
open PySem PySem.Spec PyProof.Rows L2
open Evl (Ex ex_l ex_t)
/-! ### zip(a, b) with a name as the target: the tuple that was handed out stays where it is, or is gone -/
section
variable {prog : Program} {w : World} {A : Around} {E : Value → Shared → Prop} {s : Shared}
theorem gone_alive {a : Addr} {Q : Option Obj → Shared → Prop} (ho : s.heap.get? a = none) (h : Q none s) : wpAny (model prog w) A (loadIfAlive a) Q E s := by
  have h' : Q (s.heap.get? a) s := by rw [ho]; exact h
  exact fun _ _ _ => h'
abbrev ZipSt (h : Heap) (z TI TO : Addr) (v : Value) (f : Bool) : Prop :=
  h.get? z = some { cls := .type "zip", dict := none, data := .fields #[v, .bool f, .bool false, .ref TI, .ref TO], slots := #[] }
theorem gone_free {z TI TO T : Addr} {f : Bool} {Q : Bool → Shared → Prop} (hz : ZipSt s.heap z TI TO (rawInt T) f) (hT : s.heap.get? T = none) (h : Q true s) : wpAny (model prog w) A (Builtin.SmallTypes.ownedTupleIsFree (.ref z)) Q E s := by
  unfold Builtin.SmallTypes.ownedTupleIsFree
  refine wpAny_bind (wpAny_field hz rfl (x := rawInt T) rfl ?_)
  show wpAny _ _ (loadIfAlive ((T : Int).toNat) >>= _) _ _ _
  rw [Int.toNat_natCast]
  refine wpAny_bind (gone_alive hT ?_)
  exact wpAny_pure h
/-- one more of both, put into TO, as h -/
structure ZipNew (h h' : Heap) (z TI TO i1 i2 l1 l2 : Addr) (k1 k2 : Nat) (x y : Value) (v : Value) (f : Bool) : Prop where
  zz : ZipSt h' z TI TO v f
  oo : IsPair h' TO x y
  aa : h'.IsListIter i1 l1 k1
  bb : h'.IsListIter i2 l2 k2
  nn : h'.objs.size = h.objs.size
  kk : ∀ c o, c ≠ z → c ≠ TO → c ≠ i1 → c ≠ i2 → h.get? c = some o → h'.get? c = some o
theorem zip_item_gone {z TI TO T i1 i2 l1 l2 : Addr} {k1 k2 : Nat} {xs ys : Array Value} {x y a b : Value} {f : Bool} {Q : Value → Shared → Prop} (D : ZipApart z TI TO i1 i2 l1 l2)
    (hz : ZipSt s.heap z TI TO (rawInt T) f) (hT : s.heap.get? T = none) (hTI : IsPair s.heap TI (.ref i1) (.ref i2)) (hTO : IsPair s.heap TO a b)
    (h1 : s.heap.IsListIter i1 l1 k1) (h2 : s.heap.IsListIter i2 l2 k2) (hl1 : s.heap.IsList l1 xs) (hl2 : s.heap.IsList l2 ys) (hx : xs[k1]? = some x) (hy : ys[k2]? = some y)
    (hQ : ∀ h', ZipSt h' z TI TO (rawInt s.heap.objs.size) false → IsPair h' TO x y → h'.IsListIter i1 l1 (k1 + 1) → h'.IsListIter i2 l2 (k2 + 1) → IsPair h' s.heap.objs.size x y → h'.objs.size = s.heap.objs.size + 1 →
      (∀ c o, c ≠ z → c ≠ TO → c ≠ i1 → c ≠ i2 → s.heap.get? c = some o → h'.get? c = some o) → Q (.ref s.heap.objs.size) { s with heap := h' }) :
    wpAny (model prog w) A (Builtin.«zip.__next__» ⟨[.ref z], []⟩) (fun fin s' => ∃ v, fin = .done (.ret v) ∧ Q v s') E s := by
  have step : ∀ h : Heap, ZipNew s.heap h z TI TO i1 i2 l1 l2 (k1 + 1) (k2 + 1) x y .ellipsis f → wpAny (model prog w) A (newTuple [x, y] >>= fun r => Builtin.SmallTypes.ownedTupleHandOut (.ref z) r >>= fun _ => ret r) (fun fin s' => ∃ v, fin = .done (.ret v) ∧ Q v s') E { s with heap := h } := fun h N => by
    have zl : z < s.heap.objs.size := Heap.lt_size hz
    refine wpAny_bind (wpAny_newTuple ?_)
    have g : ∀ c o, h.get? c = some o → (h.push { cls := .type "tuple", data := .seq #[x, y] }).get? c = some o := fun c o e => Heap.get?_push_of_some _ e
    refine wpAny_bind ?_
    unfold Builtin.SmallTypes.ownedTupleHandOut
    refine wpAny_bind (wpAny_setField_rec (g _ _ N.zz) (by simp) fun h7 z7 s7 => ?_)
    replace z7 : ZipSt h7 z TI TO (rawInt h.objs.size) f := z7
    refine wpAny_setField_rec z7 (by simp) fun h8 z8 s8 => ?_
    replace z8 : ZipSt h8 z TI TO (rawInt h.objs.size) false := z8
    have up : ∀ c o, c ≠ z → h.get? c = some o → h8.get? c = some o := fun c o c1 e => s8.extBut _ _ c1 (s7.extBut _ _ c1 (g _ _ e))
    have ne : h.objs.size ≠ z := by rw [N.nn]; exact Nat.ne_of_gt zl
    have t8 : IsPair h8 h.objs.size x y := s8.extBut _ _ ne (s7.extBut _ _ ne (Heap.get?_push_size _ rfl))
    have n8 : h8.objs.size = h.objs.size + 1 := by rw [s8.1, s7.1, Heap.size_push]
    refine wpAny_pure ⟨_, rfl, ?_⟩
    rw [N.nn] at z8 t8 n8
    show Q (.ref h.objs.size) _
    rw [N.nn]
    exact hQ h8 z8 (up _ _ D.TOz N.oo) (N.aa.at fun o e => up _ o D.i1z e) (N.bb.at fun o e => up _ o D.i2z e) t8 n8 fun c o c1 c2 c3 c4 e => up c o c1 (N.kk c o c1 c2 c3 c4 e)
  show wpAny _ _ (field (.ref z) 2 >>= _) _ _ _
  refine wpAny_bind (wpAny_field hz rfl (x := .bool false) rfl ?_)
  show wpAny _ _ (field (.ref z) 3 >>= _) _ _ _
  refine wpAny_bind (wpAny_field hz rfl (x := .ref TI) rfl (wpAny_bind (wpAny_seqItems hTI rfl ?_)))
  show wpAny _ _ (Builtin.SmallTypes.ownedTupleIsFree (.ref z) >>= _) _ _ _
  refine wpAny_bind (gone_free hz hT ?_)
  simp only [if_true]
  refine wpAny_bind (wpAny_rule (wpAny_bind (wpAny_field hz rfl (x := .ref TO) rfl (wpAny_bind (wpAny_setField_rec hz (by simp) fun h₁ z1 s1 => wpAny_bind ?_)))))
  replace z1 : ZipSt h₁ z TI TO .ellipsis f := z1
  simp only [List.zipIdx_cons, List.zipIdx_nil, List.forIn_cons, List.forIn_nil]
  refine wpAny_bind (wpAny_bind (wpAny_onRaise ?_))
  show wpAny _ _ (Builtin.SmallTypes.nextOf (.ref i1) >>= _) _ _ _
  refine wpAny_bind (wpAny_nextOf_list_item (h1.extBut s1.extBut D.i1z) (hl1.extBut s1.extBut D.l1z) hx fun h₂ a2 s2 => wpAny_pure ?_)
  have o2 : IsPair h₂ TO a b := s2.extBut _ _ D.TOi1 (s1.extBut _ _ D.TOz hTO)
  refine wpAny_bind (wpAny_seqItems o2 rfl (wpAny_bind (wpAny_updateSeq_pair o2 fun h₃ o3 s3 => wpAny_bind (wpAny_letGo (wpAny_pure ?_)))))
  replace o3 : IsPair h₃ TO x b := o3
  refine wpAny_bind (wpAny_bind (wpAny_onRaise ?_))
  show wpAny _ _ (Builtin.SmallTypes.nextOf (.ref i2) >>= _) _ _ _
  refine wpAny_bind (wpAny_nextOf_list_item (((h2.extBut s1.extBut D.i2z).extBut s2.extBut D.i12.symm).extBut s3.extBut D.TOi2.symm)
    (((hl2.extBut s1.extBut D.l2z).extBut s2.extBut D.l2i1).extBut s3.extBut D.l2TO) hy fun h₄ b4 s4 => wpAny_pure ?_)
  have o4 : IsPair h₄ TO x b := s4.extBut _ _ D.TOi2 o3
  refine wpAny_bind (wpAny_seqItems o4 rfl (wpAny_bind (wpAny_updateSeq_pair o4 fun h₅ o5 s5 => wpAny_bind (wpAny_letGo (wpAny_pure (wpAny_pure ?_))))))
  replace o5 : IsPair h₅ TO x y := o5
  refine wpAny_bind (wpAny_seqItems o5 rfl ?_)
  exact step h₅ ⟨s5.extBut _ _ D.TOz.symm (s4.extBut _ _ D.i2z.symm (s3.extBut _ _ D.TOz.symm (s2.extBut _ _ D.i1z.symm z1))), o5,
    ((a2.extBut s3.extBut D.TOi1.symm).extBut s4.extBut D.i12).extBut s5.extBut D.TOi1.symm, b4.extBut s5.extBut D.TOi2.symm, by rw [s5.1, s4.1, s3.1, s2.1, s1.1],
    fun c o c1 c2 c3 c4 e => s5.extBut _ _ c2 (s4.extBut _ _ c4 (s3.extBut _ _ c2 (s2.extBut _ _ c3 (s1.extBut _ _ c1 e))))⟩
theorem zip_end_gone {z TI TO T i1 i2 l1 l2 : Addr} {k1 k2 : Nat} {xs ys : Array Value} {a b : Value} {f : Bool} {Q : Fin → Shared → Prop} (hh : A.handled = none) (D : ZipApart z TI TO i1 i2 l1 l2)
    (hz : ZipSt s.heap z TI TO (rawInt T) f) (hT : s.heap.get? T = none) (hTI : IsPair s.heap TI (.ref i1) (.ref i2)) (hTO : IsPair s.heap TO a b)
    (h1 : s.heap.IsListIter i1 l1 k1) (h2 : s.heap.IsListIter i2 l2 k2) (hl1 : s.heap.IsList l1 xs) (hl2 : s.heap.IsList l2 ys) (hend : xs[k1]? = none ∨ ys[k2]? = none)
    (hE : ∀ h' e, (∀ c o, c ≠ z → c ≠ TO → c ≠ i1 → c ≠ i2 → s.heap.get? c = some o → h'.get? c = some o) → (∃ o, h'.get? e = some o ∧ o.cls = .type "StopIteration") → E (.ref e) { s with heap := h' }) :
    wpAny (model prog w) A (Builtin.«zip.__next__» ⟨[.ref z], []⟩) Q E s := by
  show wpAny _ _ (field (.ref z) 2 >>= _) _ _ _
  refine wpAny_bind (wpAny_field hz rfl (x := .bool false) rfl ?_)
  show wpAny _ _ (field (.ref z) 3 >>= _) _ _ _
  refine wpAny_bind (wpAny_field hz rfl (x := .ref TI) rfl (wpAny_bind (wpAny_seqItems hTI rfl ?_)))
  show wpAny _ _ (Builtin.SmallTypes.ownedTupleIsFree (.ref z) >>= _) _ _ _
  refine wpAny_bind (gone_free hz hT ?_)
  simp only [if_true]
  refine wpAny_bind (wpAny_rule (wpAny_bind (wpAny_field hz rfl (x := .ref TO) rfl (wpAny_bind (wpAny_setField_rec hz (by simp) fun h₁ z1 s1 => wpAny_bind ?_)))))
  replace z1 : ZipSt h₁ z TI TO .ellipsis f := z1
  have fin : ∀ (h : Heap) (e : Addr), ZipSt h z TI TO .ellipsis f → (∀ c o, c ≠ z → c ≠ TO → c ≠ i1 → c ≠ i2 → s.heap.get? c = some o → h.get? c = some o) → (∃ o, h.get? e = some o ∧ o.cls = .type "StopIteration") →
      wpAny (model prog w) A (setField (.ref z) 0 .none) (fun _ s' => E (.ref e) s') E { s with heap := h } := fun h e hzh hk ⟨oe, hoe, hce⟩ => by
    have hez : e ≠ z := fun q => by subst q; rw [hzh] at hoe; cases hoe; simp at hce
    exact wpAny_setField_rec hzh (by simp) fun h3 _ s3 => hE h3 e (fun c o c1 c2 c3 c4 q => s3.extBut _ _ c1 (hk c o c1 c2 c3 c4 q)) ⟨oe, s3.extBut _ _ hez hoe, hce⟩
  simp only [List.zipIdx_cons, List.zipIdx_nil, List.forIn_cons, List.forIn_nil]
  refine wpAny_bind (wpAny_bind (wpAny_onRaise ?_))
  show wpAny _ _ (Builtin.SmallTypes.nextOf (.ref i1) >>= _) _ _ _
  cases hx : xs[k1]? with
  | none =>
    refine wpAny_bind (wpAny_nextOf_list_end hh (h1.extBut s1.extBut D.i1z) (hl1.extBut s1.extBut D.l1z) hx fun h₂ e s2 he => ?_)
    exact fin h₂ e (s2 _ _ D.i1z.symm z1) (fun c o c1 _ c3 _ q => s2 _ _ c3 (s1.extBut _ _ c1 q)) he
  | some x =>
    have hy : ys[k2]? = none := by rcases hend with h | h; rw [hx] at h; cases h; exact h
    refine wpAny_bind (wpAny_nextOf_list_item (h1.extBut s1.extBut D.i1z) (hl1.extBut s1.extBut D.l1z) hx fun h₂ a2 s2 => wpAny_pure ?_)
    have o2 : IsPair h₂ TO a b := s2.extBut _ _ D.TOi1 (s1.extBut _ _ D.TOz hTO)
    refine wpAny_bind (wpAny_seqItems o2 rfl (wpAny_bind (wpAny_updateSeq_pair o2 fun h₃ o3 s3 => wpAny_bind (wpAny_letGo (wpAny_pure ?_)))))
    refine wpAny_bind (wpAny_bind (wpAny_onRaise ?_))
    show wpAny _ _ (Builtin.SmallTypes.nextOf (.ref i2) >>= _) _ _ _
    refine wpAny_bind (wpAny_nextOf_list_end hh (((h2.extBut s1.extBut D.i2z).extBut s2.extBut D.i12.symm).extBut s3.extBut D.TOi2.symm)
      (((hl2.extBut s1.extBut D.l2z).extBut s2.extBut D.l2i1).extBut s3.extBut D.l2TO) hy fun h₄ e s4 he => ?_)
    exact fin h₄ e (s4 _ _ D.i2z.symm (s3.extBut _ _ D.TOz.symm (s2.extBut _ _ D.i1z.symm z1))) (fun c o c1 c2 c3 c4 q => s4 _ _ c4 (s3.extBut _ _ c2 (s2.extBut _ _ c3 (s1.extBut _ _ c1 q)))) he
theorem next_item_gone {z TI TO T i1 i2 l1 l2 : Addr} {k1 k2 : Nat} {xs ys : Array Value} {x y a b : Value} {f : Bool} {Q : Option Value → Shared → Prop} (D : ZipApart z TI TO i1 i2 l1 l2)
    (hz : ZipSt s.heap z TI TO (rawInt T) f) (hT : s.heap.get? T = none) (hTI : IsPair s.heap TI (.ref i1) (.ref i2)) (hTO : IsPair s.heap TO a b)
    (h1 : s.heap.IsListIter i1 l1 k1) (h2 : s.heap.IsListIter i2 l2 k2) (hl1 : s.heap.IsList l1 xs) (hl2 : s.heap.IsList l2 ys) (hx : xs[k1]? = some x) (hy : ys[k2]? = some y)
    (hQ : ∀ h', ZipSt h' z TI TO (rawInt s.heap.objs.size) false → IsPair h' TO x y → h'.IsListIter i1 l1 (k1 + 1) → h'.IsListIter i2 l2 (k2 + 1) → IsPair h' s.heap.objs.size x y → h'.objs.size = s.heap.objs.size + 1 →
      (∀ c o, c ≠ z → c ≠ TO → c ≠ i1 → c ≠ i2 → s.heap.get? c = some o → h'.get? c = some o) → Q (some (.ref s.heap.objs.size)) { s with heap := h' }) :
    wpAny (model prog w) A (pyNext (.ref z)) Q E s := by
  have ty : s.TypeIs (.ref z) "zip" := ⟨_, hz, rfl⟩
  unfold pyNext
  exact wpAny_bind (wpAny_attempt (wpAny_callSpecial?_slot (name := Str.ofString "__next__") ty F.slot_zip_next
    (wpAny_call_entry F.slot_zip_next ty F.entry_zip_next
      (zip_item_gone D hz hT hTI hTO h1 h2 hl1 hl2 hx hy fun h' a1 a2 a3 a4 a5 a6 a7 => wpAny_pure (hQ h' a1 a2 a3 a4 a5 a6 a7)) (F.args_zip_next_1 _))))
theorem next_end_gone {z TI TO T i1 i2 l1 l2 : Addr} {k1 k2 : Nat} {xs ys : Array Value} {a b : Value} {f : Bool} {Q : Option Value → Shared → Prop} (hh : A.handled = none) (D : ZipApart z TI TO i1 i2 l1 l2)
    (hz : ZipSt s.heap z TI TO (rawInt T) f) (hT : s.heap.get? T = none) (hTI : IsPair s.heap TI (.ref i1) (.ref i2)) (hTO : IsPair s.heap TO a b)
    (h1 : s.heap.IsListIter i1 l1 k1) (h2 : s.heap.IsListIter i2 l2 k2) (hl1 : s.heap.IsList l1 xs) (hl2 : s.heap.IsList l2 ys) (hend : xs[k1]? = none ∨ ys[k2]? = none)
    (hQ : ∀ h', (∀ c o, c ≠ z → c ≠ TO → c ≠ i1 → c ≠ i2 → s.heap.get? c = some o → h'.get? c = some o) → Q none { s with heap := h' }) : wpAny (model prog w) A (pyNext (.ref z)) Q E s := by
  have ty : s.TypeIs (.ref z) "zip" := ⟨_, hz, rfl⟩
  unfold pyNext
  refine wpAny_bind (wpAny_attempt (wpAny_callSpecial?_slot (name := Str.ofString "__next__") ty F.slot_zip_next
    (wpAny_call_entry F.slot_zip_next ty F.entry_zip_next (zip_end_gone hh D hz hT hTI hTO h1 h2 hl1 hl2 hend fun h' e hk he => ?_) (F.args_zip_next_1 _))))
  obtain ⟨o, ho, hc⟩ := he
  exact wpAny_bind (wpAny_isInstance (T := "StopIteration") (b := true) ⟨o, ho, hc⟩ isSubtype_stop (wpAny_pure (hQ _ hk)))
end
/-! ### the turns -/
theorem go_name {M : Model} {A : Around} {E : Value → Shared → Prop} {s : Shared} {x : Str} {tp : Pos} {it u : Value} {Q : Unit → Shared → Prop} (h : Q () s) : wpAny M A (letOwnedTupleGo (.Name x tp) it u) Q E s := by
  unfold letOwnedTupleGo
  exact wpAny_pure h
def ZipAny (h : Heap) (z TI TO : Addr) : Prop := ZipSt h z TI TO .none false ∨ ∃ (T : Addr) (f : Bool), ZipSt h z TI TO (rawInt T) f
theorem turn_zipN {P : Program} {w : World} {K : PySem.W.Frag} {tx : Str} {tpos : Pos} {a b z TI TO i1 i2 : Addr} (D : ZipApart z TI TO i1 i2 a b) :
    Turn P w K (.Name tx tpos) (Itz K a b) [z, TI, TO, i1, i2] z (fun i h => ZipAny h z TI TO ∧ IsPair h TI (.ref i1) (.ref i2) ∧ (∃ x y, IsPair h TO x y) ∧ h.IsListIter i1 a i ∧ h.IsListIter i2 b i) where
  mem := by simp
  obj := fun i h st c hc => by
    obtain ⟨hz, hTI, ⟨x, y, hTO⟩, ⟨o1, e1, _, d1⟩, ⟨o2, e2, _, d2⟩⟩ := st
    have e' : c = z ∨ c = TI ∨ c = TO ∨ c = i1 ∨ c = i2 := by simpa using hc
    rcases e' with q | q | q | q | q
    · rw [q]
      rcases hz with hz | ⟨T, f, hz⟩
      · exact ⟨_, hz, fun v q => nomatch q⟩
      · exact ⟨_, hz, fun v q => nomatch q⟩
    · rw [q]; exact ⟨_, hTI, fun v q => nomatch q⟩
    · rw [q]; exact ⟨_, hTO, fun v q => nomatch q⟩
    · rw [q]; exact ⟨o1, e1, fun v q => by rw [d1] at q; cases q⟩
    · rw [q]; exact ⟨o2, e2, fun v q => by rw [d2] at q; cases q⟩
  keep := fun i h h' st k => by
    obtain ⟨hz, hTI, ⟨x, y, hTO⟩, h1, h2⟩ := st
    refine ⟨?_, k TI (by simp) _ hTI, ⟨x, y, k TO (by simp) _ hTO⟩, h1.at fun o q => k i1 (by simp) o q, h2.at fun o q => k i2 (by simp) o q⟩
    rcases hz with hz | ⟨T, f, hz⟩
    · exact .inl (k z (by simp) _ hz)
    · exact .inr ⟨T, f, k z (by simp) _ hz⟩
  item := by
    intro X hP hw hK hc i pins s σ H E I hf st hg
    subst hP hw hK
    obtain ⟨hz, hTI, ⟨x0, y0, hTO⟩, h1, h2⟩ := st
    obtain ⟨xs, ys, x, y, hqx, hqy, hx, hy⟩ := hg
    obtain ⟨its, rv, p, _⟩ := I.list hqx
    obtain ⟨its2, rv2, p2, _⟩ := I.list hqy
    obtain ⟨u, hu, ru⟩ := rv.get hx
    obtain ⟨u2, hu2, ru2⟩ := rv2.get hy
    have hux : its.toArray[i]? = some u := by simpa using hu
    have huy : its2.toArray[i]? = some u2 := by simpa using hu2
    have ends : ∀ h' : Heap, (ZipAny h' z TI TO ∧ IsPair h' TI (.ref i1) (.ref i2) ∧ (∃ x y, IsPair h' TO x y) ∧ h'.IsListIter i1 a (i + 1) ∧ h'.IsListIter i2 b (i + 1)) → IsPair h' s.heap.objs.size u u2 →
        (∀ c o, c ≠ z → c ≠ TO → c ≠ i1 → c ≠ i2 → s.heap.get? c = some o → h'.get? c = some o) →
        ∃ v, some (Value.ref s.heap.objs.size) = some v ∧ wpAny (model X.prog X.w) X.A (letOwnedTupleGo (.Name tx tpos) (.ref z) v) (fun _ s2 => ∃ x H', Inv X pins σ H' s2 ∧ RelV x v ∧ (Itz X.K a b).yld i H x H' ∧ (ZipAny s2.heap z TI TO ∧ IsPair s2.heap TI (.ref i1) (.ref i2) ∧ (∃ x y, IsPair s2.heap TO x y) ∧ s2.heap.IsListIter i1 a (i + 1) ∧ s2.heap.IsListIter i2 b (i + 1)) ∧ ∀ b ∈ [z, TI, TO, i1, i2], H' b = none) E { s with heap := h' } := fun h' st' hT hk => by
      refine ⟨_, rfl, go_name ?_⟩
      have new : ObjOk X.prog X.w (upd H s.heap.objs.size (.tup [x, y])) h' s.heap.objs.size (.tup [x, y]) :=
        ⟨by show 2 ≤ sizeLine; decide, [u, u2], .cons ru (.cons ru2 .nil), ⟨_, hT, rfl, _, rfl⟩⟩
      have I1 : Inv X pins σ (upd H s.heap.objs.size (.tup [x, y])) { s with heap := h' } :=
        I.turnedNew (t' := s.toks) (ch := [z, TI, TO, i1, i2]) (fun c o hb q => hk c o (fun q' => hb (by simp [q'])) (fun q' => hb (by simp [q'])) (fun q' => hb (by simp [q'])) (fun q' => hb (by simp [q'])) q) hf (Nat.le_refl _) new
      refine ⟨.ref s.heap.objs.size, _, I1, rfl, ⟨_, x, y, rfl, I.hok.fresh (Nat.le_refl _), rfl, fun l hl => by rw [I.list_inj hl hqx]; exact hx, fun l hl => by rw [I.list_inj hl hqy]; exact hy⟩, st', fun c hcm => ?_⟩
      have hlt : c < s.heap.objs.size := by
        have e' : c = z ∨ c = TI ∨ c = TO ∨ c = i1 ∨ c = i2 := by simpa using hcm
        rcases e' with q | q | q | q | q
        · rw [q]
          rcases hz with hz | ⟨T, f, hz⟩
          · exact Heap.lt_size hz
          · exact Heap.lt_size hz
        · rw [q]; exact Heap.lt_size hTI
        · rw [q]; exact Heap.lt_size hTO
        · rw [q]; obtain ⟨_, e1, _⟩ := h1; exact Heap.lt_size e1
        · rw [q]; obtain ⟨_, e2, _⟩ := h2; exact Heap.lt_size e2
      rw [upd_ne (Nat.ne_of_lt hlt)]
      exact (hf c hcm).1
    rcases hz with hz | ⟨T, f, hz⟩
    · refine wpAny_pyNext_zip_item D hz hTI hTO h1 h2 p.isList p2.isList (x := u) (y := u2) hux huy fun h' z' TO' h1' h2' hT hsz hk => ?_
      exact ends h' ⟨.inr ⟨_, _, z'⟩, hk _ _ D.TIz D.TITO D.TIi1 D.TIi2 hTI, ⟨_, _, TO'⟩, h1', h2'⟩ hT hk
    · cases hTT : s.heap.get? T with
      | none =>
        refine next_item_gone D hz hTT hTI hTO h1 h2 p.isList p2.isList (x := u) (y := u2) hux huy fun h' z' TO' h1' h2' hT hsz hk => ?_
        exact ends h' ⟨.inr ⟨_, _, z'⟩, hk _ _ D.TIz D.TITO D.TIi1 D.TIi2 hTI, ⟨_, _, TO'⟩, h1', h2'⟩ hT hk
      | some oT =>
        refine wpAny_pyNext_zip_item_held D hz hTT hTI h1 h2 p.isList p2.isList (x := u) (y := u2) hux huy fun h' z' h1' h2' hT hsz hk => ?_
        exact ends h' ⟨.inr ⟨_, _, z'⟩, hk _ _ D.TIz D.TIi1 D.TIi2 hTI, ⟨_, _, hk _ _ D.TOz D.TOi1 D.TOi2 hTO⟩, h1', h2'⟩ hT fun c o c1 _ c3 c4 e => hk c o c1 c3 c4 e
  done := by
    intro X hP hw hK hc i pins s σ H E I hf st hg
    subst hP hw hK
    obtain ⟨hz, hTI, ⟨x0, y0, hTO⟩, h1, h2⟩ := st
    obtain ⟨xs, ys, hqx, hqy, hend⟩ := hg
    obtain ⟨its, rv, p, _⟩ := I.list hqx
    obtain ⟨its2, rv2, p2, _⟩ := I.list hqy
    have l1 := rv.length
    have l2 := rv2.length
    have he : its.toArray[i]? = none ∨ its2.toArray[i]? = none := by
      rcases hend with q | q
      · exact .inl (by simp; omega)
      · exact .inr (by simp; omega)
    have fin : ∀ h' : Heap, (∀ c o, c ≠ z → c ≠ TO → c ≠ i1 → c ≠ i2 → s.heap.get? c = some o → h'.get? c = some o) → Inv X pins σ H { s with heap := h' } := fun h' hk =>
      I.turnedL (t' := s.toks) (ch := [z, TI, TO, i1, i2]) (fun c o hb q => hk c o (fun q' => hb (by simp [q'])) (fun q' => hb (by simp [q'])) (fun q' => hb (by simp [q'])) (fun q' => hb (by simp [q'])) q) hf
    rcases hz with hz | ⟨T, f, hz⟩
    · exact wpAny_pyNext_zip_end (I.ok.hd hc) D hz hTI hTO h1 h2 p.isList p2.isList he fun h' hk => ⟨rfl, fin h' hk⟩
    · cases hTT : s.heap.get? T with
      | none => exact next_end_gone (I.ok.hd hc) D hz hTT hTI hTO h1 h2 p.isList p2.isList he fun h' hk => ⟨rfl, fin h' hk⟩
      | some oT => exact wpAny_pyNext_zip_end_held (I.ok.hd hc) D hz hTT hTI h1 h2 p.isList p2.isList he fun h' hk => ⟨rfl, fin h' fun c o c1 _ c3 c4 e => hk c o c1 c3 c4 e⟩
  self := fun A i s Q E st h => by
    rcases st.1 with hz | ⟨T, f, hz⟩
    · exact wpAny_pyIter_zip hz h
    · have ty : s.TypeIs (.ref z) "zip" := ⟨_, hz, rfl⟩
      refine wpAny_pyIter_slot ty F.slot_zip_iter (wpAny_call_entry F.slot_zip_iter ty F.entry_zip_iter ?_ (F.args_zip_iter_1 _))
      show wpAny _ _ (ret (.ref z)) _ _ s
      exact wpAny_pure ⟨_, rfl, "zip", _, ty, F.slot_zip_next.lookup, h⟩
theorem pi_zipN {X : Cx} {e e2 : Expr} {ta : TA} {p pos tpos : Pos} {tx : Str} (hg : Gl X "zip") (hm : X.mg "zip" = none) (ha : PA X [e, e2] ta)
    (hs : starEach [e, e2] X.env = (false, eval e X.env) :: starEach [e2] X.env := by rfl) (hpl : (backTo pos (starEach [e2] X.env)).any (·.1) = false := by rfl) :
    PI X (.Name tx tpos) (.Call (.Name "zip" p) [e, e2] [] pos) (iZip X.K ta) := by
  refine ⟨fun pins s σ H R I h => ?_⟩
  refine Call_ (ld_blt I hg hm PyProof.Rows.boot_zip (PyProof.Rows.callWith_type1 (thn (ha.run pos pins s σ H _ I h) fun us s1 ⟨vs, H1, I1, r1, q1⟩ => ?_) hs hpl))
  obtain ⟨a, b, xs, ys, ex, hqx, hqy, q⟩ := q1
  subst ex
  cases r1 with
  | cons r rr =>
    cases rr with
    | cons r' rr =>
      cases rr
      cases r
      cases r'
      obtain ⟨its, rv, p1, _⟩ := I1.list hqx
      obtain ⟨its2, rv2, p2, _⟩ := I1.list hqy
      refine call_zip_2 p1.isList p2.isList fun h' hz hTI hTO h1 h2 hsz hk => wpAny_pyIter_zip hz ?_
      have I2 : Inv X pins σ H1 { s1 with heap := h' } := I1.kept (t' := s1.toks) hk
      refine ⟨s1.heap.objs.size + 4, [s1.heap.objs.size + 4, s1.heap.objs.size + 2, s1.heap.objs.size + 3, s1.heap.objs.size, s1.heap.objs.size + 1], _, _, H1, rfl, I2, turn_zipN (PySem.W.ktu_apart s1.heap.objs.size a b p1.lt p2.lt), ⟨.inl hz, hTI, ⟨_, _, hTO⟩, h1, h2⟩, fun c hcm => ?_, q⟩
      have hle : s1.heap.objs.size ≤ c := by
        simp only [List.mem_cons, List.not_mem_nil, or_false] at hcm
        rcases hcm with q | q | q | q | q <;> rw [q] <;> first | exact Nat.le_add_right _ _ | exact Nat.le_refl _
      exact I1.fpOk hle (I1.hok.fresh hle)
section
variable {X : Cx} {Φ : List SD} {a b : Expr} {pos p : Pos}
theorem i_zipN {α β : Type} [Py α] [Py β] {xs : List α} {ys : List β} {tx : Str} {tpos : Pos} (B : Blt X.mg) (ha : PV X Φ a xs) (hb : PV X Φ b ys) (hg : Gl X "zip" := by rfl) (h1 : nst a = true := by rfl) (h2 : nst b = true := by rfl) :
    PIt X Φ (.Name tx tpos) (.Call (.Name "zip" p) [a, b] [] pos) (xs.zip ys) := .mk fun H0 σ F H R s sl q =>
  wI_of (pi_zipN hg B.zip paW (star_cons h1) (star_plain (by simp [h2]))) (wA_of (pa_cons peW (pa_cons peW pa_nil (star_cons h2)) (star_cons h1)) (ha H0 σ F H _ s sl fun v F1 H1 g1 p1 => hb H0 σ F1 H1 _ g1.s (sl.gr g1) fun w F2 H2 g2 q1 => by
    obtain ⟨l, vs, rfl, hl, p2⟩ := py_lst.mp p1
    obtain ⟨m, ws, rfl, hm, q2⟩ := py_lst.mp q1
    have e3 : vs.length = xs.length := by simpa using p2.1
    have e4 : ws.length = ys.length := by simpa using q2.1
    have hl2 := g2.f _ _ hl
    have p3 := p2.mono g2.f
    refine ⟨l, m, vs, ws, rfl, SqL.of (g2.s _ _ hl2), SqL.of (g2.s _ _ hm), q _ F2 H2 (g1.trans g2) ⟨fun n P F3 H3 hp e1 e2 => ?_, fun F3 H3 e1 e2 => ⟨vs, ws, SqL.of (e2 _ _ (e1 _ _ hl2)), SqL.of (e2 _ _ (e1 _ _ hm)), by rw [List.length_map, List.length_zip]; omega⟩⟩⟩
    have hn := (List.getElem?_eq_some_iff.mp hp).1
    rw [List.length_map, List.length_zip] at hn
    obtain ⟨v, hv, pv⟩ := allP_at (n := n) p3 (by rw [List.getElem?_map, List.getElem?_eq_getElem (show n < xs.length by omega)]; rfl)
    obtain ⟨w, hw, pw⟩ := allP_at (n := n) q2 (by rw [List.getElem?_map, List.getElem?_eq_getElem (show n < ys.length by omega)]; rfl)
    have eP : P = py X.K (enc (xs[n]'(by omega), ys[n]'(by omega))) := by
      rw [List.getElem?_map, (List.getElem?_zip_eq_some (z := (xs[n]'(by omega), ys[n]'(by omega)))).mpr ⟨List.getElem?_eq_getElem (show n < xs.length by omega), List.getElem?_eq_getElem (show n < ys.length by omega)⟩] at hp
      exact (Option.some.inj hp).symm
    subst eP
    refine ⟨⟨vs, ws, v, w, SqL.of (e2 _ _ (e1 _ _ hl2)), SqL.of (e2 _ _ (e1 _ _ hm)), hv, hw⟩, fun u H4 y => ?_⟩
    obtain ⟨T, x, x', rfl, hT, rfl, z, z'⟩ := y
    have z2 := z vs (SqL.of (e2 _ _ (e1 _ _ hl2)))
    have z3 := z' ws (SqL.of (e2 _ _ (e1 _ _ hm)))
    rw [hv] at z2; cases z2
    rw [hw] at z3; cases z3
    have ee := e1.trans (Gr.new (o := .tup [v, w]) e2 hT).f
    exact ⟨_, Gr.new e2 hT, .tup (SqT.of upd_same) (.cons (dq_mono ee _ _ pv) (.cons (dq_mono ee _ _ pw) .nil))⟩))
end
end GL

set_option Elab.async false
set_option linter.all false
set_option maxRecDepth 100000
set_option maxHeartbeats 4000000
namespace GL
open PySem PySem.Spec PyProof.Rows L2
open Evl (Ex ex_l ex_t)
/-! ### list(zip(a, b)) -/
theorem zip_no_len : typeLookup (.type "zip") "__len__" = pure none := am_miss_of_fast (by decide +kernel)
theorem zip_no_hint : typeLookup (.type "zip") "__length_hint__" = pure none := am_miss_of_fast (by decide +kernel)
/-- what zip(a, b) leaves: at its i-th item -/
def ZSt (z TI TO i1 i2 a b : Addr) (i : Nat) (h : Heap) : Prop := ZipAny h z TI TO ∧ IsPair h TI (.ref i1) (.ref i2) ∧ (∃ x y, IsPair h TO x y) ∧ h.IsListIter i1 a i ∧ h.IsListIter i2 b i
theorem ZSt.ty {z TI TO i1 i2 a b : Addr} {i : Nat} {s : Shared} (h : ZSt z TI TO i1 i2 a b i s.heap) : s.TypeIs (.ref z) "zip" := by
  rcases h.1 with e | ⟨T, f, e⟩
  · exact ⟨_, e, rfl⟩
  · exact ⟨_, e, rfl⟩
section
variable {X : Cx} {a b z TI TO i1 i2 : Addr} (D : ZipApart z TI TO i1 i2 a b)
include D
theorem zs_keep (X : Cx) {i : Nat} {h h' : Heap} (st : ZSt z TI TO i1 i2 a b i h) (k : ∀ c ∈ [z, TI, TO, i1, i2], ∀ o, h.get? c = some o → h'.get? c = some o) : ZSt z TI TO i1 i2 a b i h' :=
  (turn_zipN (P := X.prog) (w := X.w) (K := X.K) (tx := "") (tpos := ⟨0, 0, 0, 0⟩) D).keep i h h' st k
theorem zs_item {pins : List (Addr × Obj)} {σ : L2.St} {H : Hp} {s : Shared} {i : Nat} {xs ys : List V} {x y : V} {A : Around} {E : Value → Shared → Prop} {Q : Option Value → Shared → Prop} (I : Inv X pins σ H s) (hf : ∀ c ∈ [z, TI, TO, i1, i2], FpOk X pins H c) (st : ZSt z TI TO i1 i2 a b i s.heap)
    (hqx : SqL X.K H a xs) (hqy : SqL X.K H b ys) (hx : xs[i]? = some x) (hy : ys[i]? = some y)
    (q : ∀ s1, Inv X pins σ (upd H s.heap.objs.size (.tup [x, y])) s1 → ZSt z TI TO i1 i2 a b (i + 1) s1.heap → (∀ c o, c ∉ [z, TI, TO, i1, i2] → s.heap.get? c = some o → s1.heap.get? c = some o) → Q (some (.ref s.heap.objs.size)) s1) :
    wpAny (model X.prog X.w) A (pyNext (.ref z)) Q E s := by
  obtain ⟨hz, hTI, ⟨x0, y0, hTO⟩, h1, h2⟩ := st
  obtain ⟨its, rv, p, _⟩ := I.list hqx
  obtain ⟨its2, rv2, p2, _⟩ := I.list hqy
  obtain ⟨u, hu, ru⟩ := rv.get hx
  obtain ⟨u2, hu2, ru2⟩ := rv2.get hy
  have hux : its.toArray[i]? = some u := by simpa using hu
  have huy : its2.toArray[i]? = some u2 := by simpa using hu2
  have ends : ∀ h' : Heap, ZSt z TI TO i1 i2 a b (i + 1) h' → IsPair h' s.heap.objs.size u u2 → (∀ c o, c ≠ z → c ≠ TO → c ≠ i1 → c ≠ i2 → s.heap.get? c = some o → h'.get? c = some o) → Q (some (.ref s.heap.objs.size)) { s with heap := h' } := fun h' st' hT hk => by
    have kk : ∀ c o, c ∉ [z, TI, TO, i1, i2] → s.heap.get? c = some o → h'.get? c = some o := fun c o hb q => hk c o (fun q' => hb (by simp [q'])) (fun q' => hb (by simp [q'])) (fun q' => hb (by simp [q'])) (fun q' => hb (by simp [q'])) q
    have new : ObjOk X.prog X.w (upd H s.heap.objs.size (.tup [x, y])) h' s.heap.objs.size (.tup [x, y]) :=
      ⟨by show 2 ≤ sizeLine; decide, [u, u2], .cons ru (.cons ru2 .nil), ⟨_, hT, rfl, _, rfl⟩⟩
    exact q _ (I.turnedNew (t' := s.toks) (ch := [z, TI, TO, i1, i2]) kk hf (Nat.le_refl _) new) st' kk
  rcases hz with hz | ⟨T, f, hz⟩
  · refine wpAny_pyNext_zip_item D hz hTI hTO h1 h2 p.isList p2.isList (x := u) (y := u2) hux huy fun h' z' TO' h1' h2' hT hsz hk => ?_
    exact ends h' ⟨.inr ⟨_, _, z'⟩, hk _ _ D.TIz D.TITO D.TIi1 D.TIi2 hTI, ⟨_, _, TO'⟩, h1', h2'⟩ hT hk
  · cases hTT : s.heap.get? T with
    | none =>
      refine next_item_gone D hz hTT hTI hTO h1 h2 p.isList p2.isList (x := u) (y := u2) hux huy fun h' z' TO' h1' h2' hT hsz hk => ?_
      exact ends h' ⟨.inr ⟨_, _, z'⟩, hk _ _ D.TIz D.TITO D.TIi1 D.TIi2 hTI, ⟨_, _, TO'⟩, h1', h2'⟩ hT hk
    | some oT =>
      refine wpAny_pyNext_zip_item_held D hz hTT hTI h1 h2 p.isList p2.isList (x := u) (y := u2) hux huy fun h' z' h1' h2' hT hsz hk => ?_
      exact ends h' ⟨.inr ⟨_, _, z'⟩, hk _ _ D.TIz D.TIi1 D.TIi2 hTI, ⟨_, _, hk _ _ D.TOz D.TOi1 D.TOi2 hTO⟩, h1', h2'⟩ hT fun c o c1 _ c3 c4 e => hk c o c1 c3 c4 e
theorem zs_done {pins : List (Addr × Obj)} {σ : L2.St} {H : Hp} {s : Shared} {i : Nat} {xs ys : List V} {A : Around} {E : Value → Shared → Prop} {Q : Option Value → Shared → Prop} (hh : A.handled = none) (I : Inv X pins σ H s) (hf : ∀ c ∈ [z, TI, TO, i1, i2], FpOk X pins H c) (st : ZSt z TI TO i1 i2 a b i s.heap)
    (hqx : SqL X.K H a xs) (hqy : SqL X.K H b ys) (hend : xs.length ≤ i ∨ ys.length ≤ i)
    (q : ∀ s1, Inv X pins σ H s1 → (∀ c o, c ∉ [z, TI, TO, i1, i2] → s.heap.get? c = some o → s1.heap.get? c = some o) → Q none s1) :
    wpAny (model X.prog X.w) A (pyNext (.ref z)) Q E s := by
  obtain ⟨hz, hTI, ⟨x0, y0, hTO⟩, h1, h2⟩ := st
  obtain ⟨its, rv, p, _⟩ := I.list hqx
  obtain ⟨its2, rv2, p2, _⟩ := I.list hqy
  have l1 := rv.length
  have l2 := rv2.length
  have he : its.toArray[i]? = none ∨ its2.toArray[i]? = none := by
    rcases hend with q | q
    · exact .inl (by simp; omega)
    · exact .inr (by simp; omega)
  have fin : ∀ h' : Heap, (∀ c o, c ≠ z → c ≠ TO → c ≠ i1 → c ≠ i2 → s.heap.get? c = some o → h'.get? c = some o) → Q none { s with heap := h' } := fun h' hk => by
    have kk : ∀ c o, c ∉ [z, TI, TO, i1, i2] → s.heap.get? c = some o → h'.get? c = some o := fun c o hb q => hk c o (fun q' => hb (by simp [q'])) (fun q' => hb (by simp [q'])) (fun q' => hb (by simp [q'])) (fun q' => hb (by simp [q'])) q
    exact q _ (I.turnedL (t' := s.toks) (ch := [z, TI, TO, i1, i2]) kk hf) kk
  rcases hz with hz | ⟨T, f, hz⟩
  · exact wpAny_pyNext_zip_end hh D hz hTI hTO h1 h2 p.isList p2.isList he fun h' hk => fin h' hk
  · cases hTT : s.heap.get? T with
    | none => exact next_end_gone hh D hz hTT hTI hTO h1 h2 p.isList p2.isList he fun h' hk => fin h' hk
    | some oT => exact wpAny_pyNext_zip_end_held hh D hz hTT hTI h1 h2 p.isList p2.isList he fun h' hk => fin h' fun c o c1 _ c3 c4 e => hk c o c1 c3 c4 e
end
/-- the list that is being filled: not tracked yet -/
structure ZFill (X : Cx) (pins : List (Addr × Obj)) (a b S : Addr) (xs ys : List V) (F0 H0 : Hp) (i : Nat) (σ : L2.St) (G H : Hp) (s : Shared) (ts : List Addr) : Prop where
  inv : Inv X pins σ H s
  fs : FpOk X pins H S
  gr : Gr F0 H0 G H
  xa : SqL X.K H a xs
  yb : SqL X.K H b ys
  ls : ∃ (acc : Array Value) (c : Nat), s.heap.get? S = some { cls := .type "list", dict := none, data := .seq acc c, slots := #[] } ∧ acc.toList = ts.map Value.ref
  len : ts.length = i
  tup : ∀ (j : Nat) t, ts[j]? = some t → ∃ x y, xs[j]? = some x ∧ ys[j]? = some y ∧ G t = some (.tup [x, y])
section
variable {X : Cx} {a b z TI TO i1 i2 : Addr} (D : ZipApart z TI TO i1 i2 a b)
include D
theorem fpok_new {pins : List (Addr × Obj)} {H : Hp} {t c : Addr} {o : HO} (h : FpOk X pins H c) (hc : c ≠ t) : FpOk X pins (upd H t o) c := ⟨by rw [upd_ne hc]; exact h.1, h.2⟩
theorem zl_loop {pins : List (Addr × Obj)} {S : Addr} {xs ys : List V} {F0 H0 : Hp} {σ : L2.St} {A : Around} {res : Value} {R : Result → Shared → Prop} (hh : A.handled = none) (hSf : S ∉ [z, TI, TO, i1, i2]) (hn : min xs.length ys.length ≤ 16777215)
    (hR : ∀ G H s ts, ZFill X pins a b S xs ys F0 H0 (min xs.length ys.length) σ G H s ts → R (.ok (.ret res)) s) :
    ∀ (k i : Nat) (G H : Hp) (s : Shared) (ts : List Addr), min xs.length ys.length - i = k → i ≤ min xs.length ys.length → ZFill X pins a b S xs ys F0 H0 i σ G H s ts → (∀ c ∈ [z, TI, TO, i1, i2], FpOk X pins H c ∧ c < s.heap.objs.size) → ZSt z TI TO i1 i2 a b i s.heap →
    codeAny (model X.prog X.w) A (.builtin "list.extend.loop" ⟨[.ref S, .ref z, res], []⟩) R s := by
  intro k
  induction k with
  | zero =>
    intro i G H s ts hk hi Z fp st
    have hin : i = min xs.length ys.length := by omega
    obtain ⟨acc, c, hS, hacc⟩ := Z.ls
    refine codeAny_builtin PySem.F.entry_extend_loop ?_
    rw [Around.under_plainId PySem.F.plain_extend_loop _]
    show wpAny _ A.in1 (pyNext (.ref z) >>= _) _ _ s
    refine wpAny_bind (zs_done D hh Z.inv (fun c hc => (fp c hc).1) st Z.xa Z.yb (by omega) fun s1 I1 kk => ?_)
    exact wpAny_pure (hR G H s1 ts ⟨I1, Z.fs, Z.gr, Z.xa, Z.yb, ⟨acc, c, kk S _ hSf hS, hacc⟩, by rw [← hin]; exact Z.len, Z.tup⟩)
  | succ k ih =>
    intro i G H s ts hk hi Z fp st
    have hlt : i < min xs.length ys.length := by omega
    obtain ⟨acc, c, hS, hacc⟩ := Z.ls
    have hx : xs[i]? = some (xs[i]'(by omega)) := List.getElem?_eq_getElem (by omega)
    have hy : ys[i]? = some (ys[i]'(by omega)) := List.getElem?_eq_getElem (by omega)
    generalize xs[i]'(by omega) = x at hx
    generalize ys[i]'(by omega) = y at hy
    refine codeAny_builtin PySem.F.entry_extend_loop ?_
    rw [Around.under_plainId PySem.F.plain_extend_loop _]
    show wpAny _ A.in1 (pyNext (.ref z) >>= _) _ _ s
    refine wpAny_bind (zs_item D Z.inv (fun c hc => (fp c hc).1) st Z.xa Z.yb hx hy fun s1 I1 st1 kk => ?_)
    have hS1 := kk S _ hSf hS
    have hSlt : S < s.heap.objs.size := Heap.lt_size hS
    have hHT : H s.heap.objs.size = none := Z.inv.hok.fresh (Nat.le_refl _)
    have hasz : acc.size = i := by rw [← Array.length_toList, hacc, List.length_map, Z.len]
    have fsS : FpOk X pins (upd H s.heap.objs.size (.tup [x, y])) S := fpok_new D Z.fs (Nat.ne_of_lt hSlt)
    have up : Ex H (upd H s.heap.objs.size (.tup [x, y])) := Ex.new hHT
    show wpAny _ A.in1 (updateSeq S (·.push (.ref s.heap.objs.size)) >>= _) _ _ _
    refine wpAny_bind ?_
    refine wpAny_updateSeq hS1 rfl (wpAny_pure ⟨plainId_quiet PySem.F.plain_extend_loop _, ih (i + 1) (upd G s.heap.objs.size (.tup [x, y])) (upd H s.heap.objs.size (.tup [x, y])) _ (ts ++ [s.heap.objs.size]) (by omega) hlt
      ⟨I1.turnedL (t' := s1.toks) (ch := [S]) (fun c o hc e => (Heap.get?_update_other _ _ (fun h : S = c => hc (by simp [h]))).trans e) (fun c hc => by rw [List.mem_singleton.mp hc]; exact fsS), fsS, Z.gr.trans (Gr.new Z.gr.s hHT), ex_l up Z.xa, ex_l up Z.yb, ⟨_, _, Heap.get?_update_self _ hS1 rfl, ?_⟩, by rw [List.length_append, Z.len]; rfl, fun j t hj => ?_⟩
      (fun c hc => ⟨fpok_new D (fp c hc).1 (Nat.ne_of_lt (fp c hc).2), ?_⟩) (zs_keep D X st1 fun c hc o e => (Heap.get?_update_other _ _ (fun h : S = c => hSf (by rw [h]; exact hc))).trans e)⟩)
      (by rw [hasz, sizeLine_eq]; omega) (by show (acc.push _).size ≤ sizeLine + 1; rw [Array.size_push, hasz, sizeLine_eq]; omega)
    · show (acc.push _).toList = _
      rw [Array.toList_push, hacc, List.map_append]; rfl
    · by_cases e : j < ts.length
      · rw [List.getElem?_append_left e] at hj
        obtain ⟨x', y', e1, e2, e3⟩ := Z.tup j t hj
        exact ⟨x', y', e1, e2, Gr.f (Gr.new Z.gr.s hHT) _ _ e3⟩
      · have ej : j = i := by
          have := lt_of_at hj
          rw [List.length_append, List.length_singleton] at this
          have := Z.len
          omega
        subst ej
        rw [List.getElem?_append_right (by rw [Z.len]; exact Nat.le_refl _), Z.len, Nat.sub_self] at hj
        cases hj
        exact ⟨x, y, hx, hy, upd_same⟩
    · have h1 := (fp c hc).2
      show c < (Heap.update s1.heap S _).objs.size
      obtain ⟨o, ho⟩ : ∃ o, s1.heap.get? c = some o := by
        obtain ⟨o, ho, _⟩ := (turn_zipN (P := X.prog) (w := X.w) (K := X.K) (tx := "") (tpos := ⟨0, 0, 0, 0⟩) D).obj _ _ st1 c hc
        exact ⟨o, ho⟩
      by_cases e : S = c
      · exact absurd (e ▸ hc) hSf
      · exact Heap.lt_size ((Heap.get?_update_other _ _ e).trans ho)
theorem zfp_keep (X : Cx) {h' : Heap} {i : Nat} (st : ZSt z TI TO i1 i2 a b i h') {c : Addr} (hc : c ∈ [z, TI, TO, i1, i2]) : c < h'.objs.size := by
  obtain ⟨o, ho, _⟩ := (turn_zipN (P := X.prog) (w := X.w) (K := X.K) (tx := "") (tpos := ⟨0, 0, 0, 0⟩) D).obj _ _ st c hc
  exact Heap.lt_size ho
/-- the heap changed at S alone -/
theorem zfill_at {pins : List (Addr × Obj)} {S : Addr} {xs ys : List V} {F0 H0 : Hp} {i : Nat} {σ : L2.St} {G H : Hp} {s : Shared} {ts : List Addr} {h' : Heap} {t' : Nat} (Z : ZFill X pins a b S xs ys F0 H0 i σ G H s ts) (k : ∀ c o, c ≠ S → s.heap.get? c = some o → h'.get? c = some o)
    (hS : ∃ (acc : Array Value) (c : Nat), h'.get? S = some { cls := .type "list", dict := none, data := .seq acc c, slots := #[] } ∧ acc.toList = ts.map Value.ref) : ZFill X pins a b S xs ys F0 H0 i σ G H { s with heap := h', toks := t' } ts :=
  ⟨Z.inv.turnedL (ch := [S]) (fun c o hc e => k c o (fun q => hc (by simp [q])) e) (fun c hc => by rw [List.mem_singleton.mp hc]; exact Z.fs), Z.fs, Z.gr, Z.xa, Z.yb, hS, Z.len, Z.tup⟩
theorem zl_extend {pins : List (Addr × Obj)} {S : Addr} {xs ys : List V} {F0 H0 : Hp} {σ : L2.St} {A : Around} {res : Value} {R : Result → Shared → Prop} {G H : Hp} {s : Shared} (hh : A.handled = none) (hSf : S ∉ [z, TI, TO, i1, i2]) (hn : min xs.length ys.length ≤ 16777215)
    (Z : ZFill X pins a b S xs ys F0 H0 0 σ G H s []) (fp : ∀ c ∈ [z, TI, TO, i1, i2], FpOk X pins H c) (st : ZSt z TI TO i1 i2 a b 0 s.heap) {c₀ : Nat} (hS : s.heap.get? S = some { cls := .type "list", data := .seq #[] c₀ })
    (hR : ∀ G H s ts, ZFill X pins a b S xs ys F0 H0 (min xs.length ys.length) σ G H s ts → R (.ok (.ret res)) s) :
    wpAny (model X.prog X.w) A.in1 (Builtin.List.listExtendWith (.ref S) (.ref z) res)
      (fun fin s' => match fin with | .done f => R (.ok f) s' | .again c' => c'.quiet = true ∧ codeAny (model X.prog X.w) A c' R s') (fun e s' => R (.error e) s') s := by
  have hSz : S ≠ z := fun e => hSf (by simp [e])
  unfold Builtin.List.listExtendWith
  refine wpAny_bind (wpAny_typeOf st.ty ?_)
  have h1 : Builtin.List.listSameRef (.ref S) (.ref z) = false := by simp [Builtin.List.listSameRef, hSz]
  have h2 : (Value.type "zip" == Value.type "list") = false := by decide
  have h3 : (Value.type "zip" == Value.type "tuple") = false := by decide
  simp only [h1, h2, h3, Bool.or_false, Bool.false_eq_true, if_false]
  refine wpAny_bind ((turn_zipN (P := X.prog) (w := X.w) (K := X.K) (tx := "") (tpos := ⟨0, 0, 0, 0⟩) D).self _ 0 s _ _ st ?_)
  refine wpAny_bind (wpAny_holding ?_)
  unfold Builtin.List.listLengthHint
  refine wpAny_bind (wpAny_specialOf st.ty zip_no_len ?_)
  show wpAny _ A.in1 (specialOf (Value.ref z) (Str.ofString "__length_hint__") >>= _) _ _ _
  refine wpAny_bind (wpAny_specialOf st.ty zip_no_hint ?_)
  refine wpAny_pure ?_
  show wpAny _ A.in1 (rule "list.extend.makes-room" >>= fun _ => Builtin.List.listTouch (.ref S) >>= fun _ =>
    again (.builtin "list.extend.loop" ⟨[.ref S, .ref z, res], []⟩)) _ _ _
  refine wpAny_bind (wpAny_rule (wpAny_bind ?_))
  show wpAny _ A.in1 (updateSeq S (·.push .none) >>= fun _ => updateSeq S (·.pop)) _ _ _
  refine wpAny_bind (wpAny_updateSeq hS rfl ?_)
  have hS₂ := Heap.get?_update_self (Obj.mapSeq (·.push Value.none)) hS rfl
  refine wpAny_updateSeq (hz := by seq_fits) hS₂ rfl ?_
  have hS₃ := Heap.get?_update_self (Obj.mapSeq (·.pop)) hS₂ rfl
  have oth : ∀ b o, b ≠ S → s.heap.get? b = some o → ((s.heap.update S (Obj.mapSeq (·.push Value.none))).update S (Obj.mapSeq (·.pop))).get? b = some o :=
    fun b o hb e => (Heap.get?_update_other _ _ (Ne.symm hb)).trans ((Heap.get?_update_other _ _ (Ne.symm hb)).trans e)
  have st3 : ZSt z TI TO i1 i2 a b 0 ((s.heap.update S (Obj.mapSeq (·.push Value.none))).update S (Obj.mapSeq (·.pop))) := zs_keep D X st fun c hc o e => oth c o (fun q => hSf (by rw [← q]; exact hc)) e
  exact wpAny_pure ⟨plainId_quiet PySem.F.plain_extend_loop _, zl_loop D hh hSf hn hR _ 0 G H _ [] rfl (Nat.zero_le _) (zfill_at D (s := s) (h' := (s.heap.update S (Obj.mapSeq (·.push Value.none))).update S (Obj.mapSeq (·.pop))) (t' := s.toks) Z oth ⟨_, _, hS₃, rfl⟩) (fun c hc => ⟨fp c hc, zfp_keep D X st3 hc⟩) st3⟩
theorem zl_init {pins : List (Addr × Obj)} {S : Addr} {xs ys : List V} {F0 H0 : Hp} {σ : L2.St} {A : Around} {R : Result → Shared → Prop} {G H : Hp} {s : Shared} (hh : A.handled = none) (hSf : S ∉ [z, TI, TO, i1, i2]) (hn : min xs.length ys.length ≤ 16777215)
    (Z : ZFill X pins a b S xs ys F0 H0 0 σ G H s []) (fp : ∀ c ∈ [z, TI, TO, i1, i2], FpOk X pins H c) (st : ZSt z TI TO i1 i2 a b 0 s.heap) (hS : s.heap.get? S = some { cls := .type "list", data := .seq #[] })
    (hR : ∀ G H s ts, ZFill X pins a b S xs ys F0 H0 (min xs.length ys.length) σ G H s ts → R (.ok (.ret .none)) s) :
    wpAny (model X.prog X.w) A.in1 (Builtin.«list.__init__» ⟨[.ref S, .ref z], []⟩)
      (fun fin s' => match fin with | .done f => R (.ok f) s' | .again c' => c'.quiet = true ∧ codeAny (model X.prog X.w) A c' R s') (fun e s' => R (.error e) s') s := by
  show wpAny _ A.in1 (do let old ← Builtin.List.listItems (.ref S); Builtin.List.listUpdate (.ref S) (fun _ => #[]); letGo old.toList.reverse; Builtin.List.listExtendWith (.ref S) (.ref z) .none) _ _ s
  refine wpAny_bind ?_
  unfold Builtin.List.listItems
  refine wpAny_bind (wpAny_seqItems hS rfl (wpAny_pure ?_))
  show wpAny _ A.in1 (updateSeq S (fun _ => #[]) >>= fun _ => letGo (#[] : Array Value).toList.reverse >>= fun _ => Builtin.List.listExtendWith (.ref S) (.ref z) .none) _ _ s
  refine wpAny_bind (wpAny_updateSeq hS rfl ?_)
  have hS₂ := Heap.get?_update_self (Obj.mapSeq (fun _ => (#[] : Array Value))) hS rfl
  have oth : ∀ b o, b ≠ S → s.heap.get? b = some o → (s.heap.update S (Obj.mapSeq (fun _ => (#[] : Array Value)))).get? b = some o :=
    fun b o hb e => (Heap.get?_update_other _ _ (Ne.symm hb)).trans e
  refine wpAny_bind (wpAny_letGo ?_)
  exact zl_extend D hh hSf hn (zfill_at D (s := s) (h' := s.heap.update S (Obj.mapSeq (fun _ => (#[] : Array Value)))) (t' := s.toks) Z oth ⟨_, _, hS₂, rfl⟩) fp (zs_keep D X st fun c hc o e => oth c o (fun q => hSf (by rw [← q]; exact hc)) e) hS₂ hR
theorem zl_call {pins : List (Addr × Obj)} {xs ys : List V} {F0 H0 : Hp} {σ : L2.St} {A : Around} {E : Value → Shared → Prop} {Q : Value → Shared → Prop} {s : Shared} (hh : A.handled = none) (hn : min xs.length ys.length ≤ 16777215)
    (I : Inv X pins σ H0 s) (fp : ∀ c ∈ [z, TI, TO, i1, i2], FpOk X pins H0 c) (st : ZSt z TI TO i1 i2 a b 0 s.heap) (sx : Ex F0 H0) (xa : SqL X.K H0 a xs) (yb : SqL X.K H0 b ys)
    (hQ : ∀ G H s' ts, ZFill X pins a b s.heap.objs.size xs ys F0 H0 (min xs.length ys.length) σ G H s' ts → Q (.ref s.heap.objs.size) s') :
    wpAny (model X.prog X.w) A (call (.type "list") [.ref z]) Q E s := by
  have hSf : s.heap.objs.size ∉ [z, TI, TO, i1, i2] := fun hm => Nat.lt_irrefl _ (zfp_keep D X st hm)
  refine callType_codes (Q₁ := fun obj s₁ => obj = .ref s.heap.objs.size ∧ s₁ = { s with heap := s.heap.push { cls := .type "list", data := .seq #[] } }) PySem.F.called_list (PySem.F.typeCall_list_1 _) PySem.F.entry_list_init
    (code_list_new _ ⟨rfl, rfl⟩) fun obj s₁ h₁ => ?_
  obtain ⟨rfl, rfl⟩ := h₁
  have hS : (s.heap.push { cls := .type "list", data := .seq #[] }).get? s.heap.objs.size = some { cls := .type "list", data := .seq #[] } := Heap.get?_push_size _ rfl
  have up : ∀ c o, s.heap.get? c = some o → (s.heap.push { cls := .type "list", data := .seq #[] }).get? c = some o := fun c o e => Heap.get?_push_of_some _ e
  refine ⟨⟨_, hS, rfl⟩, PySem.F.args_list_init_2 _ _, zl_init D hh hSf hn (G := F0) (H := H0) ⟨I.kept (t' := s.toks) up, I.fpOk (Nat.le_refl _) (I.hok.fresh (Nat.le_refl _)), Gr.refl sx, xa, yb, ⟨_, _, hS, rfl⟩, rfl, fun j t h => by simp at h⟩ fp (zs_keep D X st fun c hc o e => up c o e) hS fun G H s' ts Z => ?_⟩
  exact ⟨rfl, hQ G H s' ts Z⟩
end
theorem refs_vals : ∀ ts : List Addr, Vals (ts.map V.ref) (ts.map Value.ref)
  | [] => .nil
  | t :: ts => .cons rfl (refs_vals ts)
section
variable {X : Cx} {Φ : List SD} {a b : Expr} {p p2 pos pos' : Pos}
theorem v_listZip {α β : Type} [Py α] [Py β] {xs : List α} {ys : List β} (B : Blt X.mg) (hc : X.calm = true) (ha : PV X Φ a xs) (hb : PV X Φ b ys) (hn : xs.length ≤ 16777215) (hg : Gl X "zip" := by rfl) (hgl : Gl X "list" := by rfl) (h1 : nst a = true := by rfl) (h2 : nst b = true := by rfl) :
    PN X Φ (.Call (.Name "list" p) [.Call (.Name "zip" p2) [a, b] [] pos'] [] pos) (xs.zip ys) := .mk fun H0 σ F H Q sx sl q => fun pins s I => by
  have args : wA X [a, b] σ H fun us H2 => ∃ F2 l m v1 v2, us = [.ref l, .ref m] ∧ Gr F H F2 H2 ∧ SqL X.K H2 l v1 ∧ SqL X.K H2 m v2 ∧ AllP (xs.map fun x => py X.K (enc x)) F2 v1 ∧ AllP (ys.map fun y => py X.K (enc y)) F2 v2 :=
    wA_of (pa_cons peW (pa_cons peW pa_nil (star_cons h2)) (star_cons h1)) (ha H0 σ F H _ sx sl fun v F1 H1 g1 p1 => hb H0 σ F1 H1 _ g1.s (sl.gr g1) fun w F2 H2 g2 q1 => by
      obtain ⟨l, vs, rfl, hl, p2⟩ := py_lst.mp p1
      obtain ⟨m, ws, rfl, hm, q2⟩ := py_lst.mp q1
      exact ⟨F2, l, m, vs, ws, rfl, g1.trans g2, SqL.of (g2.s _ _ (g2.f _ _ hl)), SqL.of (g2.s _ _ hm), p2.mono g2.f, q2⟩)
  have na : starEach [(.Call (.Name "zip" p2) [a, b] [] pos' : Expr)] X.env = (false, eval (.Call (.Name "zip" p2) [a, b] [] pos') X.env) :: starEach [] X.env := by rfl
  refine Call_ (ld_blt I hgl B.list boot_list (PyProof.Rows.callWith_type1 (args_cons ?_ na) na))
  refine Call_ (ld_blt I hg B.zip PyProof.Rows.boot_zip (PyProof.Rows.callWith_type1 (thn (args pos' pins s I) fun us s1 ⟨vs, H1, I1, r1, q1⟩ => ?_) (star_cons h1) (star_plain (by simp [h2]))))
  obtain ⟨F2, l, m, v1, v2, ex, g, hl, hm, al, am⟩ := q1
  subst ex
  cases r1 with
  | cons r rr =>
    cases rr with
    | cons r' rr =>
      cases rr
      cases r
      cases r'
      obtain ⟨its, rv, p1, _⟩ := I1.list hl
      obtain ⟨its2, rv2, pp2, _⟩ := I1.list hm
      refine call_zip_2 p1.isList pp2.isList fun h' hz hTI hTO i1 i2 hsz hk => args_nil ?_
      have I2 : Inv X pins σ H1 { s1 with heap := h' } := I1.kept (t' := s1.toks) hk
      have e1 : v1.length = xs.length := by simpa using al.1
      have e2 : v2.length = ys.length := by simpa using am.1
      have D := PySem.W.ktu_apart s1.heap.objs.size l m p1.lt pp2.lt
      refine zl_call D (X := X) (I1.ok.hd hc) (by omega) I2 (fun c hcm => ?_) ⟨.inl hz, hTI, ⟨_, _, hTO⟩, i1, i2⟩ g.s hl hm fun G H' s' ts Z => ?_
      · have hle : s1.heap.objs.size ≤ c := by
          simp only [List.mem_cons, List.not_mem_nil, or_false] at hcm
          rcases hcm with q | q | q | q | q <;> rw [q] <;> first | exact Nat.le_add_right _ _ | exact Nat.le_refl _
        exact I1.fpOk hle (I1.hok.fresh hle)
      · obtain ⟨acc, c, hS, hacc⟩ := Z.ls
        have hlen : ts.length ≤ 16777215 := by rw [Z.len]; omega
        have new : ObjOk X.prog X.w (upd H' h'.objs.size (.lst (ts.map V.ref))) s'.heap h'.objs.size (.lst (ts.map V.ref)) :=
          ⟨by rw [List.length_map, sizeLine_eq]; omega, acc.toList, c, by rw [hacc]; exact refs_vals ts, by rw [Array.toArray_toList]; exact hS⟩
        have It := Z.inv.take (h' := s'.heap) (t' := s'.toks) (fun _ _ _ e => e) Z.fs new
        have fr := Z.fs.1
        have gg := g.trans Z.gr
        refine ⟨.ref h'.objs.size, _, It, rfl, q _ (ts.map V.ref) G _ (gg.trans (Gr.own gg.s fr)) (fresh_of gg fr).2 (fresh_of gg fr).1 upd_same ⟨?_, fun j P v hP hv => ?_⟩⟩
        · show (ts.map V.ref).length = (List.map _ (xs.zip ys)).length
          rw [List.length_map, Z.len, List.length_map, List.length_zip]; omega
        · rw [List.getElem?_map] at hv
          obtain ⟨t, ht, rfl⟩ := Option.map_eq_some_iff.mp hv
          obtain ⟨x', y', ex', ey', eG⟩ := Z.tup j t ht
          have hP' : ((xs.zip ys).map fun z => py X.K (enc z))[j]? = some P := hP
          have hj := (List.getElem?_eq_some_iff.mp hP').1
          rw [List.length_map, List.length_zip] at hj
          have hxj : xs[j]? = some (xs[j]'(by omega)) := List.getElem?_eq_getElem (by omega)
          have hyj : ys[j]? = some (ys[j]'(by omega)) := List.getElem?_eq_getElem (by omega)
          have eP : P = py X.K (enc (xs[j]'(by omega), ys[j]'(by omega))) := by
            rw [List.getElem?_map, (List.getElem?_zip_eq_some (z := (xs[j]'(by omega), ys[j]'(by omega)))).mpr ⟨hxj, hyj⟩] at hP'
            exact (Option.some.inj hP').symm
          subst eP
          have px := al.2 j _ x' (by rw [List.getElem?_map, hxj]; rfl) ex'
          have py' := am.2 j _ y' (by rw [List.getElem?_map, hyj]; rfl) ey'
          exact .tup (SqT.of eG) (.cons (dq_mono Z.gr.f _ _ px) (.cons (dq_mono Z.gr.f _ _ py') .nil))
end
section
variable {X : Cx} {Wx : WX} {Φ : List SD} {x : Exn} {e : Expr} {es : List Expr} {p pos : Pos}
theorem pr_callT {y : Str} {T : String} (hg : Gl X y) (hm : X.mg y = none) (hv : bootBuiltins y = some (.type T)) (hn : y ≠ "__name__") (hd : (y == ("__debug__" : Str)) = false) (h1 : nst e = true) (h2 : es.all nst = true) (h : PRa X Wx Φ (e :: es) x) : PR X Wx Φ (.Call (.Name y p) (e :: es) [] pos) x := .mk fun H0 σ F H Q s sl q => fun pins st I => by
  refine Call_ (ld_blt I hg hm hv (PyProof.Rows.callWith_type1 (thn ((h.run H0 σ F H (fun _ _ => False) s sl q) pos pins st I) fun us s1 ⟨vs, H1, I1, r1, q1⟩ => q1.elim) (star_cons h1) (star_plain h2)) hn hd)
theorem pr_zip (B : Blt X.mg) (h : PRa X Wx Φ (e :: es) x) (hg : Gl X "zip" := by rfl) (h1 : nst e = true := by rfl) (h2 : es.all nst = true := by rfl) : PR X Wx Φ (.Call (.Name "zip" p) (e :: es) [] pos) x := pr_callT hg B.zip PyProof.Rows.boot_zip (by decide) (by decide) h1 h2 h
theorem pr_list (B : Blt X.mg) (h : PRa X Wx Φ (e :: es) x) (hg : Gl X "list" := by rfl) (h1 : nst e = true := by rfl) (h2 : es.all nst = true := by rfl) : PR X Wx Φ (.Call (.Name "list" p) (e :: es) [] pos) x := pr_callT hg B.list boot_list (by decide) (by decide) h1 h2 h
end
end GL

set_option Elab.async false
set_option linter.all false
set_option maxRecDepth 100000
set_option maxHeartbeats 4000000
namespace GL
open PySem PySem.Spec PyProof.Rows L2
open Evl (Ex ex_l ex_t)
/-! ### what pushes: a tuple that begins with a text -/
inductive Tag where
  | first
  | closed
  | gap
  deriving DecidableEq
instance : Inhabited Tag := ⟨.first⟩
def Tag.s : Tag → Str
  | .first => "first"
  | .closed => "closed"
  | .gap => "gap"
theorem Tag.s_inj : ∀ {x y : Tag}, x.s = y.s → x = y := fun {x y} h => by
  cases x <;> cases y <;> first | rfl | exact absurd h (by decide +kernel)
instance : Py Tag := ⟨fun t => .str t.s, fun t => by cases t <;> (simp only [PyData.canLay0]; decide +kernel), 0, fun t => by simp [PyData.depth]⟩
instance : PyQ Tag := ⟨fun x y => by
  simp only [enc, Py.enc, PyData.eqv, decide_eq_true_eq, beq_iff_eq]
  exact ⟨fun h => Tag.s_inj h, fun h => by rw [h]⟩⟩
inductive Psh where
  | first
  | closed (k : Int)
  | gap (j : Int)
  deriving DecidableEq
instance : Inhabited Psh := ⟨.first⟩
def Psh.tag : Psh → Tag
  | .first => .first
  | .closed _ => .closed
  | .gap _ => .gap
def Psh.num : Psh → Int
  | .first => 0
  | .closed k => k
  | .gap j => j
def Psh.nums : Psh → List Int
  | .first => []
  | .closed k => [k]
  | .gap j => [j]
def Psh.isF : Psh → Bool
  | .first => true
  | _ => false
instance : Py Psh := ⟨fun p => .tuple (enc p.tag :: p.nums.map enc), fun p => by
  have := Py.can p.tag
  cases p <;> simp [PyData.canLay0, PyData.canLayAll0, Psh.nums, Psh.tag] at this ⊢ <;> first | exact this | exact ⟨this, Py.can _⟩, 1, fun p => by
  have := Py.deep p.tag
  cases p <;> simp [PyData.depth, PyData.depthAll, Psh.nums, Psh.tag, enc, Py.enc] at this ⊢⟩
theorem psh_eq {p q : Psh} (h1 : p.tag = q.tag) (h2 : p.nums = q.nums) : p = q := by
  cases p <;> cases q <;> simp [Psh.tag, Psh.nums] at h1 h2 ⊢ <;> exact h2
instance : PyQ Psh := ⟨fun p q => by
  constructor
  · intro h
    have ht : PyData.eqv (enc p.tag) (enc q.tag) = true := by
      cases p <;> cases q <;> simp [enc, Py.enc, PyData.eqv, PyData.eqvAll, Psh.nums] at h ⊢ <;> first | exact h | exact h.1
    have ht := (PyQ.eqv _ _).mp ht
    refine psh_eq ht ?_
    cases p <;> cases q <;> simp [Psh.tag] at ht <;> simp [enc, Py.enc, PyData.eqv, PyData.eqvAll, Psh.nums] at h ⊢ <;> first | exact h | exact h.2
  · intro h
    subst h
    cases p <;> simp [enc, Py.enc, PyData.eqv, PyData.eqvAll, Psh.nums]⟩
section
variable {X : Cx} {Φ : List SD} {a e : Expr} {pos p p2 q1 : Pos} {x : Str} {i : Int}
theorem v_tag {j : Nat} (t : Tag) (h : x = t.s := by rfl) : PV X Φ (.Constant (.str x) j pos) t := .mk fun H0 σ F H Q s sl q => by
  subst h
  exact wE_of pe_str (q _ _ _ (Gr.refl s) (.str _))
theorem v_isiStr {dd : PyData} {k : Bool} (B : Blt X.mg) (ha : PEv X Φ a (py X.K dd)) (hk : kitB (tyN dd) "str" = some k := by rfl) (hgx : Gl X "str" := by rfl) (hg : Gl X "isinstance" := by rfl) (h1 : nst a = true := by rfl) : PV X Φ (.Call (.Name "isinstance" p) [a, .Name "str" p2] [] pos) k := v_isi B ha hk B.str (by decide +kernel) hgx hg h1
theorem v_pFirst {k : Nat} (ha : PV X Φ a Tag.first) (h1 : nst a = true := by rfl) : PV X Φ (.Tuple [a] k pos) Psh.first :=
  (v_tuple (as_cons ha as_nil h1)).imp fun _ _ z => py_tuple.mpr z
theorem v_pClosed {k : Nat} (ha : PV X Φ a Tag.closed) (hb : PV X Φ e i) (h1 : nst a = true := by rfl) (h2 : nst e = true := by rfl) : PV X Φ (.Tuple [a, e] k pos) (Psh.closed i) :=
  (v_tuple (as_cons ha (as_cons hb as_nil h2) h1)).imp fun _ _ z => py_tuple.mpr z
theorem v_pGap {k : Nat} (ha : PV X Φ a Tag.gap) (hb : PV X Φ e i) (h1 : nst a = true := by rfl) (h2 : nst e = true := by rfl) : PV X Φ (.Tuple [a, e] k pos) (Psh.gap i) :=
  (v_tuple (as_cons ha (as_cons hb as_nil h2) h1)).imp fun _ _ z => py_tuple.mpr z
theorem v_p0 {u : Psh} (h : PV X Φ a u) : PV X Φ (.Subscript a (.Constant (.int 0) 0 q1) pos) u.tag := v_fld 0 (q2 := pos) (ds := enc u.tag :: u.nums.map enc) h
theorem v_p1 {u : Psh} (hu : u.isF = false) (h : PV X Φ a u) : PV X Φ (.Subscript a (.Constant (.int 1) 0 q1) pos) u.num := by
  cases u with
  | first => cases hu
  | closed k => exact v_fld 1 (q2 := pos) (ds := [enc Tag.closed, enc k]) h
  | gap k => exact v_fld 1 (q2 := pos) (ds := [enc Tag.gap, enc k]) h
end
/-! ### xs.index(y) -/
section
variable {X : Cx} {Φ : List SD} {a e : Expr} {pos p apos : Pos}
theorem idx_spec {xs : List Int} {y : Int} (h : y ∈ xs) : xs[xs.idxOf y]? = some y ∧ ∀ (m : Nat) (z : Int), m < xs.idxOf y → xs[m]? = some z → z ≠ y := by
  induction xs with
  | nil => cases h
  | cons x xs ih =>
    by_cases e : x = y
    · subst e
      refine ⟨by simp, fun m z hm => by simp at hm⟩
    · have h2 : y ∈ xs := by
        rcases List.mem_cons.mp h with q | q
        · exact absurd q.symm e
        · exact q
      obtain ⟨i1, i2⟩ := ih h2
      have e2 : (x :: xs).idxOf y = xs.idxOf y + 1 := by
        rw [List.idxOf_cons]
        have : (x == y) = false := by simpa using e
        rw [this]; rfl
      rw [e2]
      refine ⟨by simpa using i1, fun m z hm hz => ?_⟩
      cases m with
      | zero => simp at hz; rw [← hz]; exact e
      | succ m => exact i2 m z (by omega) (by simpa using hz)
theorem v_index {xs : List Int} {y : Int} (ha : PL X Φ a xs) (hb : PV X Φ e y) (hm : y ∈ xs) (h2 : nst e = true := by rfl) (hbase : attributeBase a "index" X.env (eval a X.env) = eval a X.env := by rfl) (hl : (apos.endLine == pos.line) = true := by rfl) :
    PV X Φ (.Call (.Attribute a "index" apos) [e] [] pos) (xs.idxOf y : Int) := .mk fun H0 σ F H Q s sl q =>
  wE_of (pe_bm PySem.F.plainAttrs_list PySem.F.slot_list_index PySem.F.type_list_index mt_index peW (pa_cons peW pa_nil (star_cons h2)) hbase (few1 h2) hl (star_cons h2) rfl) (ha H0 σ F H _ s sl fun l vs F1 H1 g1 h1 p1 => by
    have ev := allP_ints p1
    subst ev
    refine ⟨.inl ⟨rfl, _, h1⟩, hb H0 σ F1 H1 _ g1.s (sl.gr g1) fun u F2 H2 g2 p2 => ?_⟩
    cases p2
    obtain ⟨i1, i2⟩ := idx_spec hm
    refine ⟨l, xs.map V.int, .int y, xs.idxOf y, .int y, rfl, rfl, ex_l g2.h h1, rfl, by rw [List.all_map]; exact List.all_eq_true.mpr fun _ _ => rfl, by rw [List.getElem?_map, i1]; rfl, by simp [eqV], fun m z hm hz => ?_, q _ _ _ (g1.trans g2) (.int _)⟩
    rw [List.getElem?_map] at hz
    obtain ⟨w, hw, rfl⟩ := Option.map_eq_some_iff.mp hz
    have := i2 m w hm hw
    simpa [eqV] using this)
end
/-! ### a slice of any tuple -/
section
variable {X : Cx} {Φ : List SD} {a : Expr} {pos p2 q1 : Pos}
theorem v_slD {ds : List PyData} {lo hi : Option Expr} {l h : Option Int} (ha : PEv X Φ a (py X.K (.tuple ds))) (h1 : PO' X Φ lo l) (h2 : PO' X Φ hi h) : PEv X Φ (.Subscript a (.Slice lo hi none p2) pos) (py X.K (.tuple (slc ds l h))) := .mk fun H0 σ F H Q s sl q => by
  have step : ∀ (o : Option Expr) (v : Option Int), PO' X Φ o v → ∃ t : TO, PO X o t ∧ ∀ (F H : Hp) (R : Option Int → Hp → Prop), Ex F H → Sl H0 Φ σ F H → (∀ F' H', Gr F H F' H' → R v H') → t σ H R := fun o v hv => by
    cases o with
    | none =>
      cases v with
      | none => exact ⟨_, po_none, fun F H R s sl r => r F H (Gr.refl s)⟩
      | some i => exact hv.elim
    | some e =>
      cases v with
      | none => exact hv.elim
      | some i => exact ⟨_, po_some peW, fun F H R s sl r => (show PV X Φ e i from hv) H0 σ F H _ s sl fun v F' H' g z => by cases z; exact ⟨i, rfl, r F' H' g⟩⟩
  obtain ⟨t1, k1, r1⟩ := step _ _ h1
  obtain ⟨t2, k2, r2⟩ := step _ _ h2
  refine wE_of (pe_slice sl_tupA peW k1 k2) (ha H0 σ F H _ s sl fun x F1 H1 g1 hx => r1 F1 H1 _ g1.s (sl.gr g1) fun F2 H2 g2 => r2 F2 H2 _ g2.s ((sl.gr g1).gr g2) fun F3 H3 g3 => ?_)
  obtain ⟨t, vs, rfl, ht, p1⟩ := py_tuple.mp hx
  have g := (g1.trans g2).trans g3
  have hl : vs.length = ds.length := by simpa using p1.1
  refine ⟨t, vs, rfl, ex_t (g1.s.trans (g2.trans g3).h) ht, fun w => ?_, fun w u hu => ?_⟩
  · refine q _ F3 H3 g (py_tuple.mpr ⟨t, vs, rfl, ex_t (g2.trans g3).f ht, ?_⟩)
    rw [hl] at w
    rw [slc_all w]
    exact p1.mono (g2.trans g3).f
  · refine q _ _ _ (g.trans (Gr.new g.s hu)) (py_tuple.mpr ⟨u, _, rfl, SqT.of upd_same, ?_⟩)
    have := ((p1.mono (g2.trans g3).f).mono (Gr.new (o := .tup (cutV vs l h)) g.s hu).f).slc l h
    rw [slc_map] at this
    exact this
theorem v_pRest {u : Psh} (h : PV X Φ a u) : PV X Φ (.Subscript a (.Slice (some (.Constant (.int 1) 0 q1)) none none p2) pos) (Tup.mk u.nums) := by
  have := v_slD (X := X) (Φ := Φ) (pos := pos) (p2 := p2) (ds := enc u.tag :: u.nums.map enc) (lo := some (.Constant (.int 1) 0 q1)) (hi := none) (l := some 1) (h := none) h (show PV X Φ _ (1 : Int) from v_int) trivial
  rw [slc_from _ (by omega)] at this
  exact this
end
end GL

set_option Elab.async false
set_option linter.all false
set_option maxRecDepth 100000
set_option maxHeartbeats 4000000
namespace GL
open PySem PySem.Spec PyProof.Rows L2
open Evl (Ex ex_l ex_t)
/-! ### enumerate of a tuple, zip of two tuples -/
set_option maxHeartbeats 1000000 in
theorem enum_new1 {v : Value} {o : Obj} {hv : Heap → Prop} (B : Begins v o hv) : Meets (Builtin.«enumerate.__new__» ⟨[.type "enumerate", v], []⟩) (fun _ R s => hv s.heap ∧
    R (.ok (.ret (.ref (s.heap.push o).objs.size))) { s with heap := (s.heap.push o).push { cls := .type "enumerate", data := .fields #[.none, .bool false, .ref s.heap.objs.size, rawInt 0, .none, .none] } }) :=
  .of_wp fun prog w A R s hyp => by
    rcases s with ⟨hp, gs, dr, tk, os⟩
    have ht := hyp.1
    have hR := hyp.2
    have sub0 := sub_enumerate
    have step : ∀ {A' : Around} {E Q : Value → Shared → Prop}, Q (.ref hp.objs.size) ⟨hp.push o, gs, dr, tk, os⟩ → wpAny (model prog w) A' (pyIter v) Q E ⟨hp, gs, dr, tk, os⟩ := fun q => B.iter prog w _ _ ⟨hp, gs, dr, tk, os⟩ _ ht q
    wp_walk using step
    refine wpAny_stack_any fun _ => wpAny_pure ?_
    split
    next c _ _ _ _ _ => cases (c == Value.type "enumerate") <;> (wp_walk using step; exact ⟨_, rfl, hR⟩)
    next => wp_walk using step; exact ⟨_, rfl, hR⟩
section
variable {prog : Program} {w : World} {A : Around} {E : Value → Shared → Prop} {s : Shared}
theorem call_enumT {t : Addr} {items : Array Value} {Q : Value → Shared → Prop} (hl : s.heap.IsTuple t items)
    (h : ∀ h', IsEnum h' (s.heap.objs.size + 1) s.heap.objs.size 0 .none → h'.IsTupleIter s.heap.objs.size t 0 → h'.objs.size = s.heap.objs.size + 2 → (∀ b u, s.heap.get? b = some u → h'.get? b = some u) → Q (.ref (s.heap.objs.size + 1)) { s with heap := h' }) :
    wpAny (model prog w) A (call (.type "enumerate") [.ref t]) Q E s := by
  have n1 : (s.heap.push { cls := .type "tuple_iterator", data := .fields #[.ref t, .int 0 0] }).objs.size = s.heap.objs.size + 1 := Heap.size_push ..
  refine callType_new F.called_enumerate (by decide) (F.typeCall_enumerate_1 _) (F.newCall_enumerate_1 _) (fun ob => F.args_object_init_2 ob _) F.entry_enumerate_new (enum_new1 (begins_tuple t items)) ⟨hl, ?_⟩
  have n2 := Heap.get?_push_size (s.heap.push { cls := .type "tuple_iterator", data := .fields #[.ref t, .int 0 0] }) (o := { cls := .type "enumerate", data := .fields #[.none, .bool false, .ref s.heap.objs.size, rawInt 0, .none, .none] }) rfl
  rw [n1] at n2
  show _ ∧ _
  rw [n1]
  exact ⟨⟨_, n2, rfl⟩, h _ n2 ⟨_, Heap.get?_push_of_some _ (Heap.get?_push_size _ rfl), rfl, rfl⟩ (by rw [Heap.size_push, n1]) fun b u x => Heap.get?_push_of_some _ (Heap.get?_push_of_some _ x)⟩
end
/-- the tuple at a, each item in a new pair behind its number -/
def IteT (K : Fg) (a : Addr) : It where
  go := fun i H => ∃ (xs : List V) (x : V), SqT K H a xs ∧ xs[i]? = some x
  yld := fun i H v H' => ∃ T x, v = .ref T ∧ H T = none ∧ H' = upd H T (.tup [.int (i : Nat), x]) ∧ ∀ xs, SqT K H a xs → xs[i]? = some x
  stop := fun i H => ∃ xs : List V, SqT K H a xs ∧ xs.length ≤ i
theorem turn_enumT {P : Program} {w : World} {K : Fg} {elts : List Expr} {kk : Nat} {tpos : Pos} (a e it : Addr) :
    Turn P w K (.Tuple elts kk tpos) (IteT K a) [e, it] e (fun i h => (∃ old, IsEnum h e it ((i : Nat) : Int) old) ∧ h.IsTupleIter it a i ∧ e ≠ it) := by
  have cls2 : ∀ {h : Heap} {old : Value} {i : Int} {items : Array Value}, IsEnum h e it i old → h.IsTuple a items → a ≠ e := fun he ht z => by
    subst z
    rcases ht with ⟨o, h1, h2, _⟩
    rw [he] at h1; cases h1
    exact absurd (Value.type.inj h2) (by decide)
  have cls3 : ∀ {h : Heap} {i : Nat} {items : Array Value}, h.IsTupleIter it a i → h.IsTuple a items → a ≠ it := fun hi ht z => by
    rcases ht with ⟨o, h1, h2, _⟩
    rcases hi with ⟨o', h1', h2', _⟩
    rw [← z] at h1'
    rw [h1] at h1'; cases h1'
    rw [h2] at h2'
    exact absurd (Value.type.inj h2') (by decide)
  refine ⟨List.mem_cons_self .., ?_, ?_, ?_, ?_, ?_⟩
  · rintro i h ⟨⟨old, he⟩, ⟨o, h1, h2, h3⟩, _⟩ b hb
    simp only [List.mem_cons, List.not_mem_nil, or_false] at hb
    rcases hb with rfl | rfl
    · exact ⟨_, he, fun v q => nomatch q⟩
    · exact ⟨o, h1, fun v q => by rw [h3] at q; cases q⟩
  · rintro i h h' ⟨⟨old, he⟩, hi, hne⟩ k
    exact ⟨⟨old, k e (by simp) _ he⟩, hi.at fun o q => k it (by simp) o q, hne⟩
  · intro X hP hw hK hc i pins s σ H E I hf st hg
    subst hP hw hK
    rcases st with ⟨⟨old, he⟩, hit, hne⟩
    rcases hg with ⟨xs, x, hq, hx⟩
    rcases I.tuple hq with ⟨its, rv, p, _⟩
    have p : s.heap.IsTuple a its.toArray := p
    rcases rv.get hx with ⟨u, hu, ru⟩
    have le := Heap.lt_size he
    have li : it < s.heap.objs.size := by rcases hit with ⟨_, q, _⟩; exact Heap.lt_size q
    have hlt : i < its.toArray.size := by
      have := (List.getElem?_eq_some_iff.mp hu).1
      simpa using this
    have D := Draws.tuple (prog := X.prog) (w := X.w) (A := X.A.in1) (show X.A.in1.handled = none from I.ok.hd hc) it a (cls3 hit p) its.toArray
    refine wpAny_pyNext_enum_itemD D he ⟨hit, p⟩ hlt hne (fun z => ?_) fun y h' tk hy ho st' hT hsz hk => ?_
    · simp only [List.mem_cons, List.not_mem_nil, or_false] at z
      rcases z with z | z
      · exact hne z
      · exact cls2 he p z.symm
    · have ey : y = u := by
        have hy : its.toArray[i]? = some y := hy
        rw [List.getElem?_toArray, hu] at hy
        exact (Option.some.inj hy).symm
      subst ey
      refine ⟨_, rfl, wpAny_letOwnedTupleGo_enum (s := { s with heap := h', toks := tk + 1 }) ho fun h2 he2 sb => ?_⟩
      have hT2 : h2.get? s.heap.objs.size = some { cls := .type "tuple", data := .seq #[.int i tk, y] } := (sb.2 _ (Nat.ne_of_gt le)).trans hT
      have I1 : Inv X pins σ (upd H s.heap.objs.size (.tup [.int (i : Nat), x])) { s with heap := h2, toks := tk + 1 } :=
        I.turnedNew (ch := [e, it]) (fun b ob hb q => (sb.2 b (fun z => hb (by simp [z]))).trans (hk b ob (fun z => hb (by simp [z])) (fun z => hb (by simp [z])) q)) hf (Nat.le_refl _)
          ⟨by show 2 ≤ sizeLine; decide, [.int i tk, y], .cons ⟨_, rfl⟩ (.cons ru .nil), ⟨_, hT2, rfl, _, rfl⟩⟩
      refine ⟨.ref s.heap.objs.size, _, I1, rfl, ⟨_, x, rfl, I.hok.fresh (Nat.le_refl _), rfl, fun ys hys => by rw [I.tuple_inj hys hq]; exact hx⟩, ⟨⟨y, ?_⟩, st'.1.at fun o q => (sb.2 it (Ne.symm hne)).trans q, hne⟩, fun b hb => ?_⟩
      · rw [show ((i + 1 : Nat) : Int) = (i : Int) + 1 by omega]; exact he2
      · have hlt : b < s.heap.objs.size := by
          simp only [List.mem_cons, List.not_mem_nil, or_false] at hb
          rcases hb with z | z <;> rw [z] <;> assumption
        rw [upd_ne (Nat.ne_of_lt hlt)]
        exact (hf b hb).1
  · intro X hP hw hK hc i pins s σ H E I hf st hg
    subst hP hw hK
    rcases st with ⟨⟨old, he⟩, hit, hne⟩
    rcases hg with ⟨xs, hq, hx⟩
    rcases I.tuple hq with ⟨its, rv, p, _⟩
    have p : s.heap.IsTuple a its.toArray := p
    rcases hf it (by simp) with ⟨f0, f1, f2, f3, f4, f5⟩
    have hl := rv.length
    -- it stands at the end or behind it
    exact wpAny_pyNext_enum_endD (fp := [it, a]) (n := i) (P := fun _ _ => False) (St := fun j h => j = i ∧ h.IsTupleIter it a i ∧ h.IsTuple a its.toArray) ⟨fun j h z => by rcases z with ⟨_, ⟨o, ho, _⟩, _⟩; exact ⟨o, ho⟩,
      fun j h h' z k => ⟨z.1, z.2.1.at fun o q => k it (by simp) o q, z.2.2.at fun o q => k a (by simp) o q⟩, fun j s Q E' hj z _ => by have := z.1; omega,
      fun s Q E' z hE => wpAny_nextOf_tuple_end (I.ok.hd hc) z.2.1 z.2.2 (by simp; omega) hE⟩ he ⟨rfl, hit, p⟩ fun h' eb => ⟨rfl, I.turned (t' := s.toks) (fun b o hb q => eb b o hb q) f0 f1 f3 f4 f5⟩
  · rintro A i s Q E ⟨⟨_, he⟩, _⟩ h
    exact wpAny_pyIter_enum he h
/-- for .. in enumerate(a tuple) -/
theorem pi_enumT {X : Cx} {e : Expr} {ta : TA} {p pos tpos : Pos} {elts : List Expr} {kk : Nat} (hg : Gl X "enumerate") (hm : X.mg "enumerate" = none) (ha : PA X [e] ta) (hs : starEach [e] X.env = [(false, eval e X.env)]) :
    PI X (.Tuple elts kk tpos) (.Call (.Name "enumerate" p) [e] [] pos) (fun σ H R => ta σ H fun vs H1 => ∃ a xs, vs = [.ref a] ∧ SqT X.K H1 a xs ∧ R (IteT X.K a) H1) := by
  constructor
  intro pins s σ H R I h
  refine Call_ (ld_blt I hg hm boot_enumerate (PyProof.Rows.callWith_type1 (thn (ha.run pos pins s σ H _ I h) fun us s1 hh => ?_) hs rfl))
  rcases hh with ⟨vs, H1, I1, r1, a, xs, rfl, hq, q⟩
  rw [Vals.ref1 r1]
  rcases I1.tuple hq with ⟨its, rv, p', _⟩
  refine call_enumT (show s1.heap.IsTuple a its.toArray from p') fun h' he hit hsz hk => wpAny_pyIter_enum he ?_
  refine ⟨s1.heap.objs.size + 1, [s1.heap.objs.size + 1, s1.heap.objs.size], _, _, H1, rfl, I1.kept (t' := s1.toks) hk, turn_enumT a (s1.heap.objs.size + 1) s1.heap.objs.size, ⟨⟨.none, he⟩, hit, Nat.succ_ne_self _⟩, fun b hb => ?_, q⟩
  have hle : s1.heap.objs.size ≤ b := by
    simp only [List.mem_cons, List.not_mem_nil, or_false] at hb
    rcases hb with z | z <;> rw [z]
    · exact Nat.le_succ _
    · exact Nat.le_refl _
  exact I1.fpOk hle (I1.hok.fresh hle)
section
variable {X : Cx} {Φ : List SD} {a b e : Expr} {pos p : Pos}
theorem i_enumT {α : Type} [Py α] {xs : Tup α} {elts : List Expr} {kk : Nat} {tpos : Pos} (B : Blt X.mg) (ha : PV X Φ e xs) (hg : Gl X "enumerate" := by rfl) (h1 : nst e = true := by rfl) : PIt X Φ (.Tuple elts kk tpos) (.Call (.Name "enumerate" p) [e] [] pos) (enumL xs.l) := .mk fun H0 σ F H R s sl q =>
  wI_of (pi_enumT hg B.enumerate paW (by rw [star_cons h1]; rfl)) (wA_one h1 (ha H0 σ F H _ s sl fun v F1 H1 g1 p1 => by
    obtain ⟨t, vs, rfl, ht, p2⟩ := py_tup.mp p1
    have n1 : vs.length = xs.l.length := by simpa using p2.1
    refine ⟨t, vs, rfl, ex_t g1.s ht, q _ F1 H1 g1 ⟨fun n P F2 H2 hp e1 e2 => ?_, fun F2 H2 e1 e2 => ⟨vs, ex_t e2 (ex_t e1 ht), by simp [enumL_length, n1]⟩⟩⟩
    have hn := (List.getElem?_eq_some_iff.mp hp).1
    rw [List.length_map, enumL_length] at hn
    obtain ⟨v, hv, pv⟩ := allP_at (n := n) p2 (by rw [List.getElem?_map, List.getElem?_eq_getElem hn]; rfl)
    rw [List.getElem?_map, enumL_get (List.getElem?_eq_getElem hn)] at hp
    have eP := (Option.some.inj hp).symm
    subst eP
    refine ⟨⟨vs, v, ex_t e2 (ex_t e1 ht), hv⟩, fun u H3 y => ?_⟩
    obtain ⟨T, x, rfl, hT, rfl, z⟩ := y
    have z := z vs (ex_t e2 (ex_t e1 ht))
    rw [hv] at z; cases z
    exact ⟨_, Gr.new e2 hT, .tup (SqT.of upd_same) (.cons (.int _) (.cons (dq_mono (e1.trans (Gr.new (o := .tup [.int (n : Nat), v]) e2 hT).f) _ _ pv) .nil))⟩))
theorem i_zipT {α β : Type} [Py α] [Py β] {xs : Tup α} {ys : Tup β} {elts : List Expr} {kk : Nat} {tpos : Pos} (B : Blt X.mg) (ha : PV X Φ a xs) (hb : PV X Φ b ys) (hg : Gl X "zip" := by rfl) (h1 : nst a = true := by rfl) (h2 : nst b = true := by rfl) :
    PIt X Φ (.Tuple elts kk tpos) (.Call (.Name "zip" p) [a, b] [] pos) (xs.l.zip ys.l) := .mk fun H0 σ F H R s sl q =>
  wI_of (RZ.pi_zipA hg B.zip paW (star_cons h1) (star_plain (by simp [h2]))) (wA_of (pa_cons peW (pa_cons peW pa_nil (star_cons h2)) (star_cons h1)) (ha H0 σ F H _ s sl fun v F1 H1 g1 p1 => hb H0 σ F1 H1 _ g1.s (sl.gr g1) fun w F2 H2 g2 q1 => by
    obtain ⟨l, vs, rfl, hl, p2⟩ := py_tup.mp p1
    obtain ⟨m, ws, rfl, hm, q2⟩ := py_tup.mp q1
    have n1 : vs.length = xs.l.length := by simpa using p2.1
    have n2 : ws.length = ys.l.length := by simpa using q2.1
    have hl2 := ex_t g2.f hl
    have p3 := p2.mono g2.f
    refine ⟨l, m, vs, ws, rfl, .inr ⟨ex_t g2.s hl2, ex_t g2.s hm, q _ F2 H2 (g1.trans g2) ⟨fun n P F3 H3 hp e1 e2 => ?_, fun F3 H3 e1 e2 => ⟨vs, ws, ex_t e2 (ex_t e1 hl2), ex_t e2 (ex_t e1 hm), by rw [List.length_map, List.length_zip]; omega⟩⟩⟩⟩
    have hn := (List.getElem?_eq_some_iff.mp hp).1
    rw [List.length_map, List.length_zip] at hn
    have nx : n < xs.l.length := by omega
    have ny : n < ys.l.length := by omega
    obtain ⟨v, hv, pv⟩ := allP_at (n := n) p3 (by rw [List.getElem?_map, List.getElem?_eq_getElem nx]; rfl)
    obtain ⟨w, hw, pw⟩ := allP_at (n := n) q2 (by rw [List.getElem?_map, List.getElem?_eq_getElem ny]; rfl)
    rw [List.getElem?_map, (List.getElem?_zip_eq_some (z := (xs.l[n], ys.l[n]))).mpr ⟨List.getElem?_eq_getElem nx, List.getElem?_eq_getElem ny⟩] at hp
    have eP := (Option.some.inj hp).symm
    subst eP
    refine ⟨⟨vs, ws, v, w, ex_t e2 (ex_t e1 hl2), ex_t e2 (ex_t e1 hm), hv, hw⟩, fun u H4 y => ?_⟩
    obtain ⟨T, x, x', rfl, hT, rfl, z, z'⟩ := y
    have z := z vs (ex_t e2 (ex_t e1 hl2))
    have z' := z' ws (ex_t e2 (ex_t e1 hm))
    rw [hv] at z; cases z
    rw [hw] at z'; cases z'
    have ee := e1.trans (Gr.new (o := .tup [v, w]) e2 hT).f
    exact ⟨_, Gr.new e2 hT, .tup (SqT.of upd_same) (.cons (dq_mono ee _ _ pv) (.cons (dq_mono ee _ _ pw) .nil))⟩))
end
end GL

set_option Elab.async false
set_option linter.all false
set_option maxRecDepth 100000
set_option maxHeartbeats 4000000
namespace GL
open PySem PySem.Spec PyProof.Rows L2
open Evl (Ex ex_l ex_t)
/-! ### things of one's own, of any make -/
/-- an expression that gives a new object -/
structure PEo (X : Cx) (Φ : List SD) (e : Expr) (P : OP) : Prop where
  run : ∀ (H0 : Hp) (σ : L2.St) (F H : Hp) (Q : VK), Ex F H → Sl H0 Φ σ F H → (∀ a F' H', Gr F H F' H' → (P.fp H' a).Nodup → (∀ b ∈ P.fp H' a, H b = none ∧ F' b = none ∧ H' b ≠ none) → P.p F' H' a → Q (.ref a) H') → wE X e σ H Q
theorem gr_none {F H F' H' : Hp} (g : Gr F H F' H') {a : Addr} (h : H' a = none) : H a = none := by
  cases e : H a with
  | none => rfl
  | some u => rw [g.h a u e] at h; cases h
theorem hp_none {F H : Hp} (g : Ex F H) {a : Addr} (h : H a = none) : F a = none := by
  cases e : F a with
  | none => rfl
  | some u => rw [g a u e] at h; cases h
/-- what wasn't there isn't any slot's -/
theorem Sl.newO {H0 F H F' H' : Hp} {Φ : List SD} {σ : L2.St} (h : Sl H0 Φ σ F H) (g : Gr F H F' H') {j : Nat} {e : SD} {o : Option V} {a : Addr} (x : Φ[j]? = some e) (y : σ[j]? = some o) (hl : H a = none) : a ∉ e.fo H' o := fun z => by
  rw [(SD.ok_gr' g (h.at_ j e o x y)).2] at z
  exact (SD.alive (h.at_ j e o x y) z).2.2 hl
theorem Sl.setOb {H0 F H F' H' : Hp} {Φ : List SD} {σ : L2.St} {i : Nat} {P : OP} {a : Addr} (h : Sl H0 Φ σ F H) (g : Gr F H F' H') (g0 : Ex H0 H) (n1 : (P.fp H' a).Nodup) (n2 : ∀ b ∈ P.fp H' a, H b = none ∧ F' b = none ∧ H' b ≠ none) (hp : P.p F' H' a) : Sl H0 (Φ.set i (.ob P)) (σ.set i (some (.ref a))) F' H' :=
  (h.gr g).put ⟨a, rfl, n1, fun b hb => ⟨hp_none g0 (n2 b hb).1, (n2 b hb).2⟩, hp⟩ fun j e o' b hj x y p q => h.newO g x y (n2 b p).1 q
section
variable {X : Cx} {W : XK} {S R β : Type} {Φ : List SD} {Mm : S → List SD} {T : R → RS} {a b c e : Expr} {es : List Expr} {pos p p2 : Pos} {P : OP} {i j : Int} {tg iter : Expr} {A : List Stmt} {r : List (List Stmt)} {o : Ctl S R}
/-- x = e, a new object -/
theorem h_setO (n : Nat) {x : Str} (hN : X.N.Nodup) (he : PEo X Φ e P) (h : HB X W (A :: r) (Φ.set n (.ob P)) Mm T o) (hi : X.N[n]? = some x := by rfl) (hx : Loc X.env.scope x := by first | exact Or.inl rfl | exact Or.inr rfl) (hs : swapsWith e (some (.Name x p)) pos.line X.env = pure false := by rfl)
    (hf : X.fn x = true ∨ X.env.scope.names.lookup x = some .local := by first | exact .inl rfl | exact .inr rfl) : HB X W ((.Assign [.Name x p] e pos :: A) :: r) Φ Mm T o := .mk fun F0 H0 D σ F H g sl k =>
  wK_cons (wS_of (ps_set hN hi hx peW hs hf) (he.run H0 σ F H _ g.s sl fun l F1 H1 g1 n1 n2 hp => h F0 H0 D _ F1 H1 (g.trans g1) (sl.setOb g1 g.h n1 n2 hp) k))
/-- return x, one's own object -/
theorem h_retOb (n : Nat) {v : R} {x : Str} (ho : Φ[n]? = some (.ob P) := by rfl) (hT : T v = .ob P := by rfl) (hN : X.N[n]? = some x := by rfl) (hv : Vis X.env.scope x := by first | exact Or.inl rfl | exact Or.inr (Or.inl rfl) | exact Or.inr (Or.inr rfl)) (hd : (x == ("__debug__" : Str)) = false := by decide)
    (hcd : (x == ("__classdict__" : Str)) = false := by decide) : HB X W ((.Return (some (.Name x p)) pos :: A) :: r) Φ Mm T (.rt v) := .mk fun F0 H0 D σ F H g sl k => by
  obtain ⟨l, h1, h2, h3, h4⟩ := sl.ob ho
  have k' : (RS.ob P).sat F0 H0 D.rt W := by rw [← hT]; exact k
  exact wK_cons (wS_of (ps_ret (pe_var hN hv hd hcd)) ⟨_, h1, k' l F H g h2 h3 h4⟩)
theorem h_retO {v : R} (he : PEo X Φ e P) (hT : T v = .ob P := by rfl) : HB X W ((.Return (some e) pos :: A) :: r) Φ Mm T (.rt v) := .mk fun F0 H0 D σ F H g sl k => by
  have k' : (RS.ob P).sat F0 H0 D.rt W := by rw [← hT]; exact k
  exact wK_cons (wS_of (ps_ret peW) (he.run H0 σ F H _ g.s sl fun l F1 H1 g1 n1 n2 hp => k' l F1 H1 (g.trans g1) n1 (fun b hb => ⟨hp_none g.h (n2 b hb).1, (n2 b hb).2⟩) hp))
theorem v_callO {A ρ : Type} [Inhabited ρ] {argP : A → List MP} {m : A → M ρ} {P : ρ → OP} {x : Str} {CX : CXT} {n : Nat} {p1 : Pos} {t : ρ} (G : FnG X.prog X.w X.K X.mg X.base CX n x (spG argP (fun z => (m z).Ok) fun z => .ob (P (m z).get))) (hr : Room n X.A) (hx : Passes CX X E0) (z : A) (ht : m z = .ok t)
    (ha : PAs X Φ (e :: es) (argP z)) (hg : Gl X x := by rfl) (hd : (x == ("__debug__" : Str)) = false := by decide) (hst : (e :: es).all nst = true := by rfl) : PEo X Φ (.Call (.Name x p1) (e :: es) [] pos) (P t) := ⟨fun H0 σ F H Q s sl q =>
  wE_call G hr hx hg hd hst (ha.run H0 σ F H _ s sl fun vs F1 H1 g1 p1 => ⟨z, F1, g1.s, p1, ⟨t, ht⟩, by
    have e : P (m z).get = P t := by rw [ht]; rfl
    show (RS.ob (P (m z).get)).sat F1 H1 _ _
    rw [e]
    exact fun l F2 H2 g2 n1 n2 hp => q l F2 H2 (g1.trans g2) n1 (fun b hb => ⟨gr_none g1 (n2 b hb).1, (n2 b hb).2⟩) hp⟩)⟩
end
end GL

set_option Elab.async false
set_option linter.all false
set_option maxRecDepth 100000
set_option maxHeartbeats 4000000
namespace GL
open PySem PySem.Spec PyProof.Rows L2
open Evl (Ex ex_l ex_t)
/-! ### a list of lists, all one's own -/
def refA : V → Option Addr
  | .ref a => some a
  | _ => none
theorem refs_filter (bs : List Addr) : (bs.map V.ref).filterMap refA = bs := by
  induction bs with
  | nil => rfl
  | cons b bs ih => rw [List.map_cons, List.filterMap_cons]; show b :: _ = _; rw [ih]
def rowsFp (H : Hp) (l : Addr) : List Addr := l :: (match H l with
  | some (.lst vs) => vs.filterMap refA
  | _ => [])
def RowsAt (F H : Hp) (l : Addr) (Pss : List (List MP)) : Prop := ∃ bs : List Addr, H l = some (.lst (bs.map V.ref)) ∧ bs.length = Pss.length ∧ ∀ (i : Nat) (b : Addr) (Ps : List MP), bs[i]? = some b → Pss[i]? = some Ps → ∃ ws, H b = some (.lst ws) ∧ AllP Ps F ws
theorem rowsFp_eq {H : Hp} {l : Addr} {bs : List Addr} (h : H l = some (.lst (bs.map V.ref))) : rowsFp H l = l :: bs := by
  unfold rowsFp; rw [h]; simp only []; rw [refs_filter]
theorem RowsAt.at_ {F H : Hp} {l : Addr} {Pss : List (List MP)} {bs : List Addr} (hl : bs.length = Pss.length) (hr : ∀ (i : Nat) (b : Addr) (Ps : List MP), bs[i]? = some b → Pss[i]? = some Ps → ∃ ws, H b = some (.lst ws) ∧ AllP Ps F ws) {b : Addr} (hb : b ∈ bs) : ∃ ws, H b = some (.lst ws) := by
  obtain ⟨i, hi, e⟩ := List.getElem_of_mem hb
  obtain ⟨ws, h, _⟩ := hr i b Pss[i] (by rw [List.getElem?_eq_getElem hi, e]) (List.getElem?_eq_getElem (by omega))
  exact ⟨ws, h⟩
def rowsO (Pss : List (List MP)) : OP where
  fp := rowsFp
  p := fun F H l => RowsAt F H l Pss
  self := fun H l => List.mem_cons_self ..
  fpk := fun H H' l e => by unfold rowsFp; rw [e]
  frame := fun F F' H H' l hF hk ⟨bs, h1, h2, h3⟩ => by
    have e := rowsFp_eq h1
    refine ⟨bs, by rw [hk l (by rw [e]; exact List.mem_cons_self ..)]; exact h1, h2, fun i b Ps x y => ?_⟩
    obtain ⟨ws, h4, h5⟩ := h3 i b Ps x y
    exact ⟨ws, by rw [hk b (by rw [e]; exact List.mem_cons_of_mem _ (List.mem_of_getElem? x))]; exact h4, h5.mono hF⟩
  lay := fun F H l ⟨bs, h1, h2, h3⟩ a ha fs z => by
    rw [rowsFp_eq h1] at ha
    rcases List.mem_cons.mp ha with e | e
    · rw [e, h1] at z; cases z
    · obtain ⟨ws, h4⟩ := RowsAt.at_ h2 h3 (l := l) e
      rw [h4] at z; cases z
abbrev rowsP (K : Fg) {α : Type} [Py α] (xss : List (List α)) : OP := rowsO (xss.map fun xs => rps K xs)
abbrev sR (K : Fg) {α : Type} [Py α] (xss : List (List α)) : SD := .ob (rowsP K xss)
section
variable {X : Cx} {W : XK} {S R : Type} {Φ : List SD} {Mm : S → List SD} {T : R → RS} {a b c e : Expr} {es : List Expr} {pos p p2 : Pos} {i j : Int} {tg iter elt : Expr} {A : List Stmt} {r : List (List Stmt)} {o : Ctl S R} {scope : Scope}
/-- [a new list for .. in ..] -/
theorem lc_rows {α β : Type} [Py α] [Py β] {xs : List α} {f : α → List β} {us : α → List (Nat × SD)} {tt : TT} {vs : List Nat} {H0 : Hp} {σ : L2.St} {F H : Hp} {Q : VK} (s : Ex F H) (sl : Sl H0 Φ σ F H)
    (hi : PIt X Φ tg iter xs) (hz : xs.length ≤ sizeLine)
    (hg : ∀ x, ∀ (s : Shared) (H : Hp) (C : Addr) (cl : List (Str × Addr)) (fp : List Addr), PGt (X.blk s H scope (compEnvC scope cl C X.env) fp) tg x (us x))
    (hu : ∀ x, ∀ u ∈ us x, u.1 ∈ vs)
    (ht : ∀ (σ' : L2.St) (H' : Hp) (R : Bool → Hp → Prop), R true H' → tt σ' H' R)
    (he : ∀ x, x ∈ xs → ∀ (s : Shared) (H : Hp) (C : Addr) (cl : List (Str × Addr)) (fp : List Addr), PN (X.blk s H scope (compEnvC scope cl C X.env) fp) (setAll (wipeS Φ vs) (us x)) elt (f x))
    (q : ∀ a F' H', Gr F H F' H' → (rowsFp H' a).Nodup → (∀ b ∈ rowsFp H' a, H b = none ∧ F' b = none ∧ H' b ≠ none) → RowsAt F' H' a ((xs.map f).map fun ys => rps X.K ys) → Q (.ref a) H') :
    tLc (wI X tg iter) (gB X scope tg) tt (eB X scope elt) vs σ H Q := by
  refine hi H0 σ F H _ s sl fun J F1 H1 g1 src D hD => ?_
  have fD := (fresh_of g1 hD)
  have hlen : (xs.map fun x => py X.K (enc x)).length = xs.length := List.length_map _
  refine ⟨fun n m H' => m = xs.length - n ∧ n ≤ xs.length ∧ ∃ (F' : Hp) (bs : List Addr), Gr F1 H1 F' H' ∧ F' D = none ∧ H' D = some (.lst (bs.map V.ref)) ∧ bs.length = n ∧ (D :: bs).Nodup ∧ (∀ b ∈ bs, H1 b = none ∧ F' b = none) ∧
      ∀ (i : Nat) (b : Addr) (x : α), bs[i]? = some b → xs[i]? = some x → ∃ ws, H' b = some (.lst ws) ∧ AllP (rps X.K (f x)) F' ws,
    ⟨xs.length, by simp, Nat.zero_le _, F1, [], Gr.own g1.s hD, fD.1, upd_same, rfl, by simp, (fun _ h => nomatch h), fun i b x h => by simp at h⟩, ?_⟩
  rintro n m H' ⟨rfl, hn, F', bs, g, fd, hd, hbl, hnd, hfr, hrow⟩
  by_cases hlt : n < xs.length
  · have hx : xs[n]? = some xs[n] := List.getElem?_eq_getElem hlt
    obtain ⟨go, yl⟩ := src.go n _ F' H' (by rw [List.getElem?_map, hx]; rfl) g.f g.s
    refine .inr ⟨go, fun H2 => (fun n m H' => m = xs.length - n ∧ n ≤ xs.length ∧ ∃ (F' : Hp) (bs : List Addr), Gr F1 H1 F' H' ∧ F' D = none ∧ H' D = some (.lst (bs.map V.ref)) ∧ bs.length = n ∧ (D :: bs).Nodup ∧ (∀ b ∈ bs, H1 b = none ∧ F' b = none) ∧
      ∀ (i : Nat) (b : Addr) (x : α), bs[i]? = some b → xs[i]? = some x → ∃ ws, H' b = some (.lst ws) ∧ AllP (rps X.K (f x)) F' ws) (n + 1) (xs.length - (n + 1)) H2, fun H2 h => ⟨_, by omega, h⟩, fun v H2 y => ?_⟩
    obtain ⟨F2, g2, pv⟩ := yl v H2 y
    have hmem : xs[n] ∈ xs := List.getElem_mem hlt
    have sl2 : Sl H0 (wipeS Φ vs) (wipe σ vs) F2 H2 := ((sl.gr g1).gr (g.trans g2)).wipe vs
    intro s' Hs C cl fp
    refine hg xs[n] s' Hs C cl fp H0 (wipeS Φ vs) (wipe σ vs) F2 H2 v _ g2.s sl2 pv fun σ2 sl3 keep => ⟨wipe_eq ?_ fun j hj => keep j fun u hu' z => hj (by rw [← z]; exact hu _ u hu'), ?_⟩
    · have l1 := sl3.len
      have l2 : ∀ (us : List (Nat × SD)) (Φ : List SD), (setAll Φ us).length = Φ.length := by
        intro us
        induction us with
        | nil => intro Φ; rfl
        | cons u us ih => intro Φ; exact (ih _).trans (List.length_set)
      rw [l2] at l1
      have l3 := sl2.len
      rw [wipe_length] at l3
      omega
    · refine ht _ _ _ ?_
      rw [if_pos rfl]
      intro s'' Hs' C' cl' fp'
      refine he xs[n] hmem s'' Hs' C' cl' fp' H0 σ2 F2 H2 _ g2.s sl3 fun y ws F4 H4 g4 ny fy hy hws => ?_
      have gg := (g.trans g2).trans g4
      have fd4 : F4 D = none := g4.n D (g2.n D fd (ne_none hd)) (ne_none (g2.h _ _ hd))
      have hd4 : H4 D = some (.lst (bs.map V.ref)) := g4.h _ _ (g2.h _ _ hd)
      have yD : y ≠ D := fun z => by rw [z, g2.h _ _ hd] at ny; cases ny
      have yb : y ∉ bs := fun z => by
        obtain ⟨i, hi, e⟩ := List.getElem_of_mem z
        obtain ⟨u, hu, _⟩ := hrow i y xs[i] (by rw [List.getElem?_eq_getElem hi, e]) (List.getElem?_eq_getElem (by omega))
        rw [g2.h _ _ hu] at ny; cases ny
      have alive : ∀ b ∈ bs, b ≠ D := fun b hb z => (List.nodup_cons.mp hnd).1 (z ▸ hb)
      refine ⟨bs.map V.ref, hd4, by rw [List.length_map, sizeLine_eq] at *; omega, rfl, by omega, F4, bs ++ [y], ⟨gg.f, fun b o z => ?_, fun b o z => ?_, fun b z1 z2 => gg.n b z1 z2⟩, fd4, by rw [upd_same, List.map_append]; rfl, by simp; omega, ?_, fun b hb => ?_, fun i b x hb hxi => ?_⟩
      · rw [upd_ne (ne_of_none z hD)]; exact gg.h b o z
      · rw [upd_ne (ne_of_none z fd4)]; exact gg.s b o z
      · rw [← List.cons_append]
        refine List.pairwise_append.mpr ⟨hnd, by simp, fun u hu v hv => ?_⟩
        rw [List.mem_singleton.mp hv]
        rcases List.mem_cons.mp hu with e | e
        · rw [e]; exact yD.symm
        · exact fun z => yb (z ▸ e)
      · rcases List.mem_append.mp hb with e | e
        · refine ⟨(hfr b e).1, ?_⟩
          obtain ⟨i, hi, e'⟩ := List.getElem_of_mem e
          obtain ⟨u, hu, _⟩ := hrow i b xs[i] (by rw [List.getElem?_eq_getElem hi, e']) (List.getElem?_eq_getElem (by omega))
          exact g4.n b (g2.n b (hfr b e).2 (ne_none hu)) (ne_none (g2.h _ _ hu))
        · rw [List.mem_singleton.mp e]
          exact ⟨gr_none (g.trans g2) ny, fy⟩
      · by_cases hib : i < bs.length
        · rw [List.getElem?_append_left hib] at hb
          obtain ⟨u, hu, pu⟩ := hrow i b x hb hxi
          exact ⟨u, by rw [upd_ne (alive b (List.mem_of_getElem? hb))]; exact g4.h _ _ (g2.h _ _ hu), pu.mono (g2.f.trans g4.f)⟩
        · have hi2 := (List.getElem?_eq_some_iff.mp hb).1
          simp only [List.length_append, List.length_cons, List.length_nil] at hi2
          have ei : i = n := by omega
          subst ei
          rw [List.getElem?_append_right (by omega), show i - bs.length = 0 by omega] at hb
          simp only [List.getElem?_cons_zero, Option.some.injEq] at hb
          subst hb
          rw [hx] at hxi; cases hxi
          exact ⟨ws, by rw [upd_ne yD]; exact hy, hws⟩
  · have e : n = xs.length := by omega
    subst e
    refine .inl ⟨by have := src.stop F' H' g.f g.s; rw [hlen] at this; exact this, ?_⟩
    refine q D F' H' (g1.trans g) (by rw [rowsFp_eq hd]; exact hnd) (fun b hb => ?_) ⟨bs, hd, by simp [hbl], fun i b Ps x y => ?_⟩
    · rw [rowsFp_eq hd] at hb
      rcases List.mem_cons.mp hb with e | e
      · rw [e]; exact ⟨fD.2, fd, ne_none hd⟩
      · obtain ⟨i, hi, e'⟩ := List.getElem_of_mem e
        obtain ⟨u, hu, _⟩ := hrow i b xs[i] (by rw [List.getElem?_eq_getElem hi, e']) (List.getElem?_eq_getElem (by omega))
        exact ⟨gr_none g1 (hfr b e).1, (hfr b e).2, ne_none hu⟩
    · rw [List.getElem?_map, List.getElem?_map] at y
      cases hx : xs[i]? with
      | none => rw [hx] at y; cases y
      | some x' => rw [hx] at y; cases y; exact hrow i b x' x hx
theorem v_lcR {α β : Type} [Py α] [Py β] {xs : List α} {f : α → List β} (own : List (Str × Nat)) (us : α → List (Nat × SD)) (hc : X.calm = true) (hN : X.N.Nodup) (ok : BlkOk X.N X.env.scope scope own) (hi : PIt X Φ tg iter xs) (hz : xs.length ≤ sizeLine)
    (hg : ∀ x, ∀ (s : Shared) (H : Hp) (C : Addr) (cl : List (Str × Addr)) (fp : List Addr), PGt (X.blk s H scope (compEnvC scope cl C X.env) fp) tg x (us x)) (hu : ∀ x, ∀ u ∈ us x, u.1 ∈ own.map (·.2))
    (he : ∀ x, x ∈ xs → ∀ (s : Shared) (H : Hp) (C : Addr) (cl : List (Str × Addr)) (fp : List Addr), PN (X.blk s H scope (compEnvC scope cl C X.env) fp) (setAll (wipeS Φ (own.map (·.2))) (us x)) elt (f x))
    (hs : ∀ x, foldedSetIterable iter X.env x = pure x := by intro _; rfl) : PEo X Φ (.ListComp elt [⟨tg, iter, [], 0⟩] scope pos) (rowsP X.K (xs.map f)) := ⟨fun H0 σ F H Q s sl q =>
  wE_of (pe_lc (own := own) hc hN piW ok pgB (fun _ _ _ _ _ => pts_nil) peB hs) (lc_rows s sl hi hz hg hu (fun _ _ _ z => z) he q)⟩
theorem h_lcRC {α β : Type} [Py α] [Py β] {xs : List α} {f : α → List β} {k : List (List β) → Ctl S R} (n : Nat) {x : Str} {py_ spos : Pos} (own : List (Str × Nat)) (us : α → List (Nat × SD)) (hc : X.calm = true) (hN : X.N.Nodup) (ok : BlkOk X.N X.env.scope scope own) (hi : PIt X Φ tg iter xs) (hz : xs.length ≤ sizeLine)
    (hg : ∀ x, ∀ (s : Shared) (H : Hp) (C : Addr) (cl : List (Str × Addr)) (fp : List Addr), PGt (X.blk s H scope (compEnvC scope cl C X.env) fp) tg x (us x)) (hu : ∀ x, ∀ u ∈ us x, u.1 ∈ own.map (·.2))
    (he : ∀ x, x ∈ xs → ∀ (s : Shared) (H : Hp) (C : Addr) (cl : List (Str × Addr)) (fp : List Addr), PN (X.blk s H scope (compEnvC scope cl C X.env) fp) (setAll (wipeS Φ (own.map (·.2))) (us x)) elt (f x))
    (h : ∀ nm, nm = xs.map f → HB X W (A :: r) (Φ.set n (sR X.K nm)) Mm T (k nm))
    (hn : X.N[n]? = some x := by rfl) (hl : X.env.scope.names.lookup x = some .local := by rfl) (hsw : swapsWith (.ListComp elt [⟨tg, iter, [], 0⟩] scope pos) (some (.Name x py_)) spos.line X.env = pure true := by exact sw_true rfl rfl rfl (by decide +kernel)) (hs : ∀ x, foldedSetIterable iter X.env x = pure x := by intro _; rfl) :
    HB X W ((.Assign [.Name x py_] (.ListComp elt [⟨tg, iter, [], 0⟩] scope pos) spos :: A) :: r) Φ Mm T (bindV (xs.map f) k) := .mk fun F0 H0 D σ F H g sl kp =>
  wK_cons (wS_of (ps_setLc (own := own) hc hN hn hl hsw piW ok pgB (fun _ _ _ _ _ => pts_nil) peB hs) (lc_rows g.s sl hi hz hg hu (fun _ _ _ z => z) he (fun l F1 H1 g1 n1 n2 hp => h _ rfl F0 H0 D _ F1 H1 (g.trans g1) (sl.setOb (P := rowsP X.K (xs.map f)) g1 g.h n1 n2 hp) kp)))
theorem h_setOC {α : Type} [Py α] {v : List (List α)} {k : List (List α) → Ctl S R} (n : Nat) {x : Str} (hN : X.N.Nodup) (he : PEo X Φ e (rowsP X.K v)) (h : ∀ nm, nm = v → HB X W (A :: r) (Φ.set n (sR X.K nm)) Mm T (k nm)) (hi : X.N[n]? = some x := by rfl) (hx : Loc X.env.scope x := by first | exact Or.inl rfl | exact Or.inr rfl) (hs : swapsWith e (some (.Name x p)) pos.line X.env = pure false := by rfl)
    (hf : X.fn x = true ∨ X.env.scope.names.lookup x = some .local := by first | exact .inl rfl | exact .inr rfl) : HB X W ((.Assign [.Name x p] e pos :: A) :: r) Φ Mm T (bindV v k) := h_setO n hN he (h v rfl) hi hx hs hf
/-- settled -/
theorem Sl.settleR {α : Type} [Py α] {K : Fg} {H0 F H : Hp} {σ : L2.St} {n : Nat} {xss : List (List α)} (sl : Sl H0 Φ σ F H) (s : Ex F H) (ho : Φ[n]? = some (sR K xss)) : ∃ F', Ex F F' ∧ Ex F' H ∧ (∀ b, F b = none → F' b ≠ none → H0 b = none ∧ H b ≠ none) ∧ (∀ a u, F' a = some u → F a = none → ∃ vs, u = .lst vs) ∧ Sl H0 (Φ.set n (sI K xss)) σ F' H := by
  obtain ⟨l, h1, h2, h3, bs, h4, h5, h6⟩ := sl.ob ho
  have e := rowsFp_eq h4
  have h2 : (rowsFp H l).Nodup := h2
  have h3 : ∀ a ∈ rowsFp H l, H0 a = none ∧ F a = none ∧ H a ≠ none := h3
  rw [e] at h2 h3
  -- the settled part with all of them
  let F' : Hp := fun a => if a ∈ l :: bs then H a else F a
  have x1 : Ex F F' := fun a u z => by
    show (if a ∈ l :: bs then H a else F a) = some u
    by_cases w : a ∈ l :: bs
    · rw [(h3 a w).2.1] at z; cases z
    · rw [if_neg w]; exact z
  have x2 : Ex F' H := fun a u z => by
    have z : (if a ∈ l :: bs then H a else F a) = some u := z
    by_cases w : a ∈ l :: bs
    · rw [if_pos w] at z; exact z
    · rw [if_neg w] at z; exact s a u z
  have inF : ∀ a ∈ l :: bs, F' a = H a := fun a w => if_pos w
  refine ⟨F', x1, x2, fun b z1 z2 => ?_, fun a u z1 z2 => ?_, sl.change ho h1 x1 (fun j c o' a hj x y q => ⟨rfl, ?_⟩) ⟨_, rfl, py_lst.mpr ⟨l, bs.map V.ref, rfl, by rw [inF l (List.mem_cons_self ..)]; exact h4, by simp [h5], fun i P v y z => ?_⟩⟩ fun a ha => by cases ha⟩
  · have w : b ∈ l :: bs := by
      by_cases w : b ∈ l :: bs
      · exact w
      · exact absurd ((if_neg w).trans z1) z2
    exact ⟨(h3 b w).1, (h3 b w).2.2⟩
  · by_cases w : a ∈ l :: bs
    · rw [inF a w] at z1
      rcases List.mem_cons.mp w with e | e
      · rw [e, h4] at z1; cases z1; exact ⟨_, rfl⟩
      · obtain ⟨ws, hw⟩ := RowsAt.at_ h5 h6 (l := l) e
        rw [hw] at z1; cases z1; exact ⟨_, rfl⟩
    · exact absurd ((if_neg w).symm.trans z1) (by rw [z2]; exact fun z => nomatch z)
  · have w : a ∉ l :: bs := fun w => sl.apart n j _ c _ o' a (fun z => hj z.symm) ho x h1 y (by show a ∈ rowsFp H l; rw [e]; exact w) q
    exact (if_neg w).trans (SD.alive (sl.at_ j c o' x y) q).2.1
  · rw [List.getElem?_map] at z
    cases hb : bs[i]? with
    | none => rw [hb] at z; cases z
    | some b =>
      rw [hb] at z; cases z
      rw [List.getElem?_map] at y
      cases hx : xss[i]? with
      | none => rw [hx] at y; cases y
      | some xs =>
        rw [hx] at y; cases y
        obtain ⟨ws, w1, w2⟩ := h6 i b _ hb (by rw [List.getElem?_map, hx]; rfl)
        exact py_lst.mpr ⟨b, ws, rfl, by rw [inF b (List.mem_cons_of_mem _ (List.mem_of_getElem? hb))]; exact w1, w2.mono x1⟩
theorem h_settleR {α : Type} [Py α] (n : Nat) {xss : List (List α)} (ho : Φ[n]? = some (sR X.K xss) := by rfl) (h : HB X W r (Φ.set n (sI X.K xss)) Mm T o) : HB X W r Φ Mm T o := .mk fun F0 H0 D σ F H g sl k => by
  obtain ⟨F', x1, x2, x3, _, sl'⟩ := sl.settleR g.s ho
  refine h F0 H0 D σ F' H ⟨g.f.trans x1, g.h, x2, fun b z1 z2 => ?_⟩ sl' k
  by_cases w : F' b = none
  · exact w
  · exact absurd (x3 b (g.n b z1 z2) w).1 z2
theorem PV.flatR {α β : Type} [Py α] [Py β] [Fl β] (n : Nat) {xss : List (List α)} {x : β} (h : PV X (Φ.set n (sI X.K xss)) e x) (ho : Φ[n]? = some (sR X.K xss) := by rfl) : PV X Φ e x := .mk fun H0 σ F H Q s sl q => by
  obtain ⟨F', x1, x2, x3, _, sl'⟩ := sl.settleR s ho
  exact h H0 σ F' H Q x2 sl' fun v F2 H2 g z => q v F H2 (Gr.hp s g.h) (Fl.fl _ _ _ _ _ z)
theorem PTv.flatR {α : Type} [Py α] (n : Nat) {xss : List (List α)} {k : Bool} (h : PTv X (Φ.set n (sI X.K xss)) e k) (ho : Φ[n]? = some (sR X.K xss) := by rfl) : PTv X Φ e k := .mk fun H0 σ F H Q s sl q => by
  obtain ⟨F', x1, x2, x3, _, sl'⟩ := sl.settleR s ho
  exact h H0 σ F' H Q x2 sl' fun F2 H2 g => q F H2 (Gr.hp s g.h)
/-- x[i][j] = e -/
theorem h_put2 {α : Type} [Py α] [Inhabited α] {k : List (List α) → Ctl S R} (n : Nat) {x : Str} {xss : List (List α)} {v : α} {np sp1 sp : Pos} (he : PV X Φ e v) (hb : PV X Φ b i) (hc : PV X Φ c j) (hi : 0 ≤ i ∧ i < xss.length) (hj : 0 ≤ j ∧ j < (ix xss i).length)
    (h : ∀ nm, nm = xss.set i.toNat ((ix xss i).set j.toNat v) → HB X W (A :: r) (Φ.set n (sR X.K nm)) Mm T (k nm)) (ho : Φ[n]? = some (sR X.K xss) := by rfl) (hN : X.N[n]? = some x := by rfl)
    (hv : Vis X.env.scope x := by first | exact Or.inl rfl | exact Or.inr (Or.inl rfl) | exact Or.inr (Or.inr rfl)) (hd : (x == ("__debug__" : Str)) = false := by decide) (hcd : (x == ("__classdict__" : Str)) = false := by decide) (hpl : PlainIx b := by exact fun _ _ => rfl)
    (ha : ∀ v, assign (.Subscript (.Subscript (.Name x np) b sp1) c sp) X.env v = (do
      let ov ← holding [v] (eval (.Subscript (.Name x np) b sp1) X.env)
      let iv ← holding [v, ov] (eval c X.env)
      standAt sp
      holding [v, ov, iv] (setItem ov iv v)
      release [v, ov, iv] []) := by intro _; rfl)
    (hs : swapsWithSole [.Subscript (.Subscript (.Name x np) b sp1) c sp] e pos.line X.env = pure false := by rfl) (hw : swappedStores [.Subscript (.Subscript (.Name x np) b sp1) c sp] e X.env = pure none := by rfl) :
    HB X W ((.Assign [.Subscript (.Subscript (.Name x np) b sp1) c sp] e pos :: A) :: r) Φ Mm T (bindV (xss.set i.toNat ((ix xss i).set j.toNat v)) k) := .mk fun F0 H0 D σ F H g sl kp => by
  obtain ⟨l, h1, h2, h3, bs, h4, h5, h6⟩ := sl.ob ho
  have e0 := rowsFp_eq h4
  have h2 : (rowsFp H l).Nodup := h2
  have h3 : ∀ a ∈ rowsFp H l, H0 a = none ∧ F a = none ∧ H a ≠ none := h3
  rw [e0] at h2 h3
  have hbl : bs.length = xss.length := by simpa using h5
  have hib : i.toNat < bs.length := by omega
  have hb0 : bs[i.toNat]? = some bs[i.toNat] := List.getElem?_eq_getElem hib
  have hx0 : xss[i.toNat]? = some (ix xss i) := ix_at hi
  obtain ⟨ws, w1, w2⟩ := h6 i.toNat _ _ hb0 (by rw [List.getElem?_map, hx0]; rfl)
  have hwl : ws.length = (ix xss i).length := by simpa using w2.1
  generalize bs[i.toNat] = bb at hb0 w1
  have hbb : bb ∈ bs := List.mem_of_getElem? hb0
  have al := h3 bb (List.mem_cons_of_mem _ hbb)
  have hll : H l = some (.lst (bs.map V.ref)) := h4
  refine wK_cons (wS_of (ps_asg peW (pg_sub (pe_ix ix_list (pe_var hN hv hd hcd) peW hpl) peW set_list ha) hs hw rfl) (he H0 σ F H _ g.s sl fun u F1 H1 g1 p1 => ⟨_, h1, hb H0 σ F1 H1 _ g1.s (sl.gr g1) fun w F2 H2 g2 p2 => ?_⟩))
  cases p2
  have g12 := g1.trans g2
  refine ⟨l, bs.map V.ref, i, .ref bb, rfl, rfl, SqL.of (g12.h _ _ hll), by
    rw [show i = ((i.toNat : Nat) : Int) by omega]
    exact atI_nat (by rw [List.getElem?_map, hb0]; rfl), hc H0 σ F2 H2 _ g2.s (sl.gr g12) fun z F3 H3 g3 p3 => ?_⟩
  cases p3
  have g123 := g12.trans g3
  have fb : F3 bb = none := g123.n bb al.2.1 al.2.2
  refine ⟨bb, ws, j, j.toNat, rfl, rfl, g123.h _ _ w1, ?_, ?_⟩
  · unfold ixN; rw [if_pos hj.1, if_pos (by omega)]
  · have lb : l ≠ bb := fun z => (List.nodup_cons.mp h2).1 (z ▸ hbb)
    have hl3 : H3 l = some (.lst (bs.map V.ref)) := g123.h _ _ hll
    have e3 : rowsFp (upd H3 bb (.lst (ws.set j.toNat u))) l = l :: bs := rowsFp_eq (by rw [upd_ne lb]; exact hl3)
    refine h _ rfl F0 H0 D σ F3 _ ((g.trans g123).write al.1 fb) ((sl.gr g123).change ho h1 (Ex.refl F3) (fun m d o' a hm x y q => ⟨upd_ne fun z => ?_, (SD.alive ((sl.gr g123).at_ m d o' x y) q).2.1⟩) ⟨l, rfl, ?_, fun a ha => ?_, bs, by rw [upd_ne lb]; exact hl3, by simp [hbl], fun m b' Ps x y => ?_⟩ fun a ha => .inl ?_) kp
    · subst z
      exact (sl.gr g123).apart n m _ d _ o' a (fun z => hm z.symm) ho x h1 y (by show a ∈ rowsFp H3 l; rw [rowsFp_eq hl3]; exact List.mem_cons_of_mem _ hbb) q
    · show (rowsFp _ l).Nodup; rw [e3]; exact h2
    · have ha : a ∈ rowsFp (upd H3 bb (.lst (ws.set j.toNat u))) l := ha
      rw [e3] at ha
      refine ⟨(h3 a ha).1, g123.n a (h3 a ha).2.1 (h3 a ha).2.2, ?_⟩
      by_cases q : a = bb
      · rw [q, upd_same]; exact fun z => nomatch z
      · rw [upd_ne q]
        cases e : H a with
        | none => exact absurd e (h3 a ha).2.2
        | some o => rw [g123.h a o e]; exact fun z => nomatch z
    · rw [List.getElem?_map] at y
      by_cases q : m = i.toNat
      · subst q
        rw [hb0] at x; cases x
        rw [List.getElem?_set_self (by omega)] at y; cases y
        refine ⟨_, upd_same, ?_⟩
        show AllP (((ix xss i).set j.toNat v).map fun x => py X.K (enc x)) F3 _
        rw [List.map_set]
        exact (w2.mono g123.f).setV _ (dq_mono (g2.f.trans g3.f) _ _ p1)
      · rw [List.getElem?_set_ne (fun z => q z.symm)] at y
        obtain ⟨ws', y1, y2⟩ := h6 m b' Ps x (by rw [List.getElem?_map]; exact y)
        have nb : b' ≠ bb := fun z => by
          subst z
          have := (List.getElem?_inj (List.getElem?_eq_some_iff.mp x).1 (List.nodup_cons.mp h2).2).mp (x.trans hb0.symm)
          exact q this
        exact ⟨ws', by rw [upd_ne nb]; exact g123.h _ _ y1, y2.mono g123.f⟩
    · show a ∈ rowsFp H3 l
      rw [rowsFp_eq hl3, ← e3]; exact ha
end
end GL

set_option Elab.async false
set_option linter.all false
set_option maxRecDepth 100000
set_option maxHeartbeats 4000000
namespace GL
open PySem PySem.Spec PyProof.Rows L2
open Evl (Ex ex_l ex_t)
/-! ### one's own things looked at while they stay one's own -/
mutual
/-- a datum without lists -/
def noLst : PyData → Bool
  | .list _ => false
  | .dict _ => false
  | .tuple ds => noLstAll ds
  | _ => true
def noLstAll : List PyData → Bool
  | [] => true
  | d :: ds => noLst d && noLstAll ds
end
/-- things that may go out of the settled part -/
def goesO : HO → Bool
  | .lst _ => true
  | .dK _ => true
  | .dT _ => true
  | .ext _ => true
  | _ => false
def Keeps (G G' : Hp) : Prop := ∀ a u, G a = some u → goesO u = false → G' a = some u
theorem keeps_t {K : Fg} {G G' : Hp} (k : Keeps G G') {a : Addr} {xs : List V} (h : SqT K G a xs) : SqT K G' a xs := by
  rcases h with (h | ⟨o, h⟩) | h
  · exact .inl (.inl (k _ _ h rfl))
  · exact .inl (.inr ⟨o, k _ _ h rfl⟩)
  · exact .inr h
mutual
theorem dq_keeps {K : Fg} {G G' : Hp} (k : Keeps G G') : ∀ (d : PyData) (v : V), noLst d = true → Dq K G v d → Dq K G' v d
  | .none, _, _, h => by cases h; exact .non
  | .bool b, _, _, h => by cases h; exact .bl b
  | .int i, _, _, h => by cases h; exact .int i
  | .str x, _, _, h => by cases h; exact .str x
  | .list ds, _, n, h => by simp [noLst] at n
  | .tuple ds, _, n, h => by
    cases h with
    | tup hs ha => exact .tup (keeps_t k hs) (dqAll_keeps k ds _ (by simpa [noLst] using n) ha)
  | .dict _, _, _, h => by cases h
theorem dqAll_keeps {K : Fg} {G G' : Hp} (k : Keeps G G') : ∀ (ds : List PyData) (vs : List V), noLstAll ds = true → DqAll K G vs ds → DqAll K G' vs ds
  | [], _, _, h => by cases h; exact .nil
  | d :: ds, _, n, h => by
    cases h with
    | cons h1 h2 =>
      have n : (noLst d && noLstAll ds) = true := by simpa [noLstAll] using n
      rw [Bool.and_eq_true] at n
      exact .cons (dq_keeps k d _ n.1 h1) (dqAll_keeps k ds _ n.2 h2)
end
class NoL (α : Type) [Py α] : Prop where
  nol : ∀ x : α, noLst (enc x) = true
instance : NoL Int := ⟨fun _ => rfl⟩
instance : NoL Bool := ⟨fun _ => rfl⟩
instance : NoL Unit := ⟨fun _ => rfl⟩
instance {α : Type} [Py α] [NoL α] : NoL (Option α) := ⟨fun x => by
  cases x with
  | none => rfl
  | some x => exact NoL.nol x⟩
theorem noLstAll_map {α : Type} [Py α] [NoL α] : ∀ xs : List α, noLstAll (xs.map enc) = true
  | [] => rfl
  | x :: xs => by
    show (noLst (enc x) && noLstAll (xs.map enc)) = true
    rw [NoL.nol x, noLstAll_map xs]; rfl
instance {α : Type} [Py α] [NoL α] : NoL (Tup α) := ⟨fun x => noLstAll_map x.l⟩
instance {α β : Type} [Py α] [Py β] [NoL α] [NoL β] : NoL (α × β) := ⟨fun x => by
  show (noLst (enc x.1) && (noLst (enc x.2) && true)) = true
  rw [NoL.nol x.1, NoL.nol x.2]; rfl⟩
instance {α β γ : Type} [Py α] [Py β] [Py γ] [NoL α] [NoL β] [NoL γ] : NoL (T3 α β γ) := ⟨fun x => by
  show (noLst (enc x.a) && (noLst (enc x.b) && (noLst (enc x.c) && true))) = true
  rw [NoL.nol x.a, NoL.nol x.b, NoL.nol x.c]; rfl⟩
instance {α β γ δ : Type} [Py α] [Py β] [Py γ] [Py δ] [NoL α] [NoL β] [NoL γ] [NoL δ] : NoL (T4 α β γ δ) := ⟨fun x => by
  show (noLst (enc x.a) && (noLst (enc x.b) && (noLst (enc x.c) && (noLst (enc x.d) && true)))) = true
  rw [NoL.nol x.a, NoL.nol x.b, NoL.nol x.c, NoL.nol x.d]; rfl⟩
instance {α β γ δ ε : Type} [Py α] [Py β] [Py γ] [Py δ] [Py ε] [NoL α] [NoL β] [NoL γ] [NoL δ] [NoL ε] : NoL (T5 α β γ δ ε) := ⟨fun x => by
  show (noLst (enc x.a) && (noLst (enc x.b) && (noLst (enc x.c) && (noLst (enc x.d) && (noLst (enc x.e) && true))))) = true
  rw [NoL.nol x.a, NoL.nol x.b, NoL.nol x.c, NoL.nol x.d, NoL.nol x.e]; rfl⟩
/-- Φ seen as Φ', some things taken as settled -/
structure Vw (K : Fg) (Φ Φ' : List SD) : Prop where
  run : ∀ {H0 : Hp} {σ : L2.St} {F H : Hp}, Ex F H → Sl H0 Φ σ F H → ∃ F', Ex F F' ∧ Ex F' H ∧ (∀ a u, F' a = some u → F a = none → goesO u = true) ∧ Sl H0 Φ' σ F' H
theorem Vw.trans {K : Fg} {Φ Φ' Φ'' : List SD} (a : Vw K Φ Φ') (b : Vw K Φ' Φ'') : Vw K Φ Φ'' := ⟨fun s sl => by
  obtain ⟨F1, x1, x2, x3, sl1⟩ := a.run s sl
  obtain ⟨F2, y1, y2, y3, sl2⟩ := b.run x2 sl1
  refine ⟨F2, x1.trans y1, y2, fun c u z1 z2 => ?_, sl2⟩
  cases e : F1 c with
  | none => exact y3 c u z1 e
  | some w =>
    have := y1 c w e
    rw [z1] at this; cases this
    exact x3 c u e z2⟩
theorem vw_ow {K : Fg} {Φ : List SD} {α : Type} [Py α] {xs : List α} (n : Nat) (ho : Φ[n]? = some (sO K xs) := by rfl) : Vw K Φ (Φ.set n (sI K xs)) := ⟨fun {H0 σ F H} s sl => by
  obtain ⟨l, vs, h1, h2, h3, h4, h5⟩ := sl.ow ho
  obtain ⟨x1, x2⟩ := Gr.settle s h3 h4
  refine ⟨_, x1, x2, fun a u z1 z2 => ?_, sl.settleT s ho h1 h3 h4 h5⟩
  by_cases q : a = l
  · rw [q, upd_same] at z1; cases z1; rfl
  · rw [upd_ne q, z2] at z1; cases z1⟩
theorem vw_rows {K : Fg} {Φ : List SD} {α : Type} [Py α] {xss : List (List α)} (n : Nat) (ho : Φ[n]? = some (sR K xss) := by rfl) : Vw K Φ (Φ.set n (sI K xss)) := ⟨fun {H0 σ F H} s sl => by
  obtain ⟨F', x1, x2, _, x4, sl'⟩ := sl.settleR s ho
  exact ⟨F', x1, x2, fun a u z1 z2 => by obtain ⟨vs, rfl⟩ := x4 a u z1 z2; rfl, sl'⟩⟩
open Classical in
theorem drop_gr {F F' H G H' : Hp} (x1 : Ex F F') (x3 : ∀ a u, F' a = some u → F a = none → goesO u = true) (g : Gr F' H G H') : ∃ G', Gr F H G' H' ∧ Keeps G G' ∧ ∀ a, G a = none → G' a = none := by
  refine ⟨fun a => if F a = none ∧ F' a ≠ none then none else G a, ⟨fun a u z => ?_, g.h, fun a u z => ?_, fun a z1 z2 => ?_⟩, fun a u z1 z2 => ?_, fun a z => ?_⟩
  · show (if F a = none ∧ F' a ≠ none then none else G a) = some u
    rw [if_neg fun w => by rw [z] at w; cases w.1]
    exact g.f a u (x1 a u z)
  · have z : (if F a = none ∧ F' a ≠ none then none else G a) = some u := z
    split at z
    · cases z
    · exact g.s a u z
  · show (if F a = none ∧ F' a ≠ none then none else G a) = none
    split
    · rfl
    · rename_i w
      cases e : F' a with
      | none => exact g.n a e z2
      | some u => exact absurd ⟨z1, by rw [e]; exact fun z => nomatch z⟩ w
  · show (if F a = none ∧ F' a ≠ none then none else G a) = some u
    rw [if_neg fun w => ?_]
    · exact z1
    · cases e : F' a with
      | none => exact w.2 e
      | some v =>
        have := g.f a v e
        rw [z1] at this; cases this
        rw [x3 a u e w.1] at z2; cases z2
  · show (if F a = none ∧ F' a ≠ none then none else G a) = none
    split
    · rfl
    · exact z
section
variable {X : Cx} {W : XK} {S R : Type} {Φ Φ' : List SD} {Mm : S → List SD} {T : R → RS} {c e : Expr} {pos : Pos} {tg iter elt : Expr} {A : List Stmt} {r : List (List Stmt)} {scope : Scope}
theorem PV.vw {β : Type} [Py β] [NoL β] {x : β} (w : Vw X.K Φ Φ') (h : PV X Φ' e x) : PV X Φ e x := .mk fun H0 σ F H Q s sl q => by
  obtain ⟨F', x1, x2, x3, sl'⟩ := w.run s sl
  exact h H0 σ F' H Q x2 sl' fun v G H1 g z => by
    obtain ⟨G', g', k, _⟩ := drop_gr x1 x3 g
    exact q v G' H1 g' (dq_keeps k _ _ (NoL.nol x) z)
theorem PTv.vw {k : Bool} (w : Vw X.K Φ Φ') (h : PTv X Φ' e k) : PTv X Φ e k := .mk fun H0 σ F H Q s sl q => by
  obtain ⟨F', x1, x2, x3, sl'⟩ := w.run s sl
  exact h H0 σ F' H Q x2 sl' fun G H1 g => by
    obtain ⟨G', g', _, _⟩ := drop_gr x1 x3 g
    exact q G' H1 g'
theorem allP_keeps {β : Type} [Py β] [NoL β] {K : Fg} {G G' : Hp} (k : Keeps G G') {xs : List β} {vs : List V} (h : AllP (rps K xs) G vs) : AllP (rps K xs) G' vs := ⟨h.1, fun i P v a b => by
  rw [List.getElem?_map] at a
  cases hx : xs[i]? with
  | none => rw [hx] at a; cases a
  | some x =>
    rw [hx] at a; cases a
    exact dq_keeps k _ _ (NoL.nol x) (h.2 i _ v (by rw [List.getElem?_map, hx]; rfl) b)⟩
theorem PN.vw {β : Type} [Py β] [NoL β] {xs : List β} (w : Vw X.K Φ Φ') (h : PN X Φ' e xs) : PN X Φ e xs := .mk fun H0 σ F H Q s sl q => by
  obtain ⟨F', x1, x2, x3, sl'⟩ := w.run s sl
  exact h H0 σ F' H Q x2 sl' fun a vs G H1 g n1 n2 n3 hp => by
    obtain ⟨G', g', k, d⟩ := drop_gr x1 x3 g
    exact q a vs G' H1 g' n1 (d a n2) n3 (allP_keeps k hp)
/-- x = [..] on one line, some things of one's own looked at -/
theorem h_lcvC {α β : Type} [Py α] [Py β] [NoL β] {xs : List α} {f : α → β} {k : List β → Ctl S R} (n : Nat) {x : Str} {py_ spos : Pos} (w : Vw X.K Φ Φ') (own : List (Str × Nat)) (us : α → List (Nat × SD)) (hc : X.calm = true) (hN : X.N.Nodup) (ok : BlkOk X.N X.env.scope scope own) (hi : PIt X Φ' tg iter xs) (hz : xs.length ≤ sizeLine)
    (hg : ∀ x, ∀ (s : Shared) (H : Hp) (C : Addr) (cl : List (Str × Addr)) (fp : List Addr), PGt (X.blk s H scope (compEnvC scope cl C X.env) fp) tg x (us x)) (hu : ∀ x, ∀ u ∈ us x, u.1 ∈ own.map (·.2))
    (he : ∀ x, x ∈ xs → ∀ (s : Shared) (H : Hp) (C : Addr) (cl : List (Str × Addr)) (fp : List Addr), PEv (X.blk s H scope (compEnvC scope cl C X.env) fp) (setAll (wipeS Φ' (own.map (·.2))) (us x)) elt (py X.K (enc (f x))))
    (h : ∀ nm, nm = xs.map f → HB X W (A :: r) (Φ.set n (sO X.K nm)) Mm T (k nm))
    (hn : X.N[n]? = some x := by rfl) (hl : X.env.scope.names.lookup x = some .local := by rfl) (hsw : swapsWith (.ListComp elt [⟨tg, iter, [], 0⟩] scope pos) (some (.Name x py_)) spos.line X.env = pure true := by exact sw_true rfl rfl rfl (by decide +kernel)) (hs : ∀ x, foldedSetIterable iter X.env x = pure x := by intro _; rfl) :
    HB X W ((.Assign [.Name x py_] (.ListComp elt [⟨tg, iter, [], 0⟩] scope pos) spos :: A) :: r) Φ Mm T (bindV (xs.map f) k) := .mk fun F0 H0 D σ F H g sl kp => by
  obtain ⟨F', x1, x2, x3, sl'⟩ := w.run g.s sl
  refine wK_cons (wS_of (ps_setLc (own := own) hc hN hn hl hsw piW ok pgB (fun _ _ _ _ _ => pts_nil) peB hs) (lc_ok (cnd := fun _ => true) x2 sl' hi hz hg hu (fun x hx σ' F' H' R s' _ r => r F' H' (Gr.refl s')) (fun x hx _ => he x hx) ?_))
  rw [filter_true]
  intro l vs G H1 g1 h1 h2 h3 h4
  obtain ⟨G', g', kk, d⟩ := drop_gr x1 x3 g1
  exact h _ rfl F0 H0 D _ G' H1 (g.trans g') (Sl.setOw (sl.gr g') (hp_none g.h h1) (d l h2) h3 (allP_keeps kk h4) (sl.new g' h1)) kp
theorem h_lcIfvC {α β : Type} [Py α] [Py β] [NoL β] {xs : List α} {cnd : α → Bool} {f : α → β} {k : List β → Ctl S R} (n : Nat) {x : Str} {py_ spos : Pos} (w : Vw X.K Φ Φ') (own : List (Str × Nat)) (us : α → List (Nat × SD)) (hc : X.calm = true) (hN : X.N.Nodup) (ok : BlkOk X.N X.env.scope scope own) (hi : PIt X Φ' tg iter xs) (hz : xs.length ≤ sizeLine)
    (hg : ∀ x, ∀ (s : Shared) (H : Hp) (C : Addr) (cl : List (Str × Addr)) (fp : List Addr), PGt (X.blk s H scope (compEnvC scope cl C X.env) fp) tg x (us x)) (hu : ∀ x, ∀ u ∈ us x, u.1 ∈ own.map (·.2))
    (ht : ∀ x, x ∈ xs → ∀ (s : Shared) (H : Hp) (C : Addr) (cl : List (Str × Addr)) (fp : List Addr), PTv (X.blk s H scope (compEnvC scope cl C X.env) fp) (setAll (wipeS Φ' (own.map (·.2))) (us x)) c (cnd x))
    (he : ∀ x, x ∈ xs → cnd x = true → ∀ (s : Shared) (H : Hp) (C : Addr) (cl : List (Str × Addr)) (fp : List Addr), PEv (X.blk s H scope (compEnvC scope cl C X.env) fp) (setAll (wipeS Φ' (own.map (·.2))) (us x)) elt (py X.K (enc (f x))))
    (h : ∀ nm, nm = (xs.filter cnd).map f → HB X W (A :: r) (Φ.set n (sO X.K nm)) Mm T (k nm))
    (hn : X.N[n]? = some x := by rfl) (hl : X.env.scope.names.lookup x = some .local := by rfl) (hsw : swapsWith (.ListComp elt [⟨tg, iter, [c], 0⟩] scope pos) (some (.Name x py_)) spos.line X.env = pure true := by exact sw_true rfl rfl rfl (by decide +kernel)) (hs : ∀ x, foldedSetIterable iter X.env x = pure x := by intro _; rfl) :
    HB X W ((.Assign [.Name x py_] (.ListComp elt [⟨tg, iter, [c], 0⟩] scope pos) spos :: A) :: r) Φ Mm T (bindV ((xs.filter cnd).map f) k) := .mk fun F0 H0 D σ F H g sl kp => by
  obtain ⟨F', x1, x2, x3, sl'⟩ := w.run g.s sl
  refine wK_cons (wS_of (ps_setLc (own := own) hc hN hn hl hsw piW ok pgB (fun s H C cl fp => pts_one (ptB s H C cl fp)) peB hs) (lc_ok x2 sl' hi hz hg hu (fun x hx σ' F' H' R s' sl' r s2 Hs C cl fp => ht x hx s2 Hs C cl fp H0 σ' F' H' R s' sl' r) he ?_))
  intro l vs G H1 g1 h1 h2 h3 h4
  obtain ⟨G', g', kk, d⟩ := drop_gr x1 x3 g1
  exact h _ rfl F0 H0 D _ G' H1 (g.trans g') (Sl.setOw (sl.gr g') (hp_none g.h h1) (d l h2) h3 (allP_keeps kk h4) (sl.new g' h1)) kp
/-- xs.append((ys.pop(i), e)), both lists one's own -/
theorem h_appPopTC {α β : Type} [Py α] [Py β] [Inhabited α] {k : List (α × β) → List α → Ctl S R} {i : Int} {b e2 : Expr} {p p2 : Pos} {kk : Nat} (n m : Nat) {x y : Str} {xs : List (α × β)} {ys : List α} {v : β} {np apos np2 apos2 cpos : Pos} (hnm : n ≠ m) (hb : PV X Φ b i) (he : PV X (Φ.set m (sO X.K (ys.eraseIdx i.toNat))) e2 v) (hi : 0 ≤ i ∧ i < ys.length) (hz : xs.length < sizeLine) (hy : ys.length ≤ 2 ^ 62)
    (h : ∀ nm, nm = xs ++ [(ix ys i, v)] → ∀ nm2, nm2 = ys.eraseIdx i.toNat → HB X W (A :: r) ((Φ.set m (sO X.K nm2)).set n (sO X.K nm)) Mm T (k nm nm2)) (ho : Φ[n]? = some (sO X.K xs) := by rfl) (ho2 : Φ[m]? = some (sO X.K ys) := by rfl) (hN : X.N[n]? = some x := by rfl) (hN2 : X.N[m]? = some y := by rfl)
    (hv : Vis X.env.scope x := by first | exact Or.inl rfl | exact Or.inr (Or.inl rfl) | exact Or.inr (Or.inr rfl)) (hd : (x == ("__debug__" : Str)) = false := by decide) (hcd : (x == ("__classdict__" : Str)) = false := by decide)
    (hv2 : Vis X.env.scope y := by first | exact Or.inl rfl | exact Or.inr (Or.inl rfl) | exact Or.inr (Or.inr rfl)) (hd2 : (y == ("__debug__" : Str)) = false := by decide) (hcd2 : (y == ("__classdict__" : Str)) = false := by decide)
    (hsb : nst b = true := by rfl) (hse : nst e2 = true := by rfl) (hl : (apos.endLine == p.line) = true := by rfl) (hl2 : (apos2.endLine == cpos.line) = true := by rfl) :
    HB X W ((.Expr (.Call (.Attribute (.Name x np) "append" apos) [.Tuple [.Call (.Attribute (.Name y np2) "pop" apos2) [b] [] cpos, e2] kk p2] [] p) pos :: A) :: r) Φ Mm T (bindV (xs ++ [(ix ys i, v)]) fun a => bindV (ys.eraseIdx i.toNat) fun c => k a c) := .mk fun F0 H0 D σ F H g sl kp => by
  obtain ⟨l, vs, e1, h2, h3, h4, h5⟩ := sl.ow ho
  obtain ⟨l2, ws, e1', h2', h3', h4', h5'⟩ := sl.ow ho2
  have hne : l ≠ l2 := sl.ow_ne hnm ho ho2 e1 e1'
  have hlen : vs.length = xs.length := by simpa using h5.1
  have hlen2 : ws.length = ys.length := by simpa using h5'.1
  refine wK_cons (wS_of (ps_expr (pe_bm PySem.F.plainAttrs_list PySem.F.slot_list_append PySem.F.type_list_append mt_append (pe_var hN hv hd hcd) (pa_cons (pe_tup (pa_cons (pe_bm PySem.F.plainAttrs_list PySem.F.slot_list_pop PySem.F.type_list_pop mt_popAt (pe_var hN2 hv2 hd2 hcd2) (pa_cons peW pa_nil (star_cons hsb)) rfl (few1 hsb) hl2 (star_cons hsb) rfl) (pa_cons peW pa_nil (star_cons hse)) (star_cons rfl))) pa_nil (star_cons rfl)) rfl (few1 rfl) hl (star_cons rfl) rfl) rfl)
    ⟨_, e1, .inl ⟨rfl, vs, SqL.of h4⟩, _, e1', .inl ⟨rfl, ws, SqL.of h4'⟩, hb H0 σ F H _ g.s sl fun w F1 H1 g1 p1 => ?_⟩)
  cases p1
  have f1 : F1 l = none := g1.n l h3 (ne_none h4)
  have f2 : F1 l2 = none := g1.n l2 h3' (ne_none h4')
  obtain ⟨y, y1, y2⟩ := allP_at (h5'.mono g1.f) (ix_map hi)
  refine ⟨l2, ws, i, i.toNat, y, rfl, rfl, g1.h _ _ h4', by omega, by omega, seqIx (by omega), y1, ?_⟩
  have g2 := (g.trans g1).write (o := .lst (ws.eraseIdx i.toNat)) h2' f2
  have s2 := Sl.write (Qs := (ys.eraseIdx i.toNat).map fun x => py X.K (enc x)) (vs := ws.eraseIdx i.toNat) (sl.gr g1) ho2 e1' h2' f2 (by
    rw [show (ys.eraseIdx i.toNat).map (fun x => py X.K (enc x)) = (ys.map fun x => py X.K (enc x)).eraseIdx i.toNat from map_erase ..]
    exact (h5'.mono g1.f).erase _)
  refine he H0 σ F1 _ _ g2.s s2 fun u F3 H3 g3 pu => ?_
  have hl1 : (upd H1 l2 (.lst (ws.eraseIdx i.toNat))) l = some (.lst vs) := by rw [upd_ne hne]; exact g1.h _ _ h4
  refine ⟨by show 2 ≤ sizeLine; decide, fun t ht => ?_⟩
  have g4 := g3.trans (Gr.new (o := .tup [y, u]) g3.s ht)
  have f4 : (upd F3 t (.tup [y, u])) l = none := g4.n l f1 (ne_none hl1)
  refine ⟨l, vs, .ref t, rfl, rfl, g4.h _ _ hl1, by omega, ?_⟩
  have g5 := (g2.trans g4).write (o := .lst (vs ++ [.ref t])) h2 f4
  refine h _ rfl _ rfl F0 H0 D σ _ _ g5 (Sl.write (s2.gr g4) (by rw [List.getElem?_set_ne (fun z => hnm z.symm)]; exact ho) e1 h2 f4 ?_) kp
  rw [List.map_append]
  exact ((h5.mono g1.f).mono g4.f).snoc (.tup (SqT.of upd_same) (.cons (dq_mono g4.f _ _ y2) (.cons (dq_mono (Gr.new (o := .tup [y, u]) g3.s ht).f _ _ pu) .nil)))
end
end GL

set_option Elab.async false
set_option linter.all false
set_option maxRecDepth 100000
set_option maxHeartbeats 6400000
namespace GL
open PySem PySem.Spec PyProof.Rows L2
open Evl (Ex ex_l ex_t)
/-! ### the set of a list of ints -/
/-- an empty set as the model lays it -/
abbrev noneIn (w : World) : Obj := { cls := .type "set", dict := none, data := .set #[] 0 (.fresh 0 0 (!w.params.followText "set-order")) }
section
variable {P : Program} {w : World} {A : Around} {E : Value → Shared → Prop} {s : Shared}
theorem call_setL {b : Addr} {its : Array Value} (ns : List Int) {Q : Value → Shared → Prop} (quiet : A.handled = none) (lst : s.heap.IsList b its) (nums : IntsAre its.toList ns) (few : ns.length + 1 < scanBound)
    (h : ∀ (g : Heap) (tk c : Nat), SetR w g s.heap.objs.size (fun j => decide (j ∈ ns)) c → c ≤ ns.length → (∀ x o, s.heap.get? x = some o → g.get? x = some o) → Q (.ref s.heap.objs.size) { s with heap := g, toks := tk }) :
    wpAny (model P w) A (call (.type "set") [.ref b]) Q E s := by
  have size_eq : its.size = ns.length := (Array.length_toList).symm.trans (IntsAre.length nums)
  have ⟨cc, rest, order⟩ := F.called_set.mro
  have ⟨k1, k2, k3, k4⟩ := (⟨F.called_set.made, F.called_set.sub, F.called_set.notType, F.called_set.canCreate⟩ : _ ∧ _ ∧ _ ∧ _)
  have k5 := F.typeCall_set_1 (.ref b)
  refine wpAny_call (codeAny_of_tree (show wpAny _ _ (callAny (.type "set") _) _ _ _ from ?_))
  refine wpAny_pure (And.intro (Code.quiet_builtin _ (by decide +kernel)) (codeAny_builtin F.entry_type_call ?_))
  rw [Around.under_plain (weight_type_call_type "set" [Value.ref b] []) rfl]
  repeat (any_goals (first | assumption | wp_step))
  refine codeAny_mono (code_set_led1 (.ref b) (E := E) (Q₁ := fun v s1 => v = .ref s.heap.objs.size ∧ s1 = { s with heap := s.heap.push (noneIn w) }) ⟨rfl, rfl⟩) fun r s1 hr => ?_
  match r, hr with
  | .error e, hr => exact hr
  | .ok (.ret v), hr =>
    obtain ⟨rfl, rfl⟩ := hr
    have there : (s.heap.push (noneIn w)).get? s.heap.objs.size = some (noneIn w) := Heap.get?_push_size _ rfl
    have ty : Shared.TypeIs { s with heap := s.heap.push (noneIn w) } (.ref s.heap.objs.size) "set" := ⟨_, there, rfl⟩
    have k6 := F.called_set.init.lookup
    have k7 := F.called_set.init.bind (.ref s.heap.objs.size)
    repeat (any_goals (first | assumption | wp_step))
    refine codeAny_mono (codeAny_call_builtin (R := wants (fun u s2 => u = .none ∧ ∃ g tk c, s2 = { s with heap := g, toks := tk } ∧ SetR w g s.heap.objs.size (fun j => decide (j ∈ ns)) c ∧ c ≤ ns.length ∧ (∀ x o, s.heap.get? x = some o → g.get? x = some o)) E) F.called_set.init.plain F.entry_set_init (check_set_init_1 ty ?_)) fun u s2 hu => ?_
    · obtain ⟨⟨c0, d0, dat0, sl0⟩, at0, is0, n0, has0⟩ := lst
      simp only at is0 has0
      subst is0; subst has0
      have at1 : (s.heap.push (noneIn w)).get? b = some { cls := .type "list", dict := d0, data := .seq its n0, slots := sl0 } := Heap.get?_push_of_some _ at0
      have j1 := F.sub_list_set
      have j2 := F.sub_list_frozenset
      have j3 : (Value.type "list" == Value.type "dict") = false := by decide
      have lst1 : (s.heap.push (noneIn w)).IsList b its := ⟨_, at1, rfl, n0, rfl⟩
      unfold Builtin.«set.__init__» noKeywords Builtin.Frozenset.updateFrom
      generalize toIt : pyIter = IT
      wp_walk
      subst toIt
      refine wpAny_pyIter_list lst1 (wpAny_bind (wpAny_runValue ?_))
      have b_lt : b < s.heap.objs.size := Heap.lt_size at0
      have sz : (s.heap.push (noneIn w)).objs.size = s.heap.objs.size + 1 := Heap.size_push ..
      have apart1 : b ≠ (s.heap.push (noneIn w)).objs.size := by rw [sz]; exact Nat.ne_of_lt (Nat.lt_succ_of_lt b_lt)
      have apart2 : s.heap.objs.size ∉ [(s.heap.push (noneIn w)).objs.size, b] := by
        rw [sz]; intro z
        rcases List.mem_cons.mp z with e | e
        · exact Nat.ne_of_lt (Nat.lt_succ_self _) e
        · rw [List.mem_singleton.mp e] at b_lt; exact Nat.lt_irrefl _ b_lt
      have each : ∀ (i : Nat) (v : Value), its[i]? = some v → ∃ k t, ns[i]? = some k ∧ v = .int k t := fun i v hv => by
        have i_lt : i < ns.length := size_eq ▸ (Array.getElem?_eq_some_iff.mp hv).1
        have ⟨t, e⟩ := PyProof.Rows.IntsAre.int_at nums i v (Array.getElem?_toList ▸ hv)
        refine ⟨ns[i], t, List.getElem?_eq_getElem i_lt, ?_⟩
        rw [e, List.getD_eq_getElem?_getD, List.getElem?_eq_getElem i_lt]; rfl
      refine set_update_ints ((Walks.list (by simp [quiet]) _ b apart1 its).toS) s.heap.objs.size apart2 ns size_eq few each (its.size - 0) 0 _ (by omega) (Nat.zero_le _) ⟨⟨_, Heap.get?_push_size _ rfl, rfl, rfl⟩, (lst1.push _)⟩ ⟨0, Nat.le_refl 0, setR_new_at (Heap.get?_push_of_some _ there)⟩ ?_
      intro s3 c3 mv le3 done
      obtain ⟨g3, ge3, dr3, tk3, os3⟩ := s3
      have ⟨e1, e2, e3⟩ := (⟨mv.gens, mv.drawn, mv.os⟩ : ge3 = s.gens ∧ dr3 = s.drawn ∧ os3 = s.os)
      subst e1; subst e2; subst e3
      refine wpAny_pure (show wpAny _ _ (ret Value.none) _ _ _ from ?_)
      rw [size_eq] at le3
      refine wpAny_pure ⟨rfl, g3, tk3, c3, rfl, done, le3, fun x o e => ?_⟩
      have x_lt : x < s.heap.objs.size := Heap.lt_size e
      refine mv.heap x o (fun z => ?_) (Heap.get?_push_of_some _ (Heap.get?_push_of_some _ e))
      rcases List.mem_cons.mp z with q | q
      · exact Nat.ne_of_lt x_lt q
      · rcases List.mem_cons.mp q with q | q
        · rw [sz] at q; exact Nat.ne_of_lt (Nat.lt_succ_of_lt x_lt) q
        · cases q
    · match u, hu with
      | .error e, hu => exact hu
      | .ok (.ret v), hu =>
        obtain ⟨rfl, g, tk, c, rfl, r1, r2, r3⟩ := hu
        repeat (any_goals (first | assumption | wp_step))
        exact h _ _ _ r1 r2 r3
end
/-- set(xs), xs a list of ints -/
def rSetL (w : World) (K : Fg) : List V → Hp → VK → Prop := fun vs H Q => ∃ (l : Addr) (ns : List Int), vs = [V.ref l] ∧ SqL K H l (ns.map V.int) ∧ ns.length < 64 ∧ ∀ p c, H p = none → c ≤ ns.length → Q (.ref p) (upd H p (SetO w p (fun j => decide (j ∈ ns)) c))
theorem cr_setL {X : Cx} (hc : X.calm = true) : CallR X (.type "set") (rSetL X.w X.K) := by
  intro pins s σ H vs us Q I r h
  obtain ⟨l, ns, rfl, hs, hb, q⟩ := h
  obtain ⟨its, rv, pl, hz⟩ := I.list hs
  rw [Vals.ref1 r]
  refine call_setL ns (I.ok.hd hc) pl.isList (by simpa using rv.ints) (by unfold scanBound; omega) fun g tk c R hc' hk => ?_
  exact ⟨.ref _, upd H s.heap.objs.size (SetO X.w s.heap.objs.size (fun j => decide (j ∈ ns)) c), I.laid (t' := tk) hk (by have := R.lt; omega) (setO_new R), rfl, q _ c (I.hok.fresh (Nat.le_refl _)) hc'⟩
/-! ### sorted(set(xs)) -/
def insI (x : Int) : List Int → List Int
  | [] => [x]
  | y :: ys => if x < y then x :: y :: ys else if x = y then y :: ys else y :: insI x ys
/-- the members of a list, rising -/
def sset (xs : List Int) : List Int := xs.foldr insI []
theorem mem_insI {x z : Int} : ∀ {ys : List Int}, z ∈ insI x ys ↔ z = x ∨ z ∈ ys
  | [] => by simp [insI]
  | y :: ys => by
    unfold insI
    split
    · simp
    · split
      · rename_i h1 h2
        subst h2
        simp
      · rw [List.mem_cons, mem_insI, List.mem_cons]
        exact or_left_comm
theorem insI_pw {x : Int} : ∀ {ys : List Int}, ys.Pairwise (· < ·) → (insI x ys).Pairwise (· < ·)
  | [], _ => by simp [insI]
  | y :: ys, h => by
    have ⟨h1, h2⟩ := List.pairwise_cons.mp h
    unfold insI
    split
    · rename_i q
      refine List.pairwise_cons.mpr ⟨fun z hz => ?_, h⟩
      rcases List.mem_cons.mp hz with e | e
      · rw [e]; exact q
      · have := h1 z e; omega
    · split
      · exact h
      · refine List.pairwise_cons.mpr ⟨fun z hz => ?_, insI_pw h2⟩
        rcases mem_insI.mp hz with e | e
        · rw [e]; omega
        · exact h1 z e
theorem sset_mem {xs : List Int} {z : Int} : z ∈ sset xs ↔ z ∈ xs := by
  induction xs with
  | nil => simp [sset]
  | cons x xs ih =>
    show z ∈ insI x (sset xs) ↔ _
    rw [mem_insI, ih, List.mem_cons]
theorem sset_pw (xs : List Int) : (sset xs).Pairwise (· < ·) := by
  induction xs with
  | nil => exact List.Pairwise.nil
  | cons x xs ih => exact insI_pw ih
theorem rising_eq : ∀ {xs ys : List Int}, xs.Pairwise (· < ·) → ys.Pairwise (· < ·) → (∀ z, z ∈ xs ↔ z ∈ ys) → xs = ys
  | [], [], _, _, _ => rfl
  | [], y :: ys, _, _, h => by have := (h y).mpr (List.mem_cons_self ..); cases this
  | x :: xs, [], _, _, h => by have := (h x).mp (List.mem_cons_self ..); cases this
  | x :: xs, y :: ys, hx, hy, h => by
    have ⟨x1, x2⟩ := List.pairwise_cons.mp hx
    have ⟨y1, y2⟩ := List.pairwise_cons.mp hy
    have e : x = y := by
      rcases List.mem_cons.mp ((h x).mp (List.mem_cons_self ..)) with e | e
      · exact e
      · rcases List.mem_cons.mp ((h y).mpr (List.mem_cons_self ..)) with e' | e'
        · exact e'.symm
        · have := y1 x e; have := x1 y e'; omega
    subst e
    congr 1
    refine rising_eq x2 y2 fun z => ⟨fun hz => ?_, fun hz => ?_⟩
    · rcases List.mem_cons.mp ((h z).mp (List.mem_cons_of_mem _ hz)) with e | e
      · have := x1 z hz; omega
      · exact e
    · rcases List.mem_cons.mp ((h z).mpr (List.mem_cons_of_mem _ hz)) with e | e
      · have := y1 z hz; omega
      · exact e
theorem allP_ofInts {K : Fg} {F : Hp} (xs : List Int) : AllP (xs.map fun x => py K (enc x)) F (xs.map V.int) := ⟨by simp, fun n P v h1 h2 => by
  rw [List.getElem?_map] at h1 h2
  cases e : xs[n]? with
  | none => rw [e] at h1; cases h1
  | some x => rw [e] at h1 h2; cases h1; cases h2; exact Dq.int x⟩
section
variable {X : Cx} {Φ : List SD} {a b e : Expr} {pos p p2 pos2 apos : Pos}
theorem v_sortSet {xs : List Int} (B : Blt X.mg) (hc : X.calm = true) (ha : PL X Φ e xs) (hz : xs.length < 64) (hg : Gl X "sorted" := by rfl) (hg2 : Gl X "set" := by rfl) (hst : nst e = true := by rfl) :
    PN X Φ (.Call (.Name "sorted" p) [.Call (.Name "set" p2) [e] [] pos2] [] pos) (sset xs) := .mk fun H0 σ F H Q s sl q =>
  wE_callB (cr_sortedSet hc) hg B.sorted (by decide +kernel) (by decide +kernel) (by decide +kernel) rfl (wA_one rfl
    (wE_callT (cr_setL hc) hg2 B.set PyProof.Rows.boot_set (by decide +kernel) (by decide +kernel) (by simp [hst]) (wA_one hst (ha H0 σ F H _ s sl fun l vs F1 H1 g1 h1 p1 => by
      have ev := allP_ints p1
      subst ev
      refine ⟨l, xs, rfl, h1, hz, fun t c ht hcl => ?_⟩
      have gt : Gr F1 H1 F1 (upd H1 t (SetO X.w t (fun j => decide (j ∈ xs)) c)) := Gr.own g1.s ht
      refine ⟨t, _, c, rfl, upd_same, by omega, fun ns u pw mem hl hu => ?_⟩
      have en : ns = sset xs := rising_eq pw (sset_pw xs) fun z => by rw [mem z, sset_mem]; exact decide_eq_true_iff
      subst en
      have g2 := (g1.trans gt).trans (Gr.own (o := .lst ((sset xs).map V.int)) gt.s hu)
      refine q u _ F1 _ g2 ?_ ?_ upd_same (allP_ofInts _)
      · exact (fresh_of (g1.trans gt) hu).2
      · exact (fresh_of (g1.trans gt) hu).1))))
theorem v_count {xs : List Int} {y : Int} (ha : PL X Φ a xs) (hb : PV X Φ e y) (h2 : nst e = true := by rfl) (hbase : attributeBase a "count" X.env (eval a X.env) = eval a X.env := by rfl) (hl : (apos.endLine == pos.line) = true := by rfl) :
    PV X Φ (.Call (.Attribute a "count" apos) [e] [] pos) (xs.count y : Int) := .mk fun H0 σ F H Q s sl q =>
  wE_of (pe_bm PySem.F.plainAttrs_list PySem.F.slot_list_count PySem.F.type_list_count mt_lcount peW (pa_cons peW pa_nil (star_cons h2)) hbase (few1 h2) hl (star_cons h2) rfl) (ha H0 σ F H _ s sl fun l vs F1 H1 g1 h1 p1 => by
    have ev := allP_ints p1
    subst ev
    refine ⟨.inl ⟨rfl, _, h1⟩, hb H0 σ F1 H1 _ g1.s (sl.gr g1) fun u F2 H2 g2 p2 => ?_⟩
    cases p2
    exact ⟨l, xs, y, rfl, rfl, ex_l g2.h h1, q _ _ _ (g1.trans g2) (.int _)⟩)
end
end GL

set_option Elab.async false
set_option linter.all false
set_option maxRecDepth 100000
set_option maxHeartbeats 6400000
namespace GL
open PySem PySem.Spec PyProof.Rows L2
open Evl (Ex ex_l ex_t)
/-! ### data as keys -/
mutual
def nkD : PyData → NestedKey
  | .none => .none
  | .bool b => .num (if b = true then 1 else 0)
  | .int i => .num i
  | .str x => .text x
  | .tuple ds => .tup (nkDs ds)
  | .list _ => .none
  | .dict _ => .none
def nkDs : List PyData → List NestedKey
  | [] => []
  | d :: ds => nkD d :: nkDs ds
end
mutual
def keyD : PyData → Bool
  | .none => true
  | .bool _ => true
  | .int _ => true
  | .str _ => true
  | .tuple ds => keyDs ds
  | .list _ => false
  | .dict _ => false
def keyDs : List PyData → Bool
  | [] => true
  | d :: ds => keyD d && keyDs ds
end
section
variable {X : Cx} {pins : List (Addr × Obj)} {σ : L2.St} {H : Hp} {s : Shared}
mutual
theorem nested_of (I : Inv X pins σ H s) : ∀ (d : PyData) (v : V) (u : Value), Dp X.K H v d → keyD d = true → RelV v u → NestedIs s.heap (nkD d) u
  | .none, _, u, h, _, r => by
    cases h
    have r : u = Value.none := r
    rw [r]; unfold nkD; exact .none
  | .bool b, _, u, h, _, r => by
    cases h
    have r : u = Value.bool b := r
    rw [r]; unfold nkD; exact .bool rfl
  | .int i, _, u, h, _, r => by
    cases h
    obtain ⟨t, rfl⟩ := r
    unfold nkD; exact .int i t
  | .str x, _, u, h, _, r => by
    cases h
    obtain ⟨t, rfl⟩ := r
    unfold nkD; exact .text x t
  | .tuple ds, _, u, h, k, r => by
    cases h with
    | tup hs ha =>
      have r : u = Value.ref _ := r
      subst r
      obtain ⟨its, rv, ⟨o, ho, hc, n, hd⟩, _⟩ := I.tuple hs
      unfold keyD at k
      unfold nkD
      exact .tup ho hc hd (by simpa using nestedAll_of I ds _ its ha k rv)
  | .list ds, _, u, h, k, r => by unfold keyD at k; cases k
  | .dict ds, _, u, h, k, r => by unfold keyD at k; cases k
theorem nestedAll_of (I : Inv X pins σ H s) : ∀ (ds : List PyData) (vs : List V) (us : List Value), DpAll X.K H vs ds → keyDs ds = true → Vals vs us → NestedAll s.heap (nkDs ds) us
  | [], _, us, h, _, r => by
    cases h
    cases r
    unfold nkDs; exact .nil
  | d :: ds, _, us, h, k, r => by
    cases h with
    | cons h1 h2 =>
      cases r with
      | cons r1 r2 =>
        unfold keyDs at k
        rw [Bool.and_eq_true] at k
        unfold nkDs
        exact .cons (nested_of I d _ _ h1 k.1 r1) (nestedAll_of I ds _ _ h2 k.2 r2)
end
end
/-! ### a dict's entries: the key, where its tuple stands, the value -/
abbrev DEnt := NestedKey × Addr × V
inductive EX : List DEnt → List (NestedKey × Addr × Value) → Prop
  | nil : EX [] []
  | cons {k : NestedKey} {a : Addr} {v : V} {u : Value} {es : List DEnt} {xs : List (NestedKey × Addr × Value)} : RelV v u → EX es xs → EX ((k, a, v) :: es) ((k, a, u) :: xs)
def eAt (es : List DEnt) (k : NestedKey) : Option (Addr × V) := (es.find? fun e => decide (e.1 = k)).map (·.2)
def ePut (es : List DEnt) (k : NestedKey) (a : Addr) (v : V) : List DEnt := if (eAt es k).isSome then es.map (fun e => if e.1 = k then (e.1, e.2.1, v) else e) else es ++ [(k, a, v)]
theorem EX.len {es : List DEnt} {xs : List (NestedKey × Addr × Value)} (r : EX es xs) : es.length = xs.length := by
  induction r with
  | nil => rfl
  | cons _ _ ih => simp [ih]
theorem EX.keys {es : List DEnt} {xs : List (NestedKey × Addr × Value)} (r : EX es xs) : es.map (fun e => (e.1, e.2.1)) = xs.map (fun x => (x.1, x.2.1)) := by
  induction r with
  | nil => rfl
  | cons _ _ ih => simp [ih]
theorem EX.vals {es : List DEnt} {xs : List (NestedKey × Addr × Value)} (r : EX es xs) : Vals (es.map (·.2.2)) (xs.map (·.2.2)) := by
  induction r with
  | nil => exact .nil
  | cons h _ ih => exact .cons h ih
theorem EX.at {es : List DEnt} {xs : List (NestedKey × Addr × Value)} (r : EX es xs) (k : NestedKey) : (eAt es k = none ∧ atKey xs k = none) ∨ ∃ a v u, eAt es k = some (a, v) ∧ atKey xs k = some (a, u) ∧ RelV v u := by
  induction r with
  | nil => exact .inl ⟨rfl, rfl⟩
  | @cons k' a v u es xs h _ ih =>
    by_cases e : k' = k
    · exact .inr ⟨a, v, u, by simp [eAt, List.find?_cons, e], by simp [atKey, List.find?_cons, e], h⟩
    · have e1 : eAt ((k', a, v) :: es) k = eAt es k := by simp [eAt, List.find?_cons, e]
      have e2 : atKey ((k', a, u) :: xs) k = atKey xs k := by simp [atKey, List.find?_cons, e]
      rw [e1, e2]; exact ih
theorem EX.some_ {es : List DEnt} {xs : List (NestedKey × Addr × Value)} (r : EX es xs) {k : NestedKey} {a : Addr} {v : V} (h : eAt es k = some (a, v)) : ∃ u, atKey xs k = some (a, u) ∧ RelV v u := by
  rcases r.at k with ⟨e, _⟩ | ⟨a', v', u, e1, e2, e3⟩
  · rw [e] at h; cases h
  · rw [h] at e1; cases e1; exact ⟨u, e2, e3⟩
theorem EX.isSome {es : List DEnt} {xs : List (NestedKey × Addr × Value)} (r : EX es xs) (k : NestedKey) : (eAt es k).isSome = (atKey xs k).isSome := by
  rcases r.at k with ⟨e1, e2⟩ | ⟨a, v, u, e1, e2, _⟩ <;> rw [e1, e2] <;> rfl
theorem EX.repl {es : List DEnt} {xs : List (NestedKey × Addr × Value)} (r : EX es xs) (k : NestedKey) {v : V} {u : Value} (h : RelV v u) : EX (es.map (fun e => if e.1 = k then (e.1, e.2.1, v) else e)) (xs.map (putAt k u)) := by
  induction r with
  | nil => exact .nil
  | @cons k' a v' u' es xs h' _ ih =>
    rw [List.map_cons, List.map_cons]
    unfold putAt
    by_cases e : k' = k
    · rw [if_pos e, if_pos e]; exact .cons h ih
    · rw [if_neg e, if_neg e]; exact .cons h' ih
theorem EX.app {es es' : List DEnt} {xs xs' : List (NestedKey × Addr × Value)} (r : EX es xs) (r' : EX es' xs') : EX (es ++ es') (xs ++ xs') := by
  induction r with
  | nil => exact r'
  | cons h _ ih => exact .cons h ih
theorem EX.put {es : List DEnt} {xs : List (NestedKey × Addr × Value)} (r : EX es xs) (k : NestedKey) (a : Addr) {v : V} {u : Value} (h : RelV v u) : EX (ePut es k a v) (storedH xs k a u) := by
  unfold ePut storedH
  rw [r.isSome k]
  split
  · exact r.repl k h
  · exact r.app (.cons h .nil)
theorem ePut_len (es : List DEnt) (k : NestedKey) (a : Addr) (v : V) : (ePut es k a v).length ≤ es.length + 1 := by
  unfold ePut
  split
  · rw [List.length_map]; omega
  · simp
/-! ### the dict at an address, without the keys' tuples -/
def RawD (P : Program) (w : World) (d : Addr) (es : List DEnt) (o : Obj) (h : Heap) : Prop :=
  es.length ≤ sizeLine ∧ (d == sysModules) = false ∧ ∃ xs, EX es xs ∧ ∃ as ep, h.get? d = some o ∧ o.ExactDict ∧ o.data = .dict as ep ∧ as.toList = xs.map (entryOfKey (nestedKind P w)) ∧ (xs.map (·.1)).Nodup
def DO (P : Program) (w : World) (d : Addr) (es : List DEnt) (o : Obj) : HO := .ext (RawD P w d es o)
theorem do_new {P : Program} {w : World} {H : Hp} {h : Heap} {d : Addr} {es : List DEnt} {o : Obj} (R : RawD P w d es o h) : ObjOk P w H h d (DO P w d es o) := by
  have ⟨_, _, _, _, _, _, ho, _⟩ := R
  refine ⟨R, ⟨o, ho⟩, fun h1 h2 p k => ?_⟩
  have ⟨z, hd, xs, r, as, ep, ho', q⟩ := p
  exact ⟨z, hd, xs, r, as, ep, k _ ho', q⟩
theorem rawD_of {P : Program} {w : World} {h : Heap} {d : Addr} {es : List DEnt} {xs : List (NestedKey × Addr × Value)} (z : es.length ≤ sizeLine) (hd : (d == sysModules) = false) (r : EX es xs) (x : h.DictOfH (nestedKind P w) d xs) : ∃ o, RawD P w d es o h :=
  have ⟨o, as, ep, ho, h1, h2, h3, _, h4⟩ := x
  ⟨o, z, hd, xs, r, as, ep, ho, h1, h2, h3, h4⟩
/-- the value at a is such a key -/
def KeyOk (K : Fg) (H : Hp) (k : NestedKey) (a : Addr) : Prop := ∃ kd, Dp K H (.ref a) kd ∧ keyD kd = true ∧ nkD kd = k ∧ k.depth ≤ 8
def DHas (P : Program) (w : World) (K : Fg) (H : Hp) (d : Addr) (es : List DEnt) : Prop := (∃ o, H d = some (DO P w d es o)) ∧ ∀ e ∈ es, KeyOk K H e.1 e.2.1
section
variable {X : Cx} {pins : List (Addr × Obj)} {σ : L2.St} {H : Hp} {s : Shared} {d : Addr} {es : List DEnt}
theorem KeyOk.is (I : Inv X pins σ H s) {k : NestedKey} {a : Addr} (h : KeyOk X.K H k a) : (nestedKind X.prog X.w).is s.heap k a := by
  obtain ⟨kd, h1, h2, h3, h4⟩ := h
  have := nested_of I kd _ (.ref a) h1 h2 rfl
  rw [h3] at this
  exact ⟨this, h4⟩
theorem DHas.full (I : Inv X pins σ H s) (h : DHas X.prog X.w X.K H d es) : ∃ xs, EX es xs ∧ s.heap.DictOfH (nestedKind X.prog X.w) d xs ∧ es.length ≤ sizeLine ∧ (d == sysModules) = false := by
  obtain ⟨⟨o, hO⟩, hk⟩ := h
  have ⟨z, hd, xs, r, as, ep, ho, h1, h2, h3, h4⟩ : RawD X.prog X.w d es o s.heap := (I.hok d _ hO).1
  refine ⟨xs, r, ⟨o, as, ep, ho, h1, h2, h3, fun x hx => ?_, h4⟩, z, hd⟩
  have m : (x.1, x.2.1) ∈ es.map (fun e => (e.1, e.2.1)) := by rw [r.keys]; exact List.mem_map.mpr ⟨x, hx, rfl⟩
  obtain ⟨e, he, ee⟩ := List.mem_map.mp m
  have e1 : e.1 = x.1 := congrArg (·.1) ee
  have e2 : e.2.1 = x.2.1 := congrArg (·.2) ee
  rw [← e1, ← e2]
  exact (hk e he).is I
theorem roomN {X : Cx} (hu : X.A.units + 64 < cLine) : (nestedKind X.prog X.w).room X.A.in1 := by
  show X.A.in1.units + 8 < cLine
  have : X.A.in1.units = X.A.units + 1 := rfl
  omega
end
/-! ### what is done with it -/
section
variable {X : Cx}
def rDIx (X : Cx) : R2 := fun x y H Q => ∃ d es b k a v, x = V.ref d ∧ y = V.ref b ∧ DHas X.prog X.w X.K H d es ∧ KeyOk X.K H k b ∧ eAt es k = some (a, v) ∧ Q v H
theorem ix_dictN (hu : X.A.units + 64 < cLine) : IxR X (rDIx X) := by
  intro value slice pins s σ H x y v u Q I rx ry h hs
  obtain ⟨d, es, b, k, a, z, rfl, rfl, hd, hk, he, q⟩ := h
  cases rx
  cases ry
  obtain ⟨xs, r, dd, _, _⟩ := hd.full I
  obtain ⟨u, hu', ru⟩ := r.some_ he
  exact subscriptTail_builtinR (x := u) dd.typeIs PySem.F.slot_dict_getitem.lookup
    (wpAny_getItem_heap (Q := fun r s' => r = u ∧ EP X pins σ Q r s') (roomN hu) (hk.is I) dd hu' ⟨rfl, z, H, I.tok _, ru, q⟩) hs
def rDSet (X : Cx) : V → V → V → Hp → (Hp → Prop) → Prop := fun o i v H Q => ∃ d es b k, o = V.ref d ∧ i = V.ref b ∧ DHas X.prog X.w X.K H d es ∧ KeyOk X.K H k b ∧ es.length < sizeLine ∧ ∀ o', Q (upd H d (DO X.prog X.w d (ePut es k b v) o'))
theorem set_dictN (hu : X.A.units + 64 < cLine) : PSet X (rDSet X) := by
  intro pins s σ H o i v ov iv u Q I ro ri rv h
  obtain ⟨d, es, b, k, rfl, rfl, hd, hk, hz, q⟩ := h
  cases ro
  cases ri
  obtain ⟨xs, r, dd, _, hn⟩ := hd.full I
  have hl := ePut_len es k b v
  obtain ⟨o, hO⟩ := hd.1
  refine wpAny_setItem_heap (hsz := by rw [← r.len]; omega) (roomN hu) (hk.is I) dd fun h' dd' hs => ?_
  have he : ∃ q, h'.get? d = some q := let ⟨q, _, _, hq, _⟩ := dd'; ⟨q, hq⟩
  obtain ⟨o', R'⟩ := rawD_of (by omega) hn (r.put k b rv) dd'
  exact ⟨_, d_write I (by rw [hO]; exact True.intro) hs he (do_new R'), q o'⟩
def rDGet2 (X : Cx) : V → List V → Hp → VK → Prop := fun x vs H Q => ∃ d es b k z, x = V.ref d ∧ vs = [V.ref b, z] ∧ DHas X.prog X.w X.K H d es ∧ KeyOk X.K H k b ∧ Q (((eAt es k).map (·.2)).getD z) H
theorem mt_dget2 (hu : X.A.units + 64 < cLine) : MtR X "dict.get" (rDGet2 X) := by
  intro pins s σ H x xs v us Q I rx rxs h
  obtain ⟨d, es, b, k, z, rfl, rfl, hd, hk, q⟩ := h
  cases rx
  cases rxs with
  | cons r1 rr =>
    cases rr with
    | cons r2 rr =>
      cases rr
      cases r1
      obtain ⟨ys, r, dd, _, hn⟩ := hd.full I
      refine getOr_keyed (roomN hu) (hk.is I) hn (⟨ys, dd, rfl⟩ : Heap.DictKeyed _ _ _ _) ?_
      rw [valueAt_pairsH]
      refine ⟨_, H, I.tok _, ?_, q⟩
      rcases r.at k with ⟨e1, e2⟩ | ⟨a, v, u, e1, e2, e3⟩
      · rw [e1, e2]; exact r2
      · rw [e1, e2]; exact e3
def rDIn (X : Cx) (neg : Bool) : R2 := fun x y H Q => ∃ d es b k, x = V.ref b ∧ y = V.ref d ∧ DHas X.prog X.w X.K H d es ∧ KeyOk X.K H k b ∧ Q (.bl (xor neg (eAt es k).isSome)) H
theorem or_dinN (hu : X.A.units + 64 < cLine) : OpR X (compareOp .In) (rDIn X false) := by
  intro pins s σ H x y v u Q I rx ry h
  obtain ⟨d, es, b, k, rfl, rfl, hd, hk, q⟩ := h
  cases rx
  cases ry
  obtain ⟨xs, r, dd, _, hn⟩ := hd.full I
  refine wpAny_in_heap (roomN hu) (hk.is I) hn dd ⟨_, H, I.tok _, ?_, q⟩
  rw [r.isSome k]; cases (atKey xs k).isSome <;> rfl
theorem or_dnotinN (hu : X.A.units + 64 < cLine) : OpR X (compareOp .NotIn) (rDIn X true) := by
  intro pins s σ H x y v u Q I rx ry h
  obtain ⟨d, es, b, k, rfl, rfl, hd, hk, q⟩ := h
  cases rx
  cases ry
  obtain ⟨xs, r, dd, _, hn⟩ := hd.full I
  refine notIn_keyed (roomN hu) (hk.is I) hn (⟨xs, dd, rfl⟩ : Heap.DictKeyed _ _ _ _) ?_
  rw [valueAt_pairsH, Option.isSome_map]
  refine ⟨_, H, I.tok _, ?_, q⟩
  rw [r.isSome k]; cases (atKey xs k).isSome <;> rfl
/-- {} -/
def tDNewN (X : Cx) : L2.TE := fun _ H Q => ∀ p o, H p = none → Q (V.ref p) (upd H p (DO X.prog X.w p [] o))
theorem pe_dnewN {pos : Pos} : PE X (.Dict [] [] pos) (tDNewN X) := ⟨fun pins s σ H Q I h => by
  obtain ⟨o, R⟩ := rawD_of (P := X.prog) (w := X.w) (Nat.zero_le _) (beq_eq_false_iff_ne.mpr (Ne.symm (Nat.ne_of_lt I.big))) .nil (Heap.DictOfH.new s.heap)
  exact wpAny_Dict_empty ⟨.ref s.heap.objs.size, _, I.laid (a := s.heap.objs.size) (o := DO X.prog X.w s.heap.objs.size [] o) (t' := s.toks) (fun _ _ q => Heap.get?_push_of_some _ q) (Nat.le_refl _) (do_new R), rfl, h _ o (I.hok.fresh (Nat.le_refl _))⟩⟩
end
end GL

set_option Elab.async false
set_option linter.all false
set_option maxRecDepth 100000
set_option maxHeartbeats 6400000
namespace GL
open PySem PySem.Spec PyProof.Rows L2
open Evl (Ex ex_l ex_t)
/-! ### {k: v}, list(d), d.values(), their sum -/
section
variable {X : Cx}
def tDNew1 (X : Cx) (tk tv : L2.TE) : L2.TE := fun σ H Q => ∀ p o, H p = none → tk σ (upd H p (DO X.prog X.w p [] o)) fun x H1 => tv σ H1 fun y H2 => ∃ b k, x = V.ref b ∧ H2 p = some (DO X.prog X.w p [] o) ∧ KeyOk X.K H2 k b ∧ ∀ o', Q (V.ref p) (upd H2 p (DO X.prog X.w p [(k, b, y)] o'))
theorem pe_dnew1 (hu : X.A.units + 64 < cLine) {ke ve : Expr} {tk tv : L2.TE} {pos : Pos} (hk : PE X ke tk) (hv : PE X ve tv) : PE X (.Dict [some ke] [ve] pos) (tDNew1 X tk tv) := by
  refine ⟨fun pins s σ H Q I q => ?_⟩
  have hn := I.hok.fresh (Nat.le_refl s.heap.objs.size)
  obtain ⟨o0, R0⟩ := rawD_of (P := X.prog) (w := X.w) (Nat.zero_le _) (beq_eq_false_iff_ne.mpr (Ne.symm (Nat.ne_of_lt I.big))) .nil (Heap.DictOfH.new s.heap)
  have I1 := I.laid (a := s.heap.objs.size) (o := DO X.prog X.w s.heap.objs.size [] o0) (h' := s.heap.push { cls := .type "dict", data := .dict #[] }) (t' := s.toks) (fun _ _ q => Heap.get?_push_of_some _ q) (Nat.le_refl _) (do_new R0)
  rw [arm_eval_Dict, zip_pairTrees [some ke] [ve] X.env pos rfl rfl, dictDisplay_pairs (pairTrees [some ke] [ve] X.env pos) (fun z => nomatch z) (show 1 < 17 by decide)]
  refine wpAny_bind (wpAny_standAt (wpAny_bind (wpAny_subDictH (knd := nestedKind X.prog X.w) (show X.A.units + 8 < cLine by omega) (show 1 ≤ 15 by decide) ?_)))
  refine pairTrees_cons_walk (thn (hk.run pins _ σ _ _ I1 (q _ o0 hn)) fun u s1 ⟨x, H1, J1, rx, q1⟩ => thn (hv.run pins s1 σ H1 _ J1 q1) fun z s2 ⟨y, H2, I2, ry, b, k, ex, hd, hk2, q2⟩ => pairTrees_nil_walk ?_)
  subst ex
  have rx : u = Value.ref b := rx
  subst rx
  obtain ⟨xs, r, dd, _, hs⟩ := DHas.full (X := X) I2 ⟨⟨o0, hd⟩, fun _ h => nomatch h⟩
  cases r
  refine ⟨[(k, b, z)], ⟨rfl, rfl, hk2.is I2, trivial⟩, dd, fun h' tk dd' hsb => wpAny_pure ?_⟩
  have he : ∃ q, h'.get? s.heap.objs.size = some q := let ⟨q, _, _, hq, _⟩ := dd'; ⟨q, hq⟩
  obtain ⟨o1, R1⟩ := rawD_of (es := [(k, b, y)]) (by rw [sizeLine_eq]; exact (show 1 ≤ 16777216 by decide)) hs (.cons ry .nil) dd'
  exact ⟨V.ref s.heap.objs.size, _, d_write I2 (by rw [hd]; exact True.intro) hsb he (do_new R1), rfl, q2 o1⟩
/-- list(d) -/
theorem rawSrcK {P : Program} {w : World} {d : Addr} {es : Array DictEntry} {ep : Nat} (lo : (d == sysModules) = false) : PySem.W.KdlSrc P w "dict" d d es.size (fun i v => ∃ hi : i < es.size, v = es[i].key) (fun h => h.DictRaw d es ep) where
  type := fun _ hm => hm.typeIs
  there := fun _ ⟨o, ho, _⟩ => ⟨Heap.lt_size ho, Heap.lt_size ho⟩
  keep := fun _ _ hm hk => hm.at fun o e => hk d (.inl rfl) o e
  notList := by decide
  notTuple := by decide
  hint := fun _ _ _ _ hm hq => PySem.W.kdl_hint_dict hm.typeIs hq
  iter := fun _ _ hh hm => ⟨_, _, (fun _ _ hq => wpAny_pyIter_dict_raw lo hm hq), Walks.rawKeys hh _ d (Nat.ne_of_lt (let ⟨_, ho, _⟩ := hm; Heap.lt_size ho)) es ep, ⟨⟨_, Heap.get?_push_size _ rfl, rfl, rfl⟩, hm.at fun _ e => Heap.get?_push_of_some _ e⟩⟩
theorem rawSrcV {P : Program} {w : World} {r d : Addr} {es : Array DictEntry} {ep : Nat} : PySem.W.KdlSrc P w "dict_values" r d es.size (fun i v => ∃ hi : i < es.size, v = es[i].val) (fun h => h.IsValuesView r d ∧ h.DictRaw d es ep) where
  type := fun _ hm => hm.1.typeIs
  there := fun _ ⟨⟨_, h1, _⟩, ⟨_, h2, _⟩⟩ => ⟨Heap.lt_size h1, Heap.lt_size h2⟩
  keep := fun _ _ hm hk => ⟨let ⟨o, ho, x⟩ := hm.1; ⟨o, hk r (.inl rfl) o ho, x⟩, hm.2.at fun o e => hk d (.inr rfl) o e⟩
  notList := by decide
  notTuple := by decide
  hint := fun _ _ _ _ hm hq => PySem.W.kdl_hint_values hm.1.typeIs hq
  iter := fun _ _ hh hm => ⟨_, _, (fun _ _ hq => wpAny_pyIter_values_raw hm.1 hm.2 hq), Walks.rawValues hh _ d (Nat.ne_of_lt (let ⟨_, ho, _⟩ := hm.2; Heap.lt_size ho)) es ep, ⟨⟨_, Heap.get?_push_size _ rfl, rfl, rfl⟩, hm.2.at fun _ e => Heap.get?_push_of_some _ e⟩⟩
theorem vals_at : ∀ {xs : List V} {us : List Value}, xs.length = us.length → (∀ (i : Nat) (x : V) (u : Value), xs[i]? = some x → us[i]? = some u → RelV x u) → Vals xs us
  | [], [], _, _ => .nil
  | [], _ :: _, h, _ => by simp at h
  | _ :: _, [], h, _ => by simp at h
  | x :: xs, u :: us, h, k => .cons (k 0 x u rfl rfl) (vals_at (by simpa using h) fun i y v a b => k (i + 1) y v (by simpa using a) (by simpa using b))
theorem ex_get {es : List DEnt} {xs : List (NestedKey × Addr × Value)} (r : EX es xs) {i : Nat} {e : DEnt} {x : NestedKey × Addr × Value} (a : es[i]? = some e) (b : xs[i]? = some x) : e.1 = x.1 ∧ e.2.1 = x.2.1 ∧ RelV e.2.2 x.2.2 := by
  induction r generalizing i with
  | nil => simp at a
  | cons h _ ih =>
    cases i with
    | zero => simp at a b; subst a; subst b; exact ⟨rfl, rfl, h⟩
    | succ i => exact ih (by simpa using a) (by simpa using b)
def rDList (X : Cx) : List V → Hp → VK → Prop := fun vs H Q => ∃ d es, vs = [V.ref d] ∧ DHas X.prog X.w X.K H d es ∧ ∀ p, H p = none → Q (.ref p) (upd H p (.lst (es.map fun e => V.ref e.2.1)))
theorem cr_listDN (hc : X.calm = true) : CallR X (.type "list") (rDList X) := by
  intro pins s σ H vs us Q I r h
  obtain ⟨d, es, rfl, hd, q⟩ := h
  obtain ⟨xs, rx, dd, hz, hn⟩ := hd.full I
  obtain ⟨as, ep, raw, hs, hx⟩ := dd.raw
  have hl := rx.len
  rw [Vals.ref1 r]
  refine PySem.W.kdl_call (rawSrcK hn) (I.ok.hd hc) raw (by omega) fun h' tk acc c hk hS hacc => ?_
  have hv : Vals (es.map fun e => V.ref e.2.1) acc.toList := vals_at (by have h1 : acc.toList.length = as.size := (Array.length_toList).trans hacc.1; have h2 : (es.map fun e => V.ref e.2.1).length = es.length := List.length_map _; omega) fun i x u a b => by
    rw [List.getElem?_map] at a
    obtain ⟨e, he, rfl⟩ := Option.map_eq_some_iff.mp a
    obtain ⟨hi, rfl⟩ := hacc.2 i u (by rw [← Array.getElem?_toList]; exact b)
    obtain ⟨y, y1, y2, _⟩ := hx i hi
    rw [y2, ← (ex_get rx he y1).2.1]
    exact rfl
  exact ⟨.ref s.heap.objs.size, upd H s.heap.objs.size (.lst (es.map fun e => V.ref e.2.1)), I.laid (t' := tk) hk (Nat.le_refl _) ⟨by rw [List.length_map]; exact hz, acc.toList, c, hv, by simpa using hS⟩, rfl, q _ (I.hok.fresh (Nat.le_refl _))⟩
def valsO (p d : Addr) : HO := .ext fun h => h.IsValuesView p d
def rDVals (X : Cx) : V → List V → Hp → VK → Prop := fun x vs H Q => ∃ d es, x = V.ref d ∧ vs = [] ∧ DHas X.prog X.w X.K H d es ∧ ∀ p, H p = none → Q (.ref p) (upd H p (valsO p d))
theorem mt_dvalsN : MtR X "dict.values" (rDVals X) := by
  intro pins s σ H x vs v us Q I rx rvs h
  obtain ⟨d, es, rfl, rfl, hd, q⟩ := h
  cases rx
  cases rvs
  obtain ⟨xs, r, dd, hz, hn⟩ := hd.full I
  obtain ⟨as, ep, raw, hs, hx⟩ := dd.raw
  refine call_meetsIn PySem.F.slot_dict_values dd.typeIs PySem.F.entry_dict_values (PySem.F.args_dict_values_1 _) (meets_dict_values_raw d hn) ⟨⟨as, ep, raw⟩, ?_⟩
  exact ⟨.ref s.heap.objs.size, upd H s.heap.objs.size (valsO s.heap.objs.size d), I.laid (t' := s.toks) (fun b u e => Heap.get?_push_of_some _ e) (Nat.le_refl _)
    ⟨⟨_, Heap.get?_push_size _ rfl, rfl, rfl⟩, ⟨_, Heap.get?_push_size _ rfl⟩, fun h1 h2 x k => let ⟨o, ho, r⟩ := x; ⟨o, k o ho, r⟩⟩, rfl, q _ (I.hok.fresh (Nat.le_refl _))⟩
theorem preSum_list : ∀ ns : List Int, preSum (fun i => ns.getD i 0) ns.length = ns.sum := by
  have key : ∀ (f : Nat → Int) (n : Nat), preSum f (n + 1) = f 0 + preSum (fun i => f (i + 1)) n := fun f n => by
    induction n with
    | zero => show 0 + f 0 = f 0 + 0; omega
    | succ n ih => show preSum f (n + 1) + f (n + 1) = f 0 + (preSum (fun i => f (i + 1)) n + f (n + 1)); omega
  intro ns
  induction ns with
  | nil => rfl
  | cons n ns ih =>
    rw [List.length_cons, key, List.sum_cons]
    show n + preSum (fun i => ns.getD i 0) ns.length = _
    rw [ih]
def rDSum (X : Cx) : List V → Hp → VK → Prop := fun vs H Q => ∃ (p d : Addr) (es : List DEnt) (ns : List Int), vs = [V.ref p] ∧ H p = some (valsO p d) ∧ DHas X.prog X.w X.K H d es ∧ es.map (fun e => e.2.2) = ns.map V.int ∧ Q (.int ns.sum) H
theorem cr_dsumN (hc : X.calm = true) : CallR X (.builtin "sum") (rDSum X) := by
  intro pins s σ H vs us Q I r h
  obtain ⟨p, d, es, ns, rfl, hp, hd, hi, q⟩ := h
  obtain ⟨xs, rx, dd, hz, hn⟩ := hd.full I
  obtain ⟨as, ep, raw, hs, hx⟩ := dd.raw
  have hview : s.heap.IsValuesView p d := (I.hok p _ hp).1
  have hl := rx.len
  rw [Vals.ref1 r]
  have hok : s.heap.IsValuesView p d ∧ s.heap.DictRaw d as ep := ⟨hview, raw⟩
  have hnl : ns.length = as.size := by have := congrArg List.length hi; rw [List.length_map, List.length_map] at this; omega
  refine call_sum_walkAnyS ?_
  obtain ⟨oI, St, hit, W, st⟩ := (rawSrcV (P := X.prog) (w := X.w) (r := p) (d := d) (es := as) (ep := ep)).iter X.A.in1 s (I.ok.hd hc) hok
  refine hit _ _ ⟨s.heap.objs.size, _, _, _, as.size, _, _, fun i => ns.getD i 0, rfl, W.toS, st, fun b hb => ?_, fun i v hv => ?_, fun s' t' hm => ?_⟩
  · show b < (s.heap.push oI).objs.size
    rw [Heap.size_push]
    rcases List.mem_cons.mp hb with e | hb
    · rw [e]; exact Nat.lt_succ_self _
    · rw [List.mem_singleton.mp hb]; obtain ⟨o, ho, _⟩ := raw; exact Nat.lt_succ_of_lt (Heap.lt_size ho)
  · obtain ⟨hi', rfl⟩ := hv
    obtain ⟨y, y1, _, y3, _⟩ := hx i hi'
    have h1 : es[i]? = some es[i] := List.getElem?_eq_getElem (by omega)
    have g := ex_get rx h1 y1
    have hn1 : (es.map (fun e => e.2.2))[i]? = some es[i].2.2 := by rw [List.getElem?_map, h1]; rfl
    rw [hi, List.getElem?_map] at hn1
    obtain ⟨z, z1, z2⟩ := Option.map_eq_some_iff.mp hn1
    have rv := g.2.2
    rw [← z2] at rv
    obtain ⟨t, ht⟩ := rv
    exact ⟨t, by rw [y3, ht]; show Value.int z t = Value.int (ns.getD i 0) t; rw [List.getD_eq_getElem?_getD, z1]; rfl⟩
  · have hk : ∀ b o, s.heap.get? b = some o → s'.heap.get? b = some o := fun b o e =>
      hm.heap b o (fun hI => absurd (Heap.lt_size e) (by rw [List.mem_singleton.mp hI]; exact Nat.lt_irrefl _)) (Heap.get?_push_of_some _ e)
    rw [Moved.eq_with hm, ← hnl, preSum_list]
    exact ⟨.int ns.sum, H, I.kept (t' := s'.toks) hk, ⟨t', rfl⟩, q⟩
end
end GL

set_option Elab.async false
set_option linter.all false
set_option maxRecDepth 100000
set_option maxHeartbeats 4000000
namespace GL
open PySem PySem.Spec PyProof.Rows L2
open Evl (Ex ex_l ex_t)
/-! ### things that may be keys -/
class Ke (α : Type) [Py α] where
  lv : Nat
  key : ∀ x : α, keyD (enc x) = true
  inj : ∀ x y : α, nkD (enc x) = nkD (enc y) → x = y
  dep : ∀ x : α, (nkD (enc x)).depth ≤ lv
class IsTu (α : Type) [Py α] : Prop where
  tu : ∀ x : α, ∃ ds, enc x = .tuple ds
theorem nkDs_map : ∀ ds : List PyData, nkDs ds = ds.map nkD
  | [] => by unfold nkDs; rfl
  | d :: ds => by unfold nkDs; rw [nkDs_map ds]; rfl
theorem keyDs_map : ∀ ds : List PyData, keyDs ds = ds.all keyD
  | [] => by unfold keyDs; rfl
  | d :: ds => by unfold keyDs; rw [keyDs_map ds]; rfl
theorem depAll_le {n : Nat} : ∀ {ks : List NestedKey}, (∀ k ∈ ks, k.depth ≤ n) → NestedKey.depthAll ks ≤ n
  | [], _ => by unfold NestedKey.depthAll; exact Nat.zero_le _
  | k :: ks, h => by
    unfold NestedKey.depthAll
    have a := h k (List.mem_cons_self ..)
    have b := depAll_le fun x hx => h x (List.mem_cons_of_mem _ hx)
    omega
theorem map_inj {α β : Type} {f : α → β} (h : ∀ x y, f x = f y → x = y) : ∀ {xs ys : List α}, xs.map f = ys.map f → xs = ys
  | [], [], _ => rfl
  | [], _ :: _, e => by simp at e
  | _ :: _, [], e => by simp at e
  | x :: xs, y :: ys, e => by
    rw [List.map_cons, List.map_cons] at e
    injection e with e1 e2
    rw [h x y e1, map_inj h e2]
instance : Ke Int where
  lv := 0
  key := fun x => by show keyD (.int x) = true; unfold keyD; rfl
  inj := fun x y e => by
    have e : nkD (.int x) = nkD (.int y) := e
    unfold nkD at e
    injection e
  dep := fun x => by
    show (nkD (.int x)).depth ≤ 0
    unfold nkD NestedKey.depth; exact Nat.le_refl _
instance {α : Type} [Py α] [Ke α] : Ke (Tup α) where
  lv := Ke.lv α + 1
  key := fun x => by
    show keyD (.tuple (x.l.map enc)) = true
    unfold keyD
    rw [keyDs_map, List.all_map, List.all_eq_true]
    exact fun y _ => Ke.key y
  inj := fun x y e => by
    have e : nkD (.tuple (x.l.map enc)) = nkD (.tuple (y.l.map enc)) := e
    unfold nkD at e
    injection e with e
    rw [nkDs_map, nkDs_map, List.map_map, List.map_map] at e
    have := map_inj (f := nkD ∘ enc) (fun a b h => Ke.inj a b h) e
    cases x; cases y; simp only at this; rw [this]
  dep := fun x => by
    show (nkD (.tuple (x.l.map enc))).depth ≤ Ke.lv α + 1
    unfold nkD NestedKey.depth
    rw [nkDs_map]
    have := depAll_le (n := Ke.lv α) (ks := (x.l.map enc).map nkD) fun k hk => by
      rw [List.map_map] at hk
      obtain ⟨y, _, rfl⟩ := List.mem_map.mp hk
      exact Ke.dep y
    omega
instance {α β : Type} [Py α] [Py β] [Ke α] [Ke β] : Ke (α × β) where
  lv := max (Ke.lv α) (Ke.lv β) + 1
  key := fun x => by
    show keyD (.tuple [enc x.1, enc x.2]) = true
    unfold keyD
    rw [keyDs_map]
    show (keyD (enc x.1) && (keyD (enc x.2) && true)) = true
    rw [Ke.key x.1, Ke.key x.2]; rfl
  inj := fun x y e => by
    have e : nkD (.tuple [enc x.1, enc x.2]) = nkD (.tuple [enc y.1, enc y.2]) := e
    unfold nkD at e
    injection e with e
    rw [nkDs_map, nkDs_map] at e
    have e : [nkD (enc x.1), nkD (enc x.2)] = [nkD (enc y.1), nkD (enc y.2)] := e
    injection e with e1 e2
    injection e2 with e2 _
    exact Prod.ext (Ke.inj _ _ e1) (Ke.inj _ _ e2)
  dep := fun x => by
    show (nkD (.tuple [enc x.1, enc x.2])).depth ≤ _
    unfold nkD NestedKey.depth
    rw [nkDs_map]
    have := depAll_le (n := max (Ke.lv α) (Ke.lv β)) (ks := [enc x.1, enc x.2].map nkD) fun k hk => by
      have hk : k ∈ [nkD (enc x.1), nkD (enc x.2)] := hk
      have a := Ke.dep x.1
      have b := Ke.dep x.2
      rcases List.mem_cons.mp hk with e | e
      · rw [e]; omega
      · rw [List.mem_singleton.mp e]; omega
    omega
instance {α : Type} [Py α] : IsTu (Tup α) := ⟨fun x => ⟨_, rfl⟩⟩
instance {α β : Type} [Py α] [Py β] : IsTu (α × β) := ⟨fun x => ⟨_, rfl⟩⟩
/-! ### a dict as told -/
structure Dc (κ β : Type) where
  l : List (κ × β)
  deriving Inhabited
def Dc.at {κ β : Type} [DecidableEq κ] (d : Dc κ β) (k : κ) : Option β := (d.l.find? fun e => decide (e.1 = k)).map (·.2)
def Dc.put {κ β : Type} [DecidableEq κ] (d : Dc κ β) (k : κ) (v : β) : Dc κ β := ⟨if (d.at k).isSome then d.l.map (fun e => if e.1 = k then (e.1, v) else e) else d.l ++ [(k, v)]⟩
/-- entries of which ps tell -/
inductive EntOk (K : Fg) (F : Hp) : List (PyData × MP) → List DEnt → Prop
  | nil : EntOk K F [] []
  | cons {kd : PyData} {P : MP} {a : Addr} {v : V} {ps : List (PyData × MP)} {es : List DEnt} : Dq K F (.ref a) kd → P.p F v → EntOk K F ps es → EntOk K F ((kd, P) :: ps) ((nkD kd, a, v) :: es)
theorem EntOk.mono {K : Fg} {F F' : Hp} {ps : List (PyData × MP)} {es : List DEnt} (r : EntOk K F ps es) (e : Ex F F') : EntOk K F' ps es := by
  induction r with
  | nil => exact .nil
  | cons h1 h2 _ ih => exact .cons (dq_mono e _ _ h1) (MP.mono _ _ _ _ e h2) ih
theorem EntOk.len {K : Fg} {F : Hp} {ps : List (PyData × MP)} {es : List DEnt} (r : EntOk K F ps es) : es.length = ps.length := by
  induction r with
  | nil => rfl
  | cons _ _ _ ih => simp [ih]
def DAt (P : Program) (w : World) (K : Fg) (F H : Hp) (l : Addr) (ps : List (PyData × MP)) : Prop := ∃ es o, H l = some (DO P w l es o) ∧ EntOk K F ps es
def dcM (P : Program) (w : World) (K : Fg) (ps : List (PyData × MP)) : MP := ⟨fun F v => ∃ l, v = .ref l ∧ DAt P w K F F l ps, fun F F' v e ⟨l, h1, es, o, h2, h3⟩ => ⟨l, h1, es, o, e _ _ h2, h3.mono e⟩⟩
def dcO (P : Program) (w : World) (K : Fg) (ps : List (PyData × MP)) : OP where
  fp := fun _ l => [l]
  p := fun F H l => DAt P w K F H l ps
  self := fun H l => List.mem_cons_self ..
  fpk := fun H H' l e => rfl
  frame := fun F F' H H' l hF hk ⟨es, o, h1, h2⟩ => ⟨es, o, (hk l (List.mem_cons_self ..)).trans h1, h2.mono hF⟩
  lay := fun F H l ⟨es, o, h1, h2⟩ a ha fs z => by
    rw [List.mem_singleton.mp ha, h1] at z; cases z
def dps (K : Fg) {κ β : Type} [Py κ] [Py β] (d : Dc κ β) : List (PyData × MP) := d.l.map fun e => (enc e.1, py K (enc e.2))
abbrev dcP (P : Program) (w : World) (K : Fg) {κ β : Type} [Py κ] [Py β] (d : Dc κ β) : MP := dcM P w K (dps K d)
abbrev sD (P : Program) (w : World) (K : Fg) {κ β : Type} [Py κ] [Py β] (d : Dc κ β) : SD := .ob (dcO P w K (dps K d))
section
variable {κ β : Type} [Py κ] [Py β] [DecidableEq κ] [Ke κ] {K : Fg} {F H : Hp}
theorem ent_at (l : List (κ × β)) {es : List DEnt} (r : EntOk K F (l.map fun e => (enc e.1, py K (enc e.2))) es) (k : κ) :
    (Dc.at ⟨l⟩ k = none ∧ eAt es (nkD (enc k)) = none) ∨ ∃ v a x, Dc.at ⟨l⟩ k = some v ∧ eAt es (nkD (enc k)) = some (a, x) ∧ (py K (enc v)).p F x := by
  induction l generalizing es with
  | nil => cases r; exact .inl ⟨rfl, rfl⟩
  | cons e l ih =>
    obtain ⟨k', v'⟩ := e
    cases r with
    | @cons _ _ a x _ es h1 h2 h3 =>
      by_cases q : k' = k
      · subst q
        exact .inr ⟨v', a, x, by simp [Dc.at, List.find?_cons], by simp [eAt, List.find?_cons], h2⟩
      · have q2 : ¬ nkD (enc k') = nkD (enc k) := fun z => q (Ke.inj _ _ z)
        have e1 : Dc.at ⟨(k', v') :: l⟩ k = Dc.at ⟨l⟩ k := by simp [Dc.at, List.find?_cons, q]
        have e2 : eAt ((nkD (enc k'), a, x) :: es) (nkD (enc k)) = eAt es (nkD (enc k)) := by simp only [eAt, List.find?_cons, decide_eq_false q2]
        rw [e1]
        show (_ ∧ eAt ((nkD (enc k'), a, x) :: es) (nkD (enc k)) = none) ∨ ∃ v b y, _ ∧ eAt ((nkD (enc k'), a, x) :: es) (nkD (enc k)) = some (b, y) ∧ _
        rw [e2]
        exact ih h3
theorem ent_repl (l : List (κ × β)) {es : List DEnt} (r : EntOk K F (l.map fun e => (enc e.1, py K (enc e.2))) es) (k : κ) {v : β} {x : V} (h : (py K (enc v)).p F x) :
    EntOk K F ((l.map fun e => if e.1 = k then (e.1, v) else e).map fun e => (enc e.1, py K (enc e.2))) (es.map fun e => if e.1 = nkD (enc k) then (e.1, e.2.1, x) else e) := by
  induction l generalizing es with
  | nil => cases r; exact .nil
  | cons e l ih =>
    obtain ⟨k', v'⟩ := e
    cases r with
    | @cons _ _ a y _ es h1 h2 h3 =>
      have t := ih h3
      by_cases q : k' = k
      · subst q
        have c := EntOk.cons (P := py K (enc v)) h1 h t
        simpa using c
      · have q2 : ¬ nkD (enc k') = nkD (enc k) := fun z => q (Ke.inj _ _ z)
        have c := EntOk.cons h1 h2 t
        simpa [if_neg q, if_neg q2] using c
theorem ent_app {ps qs : List (PyData × MP)} {es fs : List DEnt} (r : EntOk K F ps es) (t : EntOk K F qs fs) : EntOk K F (ps ++ qs) (es ++ fs) := by
  induction r with
  | nil => exact t
  | cons h1 h2 _ ih => exact .cons h1 h2 ih
theorem ent_put {d : Dc κ β} {es : List DEnt} (r : EntOk K F (dps K d) es) {k : κ} {b : Addr} {v : β} {x : V} (hk : Dq K F (.ref b) (enc k)) (h : (py K (enc v)).p F x) : EntOk K F (dps K (d.put k v)) (ePut es (nkD (enc k)) b x) := by
  unfold dps Dc.put ePut
  rcases ent_at d.l r k with ⟨e1, e2⟩ | ⟨v', a, y, e1, e2, _⟩
  · have e1 : d.at k = none := e1
    rw [e1, e2]
    simp only [Option.isSome_none, Bool.false_eq_true, if_false]
    rw [List.map_append]
    exact ent_app r (.cons hk h .nil)
  · have e1 : d.at k = some v' := e1
    rw [e1, e2]
    simp only [Option.isSome_some, if_true]
    exact ent_repl d.l r k h
theorem ref_of [IsTu κ] {k : κ} {v : V} (h : (py K (enc k)).p F v) : ∃ b, v = .ref b := by
  have h : Dq K F v (enc k) := h
  obtain ⟨ds, e⟩ := IsTu.tu k
  rw [e] at h
  cases h
  exact ⟨_, rfl⟩
theorem keyOk_of (hl : Ke.lv κ ≤ 8) (s : Ex F H) {k : κ} {b : Addr} (h : Dq K F (.ref b) (enc k)) : KeyOk K H (nkD (enc k)) b :=
  ⟨enc k, dp_mono s _ _ (dq_dp _ _ h), Ke.key k, rfl, Nat.le_trans (Ke.dep k) hl⟩
theorem ents_keys (hl : Ke.lv κ ≤ 8) (s : Ex F H) (l : List (κ × β)) {es : List DEnt} (r : EntOk K F (l.map fun e => (enc e.1, py K (enc e.2))) es) : ∀ e ∈ es, KeyOk K H e.1 e.2.1 := by
  induction l generalizing es with
  | nil => cases r; exact fun _ h => nomatch h
  | cons e l ih =>
    cases r with
    | cons h1 h2 h3 =>
      intro e he
      rcases List.mem_cons.mp he with q | q
      · rw [q]; exact keyOk_of hl s h1
      · exact ih h3 e q
theorem has_of {P : Program} {w : World} (hl : Ke.lv κ ≤ 8) (s : Ex F H) {d : Dc κ β} {l : Addr} {es : List DEnt} {o : Obj} (h : H l = some (DO P w l es o)) (r : EntOk K F (dps K d) es) : DHas P w K H l es := ⟨⟨o, h⟩, ents_keys hl s d.l r⟩
end
/-! ### a dict's methods -/
section
variable {X : Cx}
def IsDN (X : Cx) (x : V) (H : Hp) : Prop := ∃ d es o, x = V.ref d ∧ H d = some (DO X.prog X.w d es o)
theorem isDN_at {pins : List (Addr × Obj)} {σ : L2.St} {H : Hp} {s : Shared} {x : V} {v : Value} (I : Inv X pins σ H s) (rx : RelV x v) (ty : IsDN X x H) : s.TypeIs v "dict" ∧ ∀ a, v = .ref a → ∃ ob, s.heap.get? a = some ob ∧ ob.dict = none := by
  obtain ⟨d, es, o, rfl, hd⟩ := ty
  have ⟨_, _, _, _, _, _, ho, hex, _⟩ : RawD X.prog X.w d es o s.heap := (I.hok d _ hd).1
  have rx : v = Value.ref d := rx
  subst rx
  exact ⟨⟨o, ho, hex.1⟩, fun a z => by cases z; exact ⟨o, ho, hex.2.1⟩⟩
variable {o e : Expr} {es : List Expr} {to : L2.TE} {t : TA} {name : Str} {apos cpos : Pos} {id : String} {r : V → List V → Hp → VK → Prop}
def tDM0 (X : Cx) (r : V → List V → Hp → VK → Prop) (to : L2.TE) : L2.TE := fun σ H Q => to σ H fun x H1 => IsDN X x H1 ∧ r x [] H1 Q
def tDM (X : Cx) (r : V → List V → Hp → VK → Prop) (to : L2.TE) (t : TA) : L2.TE := fun σ H Q => to σ H fun x H1 => IsDN X x H1 ∧ t σ H1 fun xs H2 => r x xs H2 Q
theorem pe_dm0 (slot : Slot "dict" name id) (hty : typeOf (.builtin id) = pure (.type "method_descriptor")) (hm : MtR X id r) (ho : PE X o to) (base : attributeBase o name X.env (eval o X.env) = eval o X.env) (line : (apos.endLine == cpos.line) = true) :
    PE X (.Call (.Attribute o name apos) [] [] cpos) (tDM0 X r to) := ⟨fun pins s σ H Q I h =>
  wpAny_Call_method0_late base line (thn (ho.run pins s σ H _ I h) fun v s1 ⟨x, H1, I1, r1, ty, q1⟩ => by
    have z := isDN_at I1 r1 ty
    exact ⟨"dict", id, PySem.F.plainAttrs_dict, slot, hty, z.1, z.2, Calls.callWith_builtin rfl (PySem.evalArgs_none (hm pins s1 σ H1 x [] v [] Q I1 r1 .nil q1))⟩)⟩
theorem pe_dm (slot : Slot "dict" name id) (hty : typeOf (.builtin id) = pure (.type "method_descriptor")) (hm : MtR X id r) (ho : PE X o to) (ha : PA X (e :: es) t) (base : attributeBase o name X.env (eval o X.env) = eval o X.env)
    (few : ((backTo cpos (starEach (e :: es) X.env)).all (fun x => !x.1) && (backToKw cpos (keywordEach [] X.env)).all (fun x => x.1.isSome) && decide ((e :: es).length + ([] : List Keyword).length + (if ([] : List Keyword).isEmpty then 0 else 1) < 30)) = true)
    (line : (apos.endLine == cpos.line) = true) (star : starEach (e :: es) X.env = (false, eval e X.env) :: starEach es X.env) (plain : (backTo cpos (starEach es X.env)).any (·.1) = false) :
    PE X (.Call (.Attribute o name apos) (e :: es) [] cpos) (tDM X r to t) := ⟨fun pins s σ H Q I h =>
  wpAny_Call_method_late base few line rfl (thn (ho.run pins s σ H _ I h) fun v s1 ⟨x, H1, I1, r1, ty, q1⟩ => by
    have z := isDN_at I1 r1 ty
    have hA := ha.run cpos pins s1 σ H1 _ I1 q1
    refine ⟨"dict", id, PySem.F.plainAttrs_dict, slot, hty, z.1, z.2, ?_⟩
    rw [star] at hA ⊢
    exact Calls.callWith_builtin (show (false || (backTo cpos (starEach es X.env)).any (·.1)) = false by rw [plain]; rfl) (Calls.evalArgs_plain (thn hA fun us s2 ⟨vs, H2, I2, r2, q2⟩ => hm pins s2 σ H2 x vs v us Q I2 r1 r2 q2)))⟩
end
/-! ### reading -/
theorem few2 {X : Cx} {e f : Expr} {cpos : Pos} (h1 : nst e = true) (h2 : nst f = true) : ((backTo cpos (starEach [e, f] X.env)).all (fun x => !x.1) && (backToKw cpos (keywordEach [] X.env)).all (fun x => x.1.isSome)
      && decide ([e, f].length + ([] : List Keyword).length + (if ([] : List Keyword).isEmpty then 0 else 1) < 30)) = true := by
  rw [star_cons h1, star_cons h2]; rfl
section
variable {X : Cx} {W : XK} {S R : Type} {Φ : List SD} {Mm : S → List SD} {T : R → RS} {a b c e : Expr} {es : List Expr} {pos p p2 apos : Pos} {A : List Stmt} {r : List (List Stmt)} {o : Ctl S R}
variable {κ β : Type} [Py κ] [Py β] [DecidableEq κ] [Ke κ] [IsTu κ] {d : Dc κ β} {k : κ}
theorem v_dix [Inhabited β] (hu : X.A.units + 64 < cLine) (ha : PEv X Φ a (dcP X.prog X.w X.K d)) (hb : PV X Φ b k) (h : (d.at k).isSome = true) (hl : Ke.lv κ ≤ 8 := by decide) (hs : PlainIx b := by exact fun _ _ => rfl) : PV X Φ (.Subscript a b pos) ((d.at k).getD default) := .mk fun H0 σ F H Q s sl q =>
  wE_of (pe_ix (ix_dictN hu) peW peW hs) (ha H0 σ F H _ s sl fun v F1 H1 g1 p1 => hb H0 σ F1 H1 _ g1.s (sl.gr g1) fun w F2 H2 g2 p2 => by
    obtain ⟨l, rfl, es, oo, h1, h2⟩ := p1
    obtain ⟨c, rfl⟩ := ref_of p2
    have r2 := h2.mono g2.f
    rcases ent_at d.l r2 k with ⟨e1, _⟩ | ⟨v, m, x, e1, e2, e3⟩
    · have e1 : d.at k = none := e1
      rw [e1] at h; cases h
    · have e1 : d.at k = some v := e1
      rw [e1] at q
      exact ⟨l, es, c, _, m, x, rfl, rfl, has_of hl g2.s (g2.s _ _ (g2.f _ _ h1)) r2, keyOk_of hl g2.s p2, e2, q x F2 H2 (g1.trans g2) e3⟩)
theorem v_dget2 {f : Expr} {z : β} (hu : X.A.units + 64 < cLine) (ha : PEv X Φ a (dcP X.prog X.w X.K d)) (hb : PV X Φ e k) (hc : PV X Φ f z) (hl : Ke.lv κ ≤ 8 := by decide) (n1 : nst e = true := by rfl) (n2 : nst f = true := by rfl)
    (hbase : attributeBase a "get" X.env (eval a X.env) = eval a X.env := by rfl) (hln : (apos.endLine == pos.line) = true := by rfl) : PV X Φ (.Call (.Attribute a "get" apos) [e, f] [] pos) ((d.at k).getD z) := .mk fun H0 σ F H Q s sl q =>
  wE_of (pe_dm PySem.F.slot_dict_get PySem.F.type_dict_get (mt_dget2 hu) peW (pa_cons peW (pa_cons peW pa_nil (star_cons n2)) (star_cons n1)) hbase (few2 n1 n2) hln (star_cons n1) (by rw [star_cons n2]; rfl)) (ha H0 σ F H _ s sl fun v F1 H1 g1 p1 => by
    obtain ⟨l, rfl, es, oo, h1, h2⟩ := p1
    refine ⟨⟨l, es, oo, rfl, g1.s _ _ h1⟩, hb H0 σ F1 H1 _ g1.s (sl.gr g1) fun w F2 H2 g2 p2 => hc H0 σ F2 H2 _ g2.s ((sl.gr g1).gr g2) fun y F3 H3 g3 p3 => ?_⟩
    obtain ⟨c, rfl⟩ := ref_of p2
    have r3 := h2.mono (g2.f.trans g3.f)
    refine ⟨l, es, c, _, y, rfl, rfl, has_of hl g3.s (g3.s _ _ (g3.f _ _ (g2.f _ _ h1))) r3, keyOk_of hl g3.s (dq_mono g3.f _ _ p2), ?_⟩
    rcases ent_at d.l r3 k with ⟨e1, e2⟩ | ⟨v, m, x, e1, e2, e3⟩
    · have e1 : d.at k = none := e1
      rw [e1] at q; rw [e2]
      exact q _ _ _ ((g1.trans g2).trans g3) p3
    · have e1 : d.at k = some v := e1
      rw [e1] at q; rw [e2]
      exact q _ _ _ ((g1.trans g2).trans g3) e3)
theorem din_of {F1 F2 H2 : Hp} {l : Addr} {es : List DEnt} (hl : Ke.lv κ ≤ 8) (r2 : EntOk X.K F2 (dps X.K d) es) : (eAt es (nkD (enc k))).isSome = (d.at k).isSome := by
  rcases ent_at d.l r2 k with ⟨e1, e2⟩ | ⟨v, m, x, e1, e2, e3⟩
  · have e1 : d.at k = none := e1
    rw [e1, e2]; rfl
  · have e1 : d.at k = some v := e1
    rw [e1, e2]; rfl
theorem v_din (hu : X.A.units + 64 < cLine) (ha : PV X Φ a k) (hb : PEv X Φ b (dcP X.prog X.w X.K d)) (hl : Ke.lv κ ≤ 8 := by decide) (hm : behindInMarks .In b = false := by rfl) : PV X Φ (.Compare a [.In] [b] pos) (d.at k).isSome := .mk fun H0 σ F H Q s sl q =>
  wE_of (pe_cmpR (or_dinN hu) peW peW hm) (ha H0 σ F H _ s sl fun v F1 H1 g1 p1 => hb H0 σ F1 H1 _ g1.s (sl.gr g1) fun w F2 H2 g2 p2 => by
    obtain ⟨c, rfl⟩ := ref_of p1
    obtain ⟨l, rfl, es, oo, h1, h2⟩ := p2
    refine ⟨l, es, c, _, rfl, rfl, has_of hl g2.s (g2.s _ _ h1) h2, keyOk_of hl g2.s (dq_mono g2.f _ _ p1), ?_⟩
    rw [Bool.false_xor, din_of (F1 := F1) (H2 := H2) (l := l) hl h2]
    exact q _ _ _ (g1.trans g2) (.bl _))
theorem v_dnotin (hu : X.A.units + 64 < cLine) (ha : PV X Φ a k) (hb : PEv X Φ b (dcP X.prog X.w X.K d)) (hl : Ke.lv κ ≤ 8 := by decide) (hm : behindInMarks .NotIn b = false := by rfl) : PV X Φ (.Compare a [.NotIn] [b] pos) (!(d.at k).isSome) := .mk fun H0 σ F H Q s sl q =>
  wE_of (pe_cmpR (or_dnotinN hu) peW peW hm) (ha H0 σ F H _ s sl fun v F1 H1 g1 p1 => hb H0 σ F1 H1 _ g1.s (sl.gr g1) fun w F2 H2 g2 p2 => by
    obtain ⟨c, rfl⟩ := ref_of p1
    obtain ⟨l, rfl, es, oo, h1, h2⟩ := p2
    refine ⟨l, es, c, _, rfl, rfl, has_of hl g2.s (g2.s _ _ h1) h2, keyOk_of hl g2.s (dq_mono g2.f _ _ p1), ?_⟩
    rw [Bool.true_xor, din_of (F1 := F1) (H2 := H2) (l := l) hl h2]
    exact q _ _ _ (g1.trans g2) (.bl _))
theorem t_din (hu : X.A.units + 64 < cLine) (ha : PV X Φ a k) (hb : PEv X Φ b (dcP X.prog X.w X.K d)) (hl : Ke.lv κ ≤ 8 := by decide) (hm : behindInMarks .In b = false := by rfl) : PTv X Φ (.Compare a [.In] [b] pos) (d.at k).isSome := .mk fun H0 σ F H Q s sl q =>
  wT_of (pt_cmpR (or_dinN hu) peW peW hm) (ha H0 σ F H _ s sl fun v F1 H1 g1 p1 => hb H0 σ F1 H1 _ g1.s (sl.gr g1) fun w F2 H2 g2 p2 => by
    obtain ⟨c, rfl⟩ := ref_of p1
    obtain ⟨l, rfl, es, oo, h1, h2⟩ := p2
    refine ⟨l, es, c, _, rfl, rfl, has_of hl g2.s (g2.s _ _ h1) h2, keyOk_of hl g2.s (dq_mono g2.f _ _ p1), _, rfl, ?_⟩
    rw [Bool.false_xor, din_of (F1 := F1) (H2 := H2) (l := l) hl h2]
    exact q _ _ (g1.trans g2))
theorem t_dnotin (hu : X.A.units + 64 < cLine) (ha : PV X Φ a k) (hb : PEv X Φ b (dcP X.prog X.w X.K d)) (hl : Ke.lv κ ≤ 8 := by decide) (hm : behindInMarks .NotIn b = false := by rfl) : PTv X Φ (.Compare a [.NotIn] [b] pos) (!(d.at k).isSome) := .mk fun H0 σ F H Q s sl q =>
  wT_of (pt_cmpR (or_dnotinN hu) peW peW hm) (ha H0 σ F H _ s sl fun v F1 H1 g1 p1 => hb H0 σ F1 H1 _ g1.s (sl.gr g1) fun w F2 H2 g2 p2 => by
    obtain ⟨c, rfl⟩ := ref_of p1
    obtain ⟨l, rfl, es, oo, h1, h2⟩ := p2
    refine ⟨l, es, c, _, rfl, rfl, has_of hl g2.s (g2.s _ _ h1) h2, keyOk_of hl g2.s (dq_mono g2.f _ _ p1), _, rfl, ?_⟩
    rw [Bool.true_xor, din_of (F1 := F1) (H2 := H2) (l := l) hl h2]
    exact q _ _ (g1.trans g2))
/-- list(d): its keys -/
theorem ent_list (K : Fg) (F : Hp) (l : List (κ × β)) {es : List DEnt} (r : EntOk K F (l.map fun e => (enc e.1, py K (enc e.2))) es) : AllP ((l.map (·.1)).map fun x => py K (enc x)) F (es.map fun e => V.ref e.2.1) := by
  induction l generalizing es with
  | nil => cases r; exact .nil
  | cons e l ih =>
    cases r with
    | cons h1 h2 h3 => exact AllP.cons h1 (ih h3)
theorem v_listD (B : Blt X.mg) (hc : X.calm = true) (ha : PEv X Φ e (dcP X.prog X.w X.K d)) (hl : Ke.lv κ ≤ 8 := by decide) (hg : Gl X "list" := by rfl) (hst : nst e = true := by rfl) : PN X Φ (.Call (.Name "list" p) [e] [] pos) (d.l.map (·.1)) := .mk fun H0 σ F H Q s sl q =>
  wE_callT (cr_listDN hc) hg B.list (by decide +kernel) (by decide +kernel) (by decide +kernel) (by simp [hst]) (wA_one hst (ha H0 σ F H _ s sl fun v F1 H1 g1 p1 => by
    obtain ⟨l, rfl, es, oo, h1, h2⟩ := p1
    refine ⟨l, es, rfl, has_of hl g1.s (g1.s _ _ h1) h2, fun t ht => ?_⟩
    exact q t _ F1 _ (g1.trans (Gr.own g1.s ht)) (fresh_of g1 ht).2 (fresh_of g1 ht).1 upd_same (ent_list _ _ d.l h2)))
/-- sum(d.values()) -/
theorem ent_vals (K : Fg) (F : Hp) (l : List (κ × Int)) {es : List DEnt} (r : EntOk K F (l.map fun e => (enc e.1, py K (enc e.2))) es) : es.map (fun e => e.2.2) = (l.map (·.2)).map V.int := by
  induction l generalizing es with
  | nil => cases r; rfl
  | cons e l ih =>
    cases r with
    | cons h1 h2 h3 =>
      cases h2
      rw [List.map_cons, ih h3]; rfl
theorem v_sumD {d : Dc κ Int} (B : Blt X.mg) (hc : X.calm = true) (ha : PEv X Φ a (dcP X.prog X.w X.K d)) (hl : Ke.lv κ ≤ 8 := by decide) (hg : Gl X "sum" := by rfl) (hbase : attributeBase a "values" X.env (eval a X.env) = eval a X.env := by rfl) (hln : (apos.endLine == p2.line) = true := by rfl) :
    PV X Φ (.Call (.Name "sum" p) [.Call (.Attribute a "values" apos) [] [] p2] [] pos) (d.l.map (·.2)).sum := .mk fun H0 σ F H Q s sl q =>
  wE_callB (cr_dsumN hc) hg B.sum (by decide +kernel) (by decide +kernel) (by decide +kernel) rfl (wA_one rfl
    (wE_of (pe_dm0 PySem.F.slot_dict_values PySem.F.type_dict_values mt_dvalsN peW hbase hln) (ha H0 σ F H _ s sl fun v F1 H1 g1 p1 => by
      obtain ⟨l, rfl, es, oo, h1, h2⟩ := p1
      refine ⟨⟨l, es, oo, rfl, g1.s _ _ h1⟩, l, es, rfl, rfl, has_of hl g1.s (g1.s _ _ h1) h2, fun t ht => ?_⟩
      have gt : Gr F1 H1 F1 (upd H1 t (valsO t l)) := Gr.own g1.s ht
      exact ⟨t, l, es, _, rfl, upd_same, has_of hl gt.s (gt.s _ _ h1) h2, ent_vals _ _ d.l h2, q _ F1 _ (g1.trans gt) (.int _)⟩)))
/-! ### new ones, stores -/
theorem v_dnew : PEo X Φ (.Dict [] [] pos) (dcO X.prog X.w X.K (dps X.K (⟨[]⟩ : Dc κ β))) := ⟨fun H0 σ F H Q s sl q =>
  wE_of pe_dnewN fun t oo ht => q t F _ (Gr.own s ht) (List.nodup_cons.mpr ⟨by simp, List.nodup_nil⟩) (fun b hb => by
    rw [List.mem_singleton.mp hb, upd_same]; exact ⟨ht, hp_none s ht, fun z => nomatch z⟩) ⟨[], oo, upd_same, .nil⟩⟩
theorem v_dnew1 {f : Expr} {z : β} (hu : X.A.units + 64 < cLine) (ha : PV X Φ e k) (hb : PV X Φ f z) (hl : Ke.lv κ ≤ 8 := by decide) : PEo X Φ (.Dict [some e] [f] pos) (dcO X.prog X.w X.K (dps X.K (⟨[(k, z)]⟩ : Dc κ β))) := ⟨fun H0 σ F H Q s sl q =>
  wE_of (pe_dnew1 hu peW peW) fun t oo ht => by
    have gt : Gr F H F (upd H t (DO X.prog X.w t [] oo)) := Gr.own s ht
    refine ha H0 σ F _ _ gt.s (sl.gr gt) fun v F1 H1 g1 p1 => hb H0 σ F1 H1 _ g1.s ((sl.gr gt).gr g1) fun w F2 H2 g2 p2 => ?_
    obtain ⟨c, rfl⟩ := ref_of p1
    have g := (gt.trans g1).trans g2
    have h2 : H2 t = some (DO X.prog X.w t [] oo) := (g1.trans g2).h _ _ upd_same
    have f2 : F2 t = none := (g1.trans g2).n t (hp_none s ht) (by rw [upd_same]; exact fun z => nomatch z)
    refine ⟨c, _, rfl, h2, keyOk_of hl g2.s (dq_mono g2.f _ _ p1), fun o' => ?_⟩
    refine q t F2 _ ⟨g.f, fun b u z => ?_, fun b u z => ?_, g.n⟩ (List.nodup_cons.mpr ⟨by simp, List.nodup_nil⟩) (fun b hb => ?_) ⟨_, o', upd_same, .cons (dq_mono g2.f _ _ p1) p2 .nil⟩
    · rw [upd_ne (ne_of_none z ht)]; exact g.h b u z
    · rw [upd_ne (ne_of_none z f2)]; exact g.s b u z
    · rw [List.mem_singleton.mp hb, upd_same]; exact ⟨ht, f2, fun z => nomatch z⟩⟩
/-- x[k] = e -/
theorem h_dputC {K' : Dc κ β → Ctl S R} (n : Nat) {x : Str} {v : β} {np sp : Pos} (hu : X.A.units + 64 < cLine) (he : PV X Φ e v) (hb : PV X Φ b k) (hz : d.l.length < sizeLine) (h : ∀ nm, nm = d.put k v → HB X W (A :: r) (Φ.set n (sD X.prog X.w X.K nm)) Mm T (K' nm)) (hl : Ke.lv κ ≤ 8 := by decide)
    (ho : Φ[n]? = some (sD X.prog X.w X.K d) := by rfl) (hN : X.N[n]? = some x := by rfl) (hv : Vis X.env.scope x := by first | exact Or.inl rfl | exact Or.inr (Or.inl rfl) | exact Or.inr (Or.inr rfl)) (hd : (x == ("__debug__" : Str)) = false := by decide) (hcd : (x == ("__classdict__" : Str)) = false := by decide)
    (ha : ∀ v, assign (.Subscript (.Name x np) b sp) X.env v = (do
      let ov ← holding [v] (eval (.Name x np) X.env)
      let iv ← holding [v, ov] (eval b X.env)
      standAt sp
      holding [v, ov, iv] (setItem ov iv v)
      release [v, ov, iv] []) := by intro _; rfl)
    (hs : swapsWithSole [.Subscript (.Name x np) b sp] e pos.line X.env = pure false := by rfl) (hw : swappedStores [.Subscript (.Name x np) b sp] e X.env = pure none := by rfl) : HB X W ((.Assign [.Subscript (.Name x np) b sp] e pos :: A) :: r) Φ Mm T (bindV (d.put k v) K') := .mk fun F0 H0 D σ F H g sl kp => by
  obtain ⟨l, h1, h2, h3, es, oo, h4, h5⟩ := sl.ob ho
  have h3 := h3 l (List.mem_singleton.mpr rfl)
  refine wK_cons (wS_of (ps_asg peW (pg_sub (pe_var hN hv hd hcd) peW (set_dictN hu) ha) hs hw rfl) (he H0 σ F H _ g.s sl fun u F1 H1 g1 p1 => ⟨_, h1, hb H0 σ F1 H1 _ g1.s (sl.gr g1) fun w F2 H2 g2 p2 => ?_⟩))
  obtain ⟨c, rfl⟩ := ref_of p2
  have g12 := g1.trans g2
  have f2 : F2 l = none := g12.n l h3.2.1 h3.2.2
  have r2 := h5.mono g12.f
  have len : es.length = d.l.length := by have := h5.len; unfold dps at this; rw [List.length_map] at this; exact this
  have hl2 : H2 l = some (DO X.prog X.w l es oo) := g12.h _ _ h4
  refine ⟨l, es, c, _, rfl, rfl, has_of hl g12.s hl2 r2, keyOk_of hl g2.s p2, by omega, fun o' => ?_⟩
  refine h _ rfl F0 H0 D σ F2 _ ((g.trans g12).write h3.1 f2) ((sl.gr g12).change ho h1 (Ex.refl F2) (fun m dd o' a hm x y q => ⟨upd_ne fun z => ?_, (SD.alive ((sl.gr g12).at_ m dd o' x y) q).2.1⟩) ⟨l, rfl, h2, fun a ha => ?_, _, o', upd_same, ent_put r2 p2 (dq_mono g2.f _ _ p1)⟩ fun a ha => .inl ha) kp
  · subst z
    exact (sl.gr g12).apart n m _ dd _ o' a (fun z => hm z.symm) ho x h1 y (List.mem_singleton.mpr rfl) q
  · rw [List.mem_singleton.mp ha, upd_same]; exact ⟨h3.1, f2, fun z => nomatch z⟩
/-! ### settled, looked at -/
theorem Sl.settleDc {P : Program} {w : World} {K : Fg} {H0 F H : Hp} {σ : L2.St} {n : Nat} (sl : Sl H0 Φ σ F H) (s : Ex F H) (ho : Φ[n]? = some (sD P w K d)) : ∃ l u, H0 l = none ∧ F l = none ∧ H l = some u ∧ goesO u = true ∧ Ex F (upd F l u) ∧ Ex (upd F l u) H ∧ Sl H0 (Φ.set n (.im (dcP P w K d))) σ (upd F l u) H := by
  obtain ⟨l, h1, h2, h3, es, oo, h4, h5⟩ := sl.ob ho
  have h3 := h3 l (List.mem_singleton.mpr rfl)
  obtain ⟨x1, x2⟩ := Gr.settle s h3.2.1 h4
  refine ⟨l, _, h3.1, h3.2.1, h4, rfl, x1, x2, sl.change ho h1 x1 (fun j c o' a hj x y q => ⟨rfl, ?_⟩) ⟨_, rfl, l, rfl, es, oo, upd_same, h5.mono x1⟩ fun a ha => by cases ha⟩
  have ne : a ≠ l := fun z => by
    subst z
    exact sl.apart n j _ c _ o' a (fun z => hj z.symm) ho x h1 y (List.mem_singleton.mpr rfl) q
  rw [upd_ne ne]; exact (SD.alive (sl.at_ j c o' x y) q).2.1
theorem h_settleDc (n : Nat) (ho : Φ[n]? = some (sD X.prog X.w X.K d) := by rfl) (h : HB X W r (Φ.set n (.im (dcP X.prog X.w X.K d))) Mm T o) : HB X W r Φ Mm T o := .mk fun F0 H0 D σ F H g sl kp => by
  obtain ⟨l, u, z1, z2, z3, _, x1, x2, sl'⟩ := sl.settleDc g.s ho
  refine h F0 H0 D σ _ H ⟨g.f.trans x1, g.h, x2, fun b y1 y2 => ?_⟩ sl' kp
  have ne : b ≠ l := fun w => y2 (by rw [w]; exact z1)
  rw [upd_ne ne]; exact g.n b y1 y2
theorem vw_dct {P : Program} {w : World} {K : Fg} (n : Nat) (ho : Φ[n]? = some (sD P w K d) := by rfl) : Vw K Φ (Φ.set n (.im (dcP P w K d))) := ⟨fun {H0 σ F H} s sl => by
  obtain ⟨l, u, z1, z2, z3, z4, x1, x2, sl'⟩ := sl.settleDc s ho
  refine ⟨_, x1, x2, fun a v y1 y2 => ?_, sl'⟩
  by_cases q : a = l
  · rw [q, upd_same] at y1; cases y1; exact z4
  · rw [upd_ne q, y2] at y1; cases y1⟩
end
end GL

set_option Elab.async false
set_option linter.all false
set_option maxRecDepth 100000
set_option maxHeartbeats 4000000
namespace GL
open PySem PySem.Spec PyProof.Rows L2
open Evl (Ex ex_l ex_t)
theorem room64 {X : Cx} (h : X.A.units + 65 < cLine) : X.A.units + 64 < cLine := by omega
section
variable {X : Cx} {W : XK} {S R : Type} {Φ : List SD} {Mm : S → List SD} {T : R → RS} {a b c e : Expr} {es : List Expr} {pos p p2 apos : Pos} {A : List Stmt} {r : List (List Stmt)} {o : Ctl S R}
variable {κ β : Type} [Py κ] [Py β] {d : Dc κ β}
theorem h_setDC {k : Dc κ β → Ctl S R} (n : Nat) {x : Str} (hN : X.N.Nodup) (he : PEo X Φ e (dcO X.prog X.w X.K (dps X.K d))) (h : ∀ nm, nm = d → HB X W (A :: r) (Φ.set n (sD X.prog X.w X.K nm)) Mm T (k nm)) (hi : X.N[n]? = some x := by rfl) (hx : Loc X.env.scope x := by first | exact Or.inl rfl | exact Or.inr rfl) (hs : swapsWith e (some (.Name x p)) pos.line X.env = pure false := by rfl)
    (hf : X.fn x = true ∨ X.env.scope.names.lookup x = some .local := by first | exact .inl rfl | exact .inr rfl) : HB X W ((.Assign [.Name x p] e pos :: A) :: r) Φ Mm T (bindV d k) := h_setO n hN he (h d rfl) hi hx hs hf
/-- a new dict, settled at once -/
theorem PEo.dv (h : PEo X Φ e (dcO X.prog X.w X.K (dps X.K d))) : PEv X Φ e (dcP X.prog X.w X.K d) := .mk fun H0 σ F H Q s sl q =>
  h.run H0 σ F H _ s sl fun l F1 H1 g n1 n2 ⟨es, oo, h1, h2⟩ => by
    have z := n2 l (List.mem_singleton.mpr rfl)
    obtain ⟨x1, x2⟩ := Gr.settle g.s z.2.1 h1
    refine q (.ref l) _ H1 ⟨g.f.trans x1, g.h, x2, fun b y1 y2 => ?_⟩ ⟨l, rfl, es, oo, upd_same, h2.mono x1⟩
    have ne : b ≠ l := fun w => y2 (by rw [w]; exact z.1)
    rw [upd_ne ne]; exact g.n b y1 y2
theorem v_callXO {A ρ : Type} [Inhabited ρ] {argP : A → List MP} {m : A → M ρ} {P : ρ → OP} {y : Str} {n : Nat} {t : ρ} (G : FnG X.prog X.w X.K X.mg X.base (L2.CX X.prog X.w) n y (spG argP (fun z => m z ≠ .st) fun z => resM (fun r => .ob (P r)) (ER X.K) (m z))) (hr : Room n X.A) (z : A) (ht : m z = .ok t)
    (ha : PAs X Φ (e :: es) (argP z)) (hg : Gl X y := by rfl) (hd : (y == ("__debug__" : Str)) = false := by decide) (hst : (e :: es).all nst = true := by rfl) : PEo X Φ (.Call (.Name y p) (e :: es) [] pos) (P t) := ⟨fun H0 σ F H Q s sl q =>
  wE_call G hr passL hg hd hst (ha.run H0 σ F H _ s sl fun vs F1 H1 g1 p1 => ⟨z, F1, g1.s, p1, (show m z ≠ .st by rw [ht]; exact fun z => nomatch z), by
    show (resM (fun r => .ob (P r)) (ER X.K) (m z)).sat F1 H1 _ _
    rw [ht]
    exact fun l F2 H2 g2 n1 n2 hp => q l F2 H2 (g1.trans g2) n1 (fun b hb => ⟨gr_none g1 (n2 b hb).1, (n2 b hb).2⟩) hp⟩)⟩
end
section
variable {X : Cx} {W : XK} {S R β : Type} {j : β → Ctl S R} {Φ : List SD} {Mm : S → List SD} {T : Except Exn R → RS} {e : Expr} {pos p : Pos} {P : OP} {A : List Stmt} {r : List (List Stmt)}
theorem k_retOb (n : Nat) {v : β} {u : R} {x : Str} (ho : Φ[n]? = some (.ob P) := by rfl) (hj : j v = .rt u := by rfl) (hT : T (.ok u) = .ob P := by rfl) (hN : X.N[n]? = some x := by rfl) (hv : Vis X.env.scope x := by first | exact Or.inl rfl | exact Or.inr (Or.inl rfl) | exact Or.inr (Or.inr rfl)) (hd : (x == ("__debug__" : Str)) = false := by decide)
    (hcd : (x == ("__classdict__" : Str)) = false := by decide) : HM X W j ((.Return (some (.Name x p)) pos :: A) :: r) Φ Mm T (.ok v) := ⟨fun c hc => by
  simp only [lift, hj, ctlOk, Option.some.injEq] at hc
  subst hc; exact h_retOb n ho hT hN hv hd hcd⟩
theorem k_retO {v : β} {u : R} (he : PEo X Φ e P) (hj : j v = .rt u := by rfl) (hT : T (.ok u) = .ob P := by rfl) : HM X W j ((.Return (some e) pos :: A) :: r) Φ Mm T (.ok v) := ⟨fun c hc => by
  simp only [lift, hj, ctlOk, Option.some.injEq] at hc
  subst hc; exact h_retO he hT⟩
end
end GL

set_option Elab.async false
set_option linter.all false
set_option maxRecDepth 100000
set_option maxHeartbeats 6400000
namespace GL
open PySem PySem.Spec PyProof.Rows L2
open Evl (Ex ex_l ex_t)
/-! ### for k in d, for k, v in d.items() -/
def IteDK (P : Program) (w : World) (d : Addr) (o : Obj) (es : List DEnt) : It where
  go := fun i H => H d = some (DO P w d es o) ∧ i < es.length
  yld := fun i H v H' => H' = H ∧ ∃ e, es[i]? = some e ∧ v = V.ref e.2.1
  stop := fun i H => H d = some (DO P w d es o) ∧ es.length ≤ i
def IteDI (P : Program) (w : World) (d : Addr) (o : Obj) (es : List DEnt) : It where
  go := fun i H => H d = some (DO P w d es o) ∧ i < es.length
  yld := fun i H v H' => ∃ T e, es[i]? = some e ∧ v = V.ref T ∧ H T = none ∧ H' = upd H T (.tup [V.ref e.2.1, e.2.2])
  stop := fun i H => H d = some (DO P w d es o) ∧ es.length ≤ i
theorem ents_at {P : Program} {w : World} {as : Array DictEntry} {es : List DEnt} {xs : List (NestedKey × Addr × Value)} (r : EX es xs) (he : as.toList = xs.map (entryOfKey (nestedKind P w))) : as.size = es.length ∧ ∀ (i : Nat) (e : DEnt), es[i]? = some e → ∃ en u, as[i]? = some en ∧ en.key = Value.ref e.2.1 ∧ en.val = u ∧ RelV e.2.2 u := by
  refine ⟨by rw [size_of_entries he, r.len], fun i e h => ?_⟩
  have hi : i < xs.length := by rw [← r.len]; exact (List.getElem?_eq_some_iff.mp h).1
  have hx : xs[i]? = some xs[i] := List.getElem?_eq_getElem hi
  have g := ex_get r h hx
  refine ⟨entryOfKey (nestedKind P w) xs[i], xs[i].2.2, by rw [entry_at he i, hx]; rfl, ?_, rfl, g.2.2⟩
  show Value.ref xs[i].2.1 = _
  rw [g.2.1]
section
variable {P : Program} {w : World} {K : Fg} {tg : Expr} {d : Addr} {o : Obj} {as : Array DictEntry} {ep : Nat} {es : List DEnt}
theorem turn_dk (it : Addr) (hod : o.data = .dict as ep) : Turn P w K tg (IteDK P w d o es) [it] it (fun i h => h.IsKeyIter it d i es.length ep) := by
  refine ⟨List.mem_singleton.mpr rfl, fun i h st b hb => ?_, fun i h h' st k => st.at fun oi e => k it (List.mem_singleton.mpr rfl) oi e, ?_, ?_, fun A i s Q E st h => ?_⟩
  · rw [List.mem_singleton.mp hb]
    obtain ⟨oi, e, c, dd⟩ := st
    exact ⟨oi, e, fun v z => by rw [dd] at z; cases z⟩
  · intro X e1 e2 e3 hc i pins s σ H E I hf st hg
    subst e1; subst e2; subst e3
    obtain ⟨f0, f1, f2, f3, f4, f5⟩ := hf it (List.mem_singleton.mpr rfl)
    have ⟨_, _, xs, r, as', ep', ho, _, hdat, he, _⟩ : RawD X.prog X.w d es o s.heap := (I.hok d _ hg.1).1
    obtain ⟨rfl, rfl⟩ := dict_ep hod hdat
    obtain ⟨hz, hx⟩ := ents_at r he
    have hil : i < es.length := hg.2
    have hei : es[i]? = some es[i] := List.getElem?_eq_getElem hil
    obtain ⟨en, u, a1, a2, _, _⟩ := hx i _ hei
    refine next_key_item st ho hod hz a1 fun h' st' sb => ?_
    have I1 : Inv X pins σ H { s with heap := h' } := I.turned (t' := s.toks) (fun b ob hb e => (sb.2 b hb).trans e) f0 f1 f3 f4 f5
    obtain ⟨oi, q1, q2, q3⟩ := id st'
    exact ⟨en.key, rfl, go_of (s := { s with heap := h' }) q1 q2 q3 (by decide) ⟨.ref es[i].2.1, H, I1, a2, ⟨rfl, _, hei, rfl⟩, st', fun b hb => (hf b hb).1⟩⟩
  · intro X e1 e2 e3 hc i pins s σ H E I hf st hg
    subst e1; subst e2; subst e3
    obtain ⟨f0, f1, f2, f3, f4, f5⟩ := hf it (List.mem_singleton.mpr rfl)
    have ⟨_, _, xs, r, as', ep', ho, _, hdat, he, _⟩ : RawD X.prog X.w d es o s.heap := (I.hok d _ hg.1).1
    obtain ⟨rfl, rfl⟩ := dict_ep hod hdat
    exact next_key_end (I.ok.hd hc) st ho hod (ents_at r he).1 hg.2 fun h' eb => ⟨rfl, I.turned (t' := s.toks) (fun b ob hb e => eb b ob hb e) f0 f1 f3 f4 f5⟩
  · exact wpAny_pyIter_keyiter st h
theorem turn_di {elts : List Expr} {kk : Nat} {tpos : Pos} (it : Addr) (hod : o.data = .dict as ep) : Turn P w K (.Tuple elts kk tpos) (IteDI P w d o es) [it] it (fun i h => ∃ ok ov, IsItemIter h it d i es.length ep ok ov) := by
  refine ⟨List.mem_singleton.mpr rfl, fun i h st b hb => ?_, fun i h h' st k => ?_, ?_, ?_, fun A i s Q E st h => ?_⟩
  · rw [List.mem_singleton.mp hb]
    obtain ⟨ok, ov, e⟩ := st
    exact ⟨_, e, fun v z => nomatch z⟩
  · obtain ⟨ok, ov, e⟩ := st
    exact ⟨ok, ov, k it (List.mem_singleton.mpr rfl) _ e⟩
  · intro X e1 e2 e3 hc i pins s σ H E I hf st hg
    subst e1; subst e2; subst e3
    have ⟨_, _, xs, r, as', ep', ho, hex, hdat, he, _⟩ : RawD X.prog X.w d es o s.heap := (I.hok d _ hg.1).1
    obtain ⟨rfl, rfl⟩ := dict_ep hod hdat
    obtain ⟨hz, hx⟩ := ents_at r he
    have hil : i < es.length := hg.2
    have hei : es[i]? = some es[i] := List.getElem?_eq_getElem hil
    obtain ⟨en, u, a1, a2, a3, a4⟩ := hx i _ hei
    have hia : i < as'.size := by rw [hz]; exact hg.2
    have ea : as'[i] = en := by
      have := Array.getElem?_eq_getElem hia
      rw [a1] at this
      exact (Option.some.inj this).symm
    obtain ⟨ok, ov, hit⟩ := st
    have hlt : it < s.heap.objs.size := Heap.lt_size hit
    rw [← hz] at hit
    refine wpAny_pyNext_items_item_raw hit ⟨o, ho, hex, hdat⟩ hia fun h' out hT hsz hk => ?_
    rw [ea, a2, a3] at hT
    refine ⟨_, rfl, wpAny_letOwnedTupleGo_items (s := { s with heap := h' }) out fun h2 hit2 sb => ?_⟩
    have hT2 : h2.get? s.heap.objs.size = some { cls := .type "tuple", data := .seq #[Value.ref es[i].2.1, u] } := (sb.2 _ (Nat.ne_of_gt hlt)).trans hT
    have I1 : Inv X pins σ (upd H s.heap.objs.size (.tup [V.ref es[i].2.1, es[i].2.2])) { s with heap := h2 } :=
      I.turnedNew (t' := s.toks) (ch := [it]) (fun b ob hb e => (sb.2 b (by simpa using hb)).trans (hk b ob (by simpa using hb) e)) hf (Nat.le_refl _)
        ⟨by show 2 ≤ sizeLine; decide, [Value.ref es[i].2.1, u], .cons rfl (.cons a4 .nil), ⟨_, hT2, rfl, _, rfl⟩⟩
    refine ⟨.ref s.heap.objs.size, _, I1, rfl, ⟨_, es[i], hei, rfl, I.hok.fresh (Nat.le_refl _), rfl⟩, ⟨_, _, by rw [hz] at hit2; exact hit2⟩, fun b hb => ?_⟩
    rw [List.mem_singleton.mp hb, upd_ne (Nat.ne_of_lt hlt)]
    exact (hf it (List.mem_singleton.mpr rfl)).1
  · intro X e1 e2 e3 hc i pins s σ H E I hf st hg
    subst e1; subst e2; subst e3
    obtain ⟨f0, f1, f2, f3, f4, f5⟩ := hf it (List.mem_singleton.mpr rfl)
    have ⟨_, _, xs, r, as', ep', ho, hex, hdat, he, _⟩ : RawD X.prog X.w d es o s.heap := (I.hok d _ hg.1).1
    obtain ⟨rfl, rfl⟩ := dict_ep hod hdat
    have hz := (ents_at r he).1
    obtain ⟨ok, ov, hit⟩ := st
    rw [← hz] at hit
    exact wpAny_pyNext_items_end_raw (I.ok.hd hc) hit ⟨o, ho, hex, hdat⟩ (by rw [hz]; exact hg.2) fun h' eb => ⟨rfl, I.turned (t' := s.toks) (fun b ob hb e => eb b ob hb e) f0 f1 f3 f4 f5⟩
  · obtain ⟨_, _, e⟩ := st
    exact PySem.W.kcp_self e h
end
section
variable {X : Cx} {tg e : Expr} {td : L2.TE} {apos cpos tpos : Pos} {elts : List Expr} {kk : Nat}
def iDK (X : Cx) (td : L2.TE) : TI := fun σ H R => td σ H fun x H1 => ∃ d es o, x = V.ref d ∧ H1 d = some (DO X.prog X.w d es o) ∧ R (IteDK X.prog X.w d o es) H1
theorem pi_dk (he : PE X e td) : PI X tg e (iDK X td) := ⟨fun pins s σ H R I h => thn (he.run pins s σ H _ I h) fun u s1 ⟨x, H1, I1, rx, d, es, o, ex, hd, q⟩ => by
  subst ex
  have rx : u = Value.ref d := rx
  subst rx
  have ⟨_, hn, xs, r, as, ep, ho, hex, hdat, he, _⟩ : RawD X.prog X.w d es o s1.heap := (I1.hok d _ hd).1
  refine iter_keys hn ho hex hdat (pi_one (tk := s1.toks) I1 _ (turn_dk _ hdat) ⟨_, Heap.get?_push_size _ rfl, rfl, ?_⟩ q)
  rw [(ents_at r he).1]; rfl⟩
def iDI (X : Cx) (td : L2.TE) : TI := fun σ H R => td σ H fun x H1 => ∃ d es o, x = V.ref d ∧ H1 d = some (DO X.prog X.w d es o) ∧ R (IteDI X.prog X.w d o es) H1
theorem pi_di (he : PE X e td) (base : attributeBase e "items" X.env (eval e X.env) = eval e X.env) (line : (apos.endLine == cpos.line) = true) : PI X (.Tuple elts kk tpos) (.Call (.Attribute e "items" apos) [] [] cpos) (iDI X td) := ⟨fun pins s σ H R I h =>
  wpAny_Call_method0_late base line (thn (he.run pins s σ H _ I h) fun u s1 ⟨x, H1, I1, rx, d, es, o, ex, hd, q⟩ => by
    subst ex
    have rx : u = Value.ref d := rx
    subst rx
    have ⟨_, hn, xs, r, as, ep, ho, hex, hdat, he, _⟩ : RawD X.prog X.w d es o s1.heap := (I1.hok d _ hd).1
    refine ⟨"dict", "dict.items", PySem.F.plainAttrs_dict, PySem.F.slot_dict_items, PySem.F.type_dict_items, ⟨o, ho, hex.1⟩, fun a z => (by cases z; exact ⟨o, ho, hex.2.1⟩), Calls.callWith_builtin rfl (PySem.evalArgs_none (DT.callItems hn ⟨o, ho, hex, hdat⟩ ?_))⟩
    have I2 : Inv X pins σ H1 { s1 with heap := s1.heap.push { cls := .type "dict_items", data := .fields #[.ref d] } } := I1.kept (t' := s1.toks) fun b ob q => Heap.get?_push_of_some _ q
    refine wpAny_pyIter_items_raw ⟨_, Heap.get?_push_size _ rfl, rfl, rfl⟩ ⟨o, Heap.get?_push_of_some _ ho, hex, hdat⟩ (pi_one (tk := s1.toks) I2 _ (turn_di _ hdat) ⟨.none, .none, ?_⟩ q)
    rw [← (ents_at r he).1]
    exact Heap.get?_push_size _ rfl)⟩
end
section
variable {X : Cx} {Φ : List SD} {a b e tg : Expr} {pos p apos tpos : Pos}
variable {κ β : Type} [Py κ] [Py β] [DecidableEq κ] [Ke κ] [IsTu κ] {d : Dc κ β}
theorem i_dk (ha : PEv X Φ e (dcP X.prog X.w X.K d)) : PIt X Φ tg e (d.l.map (·.1)) := .mk fun H0 σ F H R s sl q =>
  wI_of (pi_dk peW) (ha H0 σ F H _ s sl fun v F1 H1 g1 p1 => by
    obtain ⟨l, rfl, es, o, h1, h2⟩ := p1
    have hl : es.length = d.l.length := by have := h2.len; unfold dps at this; rw [List.length_map] at this; exact this
    have hall := ent_list X.K F1 d.l h2
    refine ⟨l, es, o, rfl, g1.s _ _ h1, q _ F1 H1 g1 ⟨fun n P F2 H2 hp e1 e2 => ?_, fun F2 H2 e1 e2 => ⟨e2 _ _ (e1 _ _ h1), by rw [List.length_map, List.length_map, hl]; exact Nat.le_refl _⟩⟩⟩
    obtain ⟨v, hv, pv⟩ := allP_at hall hp
    rw [List.getElem?_map] at hv
    obtain ⟨en, hen, rfl⟩ := Option.map_eq_some_iff.mp hv
    refine ⟨⟨e2 _ _ (e1 _ _ h1), (List.getElem?_eq_some_iff.mp hen).1⟩, fun u H3 y => ?_⟩
    obtain ⟨rfl, en', h', rfl⟩ := y
    rw [hen] at h'; cases h'
    exact ⟨F2, Gr.refl e2, P.mono _ _ _ e1 pv⟩)
theorem ent_two (K : Fg) (F : Hp) : ∀ (l : List (κ × β)) {es : List DEnt}, EntOk K F (l.map fun e => (enc e.1, py K (enc e.2))) es → ∀ (n : Nat) (x : κ × β) (e : DEnt), l[n]? = some x → es[n]? = some e → (py K (enc x.1)).p F (.ref e.2.1) ∧ (py K (enc x.2)).p F e.2.2
  | [], _, r, n, x, e, h, _ => by simp at h
  | y :: l, _, r, n, x, e, h, k => by
    cases r with
    | cons h1 h2 h3 =>
      cases n with
      | zero => simp at h k; subst h; subst k; exact ⟨h1, h2⟩
      | succ n => exact ent_two K F l h3 n x e (by simpa using h) (by simpa using k)
theorem i_di {elts : List Expr} {kk : Nat} (ha : PEv X Φ e (dcP X.prog X.w X.K d)) (hbase : attributeBase e "items" X.env (eval e X.env) = eval e X.env := by rfl) (hln : (apos.endLine == pos.line) = true := by rfl) : PIt X Φ (.Tuple elts kk tpos) (.Call (.Attribute e "items" apos) [] [] pos) d.l := .mk fun H0 σ F H R s sl q =>
  wI_of (pi_di peW hbase hln) (ha H0 σ F H _ s sl fun v F1 H1 g1 p1 => by
    obtain ⟨l, rfl, es, o, h1, h2⟩ := p1
    have hl : es.length = d.l.length := by have := h2.len; unfold dps at this; rw [List.length_map] at this; exact this
    refine ⟨l, es, o, rfl, g1.s _ _ h1, q _ F1 H1 g1 ⟨fun n P F2 H2 hp e1 e2 => ?_, fun F2 H2 e1 e2 => ⟨e2 _ _ (e1 _ _ h1), by rw [List.length_map, hl]; exact Nat.le_refl _⟩⟩⟩
    rw [List.getElem?_map] at hp
    obtain ⟨x, hx, rfl⟩ := Option.map_eq_some_iff.mp hp
    have hn : n < es.length := by rw [hl]; exact (List.getElem?_eq_some_iff.mp hx).1
    have hen : es[n]? = some es[n] := List.getElem?_eq_getElem hn
    have z := ent_two X.K F1 d.l h2 n x _ hx hen
    refine ⟨⟨e2 _ _ (e1 _ _ h1), hn⟩, fun u H3 y => ?_⟩
    obtain ⟨T, en, h', rfl, hT, rfl⟩ := y
    rw [hen] at h'; cases h'
    refine ⟨_, Gr.new e2 hT, ?_⟩
    have fn : Ex F1 (upd F2 T (.tup [V.ref es[n].2.1, es[n].2.2])) := e1.trans (Gr.new (o := .tup [V.ref es[n].2.1, es[n].2.2]) e2 hT).f
    exact .tup (.inl (.inl upd_same)) (.cons (dq_mono fn _ _ z.1) (.cons (dq_mono fn _ _ z.2) .nil)))
end
end GL

set_option Elab.async false
set_option linter.all false
set_option maxRecDepth 100000
set_option maxHeartbeats 4000000
namespace LW
open PySem PySem.Spec PyProof.Rows L2 GL
local macro_rules | `(tactic| walk_at "sc") => `(tactic| first | trivial | omega | (subst_vars; simp +decide only [rng_length, enumL_length, dwn_length, List.length_map, List.length_append, List.length_set, List.length_cons, List.length_nil, List.length_reverse, List.length_zip, List.length_eraseIdx, decide_eq_true_eq, decide_eq_false_iff_not, imin_eq, imax_eq, iabs_eq, Bool.and_eq_true, Bool.or_eq_true, Bool.not_eq_true', srt_length, slc_to, slc_from, List.length_take, List.length_drop, true_and, and_true] at * <;> omega) | (refine mod_ix ?_; first | decide | omega | (subst_vars; simp +decide only [rng_length, enumL_length, dwn_length, List.length_map, List.length_append, List.length_set, List.length_cons, List.length_nil, List.length_reverse, List.length_zip, List.length_eraseIdx, decide_eq_true_eq, decide_eq_false_iff_not, imin_eq, imax_eq, iabs_eq, Bool.and_eq_true, Bool.or_eq_true, Bool.not_eq_true', srt_length, slc_to, slc_from, List.length_take, List.length_drop, true_and, and_true] at * <;> omega) | exact pos_len ‹_›) | exact pos_len ‹_›)
local macro_rules | `(tactic| walk_at "sc mul") => `(tactic| first | exact Or.inr (by decide) | exact Or.inl (by decide) | (unfold CMul; first | omega | (subst_vars; simp +decide only [rng_length, enumL_length, dwn_length, List.length_map, List.length_append, List.length_set, List.length_cons, List.length_nil, List.length_reverse, List.length_zip, List.length_eraseIdx, decide_eq_true_eq, decide_eq_false_iff_not, imin_eq, imax_eq, iabs_eq, Bool.and_eq_true, Bool.or_eq_true, Bool.not_eq_true', srt_length, slc_to, slc_from, List.length_take, List.length_drop, true_and, and_true] at * <;> omega)))
local macro_rules | `(tactic| walk_at "sc div") => `(tactic| first | exact ⟨by decide, by decide⟩ | (refine cdiv_of ?_ ?_ <;> first | omega | (subst_vars; simp +decide only [rng_length, enumL_length, dwn_length, List.length_map, List.length_append, List.length_set, List.length_cons, List.length_nil, List.length_reverse, List.length_zip, List.length_eraseIdx, decide_eq_true_eq, decide_eq_false_iff_not, imin_eq, imax_eq, iabs_eq, Bool.and_eq_true, Bool.or_eq_true, Bool.not_eq_true', srt_length, slc_to, slc_from, List.length_take, List.length_drop, true_and, and_true] at * <;> omega)))
local macro_rules | `(tactic| walk_at "sc size") => `(tactic| first | (rw [sizeLine_eq]; first | omega | (subst_vars; simp +decide only [rng_length, enumL_length, dwn_length, List.length_map, List.length_append, List.length_set, List.length_cons, List.length_nil, List.length_reverse, List.length_zip, List.length_eraseIdx, decide_eq_true_eq, decide_eq_false_iff_not, imin_eq, imax_eq, iabs_eq, Bool.and_eq_true, Bool.or_eq_true, Bool.not_eq_true', srt_length, slc_to, slc_from, List.length_take, List.length_drop, true_and, and_true] at * <;> omega)))
local macro_rules | `(tactic| walk_at "sc small") => `(tactic| first | (unfold small62; first | omega | (subst_vars; simp +decide only [rng_length, enumL_length, dwn_length, List.length_map, List.length_append, List.length_set, List.length_cons, List.length_nil, List.length_reverse, List.length_zip, List.length_eraseIdx, decide_eq_true_eq, decide_eq_false_iff_not, imin_eq, imax_eq, iabs_eq, Bool.and_eq_true, Bool.or_eq_true, Bool.not_eq_true', srt_length, slc_to, slc_from, List.length_take, List.length_drop, true_and, and_true] at * <;> omega)))
def top (i : Nat) : Stmt := PySem.Challenge.pw_wakeorder_k43_how_many_orders.main.body.getD i (.Pass ⟨0, 0, 0, 0⟩)
structure Env0 (K : Fg) (mg : Str → Option Value) : Prop where
  B : Blt mg
abbrev s_is_near : Stmt := top 1
noncomputable def m_is_near (flights : List Int) (place : Int) (shift : Int) : M Bool :=
  asr (((enumL flights)).length ≤ sizeLine) <|
  (.ok ((((((enumL flights)).map fun (vk1 : Int × Int) => (decide ((iabs (((vk1.2 - place) - vk1.1))) ≤ shift)))).all id)))
def sp_is_near (P : Program) (w : World) (K : Fg) : Sp := spG (A := (List Int) × Int × Int) (fun z => [py K (enc (z.1 : List Int)), py K (enc (z.2.1 : Int)), py K (enc (z.2.2 : Int))]) (fun z => M.Ok (m_is_near z.1 z.2.1 z.2.2)) (fun z => .val (py K (enc (m_is_near z.1 z.2.1 z.2.2).get)))
theorem sc_is_near : FnScope ["flights", "place", "shift", "k", "flight"] ["flights", "place", "shift"] (defScope s_is_near) := ⟨rfl, rfl, rfl, by decide +kernel, rfl, by decide +kernel, by decide +kernel⟩
theorem ok_is_near {P : Program} {w : World} {K : Fg} {mg : Str → Option Value} {base : Heap} {f : Addr} {fd : FuncData} (F : DefOf K "is_near" "is_near" s_is_near f fd) (hm : mg "is_near" = some (.ref f)) (E0 : Env0 K mg)  :
    FnG P w K mg base CX0 1 "is_near" (sp_is_near P w K) := by
  have B := E0.B
  exact fn_mk F (def_okK (Ar := (List Int) × Int × Int) (T0 := fun (r : Bool) => .val (py K (enc r))) (m := fun z => m_is_near z.1 z.2.1 z.2.2) F sc_is_near 2 (fun _ => rfl) rfl (fun _ => rfl) fun cdv A outer s H E hr z => by
    obtain ⟨flights, place, shift⟩ := z
    show HM (S := Unit) (bx P w K mg base ["flights", "place", "shift", "k", "flight"] "is_near" s_is_near f cdv A outer s H E) _ Ctl.rt [defBody s_is_near] (enter [py K (enc (flights : List Int)), py K (enc (place : Int)), py K (enc (shift : Int))] 2) _ (TE (fun (r : Bool) => .val (py K (enc r))) noER) (m_is_near flights place shift)
    exact (k_asr fun a1 => (k_retTV (v_all B rfl (PK.l (PN.xk (v_lc [("k", 3), ("flight", 4)] (fun (vk1 : Int × Int) => [(3, sI K (vk1.1 : Int)), (4, sI K (vk1.2 : Int))]) rfl sc_is_near.nd (blkOk_by rfl) (i_enum B (v_im 0)) a1 (fun vk1 _ _ _ _ _ => (g_p2 rfl (g_name 3 sc_is_near.nd) (g_name 4 sc_is_near.nd))) (us_in fun _ => rfl) (fun vk1 in_vk1 _ _ _ _ _ => (v_le (v_abs B (v_sub (v_sub (v_im 4) (v_im 1)) (v_im 3))) (v_im 2)))))))))) hm (fun _ _ _ _ _ _ us hl => match us, hl with | [_, _, _], _ => rfl)
abbrev s_steps_to : Stmt := top 3
noncomputable def m_steps_to_l1 (some_ : Tup Int) (vs2 : (List (Int × (Tup Int)))) (vk3 : Int) : M ((List (Int × (Tup Int)))) :=
  asr (0 ≤ vk3 ∧ vk3 < some_.l.length) <|
  asr (((slcT some_ none (some vk3))).l.length + ((slcT some_ (some ((vk3 + (1 : Int)))) none)).l.length ≤ sizeLine) <|
  asr (vs2.length < sizeLine) <|
  bindV ((vs2 ++ [((ix some_.l vk3), (Tup.mk (((slcT some_ none (some vk3))).l ++ ((slcT some_ (some ((vk3 + (1 : Int)))) none)).l)))])) fun (found4 : List (Int × (Tup Int))) =>
  (.ok found4)
noncomputable def m_steps_to (some_ : Tup Int) (shift : Int) : M (List (Int × (Tup Int))) :=
  bindV ([]) fun (found1 : List (Int × (Tup Int))) =>
  asr (small62 ((imax ((0 : Int)) ((((some_.l.length : Int) - (1 : Int)) - shift))))) <|
  asr (small62 ((some_.l.length : Int))) <|
  bindM (foldM' (m_steps_to_l1 some_) found1 ((rng ((imax ((0 : Int)) ((((some_.l.length : Int) - (1 : Int)) - shift)))) ((some_.l.length : Int))))) fun (vs5 : (List (Int × (Tup Int)))) =>
  (.ok vs5)
def sp_steps_to (P : Program) (w : World) (K : Fg) : Sp := spG (A := (Tup Int) × Int) (fun z => [py K (enc (z.1 : Tup Int)), py K (enc (z.2 : Int))]) (fun z => M.Ok (m_steps_to z.1 z.2)) (fun z => .new (rps K (m_steps_to z.1 z.2).get))
theorem sc_steps_to : FnScope ["some", "shift", "found", "k"] ["some", "shift"] (defScope s_steps_to) := ⟨rfl, rfl, rfl, by decide +kernel, rfl, by decide +kernel, by decide +kernel⟩
theorem ok_steps_to {P : Program} {w : World} {K : Fg} {mg : Str → Option Value} {base : Heap} {f : Addr} {fd : FuncData} (F : DefOf K "steps_to" "steps_to" s_steps_to f fd) (hm : mg "steps_to" = some (.ref f)) (E0 : Env0 K mg)  :
    FnG P w K mg base CX0 1 "steps_to" (sp_steps_to P w K) := by
  have B := E0.B
  exact fn_mk F (def_okK (Ar := (Tup Int) × Int) (T0 := fun (r : List (Int × (Tup Int))) => .new (rps K r)) (m := fun z => m_steps_to z.1 z.2) F sc_steps_to 2 (fun _ => rfl) rfl (fun _ => rfl) fun cdv A outer s H E hr z => by
    obtain ⟨some_, shift⟩ := z
    show HM (S := Unit) (bx P w K mg base ["some", "shift", "found", "k"] "steps_to" s_steps_to f cdv A outer s H E) _ Ctl.rt [defBody s_steps_to] (enter [py K (enc (some_ : Tup Int)), py K (enc (shift : Int))] 2) _ (TE (fun (r : List (Int × (Tup Int))) => .new (rps K r)) noER) (m_steps_to some_ shift)
    exact (k_C (fun c q => h_ownC 2 sc_steps_to.nd (v_list as_nil) q) (fun found1 e_found1 => (k_asr fun a1 => (k_asr fun a2 => (k_fold (fun (vs2 : (List (Int × (Tup Int)))) => [sI K (some_ : Tup Int), sI K (shift : Int), sO K (vs2 : List (Int × (Tup Int))), .un]) (fun (vk3 : Int) => [(3, sI K (vk3 : Int))]) PassesOwn.never rfl (i_range2 B (v_max B rfl v_int (v_sub (v_sub (v_lenT B (v_im 0)) v_int) (v_im 1))) (v_lenT B (v_im 0)) a1 a2) (fun vk3 => (g_name 3 sc_steps_to.nd)) (.keep (.keep (.keep (.keep .nil)))) (fun vs2 vk3 => (k_asr fun a3 => (k_asr fun a4 => (k_asr fun a5 => (k_C (fun c q => h_appC 2 (v_t2 (v_ixT (v_im 0) (v_im 3) a3) (v_catT (v_slT (l := none) (h := (some vk3)) (v_im 0) trivial (v_im 3)) (v_slT (l := (some ((vk3 + (1 : Int))))) (h := none) (v_im 0) (v_add (v_im 3) v_int) trivial) a4)) a5 q) (fun found4 e_found4 => (k_end (k_nilS (.keep (.keep (.keep (.drop .nil)))))))))))) (fun vs5 => (k_retOw 2)))))))) hm (fun _ _ _ _ _ _ us hl => match us, hl with | [_, _], _ => rfl)
abbrev s_L_cell : Stmt := top 6
noncomputable def m_L_cell (script : List Int) (k : Int) : M Int :=
  cond ((decide (k < (script.length : Int))))
  (asr (0 ≤ k ∧ k < script.length) <|
  (.ok ((ix script k))))
  (cond ((decide (script = [])))
  ((.ok ((0 : Int))))
  (asr (0 < (script.length : Int)) <|
  asr (0 ≤ (k % (script.length : Int)) ∧ (k % (script.length : Int)) < script.length) <|
  asr (CMul k k) <|
  (.ok ((((ix script ((k % (script.length : Int)))) * (69621 : Int)) + ((k * k) * (48271 : Int)))))))
def sp_L_cell (P : Program) (w : World) (K : Fg) : Sp := spG (A := (List Int) × Int) (fun z => [scrP K z.1, py K (enc (z.2 : Int))]) (fun z => M.Ok (m_L_cell z.1 z.2)) (fun z => .val (py K (enc (m_L_cell z.1 z.2).get)))
theorem sc_L_cell : FnScope ["_law_script", "_law_k"] ["_law_script", "_law_k"] (defScope s_L_cell) := ⟨rfl, rfl, rfl, by decide +kernel, rfl, by decide +kernel, by decide +kernel⟩
theorem ok_L_cell {P : Program} {w : World} {K : Fg} {mg : Str → Option Value} {base : Heap} {f : Addr} {fd : FuncData} (F : DefOf K "_law_cell" "_law_cell" s_L_cell f fd) (hm : mg "_law_cell" = some (.ref f)) (E0 : Env0 K mg)  :
    FnG P w K mg base CX0 1 "_law_cell" (sp_L_cell P w K) := by
  have B := E0.B
  exact fn_mk F (def_okK (Ar := (List Int) × Int) (T0 := fun (r : Int) => .val (py K (enc r))) (m := fun z => m_L_cell z.1 z.2) F sc_L_cell 0 (fun _ => rfl) rfl (fun _ => rfl) fun cdv A outer s H E hr z => by
    obtain ⟨script, k⟩ := z
    show HM (S := Unit) (bx P w K mg base ["_law_script", "_law_k"] "_law_cell" s_L_cell f cdv A outer s H E) _ Ctl.rt [defBody s_L_cell] (enter [scrP K script, py K (enc (k : Int))] 0) _ (TE (fun (r : Int) => .val (py K (enc r))) noER) (m_L_cell script k)
    exact (k_if (t_lt (v_im 1) (v_len B (scr_l (v_im 0)))) (fun h1 => (k_asr fun a1 => (k_retTV (v_ix (scr_l (v_im 0)) (v_im 1) a1)))) (fun h1 => (k_end (k_if (t_eq hr.units (by decide) (scr_d (v_im 0)) (PV.d (PN.v (v_list as_nil)))) (fun h2 => (k_retTV v_int)) (fun h2 => (k_end (k_asr fun a2 => (k_asr fun a3 => (k_asr fun a4 => (k_retTV (v_add (v_mul (v_ix (scr_l (v_im 0)) (v_mod (v_im 1) (v_len B (scr_l (v_im 0))) a2) a3) v_int (Or.inr (by decide))) (v_mul (v_mul (v_im 1) (v_im 1) a4) v_int (Or.inr (by decide))))))))))))))) hm (fun _ _ _ _ _ _ us hl => match us, hl with | [_, _], _ => rfl)
abbrev s_L_counted : Stmt := top 7
noncomputable def m_L_counted_l1 (shift : Int) (place3 : Int) (taken6 : (Tup Int) × Int) (vs7 : (Dc (Tup Int) Int)) (flight8 : Int) : M ((Dc (Tup Int) Int)) :=
  cond ((!decide (flight8 ∈ taken6.1.l)))
  (asr (taken6.1.l.length ≤ sizeLine) <|
  asr ((((taken6.1.l.filter fun (other9 : Int) => (decide ((place3 - shift) ≤ other9))).map fun (other9 : Int) => other9)).length + ([flight8]).length ≤ sizeLine) <|
  bindV ((Tup.mk ((srt ((((taken6.1.l.filter fun (other9 : Int) => (decide ((place3 - shift) ≤ other9))).map fun (other9 : Int) => other9) ++ [flight8])))))) fun (had10 : Tup Int) =>
  cond (((decide ((place3 - shift) < (0 : Int))) || (decide ((place3 - shift) ∈ had10.l))))
  (asr (had10.l.length ≤ sizeLine) <|
  bindV ((Tup.mk (((had10.l.filter fun (other11 : Int) => (decide ((place3 - shift) < other11))).map fun (other11 : Int) => other11)))) fun (kept12 : Tup Int) =>
  asr (vs7.l.length < sizeLine) <|
  bindV ((vs7.put kept12 ((((vs7.at kept12).getD ((0 : Int))) + taken6.2)))) fun (after13 : Dc (Tup Int) Int) =>
  (.ok after13))
  ((.ok vs7)))
  ((.ok vs7))
noncomputable def m_L_counted_l2 (many : Int) (shift : Int) (place3 : Int) (vs5 : (Dc (Tup Int) Int)) (taken6 : (Tup Int) × Int) : M ((Dc (Tup Int) Int)) :=
  asr (small62 ((imax ((0 : Int)) ((place3 - shift))))) <|
  asr (small62 ((imin many (((place3 + shift) + (1 : Int)))))) <|
  bindM (foldM' (m_L_counted_l1 shift place3 taken6) vs5 ((rng ((imax ((0 : Int)) ((place3 - shift)))) ((imin many (((place3 + shift) + (1 : Int)))))))) fun (vs14 : (Dc (Tup Int) Int)) =>
  (.ok vs14)
noncomputable def m_L_counted_l3 (many : Int) (shift : Int) (vs2 : (Dc (Tup Int) Int)) (place3 : Int) : M ((Dc (Tup Int) Int)) :=
  bindV ((⟨[]⟩ : Dc (Tup Int) Int)) fun (after4 : Dc (Tup Int) Int) =>
  bindM (foldM' (m_L_counted_l2 many shift place3) after4 vs2.l) fun (vs15 : (Dc (Tup Int) Int)) =>
  (.ok vs15)
noncomputable def m_L_counted (many : Int) (shift : Int) : M Int :=
  bindV ((⟨[((Tup.mk []), (1 : Int))]⟩ : Dc (Tup Int) Int)) fun (counts1 : Dc (Tup Int) Int) =>
  asr (small62 many) <|
  bindM (foldM' (m_L_counted_l3 many shift) counts1 ((rng 0 many))) fun (vs16 : (Dc (Tup Int) Int)) =>
  (.ok (((vs16.l.map (·.2)).sum)))
def sp_L_counted (P : Program) (w : World) (K : Fg) : Sp := spG (A := Int × Int) (fun z => [py K (enc (z.1 : Int)), py K (enc (z.2 : Int))]) (fun z => M.Ok (m_L_counted z.1 z.2)) (fun z => .val (py K (enc (m_L_counted z.1 z.2).get)))
theorem sc_L_counted : FnScope ["_law_many", "_law_shift", "_law_counts", "_law_place", "_law_after", "_law_taken", "_law_ways", "_law_flight", "_law_had", "_law_kept", "_law_other"] ["_law_many", "_law_shift"] (defScope s_L_counted) := ⟨rfl, rfl, rfl, by decide +kernel, rfl, by decide +kernel, by decide +kernel⟩
theorem ok_L_counted {P : Program} {w : World} {K : Fg} {mg : Str → Option Value} {base : Heap} {f : Addr} {fd : FuncData} (F : DefOf K "_law_counted" "_law_counted" s_L_counted f fd) (hm : mg "_law_counted" = some (.ref f)) (E0 : Env0 K mg)  :
    FnG P w K mg base CX0 1 "_law_counted" (sp_L_counted P w K) := by
  have B := E0.B
  exact fn_mk F (def_okK (Ar := Int × Int) (T0 := fun (r : Int) => .val (py K (enc r))) (m := fun z => m_L_counted z.1 z.2) F sc_L_counted 9 (fun _ => rfl) rfl (fun _ => rfl) fun cdv A outer s H E hr z => by
    obtain ⟨many, shift⟩ := z
    show HM (S := Unit) (bx P w K mg base ["_law_many", "_law_shift", "_law_counts", "_law_place", "_law_after", "_law_taken", "_law_ways", "_law_flight", "_law_had", "_law_kept", "_law_other"] "_law_counted" s_L_counted f cdv A outer s H E) _ Ctl.rt [defBody s_L_counted] (enter [py K (enc (many : Int)), py K (enc (shift : Int))] 9) _ (TE (fun (r : Int) => .val (py K (enc r))) noER) (m_L_counted many shift)
    exact (k_C (fun c q => h_setDC 2 sc_L_counted.nd (v_dnew1 (room64 (room65 hr)) (v_tup as_nil) v_int) q) (fun counts1 e_counts1 => (k_lift (fun _ z => h_settleDc 2 rfl z) (k_asr fun a1 => (k_fold (fun (vs2 : (Dc (Tup Int) Int)) => [sI K (many : Int), sI K (shift : Int), .im (dcP P w K (vs2 : Dc (Tup Int) Int)), .un, .un, .un, .un, .un, .un, .un, .un]) (fun (place3 : Int) => [(3, sI K (place3 : Int))]) PassesOwn.never rfl (i_range1 B (v_im 0) a1) (fun place3 => (g_name 3 sc_L_counted.nd)) (.keep (.keep (.keep (.keep (.keep (.keep (.keep (.keep (.keep (.keep (.keep .nil))))))))))) (fun vs2 place3 => (k_C (fun c q => h_setDC 4 sc_L_counted.nd v_dnew q) (fun after4 e_after4 => (k_fold (fun (vs5 : (Dc (Tup Int) Int)) => [sI K (many : Int), sI K (shift : Int), .im (dcP P w K (vs2 : Dc (Tup Int) Int)), sI K (place3 : Int), sD P w K (vs5 : Dc (Tup Int) Int), .un, .un, .un, .un, .un, .un]) (fun (taken6 : (Tup Int) × Int) => [(5, sI K (taken6.1 : Tup Int)), (6, sI K (taken6.2 : Int))]) PassesOwn.never rfl (i_di (v_im 2)) (fun taken6 => (g_p2 rfl (g_name 5 sc_L_counted.nd) (g_name 6 sc_L_counted.nd))) (.keep (.keep (.keep (.keep (.keep (.keep (.keep (.keep (.keep (.keep (.keep .nil))))))))))) (fun vs5 taken6 => (k_phi [sI K (many : Int), sI K (shift : Int), .im (dcP P w K (vs2 : Dc (Tup Int) Int)), sI K (place3 : Int), sD P w K (vs5 : Dc (Tup Int) Int), sI K (taken6.1 : Tup Int), sI K (taken6.2 : Int), .un, .un, .un, .un] rfl (k_asr fun a2 => (k_asr fun a3 => (k_fold (fun (vs7 : (Dc (Tup Int) Int)) => [sI K (many : Int), sI K (shift : Int), .im (dcP P w K (vs2 : Dc (Tup Int) Int)), sI K (place3 : Int), sD P w K (vs7 : Dc (Tup Int) Int), sI K (taken6.1 : Tup Int), sI K (taken6.2 : Int), .un, .un, .un, .un]) (fun (flight8 : Int) => [(7, sI K (flight8 : Int))]) PassesOwn.never rfl (i_range2 B (v_max B rfl v_int (v_sub (v_im 3) (v_im 1))) (v_min B rfl (v_im 0) (v_add (v_add (v_im 3) (v_im 1)) v_int)) a2 a3) (fun flight8 => (g_name 7 sc_L_counted.nd)) (.keep (.keep (.keep (.keep (.keep (.keep (.keep (.keep (.keep (.keep (.keep .nil))))))))))) (fun vs7 flight8 => (k_if (t_notInT (room65 hr) (by decide) (PV.d (v_im 7)) (PV.d (v_im 5))) (fun h1 => (k_asr fun a4 => (k_asr fun a5 => (k_C (fun c q => h_setC 8 sc_L_counted.nd (v_tupOf B (PK.l (PN.xk (v_sorted B (roomS hr (by decide)) (PK.l (PN.xk (v_cat (PN.xk (v_lcIf [("_law_other", 10)] (fun (other9 : Int) => [(10, sI K (other9 : Int))]) rfl sc_L_counted.nd (blkOk_by rfl) (i_tup (v_im 5)) a4 (fun other9 _ _ _ _ _ => (g_name 10 sc_L_counted.nd)) (us_in fun _ => rfl) (fun other9 in_other9 _ _ _ _ _ => (t_ge (v_im 10) (v_sub (v_im 3) (v_im 1)))) (fun other9 in_other9 h2 _ _ _ _ _ => (v_im 10)))) (PN.xk (v_list (as_cons (v_im 7) as_nil))) a5))))))) q) (fun had10 e_had10 => (k_if (PWv.t (w_or (t_lt (v_sub (v_im 3) (v_im 1)) v_int) (fun h3 => (w_or1 (t_inT (room65 hr) (by decide) (PV.d (v_sub (v_im 3) (v_im 1))) (PV.d (v_im 8))))))) (fun h4 => (k_phi [sI K (many : Int), sI K (shift : Int), .im (dcP P w K (vs2 : Dc (Tup Int) Int)), sI K (place3 : Int), sD P w K (vs7 : Dc (Tup Int) Int), sI K (taken6.1 : Tup Int), sI K (taken6.2 : Int), sI K (flight8 : Int), sI K (had10 : Tup Int), .un, .un] rfl (k_asr fun a6 => (k_C (fun c q => h_setC 9 sc_L_counted.nd (v_tupOf B (PK.l (PN.xk (v_lcIf [("_law_other", 10)] (fun (other11 : Int) => [(10, sI K (other11 : Int))]) rfl sc_L_counted.nd (blkOk_by rfl) (i_tup (v_im 8)) a6 (fun other11 _ _ _ _ _ => (g_name 10 sc_L_counted.nd)) (us_in fun _ => rfl) (fun other11 in_other11 _ _ _ _ _ => (t_gt (v_im 10) (v_sub (v_im 3) (v_im 1)))) (fun other11 in_other11 h5 _ _ _ _ _ => (v_im 10)))))) q) (fun kept12 e_kept12 => (k_asr fun a7 => (k_C (fun c q => h_dputC 4 (room64 (room65 hr)) (v_add (PV.vw (vw_dct (d := vs7) 4) (v_dget2 (room64 (room65 hr)) (v_im 4) (v_im 9) v_int)) (v_im 6)) (v_im 9) a7 q) (fun after13 e_after13 => (k_end (k_end (k_end (k_nilS (.keep (.keep (.keep (.keep (.keep (.keep (.keep (.drop (.drop (.drop (.keep .nil))))))))))))))))))))))) (fun h4 => (k_end (k_end (k_end (k_nilS (.keep (.keep (.keep (.keep (.keep (.keep (.keep (.drop (.drop (.keep (.keep .nil)))))))))))))))))))))) (fun h1 => (k_end (k_end (k_nilS (.keep (.keep (.keep (.keep (.keep (.keep (.keep (.drop (.keep (.keep (.keep .nil))))))))))))))))) (fun vs14 => (k_end (k_nilS (.keep (.keep (.keep (.keep (.keep (.drop (.drop (.keep (.keep (.keep (.keep .nil))))))))))))))))))) (fun vs15 => (k_lift (fun _ z => h_settleDc 4 rfl z) (k_lift (fun _ z => h_set 2 sc_L_counted.nd (v_im 4) z) (k_end (k_nilS (.keep (.keep (.keep (.drop (.drop (.keep (.keep (.keep (.keep (.keep (.keep .nil)))))))))))))))))))) (fun vs16 => (k_retTV (v_sumD B rfl (v_im 2)))))))))) hm (fun _ _ _ _ _ _ us hl => match us, hl with | [_, _], _ => rfl)
abbrev s_beginnings_of : Stmt := top 2
noncomputable def m_beginnings_of_l1 (shift : Int) (size : Int) (low1 : Int) (high2 : Int) (vs10 : (List (Tup Int))) (some11 : List Int) : M ((List (Tup Int))) :=
  asr (((rng low1 high2)).length ≤ sizeLine) <|
  bindV (((((rng low1 high2)).filter fun (flight12 : Int) => (!decide (flight12 ∈ some11))).map fun (flight12 : Int) => flight12)) fun (rest13 : List Int) =>
  asr (∀ (h3 : (decide ((some11.length : Int) = (size - low1))) = true), M.Ok ((m_is_near some11 low1 shift))) <|
  asr (∀ (h3 : (decide ((some11.length : Int) = (size - low1))) = true), ∀ (h4 : ((m_is_near some11 low1 shift)).get = true), M.Ok ((m_is_near rest13 size shift))) <|
  cond (((decide ((some11.length : Int) = (size - low1))) && (((m_is_near some11 low1 shift)).get && ((m_is_near rest13 size shift)).get)))
  (asr (0 ≤ low1 ∧ low1 ≤ 16777216) <|
  asr (((rng 0 low1)).length + some11.length ≤ sizeLine) <|
  asr (vs10.length < sizeLine) <|
  bindV ((vs10 ++ [(Tup.mk (((rng 0 low1) ++ some11)))])) fun (found14 : List (Tup Int)) =>
  (.ok found14))
  ((.ok vs10))
noncomputable def m_beginnings_of_l2 (size : Int) (low1 : Int) (vs4 : (List (List Int))) (flight5 : Int) : M ((List (List Int))) :=
  asr (vs4.length ≤ sizeLine) <|
  asr (∀ (some6 : List Int), ∀ (in_some6 : some6 ∈ vs4), ∀ (h1 : (decide ((some6.length : Int) < (size - low1))) = true), some6.length + ([flight5]).length ≤ sizeLine) <|
  asr (vs4.length + (((vs4.filter fun (some6 : List Int) => (decide ((some6.length : Int) < (size - low1)))).map fun (some6 : List Int) => (some6 ++ [flight5]))).length ≤ sizeLine) <|
  bindV ((vs4 ++ ((vs4.filter fun (some6 : List Int) => (decide ((some6.length : Int) < (size - low1)))).map fun (some6 : List Int) => (some6 ++ [flight5])))) fun (sets7 : List (List Int)) =>
  (.ok sets7)
noncomputable def m_beginnings_of (many : Int) (shift : Int) (size : Int) : M (List (Tup Int)) :=
  bindV ((imax ((0 : Int)) ((size - shift)))) fun (low1 : Int) =>
  bindV ((imin many ((size + shift)))) fun (high2 : Int) =>
  bindV ([[]]) fun (sets3 : List (List Int)) =>
  asr (small62 low1) <|
  asr (small62 high2) <|
  bindM (foldM' (m_beginnings_of_l2 size low1) sets3 ((rng low1 high2))) fun (vs8 : (List (List Int))) =>
  bindV ([]) fun (found9 : List (Tup Int)) =>
  bindM (foldM' (m_beginnings_of_l1 shift size low1 high2) found9 vs8) fun (vs15 : (List (Tup Int))) =>
  asr ((∀ x ∈ vs15, x.l ≠ []) ∨ vs15.length ≤ 1) <|
  (.ok ((srt vs15)))
def sp_beginnings_of (P : Program) (w : World) (K : Fg) : Sp := spG (A := Int × Int × Int) (fun z => [py K (enc (z.1 : Int)), py K (enc (z.2.1 : Int)), py K (enc (z.2.2 : Int))]) (fun z => M.Ok (m_beginnings_of z.1 z.2.1 z.2.2)) (fun z => .new (rps K (m_beginnings_of z.1 z.2.1 z.2.2).get))
theorem sc_beginnings_of : FnScope ["many", "shift", "size", "low", "high", "sets", "flight", "found", "some", "rest"] ["many", "shift", "size"] (defScope s_beginnings_of) := ⟨rfl, rfl, rfl, by decide +kernel, rfl, by decide +kernel, by decide +kernel⟩
theorem ok_beginnings_of {P : Program} {w : World} {K : Fg} {mg : Str → Option Value} {base : Heap} {f : Addr} {fd : FuncData} (F : DefOf K "beginnings_of" "beginnings_of" s_beginnings_of f fd) (hm : mg "beginnings_of" = some (.ref f)) (E0 : Env0 K mg) (G_is_near : FnG P w K mg base CX0 1 "is_near" (sp_is_near P w K)) :
    FnG P w K mg base CX0 2 "beginnings_of" (sp_beginnings_of P w K) := by
  have B := E0.B
  exact fn_mk F (def_okK (Ar := Int × Int × Int) (T0 := fun (r : List (Tup Int)) => .new (rps K r)) (m := fun z => m_beginnings_of z.1 z.2.1 z.2.2) F sc_beginnings_of 7 (fun _ => rfl) rfl (fun _ => rfl) fun cdv A outer s H E hr z => by
    obtain ⟨many, shift, size⟩ := z
    show HM (S := Unit) (bx P w K mg base ["many", "shift", "size", "low", "high", "sets", "flight", "found", "some", "rest"] "beginnings_of" s_beginnings_of f cdv A outer s H E) _ Ctl.rt [defBody s_beginnings_of] (enter [py K (enc (many : Int)), py K (enc (shift : Int)), py K (enc (size : Int))] 7) _ (TE (fun (r : List (Tup Int)) => .new (rps K r)) noER) (m_beginnings_of many shift size)
    exact (k_C (fun c q => h_setC 3 sc_beginnings_of.nd (v_max B rfl v_int (v_sub (v_im 2) (v_im 1))) q) (fun low1 e_low1 => (k_C (fun c q => h_setC 4 sc_beginnings_of.nd (v_min B rfl (v_im 0) (v_add (v_im 2) (v_im 1))) q) (fun high2 e_high2 => (k_C (fun c q => h_setC 5 sc_beginnings_of.nd (PN.v (v_list (as_cons (PN.v (v_list as_nil)) as_nil))) q) (fun sets3 e_sets3 => (k_phi [sI K (many : Int), sI K (shift : Int), sI K (size : Int), sI K (low1 : Int), sI K (high2 : Int), sI K (sets3 : List (List Int)), .un, .un, .un, .un] rfl (k_asr fun a1 => (k_asr fun a2 => (k_fold (fun (vs4 : (List (List Int))) => [sI K (many : Int), sI K (shift : Int), sI K (size : Int), sI K (low1 : Int), sI K (high2 : Int), sI K (vs4 : List (List Int)), .un, .un, .un, .un]) (fun (flight5 : Int) => [(6, sI K (flight5 : Int))]) PassesOwn.never rfl (i_range2 B (v_im 3) (v_im 4) a1 a2) (fun flight5 => (g_name 6 sc_beginnings_of.nd)) (.keep (.keep (.keep (.keep (.keep (.keep (.keep (.keep (.keep (.keep .nil)))))))))) (fun vs4 flight5 => (k_asr fun a3 => (k_asr fun a4 => (k_asr fun a5 => (k_C (fun c q => h_setC 5 sc_beginnings_of.nd (PN.v (v_cat (PV.xk (v_im 5)) (PN.xk (v_lcIf [("some", 8)] (fun (some6 : List Int) => [(8, sI K (some6 : List Int))]) rfl sc_beginnings_of.nd (blkOk_by rfl) (i_list (v_im 5)) a3 (fun some6 _ _ _ _ _ => (g_name 8 sc_beginnings_of.nd)) (us_in fun _ => rfl) (fun some6 in_some6 _ _ _ _ _ => (t_lt (v_len B (PK.l (PV.xk (v_im 8)))) (v_sub (v_im 2) (v_im 3)))) (fun some6 in_some6 h1 _ _ _ _ _ => (PN.v (v_cat (PV.xk (v_im 8)) (PN.xk (v_list (as_cons (v_im 6) as_nil))) (a4 some6 in_some6 h1)))))) a5)) q) (fun sets7 e_sets7 => (k_end (k_nilS (.keep (.keep (.keep (.keep (.keep (.keep (.drop (.keep (.keep (.keep .nil)))))))))))))))))) (fun vs8 => (k_C (fun c q => h_ownC 7 sc_beginnings_of.nd (v_list as_nil) q) (fun found9 e_found9 => (k_fold (fun (vs10 : (List (Tup Int))) => [sI K (many : Int), sI K (shift : Int), sI K (size : Int), sI K (low1 : Int), sI K (high2 : Int), sI K (vs8 : List (List Int)), .un, sO K (vs10 : List (Tup Int)), .un, .un]) (fun (some11 : List Int) => [(8, sI K (some11 : List Int))]) PassesOwn.never rfl (i_list (v_im 5)) (fun some11 => (g_name 8 sc_beginnings_of.nd)) (.keep (.keep (.keep (.keep (.keep (.keep (.keep (.keep (.keep (.keep .nil)))))))))) (fun vs10 some11 => (k_phi [sI K (many : Int), sI K (shift : Int), sI K (size : Int), sI K (low1 : Int), sI K (high2 : Int), sI K (vs8 : List (List Int)), .un, sO K (vs10 : List (Tup Int)), sI K (some11 : List Int), .un] rfl (k_asr fun a6 => (k_C (fun c q => h_lcIfC 9 [("flight", 6)] (fun (flight12 : Int) => [(6, sI K (flight12 : Int))]) rfl sc_beginnings_of.nd (blkOk_by rfl) (i_range2 B (v_im 3) (v_im 4) a1 a2) a6 (fun flight12 _ _ _ _ _ => (g_name 6 sc_beginnings_of.nd)) (us_in fun _ => rfl) (fun flight12 in_flight12 _ _ _ _ _ => (t_notInL (room65 hr) (by decide) (PV.d (v_im 6)) (PV.d (v_im 8)))) (fun flight12 in_flight12 h2 _ _ _ _ _ => (v_im 6)) q) (fun rest13 e_rest13 => (k_lift (fun _ z => h_settle 9 rfl z) (k_asr fun a7 => (k_asr fun a8 => (k_if (PWv.t (w_and (t_eq hr.units (by decide) (PV.d (v_len B (PK.l (PV.xk (v_im 8))))) (PV.d (v_sub (v_im 2) (v_im 3)))) (fun h3 => (w_and (t_val (v_callK (t := (((m_is_near some11 low1 shift)).get)) G_is_near (hr.mono (by decide)) pass0 (some11, low1, shift) (M.Ok.get (a7 h3)) (as_cons (v_im 8) (as_cons (v_im 3) (as_cons (v_im 1) as_nil))))) (fun h4 => (w_and1 (t_val (v_callK (t := (((m_is_near rest13 size shift)).get)) G_is_near (hr.mono (by decide)) pass0 (rest13, size, shift) (M.Ok.get (a8 h3 h4)) (as_cons (v_im 9) (as_cons (v_im 2) (as_cons (v_im 1) as_nil))))))))))) (fun h5 => (k_asr fun a9 => (k_asr fun a10 => (k_asr fun a11 => (k_C (fun c q => h_appC 7 (v_tupOf B (PK.l (PN.xk (v_cat (PN.xk (v_listR1 B rfl (v_im 3) a9)) (PV.xk (v_im 8)) a10)))) a11 q) (fun found14 e_found14 => (k_end (k_end (k_nilS (.keep (.keep (.keep (.keep (.keep (.keep (.keep (.keep (.drop (.drop .nil))))))))))))))))))) (fun h5 => (k_end (k_end (k_nilS (.keep (.keep (.keep (.keep (.keep (.keep (.keep (.keep (.drop (.drop .nil))))))))))))))))))))))) (fun vs15 => (k_phi [sI K (many : Int), sI K (shift : Int), sI K (size : Int), sI K (low1 : Int), sI K (high2 : Int), sI K (vs8 : List (List Int)), .un, sO K (vs15 : List (Tup Int)), .un, .un] rfl (k_asr fun a12 => (k_retN (v_sortedT B (roomS hr (by decide)) (PK.l (v_ow 7)) a12)))))))))))))))))))) hm (fun _ _ _ _ _ _ us hl => match us, hl with | [_, _, _], _ => rfl)
abbrev s_many_orders : Stmt := top 4
noncomputable def m_many_orders_l1 (shift : Int) (vs2 : Dc (Tup Int) Int) (vs6 : (Dc (Tup Int) Int)) (some7 : Tup Int) : M ((Dc (Tup Int) Int)) :=
  bindO ((m_steps_to some7 shift)) fun (steps_to8 : List (Int × (Tup Int))) =>
  asr (steps_to8.length ≤ sizeLine) <|
  asr (vs6.l.length < sizeLine) <|
  bindV ((vs6.put some7 (((steps_to8.map fun (flight9 : Int × (Tup Int)) => ((vs2.at flight9.2).getD ((0 : Int))))).sum))) fun (after10 : Dc (Tup Int) Int) =>
  (.ok after10)
noncomputable def m_many_orders_l2 (many : Int) (shift : Int) (vs2 : (Dc (Tup Int) Int)) (size3 : Int) : M ((Dc (Tup Int) Int)) :=
  bindV ((⟨[]⟩ : Dc (Tup Int) Int)) fun (after4 : Dc (Tup Int) Int) =>
  bindO ((m_beginnings_of many shift size3)) fun (beginnings_of5 : List (Tup Int)) =>
  bindM (foldM' (m_many_orders_l1 shift vs2) after4 beginnings_of5) fun (vs11 : (Dc (Tup Int) Int)) =>
  (.ok vs11)
noncomputable def m_many_orders (many : Int) (shift : Int) : M Int :=
  bindV ((⟨[((Tup.mk []), (1 : Int))]⟩ : Dc (Tup Int) Int)) fun (counts1 : Dc (Tup Int) Int) =>
  asr (small62 ((many + (1 : Int)))) <|
  bindM (foldM' (m_many_orders_l2 many shift) counts1 ((rng ((1 : Int)) ((many + (1 : Int)))))) fun (vs12 : (Dc (Tup Int) Int)) =>
  (.ok (((vs12.l.map (·.2)).sum)))
def sp_many_orders (P : Program) (w : World) (K : Fg) : Sp := spG (A := Int × Int) (fun z => [py K (enc (z.1 : Int)), py K (enc (z.2 : Int))]) (fun z => M.Ok (m_many_orders z.1 z.2)) (fun z => .val (py K (enc (m_many_orders z.1 z.2).get)))
theorem sc_many_orders : FnScope ["many", "shift", "counts", "size", "after", "some", "flight", "ahead"] ["many", "shift"] (defScope s_many_orders) := ⟨rfl, rfl, rfl, by decide +kernel, rfl, by decide +kernel, by decide +kernel⟩
theorem ok_many_orders {P : Program} {w : World} {K : Fg} {mg : Str → Option Value} {base : Heap} {f : Addr} {fd : FuncData} (F : DefOf K "many_orders" "many_orders" s_many_orders f fd) (hm : mg "many_orders" = some (.ref f)) (E0 : Env0 K mg) (G_beginnings_of : FnG P w K mg base CX0 2 "beginnings_of" (sp_beginnings_of P w K)) (G_steps_to : FnG P w K mg base CX0 1 "steps_to" (sp_steps_to P w K)) :
    FnG P w K mg base CX0 3 "many_orders" (sp_many_orders P w K) := by
  have B := E0.B
  exact fn_mk F (def_okK (Ar := Int × Int) (T0 := fun (r : Int) => .val (py K (enc r))) (m := fun z => m_many_orders z.1 z.2) F sc_many_orders 6 (fun _ => rfl) rfl (fun _ => rfl) fun cdv A outer s H E hr z => by
    obtain ⟨many, shift⟩ := z
    show HM (S := Unit) (bx P w K mg base ["many", "shift", "counts", "size", "after", "some", "flight", "ahead"] "many_orders" s_many_orders f cdv A outer s H E) _ Ctl.rt [defBody s_many_orders] (enter [py K (enc (many : Int)), py K (enc (shift : Int))] 6) _ (TE (fun (r : Int) => .val (py K (enc r))) noER) (m_many_orders many shift)
    exact (k_C (fun c q => h_setDC 2 sc_many_orders.nd (v_dnew1 (room64 (room65 hr)) (v_tup as_nil) v_int) q) (fun counts1 e_counts1 => (k_lift (fun _ z => h_settleDc 2 rfl z) (k_asr fun a1 => (k_fold (fun (vs2 : (Dc (Tup Int) Int)) => [sI K (many : Int), sI K (shift : Int), .im (dcP P w K (vs2 : Dc (Tup Int) Int)), .un, .un, .un, .un, .un]) (fun (size3 : Int) => [(3, sI K (size3 : Int))]) PassesOwn.never rfl (i_range2 B v_int (v_add (v_im 0) v_int) (⟨by decide, by decide⟩) a1) (fun size3 => (g_name 3 sc_many_orders.nd)) (.keep (.keep (.keep (.keep (.keep (.keep (.keep (.keep .nil)))))))) (fun vs2 size3 => (k_C (fun c q => h_setDC 4 sc_many_orders.nd v_dnew q) (fun after4 e_after4 => (k_phi [sI K (many : Int), sI K (shift : Int), .im (dcP P w K (vs2 : Dc (Tup Int) Int)), sI K (size3 : Int), sD P w K (after4 : Dc (Tup Int) Int), .un, .un, .un] rfl (k_bindO fun beginnings_of5 h_beginnings_of5 => (k_fold (fun (vs6 : (Dc (Tup Int) Int)) => [sI K (many : Int), sI K (shift : Int), .im (dcP P w K (vs2 : Dc (Tup Int) Int)), sI K (size3 : Int), sD P w K (vs6 : Dc (Tup Int) Int), .un, .un, .un]) (fun (some7 : Tup Int) => [(5, sI K (some7 : Tup Int))]) PassesOwn.never rfl (i_list (PN.v (v_callKN (t := beginnings_of5) G_beginnings_of (hr.mono (by decide)) pass0 (many, shift, size3) h_beginnings_of5 (as_cons (v_im 0) (as_cons (v_im 1) (as_cons (v_im 3) as_nil)))))) (fun some7 => (g_name 5 sc_many_orders.nd)) (.keep (.keep (.keep (.keep (.keep (.keep (.keep (.keep .nil)))))))) (fun vs6 some7 => (k_bindO fun steps_to8 h_steps_to8 => (k_asr fun a2 => (k_asr fun a3 => (k_C (fun c q => h_dputC 4 (room64 (room65 hr)) (v_sum B rfl (PK.l (PN.xk (v_lc [("flight", 6), ("ahead", 7)] (fun (flight9 : Int × (Tup Int)) => [(6, sI K (flight9.1 : Int)), (7, sI K (flight9.2 : Tup Int))]) rfl sc_many_orders.nd (blkOk_by rfl) (i_list (PN.v (v_callKN (t := steps_to8) G_steps_to (hr.mono (by decide)) pass0 (some7, shift) h_steps_to8 (as_cons (v_im 5) (as_cons (v_im 1) as_nil))))) a2 (fun flight9 _ _ _ _ _ => (g_p2 rfl (g_name 6 sc_many_orders.nd) (g_name 7 sc_many_orders.nd))) (us_in fun _ => rfl) (fun flight9 in_flight9 _ _ _ _ _ => (v_dget2 (room64 (room65 hr)) (v_im 2) (v_im 7) v_int)))))) (v_im 5) a3 q) (fun after10 e_after10 => (k_end (k_nilS (.keep (.keep (.keep (.keep (.keep (.drop (.keep (.keep .nil)))))))))))))))) (fun vs11 => (k_lift (fun _ z => h_settleDc 4 rfl z) (k_lift (fun _ z => h_set 2 sc_many_orders.nd (v_im 4) z) (k_end (k_nilS (.keep (.keep (.keep (.drop (.drop (.keep (.keep (.keep .nil))))))))))))))))))) (fun vs12 => (k_phi [sI K (many : Int), sI K (shift : Int), .im (dcP P w K (vs12 : Dc (Tup Int) Int)), .un, .un, .un, .un, .un] rfl (k_retTV (v_sumD B rfl (v_im 2))))))))))) hm (fun _ _ _ _ _ _ us hl => match us, hl with | [_, _], _ => rfl)
abbrev s_law : Stmt := top 8
noncomputable def m_law_l1  (vs8 : Int) (vk9 : Int) : M Int :=
  asr (CMul vs8 vk9) <|
  bindV ((vs8 * vk9)) fun (full10 : Int) =>
  (.ok full10)
noncomputable def m_law (script : List Int) : M Bool :=
  bindO ((m_L_cell script ((0 : Int)))) fun (cell1 : Int) =>
  bindV ((cell1 % (41 : Int))) fun (many2 : Int) =>
  bindO ((m_L_cell script ((1 : Int)))) fun (cell3 : Int) =>
  bindV ((cell3 % (4 : Int))) fun (shift4 : Int) =>
  bindO ((m_many_orders many2 shift4)) fun (many_orders5 : Int) =>
  asr (∀ (h1 : (!true) = false), ∀ (h2 : false = false), M.Ok ((m_L_counted many2 shift4))) <|
  cond (((!true) || (false || (!decide (many_orders5 = ((m_L_counted many2 shift4)).get)))))
  ((.ok false))
  (bindO ((m_many_orders many2 ((0 : Int)))) fun (many_orders6 : Int) =>
  cond ((!decide (many_orders6 = (1 : Int))))
  ((.ok false))
  (asr (∀ (h5 : (decide ((1 : Int) < many2)) = true), M.Ok ((m_many_orders many2 ((1 : Int))))) <|
  asr (∀ (h5 : (decide ((1 : Int) < many2)) = true), M.Ok ((m_many_orders ((many2 - (1 : Int))) ((1 : Int))))) <|
  asr (∀ (h5 : (decide ((1 : Int) < many2)) = true), M.Ok ((m_many_orders ((many2 - (2 : Int))) ((1 : Int))))) <|
  cond (((decide ((1 : Int) < many2)) && (!decide (((m_many_orders many2 ((1 : Int)))).get = (((m_many_orders ((many2 - (1 : Int))) ((1 : Int)))).get + ((m_many_orders ((many2 - (2 : Int))) ((1 : Int)))).get)))))
  ((.ok false))
  (bindV ((1 : Int)) fun (full7 : Int) =>
  asr (small62 ((many2 + (1 : Int)))) <|
  bindM (foldM' m_law_l1 full7 ((rng ((1 : Int)) ((many2 + (1 : Int)))))) fun (vs11 : Int) =>
  cond ((((decide (many2 ≤ (shift4 + (1 : Int)))) && (!decide (many_orders5 = vs11))) || (decide (vs11 < many_orders5))))
  ((.ok false))
  (asr (∀ (h10 : (decide (shift4 = (3 : Int))) = false), M.Ok ((m_many_orders many2 ((shift4 + (1 : Int)))))) <|
  (.ok (((decide (shift4 = (3 : Int))) || (decide (many_orders5 ≤ ((m_many_orders many2 ((shift4 + (1 : Int))))).get)))))))))
def sp_law (P : Program) (w : World) (K : Fg) : Sp := spG (A := (List Int)) (fun z => [scrP K z]) (fun z => M.Ok (m_law z)) (fun z => .val (py K (enc (m_law z).get)))
theorem sc_law : FnScope ["_law_script", "_law_many", "_law_shift", "_law_found", "_law_full", "_law_k"] ["_law_script"] (defScope s_law) := ⟨rfl, rfl, rfl, by decide +kernel, rfl, by decide +kernel, by decide +kernel⟩
theorem ok_law {P : Program} {w : World} {K : Fg} {mg : Str → Option Value} {base : Heap} {f : Addr} {fd : FuncData} (F : DefOf K "law" "law" s_law f fd) (hm : mg "law" = some (.ref f)) (E0 : Env0 K mg) (G__law_cell : FnG P w K mg base CX0 1 "_law_cell" (sp_L_cell P w K)) (G_many_orders : FnG P w K mg base CX0 3 "many_orders" (sp_many_orders P w K)) (G__law_counted : FnG P w K mg base CX0 1 "_law_counted" (sp_L_counted P w K)) :
    FnOk P w K mg base CX0 4 f fd ["_law_script"] (sp_law P w K) := by
  have B := E0.B
  exact def_okK (Ar := (List Int)) (T0 := fun (r : Bool) => .val (py K (enc r))) (m := fun z => m_law z) F sc_law 5 (fun _ => rfl) rfl (fun _ => rfl) fun cdv A outer s H E hr script => by
    show HM (S := Unit) (bx P w K mg base ["_law_script", "_law_many", "_law_shift", "_law_found", "_law_full", "_law_k"] "law" s_law f cdv A outer s H E) _ Ctl.rt [defBody s_law] (enter [scrP K script] 5) _ (TE (fun (r : Bool) => .val (py K (enc r))) noER) (m_law script)
    exact (k_bindO fun cell1 h_cell1 => (k_C (fun c q => h_setC 1 sc_law.nd (v_mod (v_callK (t := cell1) G__law_cell (hr.mono (by decide)) pass0 (script, (0 : Int)) h_cell1 (as_cons (v_im 0) (as_cons v_int as_nil))) v_int (by decide)) q) (fun many2 e_many2 => (k_bindO fun cell3 h_cell3 => (k_C (fun c q => h_setC 2 sc_law.nd (v_mod (v_callK (t := cell3) G__law_cell (hr.mono (by decide)) pass0 (script, (1 : Int)) h_cell3 (as_cons (v_im 0) (as_cons v_int as_nil))) v_int (by decide)) q) (fun shift4 e_shift4 => (k_bindO fun many_orders5 h_many_orders5 => (k_lift (fun _ z => h_set 3 sc_law.nd (v_callK (t := many_orders5) G_many_orders (hr.mono (by decide)) pass0 (many2, shift4) h_many_orders5 (as_cons (v_im 1) (as_cons (v_im 2) as_nil))) z) (k_asr fun a1 => (k_if (PWv.t (w_or (v_not (t_val (v_isiInt B (v_im 3)))) (fun h1 => (w_or (t_val (v_isiBool B (v_im 3))) (fun h2 => (w_or1 (t_ne hr.units (by decide) (PV.d (v_im 3)) (PV.d (v_callK (t := (((m_L_counted many2 shift4)).get)) G__law_counted (hr.mono (by decide)) pass0 (many2, shift4) (M.Ok.get (a1 h1 h2)) (as_cons (v_im 1) (as_cons (v_im 2) as_nil))))))))))) (fun h3 => (k_retTV v_bl)) (fun h3 => (k_end (k_bindO fun many_orders6 h_many_orders6 => (k_if (t_ne hr.units (by decide) (PV.d (v_callK (t := many_orders6) G_many_orders (hr.mono (by decide)) pass0 (many2, (0 : Int)) h_many_orders6 (as_cons (v_im 1) (as_cons v_int as_nil)))) (PV.d v_int)) (fun h4 => (k_retTV v_bl)) (fun h4 => (k_end (k_asr fun a2 => (k_asr fun a3 => (k_asr fun a4 => (k_if (PWv.t (w_and (t_gt (v_im 1) v_int) (fun h5 => (w_and1 (t_ne hr.units (by decide) (PV.d (v_callK (t := (((m_many_orders many2 ((1 : Int)))).get)) G_many_orders (hr.mono (by decide)) pass0 (many2, (1 : Int)) (M.Ok.get (a2 h5)) (as_cons (v_im 1) (as_cons v_int as_nil)))) (PV.d (v_add (v_callK (t := (((m_many_orders ((many2 - (1 : Int))) ((1 : Int)))).get)) G_many_orders (hr.mono (by decide)) pass0 ((many2 - (1 : Int)), (1 : Int)) (M.Ok.get (a3 h5)) (as_cons (v_sub (v_im 1) v_int) (as_cons v_int as_nil))) (v_callK (t := (((m_many_orders ((many2 - (2 : Int))) ((1 : Int)))).get)) G_many_orders (hr.mono (by decide)) pass0 ((many2 - (2 : Int)), (1 : Int)) (M.Ok.get (a4 h5)) (as_cons (v_sub (v_im 1) v_int) (as_cons v_int as_nil)))))))))) (fun h6 => (k_retTV v_bl)) (fun h6 => (k_end (k_C (fun c q => h_setC 4 sc_law.nd v_int q) (fun full7 e_full7 => (k_asr fun a5 => (k_fold (fun (vs8 : Int) => [.im (scrP K script), sI K (many2 : Int), sI K (shift4 : Int), sI K (many_orders5 : Int), sI K (vs8 : Int), .un]) (fun (vk9 : Int) => [(5, sI K (vk9 : Int))]) PassesOwn.never rfl (i_range2 B v_int (v_add (v_im 1) v_int) (⟨by decide, by decide⟩) a5) (fun vk9 => (g_name 5 sc_law.nd)) (.keep (.keep (.keep (.keep (.keep (.keep .nil)))))) (fun vs8 vk9 => (k_asr fun a6 => (k_C (fun c q => h_setC 4 sc_law.nd (v_mul (v_im 4) (v_im 5) a6) q) (fun full10 e_full10 => (k_end (k_nilS (.keep (.keep (.keep (.keep (.keep (.drop .nil)))))))))))) (fun vs11 => (k_if (PWv.t (w_or (PWv.t (w_and (t_le (v_im 1) (v_add (v_im 2) v_int)) (fun h7 => (w_and1 (t_ne hr.units (by decide) (PV.d (v_im 3)) (PV.d (v_im 4))))))) (fun h8 => (w_or1 (t_gt (v_im 3) (v_im 4)))))) (fun h9 => (k_retTV v_bl)) (fun h9 => (k_end (k_asr fun a7 => (k_retTV (v_or (v_eq hr.units (by decide) (PV.d (v_im 2)) (PV.d v_int)) (fun h10 => (v_one (v_ge (v_callK (t := (((m_many_orders many2 ((shift4 + (1 : Int))))).get)) G_many_orders (hr.mono (by decide)) pass0 (many2, (shift4 + (1 : Int))) (M.Ok.get (a7 h10)) (as_cons (v_im 1) (as_cons (v_add (v_im 2) v_int) as_nil))) (v_im 3)))))))))))))))))))))))))))))))))))))
end LW

set_option Elab.async false
set_option linter.all false
set_option maxRecDepth 100000
set_option maxHeartbeats 4000000
namespace LW
open PySem PySem.Spec PyProof.Rows L2 GL
-- pack 03_fold.lean
theorem fold_flat {α β : Type} {f : List β → α → M (List β)} {g : α → List β} {N : Nat} : ∀ {xs : List α} {s0 : List β}, s0.length + (xs.flatMap g).length ≤ N → (∀ s x, x ∈ xs → s.length + (g x).length ≤ N → f s x = .ok (s ++ g x)) → foldM' f s0 xs = .ok (s0 ++ xs.flatMap g)
  | [], s0, _, _ => by simp [foldM']
  | x :: xs, s0, hz, h => by
    unfold foldM'
    rw [List.flatMap_cons, List.length_append] at hz
    rw [h s0 x (List.mem_cons_self ..) (by omega), bindM_ok, fold_flat (by rw [List.length_append]; omega) fun s y hy => h s y (List.mem_cons_of_mem _ hy), List.flatMap_cons, List.append_assoc]
theorem filter_map_flat {α β : Type} (p : α → Bool) (h : α → β) : ∀ xs : List α, (xs.filter p).map h = xs.flatMap fun x => if p x then [h x] else []
  | [] => rfl
  | x :: xs => by
    rw [List.filter_cons, List.flatMap_cons, ← filter_map_flat p h xs]
    split <;> rfl
theorem flat_len_le {α β : Type} {f : α → List β} {x : α} : ∀ {xs : List α}, x ∈ xs → (f x).length ≤ (xs.flatMap f).length
  | y :: ys, h => by
    rw [List.flatMap_cons, List.length_append]
    rcases List.mem_cons.mp h with e | e
    · subst e; omega
    · have := flat_len_le (f := f) e; omega
theorem flat_len_ge {α β : Type} {f : α → List β} : ∀ {xs : List α}, (∀ x ∈ xs, 1 ≤ (f x).length) → xs.length ≤ (xs.flatMap f).length
  | [], _ => Nat.zero_le _
  | y :: ys, h => by
    rw [List.flatMap_cons, List.length_append, List.length_cons]
    have := h y (List.mem_cons_self ..)
    have := flat_len_ge (f := f) fun x hx => h x (List.mem_cons_of_mem y hx)
    omega
-- pack 04_base.lean
theorem mul_bd {a b n m : Int} (ha : 0 ≤ a ∧ a ≤ n) (hb : 0 ≤ b ∧ b ≤ m) : 0 ≤ a * b ∧ a * b ≤ n * m :=
  ⟨Int.mul_nonneg ha.1 hb.1, Int.mul_le_mul ha.2 hb.2 hb.1 (by omega)⟩
theorem cmul_l {a b : Int} (h : 0 ≤ a ∧ a ≤ 1000000000000000000) : CMul a b := Or.inl (by omega)
theorem lt_size {n : Nat} (h : n ≤ 1000000) : n < sizeLine := by rw [sizeLine_eq]; omega
/-- a flight of the kinds -/
def FlOk (kinds : Int) (f : T5 Int Int Int Int Int) : Prop := 0 ≤ f.a ∧ f.a < kinds ∧ 0 ≤ f.b ∧ f.b ≤ f.c ∧ f.c ≤ 1000000000 ∧ 0 ≤ f.d ∧ f.d ≤ 1000000000 ∧ 0 ≤ f.e ∧ f.e ≤ 1000000000
theorem two_mem {a b : Int} (i : Int) : ix [a, b] (i % 2) = a ∨ ix [a, b] (i % 2) = b := by
  have h := ix_mem (xs := [a, b]) (i := i % 2) (mod_ix (by decide))
  simpa using h
theorem four_mem {a b c d : Int} {i : Int} (hi : 0 ≤ i ∧ i < 4) : ix [a, b, c, d] i = a ∨ ix [a, b, c, d] i = b ∨ ix [a, b, c, d] i = c ∨ ix [a, b, c, d] i = d := by
  have h := ix_mem (xs := [a, b, c, d]) (i := i) (by simpa using hi)
  simpa using h
/-- closed stretches -/
def StOk (c : List (Int × Int)) : Prop := c.length ≤ 20 ∧ ∀ p ∈ c, 0 ≤ p.1 ∧ p.1 < p.2 ∧ p.2 ≤ 1000000000
theorem app1 {α : Type} (xs : List α) (x : α) : (xs ++ [x]).length = xs.length + 1 := by simp
theorem lastD_mem {α : Type} [Inhabited α] {xs : List α} (h : 0 < xs.length) : lastD xs ∈ xs := by
  unfold lastD
  rw [List.getD_eq_getElem?_getD, List.getElem?_eq_getElem (by omega)]
  exact List.getElem_mem _
theorem rng_nodup (lo hi : Int) : (rng lo hi).Nodup := by
  refine List.pairwise_iff_getElem.mpr fun i j hi hj hij z => ?_
  have e1 := List.getElem?_eq_getElem hi
  have e2 := List.getElem?_eq_getElem hj
  rw [rng_length] at hi hj
  rw [rng_at hi] at e1
  rw [rng_at hj] at e2
  have e1 := Option.some.inj e1
  have e2 := Option.some.inj e2
  omega
-- pack 05_open.lean
/-! ### closed stretches, in themselves -/
def Cov (xs : List (Int × Int)) (t : Int) : Prop := ∃ c ∈ xs, c.1 ≤ t ∧ t < c.2
theorem Cov.snoc {xs : List (Int × Int)} {c : Int × Int} {t : Int} : Cov (xs ++ [c]) t ↔ Cov xs t ∨ (c.1 ≤ t ∧ t < c.2) := by
  unfold Cov
  constructor
  · rintro ⟨d, hd, h⟩
    rcases List.mem_append.mp hd with e | e
    · exact .inl ⟨d, e, h⟩
    · rw [List.mem_singleton.mp e] at h; exact .inr h
  · rintro (⟨d, hd, h⟩ | h)
    · exact ⟨d, List.mem_append_left _ hd, h⟩
    · exact ⟨c, by simp, h⟩
theorem Cov.cons {xs : List (Int × Int)} {c : Int × Int} {t : Int} : Cov (c :: xs) t ↔ (c.1 ≤ t ∧ t < c.2) ∨ Cov xs t := by
  unfold Cov
  simp
theorem Cov.perm {xs ys : List (Int × Int)} (h : xs.Perm ys) {t : Int} : Cov xs t ↔ Cov ys t := by
  unfold Cov
  constructor
  · rintro ⟨c, hc, h2⟩; exact ⟨c, h.mem_iff.mp hc, h2⟩
  · rintro ⟨c, hc, h2⟩; exact ⟨c, h.mem_iff.mpr hc, h2⟩
/-- the least time from t on that isn't in xs -/
def Nxt (xs : List (Int × Int)) (t r : Int) : Prop := t ≤ r ∧ ¬ Cov xs r ∧ ∀ u, t ≤ u → u < r → Cov xs u
def Lst (xs : List (Int × Int)) (t r : Int) : Prop := r ≤ t ∧ ¬ Cov xs r ∧ ∀ u, r < u → u ≤ t → Cov xs u
theorem Nxt.uniq {xs : List (Int × Int)} {t r r' : Int} (h : Nxt xs t r) (h' : Nxt xs t r') : r = r' := by
  obtain ⟨a, b, c⟩ := h
  obtain ⟨a', b', c'⟩ := h'
  by_cases q : r < r'
  · exact absurd (c' r a q) b
  · by_cases q' : r' < r
    · exact absurd (c r' a' q') b'
    · omega
theorem Lst.uniq {xs : List (Int × Int)} {t r r' : Int} (h : Lst xs t r) (h' : Lst xs t r') : r = r' := by
  obtain ⟨a, b, c⟩ := h
  obtain ⟨a', b', c'⟩ := h'
  by_cases q : r < r'
  · exact absurd (c r' q a') b'
  · by_cases q' : r' < r
    · exact absurd (c' r q' a) b
    · omega
theorem Nxt.of {xs ys : List (Int × Int)} (e : ∀ t, Cov xs t ↔ Cov ys t) {t r : Int} (h : Nxt xs t r) : Nxt ys t r := ⟨h.1, fun z => h.2.1 ((e r).mpr z), fun u a b => (e u).mp (h.2.2 u a b)⟩
theorem Lst.of {xs ys : List (Int × Int)} (e : ∀ t, Cov xs t ↔ Cov ys t) {t r : Int} (h : Lst xs t r) : Lst ys t r := ⟨h.1, fun z => h.2.1 ((e r).mpr z), fun u a b => (e u).mp (h.2.2 u a b)⟩
theorem filter_le {α : Type} {p q : α → Bool} {xs : List α} (h : ∀ x ∈ xs, p x = true → q x = true) : (xs.filter p).length ≤ (xs.filter q).length := by
  induction xs with
  | nil => simp
  | cons x xs ih =>
    have i := ih fun y hy => h y (List.mem_cons_of_mem _ hy)
    have k := h x (List.mem_cons_self ..)
    cases hp : p x <;> cases hq : q x <;> simp only [List.filter_cons, hp, hq, if_true, List.length_cons] <;> first | (simp; omega) | omega | (rw [k hp] at hq; cases hq)
theorem nxt_ex (xs : List (Int × Int)) : ∀ (n : Nat) (t : Int), (xs.filter fun c => decide (t < c.2)).length ≤ n → ∃ r, Nxt xs t r
  | n, t, hn => by
    by_cases h : Cov xs t
    · obtain ⟨c, hc, h1, h2⟩ := h
      have hlt := filter_lt (p := fun d : Int × Int => decide (c.2 < d.2)) (q := fun d => decide (t < d.2)) (xs := xs) (fun d _ hd => decide_eq_true (by have := of_decide_eq_true hd; omega)) hc (decide_eq_true h2) (decide_eq_false (by omega))
      cases n with
      | zero => omega
      | succ n =>
        obtain ⟨r, r1, r2, r3⟩ := nxt_ex xs n c.2 (by omega)
        refine ⟨r, by omega, r2, fun u a b => ?_⟩
        by_cases q : u < c.2
        · exact ⟨c, hc, by omega, q⟩
        · exact r3 u (by omega) b
    · exact ⟨t, Int.le_refl _, h, fun u a b => by omega⟩
/-- the next open time -/
noncomputable def nxtV (xs : List (Int × Int)) (t : Int) : Int := Classical.choose (nxt_ex xs _ t (Nat.le_refl _))
theorem nxtV_is (xs : List (Int × Int)) (t : Int) : Nxt xs t (nxtV xs t) := Classical.choose_spec (nxt_ex xs _ t (Nat.le_refl _))
theorem nxtV_eq {xs : List (Int × Int)} {t r : Int} (h : Nxt xs t r) : nxtV xs t = r := (nxtV_is xs t).uniq h
theorem nxtV_mono {xs : List (Int × Int)} {t u : Int} (h : t ≤ u) : nxtV xs t ≤ nxtV xs u := by
  obtain ⟨a, b, c⟩ := nxtV_is xs t
  obtain ⟨a', b', c'⟩ := nxtV_is xs u
  by_cases q : nxtV xs t ≤ nxtV xs u
  · exact q
  · exact absurd (c (nxtV xs u) (by omega) (by omega)) b'
theorem nxtV_ge (xs : List (Int × Int)) (t : Int) : t ≤ nxtV xs t := (nxtV_is xs t).1
theorem nxtV_open (xs : List (Int × Int)) (t : Int) : ¬ Cov xs (nxtV xs t) := (nxtV_is xs t).2.1
/-- an open time no less than the bound is no less than the next open one -/
theorem nxtV_le {xs : List (Int × Int)} {t u : Int} (h : t ≤ u) (ho : ¬ Cov xs u) : nxtV xs t ≤ u := by
  by_cases q : nxtV xs t ≤ u
  · exact q
  · exact absurd ((nxtV_is xs t).2.2 u h (by omega)) ho
-- pack 06_joined.lean
/-! ### joined stretches -/
def joinStep (s : List (Int × Int)) (x : Int × Int) : List (Int × Int) :=
  cond (decide ((0 : Int) < (s.length : Int)) && decide (x.1 ≤ (lastD s).2)) (s.set (s.length - 1) ((lastD s).1, imax x.2 (lastD s).2)) (s ++ [x])
def joinedV (xs : List (Int × Int)) : List (Int × Int) := (srt xs).foldl joinStep []
theorem snoc_or_nil {α : Type} (xs : List α) : xs = [] ∨ ∃ ys y, xs = ys ++ [y] := by
  rcases List.eq_nil_or_concat xs with h | ⟨ys, y, h⟩
  · exact .inl h
  · exact .inr ⟨ys, y, by simpa using h⟩
theorem lastD_snoc {α : Type} [Inhabited α] (xs : List α) (y : α) : lastD (xs ++ [y]) = y := by simp [lastD]
theorem set_snoc {α : Type} (xs : List α) (y z : α) : (xs ++ [y]).set ((xs ++ [y]).length - 1) z = xs ++ [z] := by
  have e : (xs ++ [y]).length - 1 = xs.length := by simp
  rw [e]
  simp [List.set_append]
/-- apart, none touching -/
def Apt (xs : List (Int × Int)) : Prop := (∀ c ∈ xs, c.1 < c.2) ∧ xs.Pairwise fun a b => a.2 < b.1
theorem Apt.snoc {xs : List (Int × Int)} {c : Int × Int} : Apt (xs ++ [c]) ↔ Apt xs ∧ c.1 < c.2 ∧ ∀ d ∈ xs, d.2 < c.1 := by
  unfold Apt
  rw [List.pairwise_append]
  constructor
  · rintro ⟨h1, h2, _, h3⟩
    exact ⟨⟨fun d hd => h1 d (List.mem_append_left _ hd), h2⟩, h1 c (by simp), fun d hd => h3 d hd c (by simp)⟩
  · rintro ⟨⟨h1, h2⟩, h3, h4⟩
    refine ⟨fun d hd => ?_, h2, List.pairwise_singleton .., fun d hd e he => by rw [List.mem_singleton.mp he]; exact h4 d hd⟩
    rcases List.mem_append.mp hd with e | e
    · exact h1 d e
    · rw [List.mem_singleton.mp e]; exact h3
theorem joined_step {f : List (Int × Int)} {x : Int × Int} (ha : Apt f) (hx : x.1 < x.2) (hb : ∀ c ∈ f, c.1 ≤ x.1) :
    Apt (joinStep f x) ∧ (∀ c ∈ joinStep f x, c.1 ≤ x.1) ∧ ∀ t, Cov (joinStep f x) t ↔ Cov f t ∨ (x.1 ≤ t ∧ t < x.2) := by
  rcases snoc_or_nil f with rfl | ⟨g, l, rfl⟩
  · simp only [joinStep]
    refine ⟨?_, ?_, fun t => ?_⟩
    · simpa [Apt] using hx
    · simp
    · simp [Cov]
  · rw [Apt.snoc] at ha
    obtain ⟨h1, h2, h3⟩ := ha
    have hl := hb l (by simp)
    simp only [joinStep, lastD_snoc, set_snoc, imax_eq]
    have hp : decide ((0 : Int) < ((g ++ [l]).length : Int)) = true := decide_eq_true (by rw [List.length_append]; simp only [List.length_cons, List.length_nil]; omega)
    rw [hp, Bool.true_and]
    by_cases hc : x.1 ≤ l.2
    · rw [decide_eq_true hc]
      simp only [cond_true]
      refine ⟨Apt.snoc.mpr ⟨h1, by simp only []; omega, h3⟩, fun c hc => ?_, fun t => ?_⟩
      · rcases List.mem_append.mp hc with e | e
        · exact hb c (List.mem_append_left _ e)
        · rw [List.mem_singleton.mp e]; exact hl
      · rw [Cov.snoc, Cov.snoc]
        simp only []
        constructor
        · rintro (h | h)
          · exact .inl (.inl h)
          · by_cases q : t < l.2
            · exact .inl (.inr ⟨h.1, q⟩)
            · right; omega
        · rintro ((h | h) | h)
          · exact .inl h
          · right; omega
          · right; omega
    · rw [decide_eq_false hc]
      simp only [cond_false]
      refine ⟨Apt.snoc.mpr ⟨Apt.snoc.mpr ⟨h1, h2, h3⟩, hx, fun d hd => ?_⟩, fun c hc => ?_, fun t => Cov.snoc⟩
      · rcases List.mem_append.mp hd with e | e
        · have := h3 d e; omega
        · rw [List.mem_singleton.mp e]; omega
      · rcases List.mem_append.mp hc with e | e
        · exact hb c e
        · rw [List.mem_singleton.mp e]; exact Int.le_refl _
theorem joined_fold : ∀ (xs f : List (Int × Int)), Apt f → (∀ x ∈ xs, x.1 < x.2) → xs.Pairwise le2 → (∀ c ∈ f, ∀ x ∈ xs, c.1 ≤ x.1) →
    Apt (xs.foldl joinStep f) ∧ ∀ t, Cov (xs.foldl joinStep f) t ↔ Cov f t ∨ Cov xs t
  | [], f, ha, _, _, _ => ⟨ha, fun t => by simp [Cov]⟩
  | x :: xs, f, ha, hx, hs, hb => by
    rw [List.pairwise_cons] at hs
    obtain ⟨k1, k2, k3⟩ := joined_step ha (hx x (by simp)) fun c hc => hb c hc x (by simp)
    obtain ⟨r1, r2⟩ := joined_fold xs (joinStep f x) k1 (fun y hy => hx y (by simp [hy])) hs.2 fun c hc y hy => by
      have := k2 c hc
      have := hs.1 y hy
      unfold le2 at this; omega
    refine ⟨r1, fun t => ?_⟩
    show Cov (xs.foldl joinStep (joinStep f x)) t ↔ _
    rw [r2, k3, Cov.cons, or_assoc]
theorem joined_spec {xs : List (Int × Int)} (hv : ∀ c ∈ xs, c.1 < c.2) : Apt (joinedV xs) ∧ ∀ t, Cov (joinedV xs) t ↔ Cov xs t := by
  obtain ⟨h1, h2⟩ := joined_fold (srt xs) [] ⟨by simp, .nil⟩ (fun x hx => hv x (mem_srt.mp hx)) (srt_pair xs) (by simp)
  unfold joinedV
  refine ⟨h1, fun t => (h2 t).trans ?_⟩
  rw [Cov.perm (srt_perm xs)]
  simp [Cov]
theorem Apt.uniq {xs : List (Int × Int)} (h : Apt xs) {c d : Int × Int} (hc : c ∈ xs) (hd : d ∈ xs) : c = d ∨ c.2 < d.1 ∨ d.2 < c.1 := by
  obtain ⟨h1, h2⟩ := h
  clear h1
  induction xs with
  | nil => simp at hc
  | cons x xs ih =>
    rw [List.pairwise_cons] at h2
    rcases List.mem_cons.mp hc with e | e
    · rcases List.mem_cons.mp hd with e' | e'
      · exact .inl (e.trans e'.symm)
      · exact .inr (.inl (by rw [e]; exact h2.1 d e'))
    · rcases List.mem_cons.mp hd with e' | e'
      · exact .inr (.inr (by rw [e']; exact h2.1 c e))
      · exact ih e e' h2.2
theorem Apt.tail {x : Int × Int} {xs : List (Int × Int)} (h : Apt (x :: xs)) : Apt xs ∧ x.1 < x.2 ∧ ∀ d ∈ xs, x.2 < d.1 := by
  obtain ⟨h1, h2⟩ := h
  rw [List.pairwise_cons] at h2
  exact ⟨⟨fun c hc => h1 c (by simp [hc]), h2.2⟩, h1 x (by simp), h2.1⟩
theorem Apt.ext : ∀ {xs ys : List (Int × Int)}, Apt xs → Apt ys → (∀ t, Cov xs t ↔ Cov ys t) → xs = ys
  | [], [], _, _, _ => rfl
  | [], y :: ys, _, hy, h => by
    have := (h y.1).mpr ⟨y, by simp, Int.le_refl _, hy.tail.2.1⟩
    simp [Cov] at this
  | x :: xs, [], hx, _, h => by
    have := (h x.1).mp ⟨x, by simp, Int.le_refl _, hx.tail.2.1⟩
    simp [Cov] at this
  | x :: xs, y :: ys, hx, hy, h => by
    obtain ⟨hx1, hx2, hx3⟩ := hx.tail
    obtain ⟨hy1, hy2, hy3⟩ := hy.tail
    have low : ∀ {z : Int × Int} {zs : List (Int × Int)}, z.1 < z.2 → (∀ d ∈ zs, z.2 < d.1) → ∀ {t}, Cov (z :: zs) t → z.1 ≤ t := by
      rintro z zs h1 h2 t ⟨c, hc, a, b⟩
      rcases List.mem_cons.mp hc with e | e
      · subst e; exact a
      · have := h2 c e; omega
    have out : ∀ {z : Int × Int} {zs : List (Int × Int)}, (∀ d ∈ zs, z.2 < d.1) → ∀ {t}, t ≤ z.2 → ¬ Cov zs t := by
      rintro z zs h2 t h3 ⟨c, hc, a, b⟩
      have := h2 c hc; omega
    have e1 : x.1 = y.1 := by
      have a := low hy2 hy3 ((h x.1).mp (Cov.cons.mpr (.inl ⟨Int.le_refl _, hx2⟩)))
      have b := low hx2 hx3 ((h y.1).mpr (Cov.cons.mpr (.inl ⟨Int.le_refl _, hy2⟩)))
      omega
    have e2 : x.2 = y.2 := by
      by_cases q : x.2 < y.2
      · have := (h x.2).mpr (Cov.cons.mpr (.inl ⟨by omega, q⟩))
        rcases Cov.cons.mp this with z | z
        · omega
        · exact absurd z (out hx3 (Int.le_refl _))
      · by_cases q' : y.2 < x.2
        · have := (h y.2).mp (Cov.cons.mpr (.inl ⟨by omega, q'⟩))
          rcases Cov.cons.mp this with z | z
          · omega
          · exact absurd z (out hy3 (Int.le_refl _))
        · omega
    have e3 : xs = ys := Apt.ext hx1 hy1 fun t => by
      constructor
      · intro z
        have hz : x.2 < t := by
          by_cases q : t ≤ x.2
          · exact absurd z (out hx3 q)
          · omega
        rcases Cov.cons.mp ((h t).mp (Cov.cons.mpr (.inr z))) with w | w
        · omega
        · exact w
      · intro z
        have hz : y.2 < t := by
          by_cases q : t ≤ y.2
          · exact absurd z (out hy3 q)
          · omega
        rcases Cov.cons.mp ((h t).mpr (Cov.cons.mpr (.inr z))) with w | w
        · omega
        · exact w
    obtain ⟨a, b⟩ := x
    obtain ⟨a', b'⟩ := y
    simp only at e1 e2
    subst e1; subst e2; subst e3; rfl
theorem Apt.valid {xs : List (Int × Int)} (h : Apt xs) : ∀ c ∈ xs, c.1 < c.2 := h.1
theorem joined_eq {xs ys : List (Int × Int)} (h1 : ∀ c ∈ xs, c.1 < c.2) (h2 : ∀ c ∈ ys, c.1 < c.2) (h : ∀ t, Cov xs t ↔ Cov ys t) : joinedV xs = joinedV ys :=
  Apt.ext (joined_spec h1).1 (joined_spec h2).1 fun t => ((joined_spec h1).2 t).trans ((h t).trans ((joined_spec h2).2 t).symm)
theorem joined_id {xs : List (Int × Int)} (h : Apt xs) : joinedV xs = xs := Apt.ext (joined_spec h.1).1 h (joined_spec h.1).2
theorem Apt.stop {xs : List (Int × Int)} (h : Apt xs) {c : Int × Int} (hc : c ∈ xs) {t : Int} (h1 : c.1 ≤ t) (h2 : t < c.2) : Nxt xs t c.2 := by
  refine ⟨by omega, fun ⟨d, hd, k1, k2⟩ => ?_, fun u k1 k2 => ⟨c, hc, by omega, k2⟩⟩
  have := h.1 c hc
  have := h.1 d hd
  rcases h.uniq hc hd with e | e | e
  · subst e; omega
  · omega
  · omega
theorem Apt.start {xs : List (Int × Int)} (h : Apt xs) {c : Int × Int} (hc : c ∈ xs) {t : Int} (h1 : c.1 ≤ t) (h2 : t < c.2) : Lst xs t (c.1 - 1) := by
  refine ⟨by omega, fun ⟨d, hd, k1, k2⟩ => ?_, fun u k1 k2 => ⟨c, hc, by omega, by omega⟩⟩
  have := h.1 c hc
  have := h.1 d hd
  rcases h.uniq hc hd with e | e | e
  · subst e; omega
  · omega
  · omega
-- pack 49_cell.lean
theorem cell_ok (script : List Int) {k : Int} (hk : 0 ≤ k ∧ k ≤ 1000000) : Y (m_L_cell script k) fun _ => True := by
  unfold m_L_cell
  refine .cond (fun h => .asr ⟨hk.1, of_decide_eq_true h⟩ ⟨_, rfl, trivial⟩) fun h => .cond (fun _ => ⟨_, rfl, trivial⟩) fun h2 => ?_
  have hl : 0 < script.length := by
    cases script with
    | nil => simp at h2
    | cons _ _ => simp
  have h1 := Int.emod_nonneg k (b := (script.length : Int)) (by omega)
  have h3 := Int.emod_lt_of_pos k (show 0 < (script.length : Int) by omega)
  refine .asr (by omega) (.asr ⟨h1, h3⟩ (.asr ?_ ⟨_, rfl, trivial⟩))
  unfold CMul; omega
-- pack 50_beg.lean
/-! ### rising lists of numbers -/
abbrev Up (t : List Int) : Prop := t.Pairwise (· < ·)
/-- how many of t are below x, above x -/
def cb (t : List Int) (x : Int) : Nat := t.countP fun y => decide (y < x)
def ca (t : List Int) (x : Int) : Nat := t.countP fun y => decide (x < y)
theorem up_ext : ∀ {a b : List Int}, Up a → Up b → (∀ x, x ∈ a ↔ x ∈ b) → a = b
  | [], [], _, _, _ => rfl
  | [], y :: ys, _, _, h => absurd ((h y).mpr (List.mem_cons_self ..)) (by simp)
  | x :: xs, [], _, _, h => absurd ((h x).mp (List.mem_cons_self ..)) (by simp)
  | x :: xs, y :: ys, ha, hb, h => by
    have ha' := List.pairwise_cons.mp ha
    have hb' := List.pairwise_cons.mp hb
    have e : x = y := by
      rcases List.mem_cons.mp ((h x).mp (List.mem_cons_self ..)) with q | q
      · exact q
      · rcases List.mem_cons.mp ((h y).mpr (List.mem_cons_self ..)) with p | p
        · exact p.symm
        · have := ha'.1 y p; have := hb'.1 x q; omega
    subst e
    have : xs = ys := up_ext ha'.2 hb'.2 fun z => by
      constructor
      · intro hz
        rcases List.mem_cons.mp ((h z).mp (List.mem_cons_of_mem _ hz)) with q | q
        · have := ha'.1 z hz; omega
        · exact q
      · intro hz
        rcases List.mem_cons.mp ((h z).mpr (List.mem_cons_of_mem _ hz)) with q | q
        · have := hb'.1 z hz; omega
        · exact q
    rw [this]
theorem Up.nodup {t : List Int} (h : Up t) : t.Nodup := h.imp fun h => by omega
theorem cb_succ {t : List Int} (h : t.Nodup) (x : Int) : cb t (x + 1) = cb t x + if x ∈ t then 1 else 0 := by
  induction t with
  | nil => rfl
  | cons y ys ih =>
    have h' := List.nodup_cons.mp h
    have i := ih h'.2
    unfold cb at i ⊢
    rw [List.countP_cons, List.countP_cons, i]
    by_cases e : y = x
    · subst e
      rw [if_pos (List.mem_cons_self ..), if_neg h'.1, if_pos (by simp; omega), if_neg (by simp)]
    · have m : (x ∈ y :: ys) ↔ x ∈ ys := by
        rw [List.mem_cons]; exact ⟨fun q => q.elim (fun q => absurd q.symm e) id, .inr⟩
      have d : (decide (y < x + 1)) = decide (y < x) := by congr 1; exact propext ⟨fun q => by omega, fun q => by omega⟩
      rw [d]
      by_cases q : x ∈ ys
      · rw [if_pos q, if_pos (m.mpr q)]; omega
      · rw [if_neg q, if_neg (fun z => q (m.mp z))]; simp only [Nat.add_zero]
theorem cb_le_len (t : List Int) (x : Int) : cb t x ≤ t.length := List.countP_le_length
theorem ca_le_len (t : List Int) (x : Int) : ca t x ≤ t.length := List.countP_le_length
theorem cb_ca {t : List Int} {x : Int} (h : x ∉ t) : cb t x + ca t x = t.length := by
  induction t with
  | nil => rfl
  | cons y ys ih =>
    have h' : ¬ x = y ∧ x ∉ ys := ⟨fun e => h (e ▸ List.mem_cons_self ..), fun z => h (List.mem_cons_of_mem _ z)⟩
    have i := ih h'.2
    unfold cb ca at i ⊢
    rw [List.countP_cons, List.countP_cons, List.length_cons, ← i]
    have : y < x ∨ x < y := by omega
    rcases this with q | q
    · rw [if_pos (by simpa using q), if_neg (by simp; omega)]; omega
    · rw [if_neg (by simp; omega), if_pos (by simpa using q)]; omega
theorem cb_zero {t : List Int} {x : Int} (h : ∀ y ∈ t, x ≤ y) : cb t x = 0 := by
  unfold cb; rw [List.countP_eq_zero]; intro y hy; have := h y hy; simp; omega
theorem cb_all {t : List Int} {x : Int} (h : ∀ y ∈ t, y < x) : cb t x = t.length := by
  unfold cb; rw [List.countP_eq_length]; intro y hy; have := h y hy; simpa using this
theorem ca_zero {t : List Int} {x : Int} (h : ∀ y ∈ t, y ≤ x) : ca t x = 0 := by
  unfold ca; rw [List.countP_eq_zero]; intro y hy; have := h y hy; simp; omega
theorem cb_mono {t : List Int} {x y : Int} (h : x ≤ y) : cb t x ≤ cb t y := by
  unfold cb; exact List.countP_mono_left fun z _ hz => by simp at hz ⊢; omega
theorem cb_app (a b : List Int) (x : Int) : cb (a ++ b) x = cb a x + cb b x := by unfold cb; exact List.countP_append
theorem ca_app (a b : List Int) (x : Int) : ca (a ++ b) x = ca a x + ca b x := by unfold ca; exact List.countP_append
theorem cb_perm {a b : List Int} (h : a.Perm b) (x : Int) : cb a x = cb b x := by unfold cb; exact h.countP_eq _
theorem ca_perm {a b : List Int} (h : a.Perm b) (x : Int) : ca a x = ca b x := by unfold ca; exact h.countP_eq _
theorem up_at : ∀ {t : List Int} (h : Up t) {i : Nat} {x : Int}, t[i]? = some x → cb t x = i
  | [], _, i, x, h => by simp at h
  | y :: ys, h, 0, x, e => by
    simp at e; subst e
    exact cb_zero fun z hz => by
      rcases List.mem_cons.mp hz with q | q
      · omega
      · have := (List.pairwise_cons.mp h).1 z q; omega
  | y :: ys, h, i + 1, x, e => by
    have h' := List.pairwise_cons.mp h
    have i' := up_at h'.2 (i := i) (x := x) (by simpa using e)
    have := h'.1 x (List.mem_of_getElem? (by simpa using e))
    unfold cb at i' ⊢
    rw [List.countP_cons, i', if_pos (by simpa using this)]
theorem up_of_at {t : List Int} (h : Up t) {x : Int} (hx : x ∈ t) : t[cb t x]? = some x := by
  obtain ⟨i, hi, e⟩ := List.getElem_of_mem hx
  have e' : t[i]? = some x := by rw [List.getElem?_eq_getElem hi, e]
  rw [up_at h e']; exact e'
theorem rng_snoc {a b : Int} (h : a ≤ b) : rng a (b + 1) = rng a b ++ [b] := by
  unfold rng
  rw [show (b + 1 - a).toNat = (b - a).toNat + 1 by omega, List.range_succ, List.map_append]
  simp; omega
theorem rng_cut {a m b : Int} (h1 : a ≤ m) (h2 : m ≤ b) : rng a b = rng a m ++ rng m b := by
  unfold rng
  rw [show (b - a).toNat = (m - a).toNat + (b - m).toNat by omega, List.range_add, List.map_append, List.map_map]
  congr 1
  refine List.map_congr_left fun n _ => ?_
  simp only [Function.comp]; omega
theorem rng_up (a b : Int) : Up (rng a b) := by
  unfold rng Up
  rw [List.pairwise_map]
  exact List.pairwise_lt_range.imp fun h => by omega
theorem rng_nil {a b : Int} (h : b ≤ a) : rng a b = [] := by
  unfold rng; rw [show (b - a).toNat = 0 by omega]; rfl
theorem cb_rng {a b x : Int} (h1 : a ≤ x) (h2 : x ≤ b) : (cb (rng a b) x : Int) = x - a := by
  rw [rng_cut h1 h2, cb_app, cb_all fun y hy => (mem_rng.mp hy).2, cb_zero fun y hy => (mem_rng.mp hy).1, rng_length]; omega
/-- those of a range that t lacks -/
def lack (t : List Int) (a b : Int) : List Int := (rng a b).filter fun y => !decide (y ∈ t)
theorem mem_lack {t : List Int} {a b x : Int} : x ∈ lack t a b ↔ (a ≤ x ∧ x < b) ∧ x ∉ t := by
  unfold lack; rw [List.mem_filter, mem_rng]; simp
theorem lack_up (t : List Int) (a b : Int) : Up (lack t a b) := (rng_up a b).filter _
theorem lack_len {t : List Int} (h : t.Nodup) (a : Int) (ha : ∀ y ∈ t, a ≤ y) : ∀ n : Nat, ((lack t a (a + n)).length : Int) = n - cb t (a + n)
  | 0 => by
    have e : lack t a (a + (0 : Nat)) = [] := by unfold lack; rw [rng_nil (by omega)]; rfl
    rw [e, cb_zero fun y hy => by have := ha y hy; omega]; rfl
  | n + 1 => by
    have i := lack_len h a ha n
    have e : lack t a (a + ((n + 1 : Nat) : Int)) = lack t a (a + n) ++ [a + (n : Int)].filter fun y => !decide (y ∈ t) := by
      unfold lack
      rw [show a + ((n + 1 : Nat) : Int) = a + n + 1 by omega, rng_snoc (by omega), List.filter_append]
    have c := cb_succ h (a + n)
    rw [e, List.length_append, show a + ((n + 1 : Nat) : Int) = a + n + 1 by omega, c]
    by_cases q : a + (n : Int) ∈ t
    · rw [if_pos q, List.filter_cons, if_neg (by simpa using q)]; simp only [List.filter_nil, List.length_nil]; omega
    · rw [if_neg q, List.filter_cons, if_pos (by simpa using q)]; simp only [List.filter_nil, List.length_nil, List.length_cons]; omega
theorem lack_cb {t : List Int} (h : t.Nodup) {a b x : Int} (ha : ∀ y ∈ t, a ≤ y) (h1 : a ≤ x) (h2 : x ≤ b) : (cb (lack t a b) x : Int) = x - a - cb t x := by
  have e : lack t a b = lack t a x ++ lack t x b := by unfold lack; rw [rng_cut h1 h2, List.filter_append]
  rw [e, cb_app, cb_all fun y hy => (mem_lack.mp hy).1.2, cb_zero fun y hy => (mem_lack.mp hy).1.1]
  have := lack_len h a ha (x - a).toNat
  rw [show a + ((x - a).toNat : Int) = x by omega] at this
  rw [Int.natCast_add, this]; omega
theorem cb_le {t : List Int} (h : t.Nodup) {a x : Int} (ha : ∀ y ∈ t, a ≤ y) (h1 : a ≤ x) : (cb t x : Int) ≤ x - a := by
  have := lack_cb h ha h1 (Int.le_refl x); omega
/-! ### beginnings -/
structure Beg (many shift : Int) (t : List Int) : Prop where
  up : Up t
  rg : ∀ x ∈ t, 0 ≤ x ∧ x < many
  mem : ∀ x ∈ t, x - cb t x ≤ shift
  non : ∀ r, 0 ≤ r → r < many → r ∉ t → (ca t r : Int) ≤ shift
theorem Beg.cb_le {many shift : Int} {t : List Int} (b : Beg many shift t) {x : Int} (h : 0 ≤ x) : (cb t x : Int) ≤ x := by
  have := LW.cb_le b.up.nodup (fun y hy => (b.rg y hy).1) h; omega
/-- all that are far below are in it, none far above -/
theorem Beg.low {many shift : Int} {t : List Int} (b : Beg many shift t) {x : Int} (h0 : 0 ≤ x) (h1 : x < many) (h : x < t.length - shift) : x ∈ t := by
  by_cases q : x ∈ t
  · exact q
  · have := b.non x h0 h1 q
    have := cb_ca q
    have := b.cb_le h0
    omega
theorem Beg.high {many shift : Int} {t : List Int} (b : Beg many shift t) {x : Int} (h : x ∈ t) : x < t.length + shift := by
  have := b.mem x h
  have h2 := up_of_at b.up h
  have := (List.getElem?_eq_some_iff.mp h2).1
  omega
/-- a rising list in a range, behind all that are below it: its places -/
theorem near_mem {x : List Int} {low high shift : Int} (hu : Up x) (hr : ∀ y ∈ x, low ≤ y ∧ y < high) (hs : 0 ≤ shift) : (∀ q ∈ enumL x, iabs (q.2 - low - q.1) ≤ shift) ↔ ∀ y ∈ x, y - low - cb x y ≤ shift := by
  constructor
  · intro h y hy
    have e := up_of_at hu hy
    have hz : ((cb x y : Int), y) ∈ enumL x := by
      have hl := (List.getElem?_eq_some_iff.mp e).1
      have : (enumL x)[cb x y]? = some ((cb x y : Int), y) := by
        have hl2 : cb x y < (enumL x).length := by rw [enumL_length]; exact hl
        have g := List.getElem?_eq_getElem hl2
        have := enum_atF g
        rw [g]; congr 1
        exact Prod.ext this.1 (Option.some.inj (this.2.1.symm.trans e))
      exact List.mem_of_getElem? this
    have := h _ hz
    simp only [] at this
    unfold iabs at this
    split at this <;> omega
  · intro h q hq
    obtain ⟨i, hi, e⟩ := List.getElem_of_mem hq
    have g : (enumL x)[i]? = some q := by rw [List.getElem?_eq_getElem hi, e]
    obtain ⟨e1, e2, e3⟩ := enum_atF g
    have hy := List.mem_of_getElem? e2
    have := h _ hy
    have u := up_at hu e2
    have l := cb_le hu.nodup (fun y hy => (hr y hy).1) (hr _ hy).1
    rw [e1]
    unfold iabs
    split <;> omega
theorem near_non {x : List Int} {low high shift size : Int} (hu : Up x) (hr : ∀ y ∈ x, low ≤ y ∧ y < high) (hl : (x.length : Int) = size - low) : (∀ q ∈ enumL (lack x low high), iabs (q.2 - size - q.1) ≤ shift) ↔ ∀ r, low ≤ r → r < high → r ∉ x → (ca x r : Int) ≤ shift := by
  have hp : ∀ r, low ≤ r → r < high → r ∉ x → r - size - cb (lack x low high) r = - (ca x r : Int) := fun r h1 h2 h3 => by
    have := lack_cb hu.nodup (fun y hy => (hr y hy).1) h1 (Int.le_of_lt h2) (b := high)
    have := cb_ca h3
    omega
  constructor
  · intro h r h1 h2 h3
    have e := up_of_at (lack_up x low high) (mem_lack.mpr ⟨⟨h1, h2⟩, h3⟩)
    have hz : ((cb (lack x low high) r : Int), r) ∈ enumL (lack x low high) := by
      have hl := (List.getElem?_eq_some_iff.mp e).1
      have hl2 : cb (lack x low high) r < (enumL (lack x low high)).length := by rw [enumL_length]; exact hl
      have g := List.getElem?_eq_getElem hl2
      have := enum_atF g
      have : (enumL (lack x low high))[cb (lack x low high) r]? = some ((cb (lack x low high) r : Int), r) := by
        rw [g]; congr 1
        exact Prod.ext this.1 (Option.some.inj (this.2.1.symm.trans e))
      exact List.mem_of_getElem? this
    have := h _ hz
    have e2 := hp r h1 h2 h3
    simp only [] at this
    unfold iabs at this
    split at this <;> omega
  · intro h q hq
    obtain ⟨i, hi, e⟩ := List.getElem_of_mem hq
    have g : (enumL (lack x low high))[i]? = some q := by rw [List.getElem?_eq_getElem hi, e]
    obtain ⟨e1, e2, e3⟩ := enum_atF g
    have hy := mem_lack.mp (List.mem_of_getElem? e2)
    have := h _ hy.1.1 hy.1.2 hy.2
    have u := up_at (lack_up x low high) e2
    have e4 := hp _ hy.1.1 hy.1.2 hy.2
    rw [e1]
    unfold iabs
    split <;> omega
theorem up_app {a b : List Int} (ha : Up a) (hb : Up b) (h : ∀ x ∈ a, ∀ y ∈ b, x < y) : Up (a ++ b) := List.pairwise_append.mpr ⟨ha, hb, h⟩
/-- what the program looks at -/
structure BegX (many shift size low high : Int) (x : List Int) : Prop where
  up : Up x
  rg : ∀ y ∈ x, low ≤ y ∧ y < high
  len : (x.length : Int) = size - low
  mem : ∀ y ∈ x, y - low - cb x y ≤ shift
  non : ∀ r, low ≤ r → r < high → r ∉ x → (ca x r : Int) ≤ shift
theorem begX_iff {many shift size low high : Int} {x : List Int} (h0 : 0 ≤ shift) (hs : 0 ≤ size ∧ size ≤ many) (el : low = max 0 (size - shift)) (eh : high = min many (size + shift)) :
    BegX many shift size low high x ↔ Beg many shift (rng 0 low ++ x) ∧ (((rng 0 low ++ x).length : Nat) : Int) = size ∧ (∀ y ∈ x, low ≤ y) := by
  have c1 : ∀ y, low ≤ y → (cb (rng 0 low) y : Int) = low := fun y hy => by
    rw [cb_all fun z hz => by have := mem_rng.mp hz; omega, rng_length]; omega
  constructor
  · intro b
    refine ⟨⟨up_app (rng_up _ _) b.up fun u hu v hv => by have := mem_rng.mp hu; have := b.rg v hv; omega, fun y hy => ?_, fun y hy => ?_, fun r r0 r1 hr => ?_⟩, by rw [List.length_append, rng_length]; have := b.len; omega, fun y hy => (b.rg y hy).1⟩
    · rcases List.mem_append.mp hy with q | q
      · have := mem_rng.mp q; omega
      · have := b.rg y q; omega
    · rcases List.mem_append.mp hy with q | q
      · have q := mem_rng.mp q
        rw [cb_app, cb_zero (t := x) fun z hz => by have := b.rg z hz; omega]
        have := cb_rng (a := 0) (b := low) q.1 (by omega)
        omega
      · have := b.mem y q
        rw [cb_app]
        have := c1 y (b.rg y q).1
        omega
    · have n1 : ca (rng 0 low) r = 0 := ca_zero fun z hz => by
        have z1 := mem_rng.mp hz
        have : r ∉ rng 0 low := fun z => hr (List.mem_append_left _ z)
        have : ¬ (r < low) := fun z => this (mem_rng.mpr ⟨r0, z⟩)
        omega
      rw [ca_app, n1]
      have hx : r ∉ x := fun z => hr (List.mem_append_right _ z)
      have hl : ¬ r < low := fun z => hr (List.mem_append_left _ (mem_rng.mpr ⟨r0, z⟩))
      by_cases q : r < high
      · have := b.non r (by omega) q hx; omega
      · rw [ca_zero fun z hz => by have := b.rg z hz; omega]; omega
  · rintro ⟨b, hlen, hlo⟩
    have hlx : (x.length : Int) = size - low := by rw [List.length_append, rng_length] at hlen; omega
    have ux : Up x := (List.pairwise_append.mp b.up).2.1
    have hhi : ∀ y ∈ x, y < high := fun y hy => by
      have h1 := b.rg y (List.mem_append_right _ hy)
      have h2 := b.high (List.mem_append_right _ hy)
      omega
    refine ⟨ux, fun y hy => ⟨hlo y hy, hhi y hy⟩, hlx, fun y hy => ?_, fun r h1 h2 h3 => ?_⟩
    · have := b.mem y (List.mem_append_right _ hy)
      rw [cb_app] at this
      have := c1 y (hlo y hy)
      omega
    · have := b.non r (by omega) (by omega) (fun z => by
        rcases List.mem_append.mp z with q | q
        · have := mem_rng.mp q; omega
        · exact h3 q)
      rw [ca_app] at this
      omega
/-- each beginning is told so -/
theorem beg_cut {many shift size : Int} {t : List Int} (b : Beg many shift t) (h0 : 0 ≤ shift) (hl : (t.length : Int) = size) (hs : 0 ≤ size ∧ size ≤ many) {low : Int} (el : low = max 0 (size - shift)) :
    ∃ x, t = rng 0 low ++ x ∧ ∀ y ∈ x, low ≤ y := by
  refine ⟨t.filter fun y => decide (low ≤ y), up_ext b.up (up_app (rng_up _ _) (b.up.filter _) fun u hu v hv => ?_) fun z => ?_, fun y hy => by simpa using (List.mem_filter.mp hy).2⟩
  · have := mem_rng.mp hu
    have : low ≤ v := by simpa using (List.mem_filter.mp hv).2
    omega
  · rw [List.mem_append, mem_rng, List.mem_filter, decide_eq_true_eq]
    constructor
    · intro hz
      have := b.rg z hz
      by_cases q : z < low
      · exact .inl ⟨this.1, q⟩
      · exact .inr ⟨hz, by omega⟩
    · rintro (q | q)
      · exact b.low q.1 (by omega) (by omega)
      · exact q.1
/-! steps from one beginning to the next -/
theorem beg_first {many shift : Int} (h0 : 0 ≤ shift) {n : Int} (hn : n ≤ many) : Beg many shift (rng 0 n) :=
  ⟨rng_up _ _, fun x hx => by have := mem_rng.mp hx; omega, fun x hx => by have := mem_rng.mp hx; rw [cb_rng this.1 (by omega)]; omega, fun r r0 r1 hr => by
    rw [ca_zero fun y hy => by have := mem_rng.mp hy; have : ¬ r < n := fun z => hr (mem_rng.mpr ⟨r0, z⟩); omega]; omega⟩
theorem beg_add {many shift : Int} {t t' : List Int} {f : Int} (b : Beg many shift t) (hf : f ∉ t) (f0 : 0 ≤ f) (f1 : f < many) (hu : Up t') (hp : t'.Perm (f :: t)) :
    Beg many shift t' ↔ (f - t.length ≤ shift ∧ ∀ r, 0 ≤ r → r < many → r ∉ t' → (ca t' r : Int) ≤ shift) := by
  have c : ∀ x, cb t' x = cb t x + if f < x then 1 else 0 := fun x => by
    rw [cb_perm hp]; unfold cb; rw [List.countP_cons]; simp
  constructor
  · intro b'
    refine ⟨?_, b'.non⟩
    have := b'.mem f (hp.mem_iff.mpr (List.mem_cons_self ..))
    rw [c f, if_neg (by omega)] at this
    have := cb_le_len t f
    omega
  · rintro ⟨h1, h2⟩
    refine ⟨hu, fun x hx => ?_, fun x hx => ?_, h2⟩
    · rcases List.mem_cons.mp (hp.mem_iff.mp hx) with q | q
      · subst q; exact ⟨f0, f1⟩
      · exact b.rg x q
    · rcases List.mem_cons.mp (hp.mem_iff.mp hx) with q | q
      · subst q
        rw [c x, if_neg (by omega)]
        have e := cb_ca hf
        by_cases z : ca t x = 0
        · omega
        · -- there is one above it
          have : ∃ s ∈ t, x < s := by
            unfold ca at z
            have z' : 0 < t.countP fun y => decide (x < y) := by omega
            obtain ⟨s, hs, hd⟩ := List.countP_pos_iff.mp z'
            exact ⟨s, hs, by simpa using hd⟩
          obtain ⟨s, hs, hxs⟩ := this
          have m := b.mem s hs
          have l1 := lack_cb b.up.nodup (fun y hy => (b.rg y hy).1) f0 (Int.le_refl x)
          have l2 := lack_cb b.up.nodup (fun y hy => (b.rg y hy).1) (b.rg s hs).1 (Int.le_refl s)
          have l3 : (cb (lack t 0 x) x : Int) ≤ cb (lack t 0 s) s := by
            have e1 : cb (lack t 0 x) x = (lack t 0 x).length := cb_all fun y hy => (mem_lack.mp hy).1.2
            have e2 : cb (lack t 0 s) s = (lack t 0 s).length := cb_all fun y hy => (mem_lack.mp hy).1.2
            have e3 : lack t 0 s = lack t 0 x ++ lack t x s := by unfold lack; rw [rng_cut f0 (Int.le_of_lt hxs), List.filter_append]
            rw [e1, e2, e3, List.length_append]; omega
          omega
      · have := b.mem x q
        rw [c x]
        split <;> omega
/-- the least flight that is not in it goes behind it -/
theorem beg_least {many shift : Int} {t t' : List Int} {f : Int} (b : Beg many shift t) (hs : 0 ≤ shift) (hf : f ∉ t) (f0 : 0 ≤ f) (f1 : f < many) (hl : ∀ x, 0 ≤ x → x < f → x ∈ t) (hu : Up t') (hp : t'.Perm (f :: t)) : Beg many shift t' := by
  rw [beg_add b hf f0 f1 hu hp]
  have e : (cb t f : Int) = f := by
    have := lack_cb b.up.nodup (fun y hy => (b.rg y hy).1) f0 (Int.le_refl f)
    rw [cb_all fun y hy => (mem_lack.mp hy).1.2] at this
    have n : lack t 0 f = [] := List.eq_nil_iff_forall_not_mem.mpr fun x hx => by
      have := mem_lack.mp hx
      exact this.2 (hl x this.1.1 this.1.2)
    rw [n] at this
    simp at this; omega
  have := cb_le_len t f
  refine ⟨by omega, fun r r0 r1 hr => ?_⟩
  have hr' : r ∉ t ∧ r ≠ f := ⟨fun z => hr (hp.mem_iff.mpr (List.mem_cons_of_mem _ z)), fun z => hr (hp.mem_iff.mpr (z ▸ List.mem_cons_self ..))⟩
  have hfr : f < r := by
    have : ¬ r < f := fun z => hr'.1 (hl r r0 z)
    omega
  have : ca t' r = ca t r := by rw [ca_perm hp]; unfold ca; rw [List.countP_cons, if_neg (by simp; omega)]; omega
  rw [this]
  exact b.non r r0 r1 hr'.1
/-- without the greatest it is one -/
theorem beg_drop {many shift : Int} {t t' : List Int} {f : Int} (b : Beg many shift t') (hs : 0 ≤ shift) (hg : ∀ x ∈ t', x ≤ f) (hu : Up t) (hp : t'.Perm (f :: t)) : Beg many shift t := by
  have hnd : (f :: t).Nodup := (hp.nodup_iff).mp b.up.nodup
  have hft := (List.nodup_cons.mp hnd).1
  have ht : ∀ x ∈ t, x < f := fun x hx => by
    have := hg x (hp.mem_iff.mpr (List.mem_cons_of_mem _ hx))
    have : x ≠ f := fun e => hft (e ▸ hx)
    omega
  refine ⟨hu, fun x hx => b.rg x (hp.mem_iff.mpr (List.mem_cons_of_mem _ hx)), fun x hx => ?_, fun r r0 r1 hr => ?_⟩
  · have := b.mem x (hp.mem_iff.mpr (List.mem_cons_of_mem _ hx))
    have c : cb t' x = cb t x := by rw [cb_perm hp]; unfold cb; rw [List.countP_cons, if_neg (by have := ht x hx; simp; omega)]; omega
    omega
  · by_cases q : r = f
    · rw [ca_zero fun y hy => by have := ht y hy; omega]; omega
    · have := b.non r r0 r1 fun z => by
        rcases List.mem_cons.mp (hp.mem_iff.mp z) with w | w
        · exact q w
        · exact hr w
      have c : ca t' r = ca t r + if r < f then 1 else 0 := by rw [ca_perm hp]; unfold ca; rw [List.countP_cons]; simp
      omega
-- pack 51_begs.lean
/-! ### beginnings_of -/
/-- the sets of numbers of a range, of so many at most -/
structure SetsOk (n : Int) (low : Int) (k : Nat) (sets : List (List Int)) : Prop where
  nd : sets.Nodup
  mem : ∀ x, x ∈ sets ↔ Up x ∧ (∀ y ∈ x, low ≤ y ∧ y < low + k) ∧ (x.length : Int) ≤ n
  len : sets.length ≤ 2 ^ k
theorem sets_zero {n low : Int} (h : 0 ≤ n) : SetsOk n low 0 [[]] := ⟨by simp, fun x => by
  rw [List.mem_singleton]
  constructor
  · rintro rfl; exact ⟨List.Pairwise.nil, (fun _ h => nomatch h), by simpa using h⟩
  · rintro ⟨_, h, _⟩
    cases x with
    | nil => rfl
    | cons y ys => have := h y (List.mem_cons_self ..); omega, by decide⟩
theorem sets_step {n low : Int} {k : Nat} {sets : List (List Int)} (h : SetsOk n low k sets) : SetsOk n low (k + 1) (sets ++ ((sets.filter fun s => decide ((s.length : Int) < n)).map fun s => s ++ [low + (k : Int)])) := by
  have nin : ∀ s ∈ sets, low + (k : Int) ∉ s := fun s hs z => by have := (h.mem s).mp hs; have := this.2.1 _ z; omega
  refine ⟨List.pairwise_append.mpr ⟨h.nd, ?_, fun a ha b hb e => ?_⟩, fun x => ?_, ?_⟩
  · rw [List.pairwise_map]
    exact (h.nd.filter _).imp fun hne e => hne (List.append_cancel_right e)
  · obtain ⟨s, hs, rfl⟩ := List.mem_map.mp hb
    exact nin a ha (e ▸ List.mem_append_right _ (List.mem_singleton_self _))
  · rw [List.mem_append, h.mem, List.mem_map]
    constructor
    · rintro (⟨h1, h2, h3⟩ | ⟨s, hs, rfl⟩)
      · exact ⟨h1, fun y hy => by have := h2 y hy; omega, h3⟩
      · obtain ⟨hs, hl⟩ := List.mem_filter.mp hs
        have hl := of_decide_eq_true hl
        obtain ⟨h1, h2, h3⟩ := (h.mem s).mp hs
        refine ⟨up_app h1 (List.pairwise_singleton _ _) fun u hu v hv => ?_, fun y hy => ?_, by simp only [List.length_append, List.length_cons, List.length_nil]; omega⟩
        · rw [List.mem_singleton.mp hv]; have := h2 u hu; omega
        · rcases List.mem_append.mp hy with q | q
          · have := h2 y q; omega
          · rw [List.mem_singleton.mp q]; omega
    · rintro ⟨h1, h2, h3⟩
      by_cases q : low + (k : Int) ∈ x
      · refine .inr ⟨x.filter fun y => decide (y < low + (k : Int)), ?_, ?_⟩
        · have e : x = (x.filter fun y => decide (y < low + (k : Int))) ++ [low + (k : Int)] := by
            refine up_ext h1 (up_app (h1.filter _) (List.pairwise_singleton _ _) fun u hu v hv => ?_) fun z => ?_
            · rw [List.mem_singleton.mp hv]; simpa using (List.mem_filter.mp hu).2
            · rw [List.mem_append, List.mem_filter, List.mem_singleton, decide_eq_true_eq]
              constructor
              · intro hz; have := h2 z hz
                by_cases w : z = low + (k : Int)
                · exact .inr w
                · exact .inl ⟨hz, by omega⟩
              · rintro (w | w)
                · exact w.1
                · rw [w]; exact q
          have el := congrArg List.length e
          simp only [List.length_append, List.length_cons, List.length_nil] at el
          refine List.mem_filter.mpr ⟨(h.mem _).mpr ⟨h1.filter _, fun y hy => ?_, by omega⟩, decide_eq_true (by omega)⟩
          obtain ⟨hy1, hy2⟩ := List.mem_filter.mp hy
          have := h2 y hy1
          have := of_decide_eq_true hy2
          omega
        · refine (up_ext h1 (up_app (h1.filter _) (List.pairwise_singleton _ _) fun u hu v hv => ?_) fun z => ?_).symm
          · rw [List.mem_singleton.mp hv]; simpa using (List.mem_filter.mp hu).2
          · rw [List.mem_append, List.mem_filter, List.mem_singleton, decide_eq_true_eq]
            constructor
            · intro hz; have := h2 z hz
              by_cases w : z = low + (k : Int)
              · exact .inr w
              · exact .inl ⟨hz, by omega⟩
            · rintro (w | w)
              · exact w.1
              · rw [w]; exact q
      · exact .inl ⟨h1, fun y hy => by
          have := h2 y hy
          have : y ≠ low + (k : Int) := fun e => q (e ▸ hy)
          omega, h3⟩
  · have := h.len
    have := List.length_filter_le (fun s : List Int => decide ((s.length : Int) < n)) sets
    rw [List.length_append, List.length_map, Nat.pow_succ]; omega
theorem m_near_ok {xs : List Int} {place shift : Int} (h : xs.length ≤ 1000000) : m_is_near xs place shift = .ok ((enumL xs).all fun q => decide (iabs (q.2 - place - q.1) ≤ shift)) := by
  unfold m_is_near
  rw [asr_pos (by rw [sizeLine_eq, enumL_length]; omega), List.all_map]
  rfl
theorem all_near {xs : List Int} {place shift : Int} : ((enumL xs).all fun q => decide (iabs (q.2 - place - q.1) ≤ shift)) = true ↔ ∀ q ∈ enumL xs, iabs (q.2 - place - q.1) ≤ shift := by
  rw [List.all_eq_true]
  exact ⟨fun h q hq => of_decide_eq_true (h q hq), fun h q hq => decide_eq_true (h q hq)⟩
/-- the beginnings told -/
structure BegsOk (many shift size : Int) (bs : List (Tup Int)) : Prop where
  nd : bs.Nodup
  mem : ∀ t, t ∈ bs ↔ Beg many shift t.l ∧ (t.l.length : Int) = size
  up : bs.Pairwise fun a b => a.l ≤ b.l
  len : bs.length ≤ 64
open Classical in
theorem begs_ok {many shift size : Int} (hm : many ≤ 1000) (h0 : 0 ≤ shift ∧ shift ≤ 3) (hs : 0 ≤ size ∧ size ≤ many) : Y (m_beginnings_of many shift size) (BegsOk many shift size) := by
  have el : imax 0 (size - shift) = max 0 (size - shift) := by rw [imax_eq]
  have eh : imin many (size + shift) = min many (size + shift) := by rw [imin_eq]
  unfold m_beginnings_of
  refine .let_ (.let_ (.let_ ?_))
  generalize imax 0 (size - shift) = low at el ⊢
  generalize imin many (size + shift) = high at eh ⊢
  obtain ⟨w, hw⟩ : ∃ w : Nat, high = low + w ∧ w ≤ 6 := ⟨(high - low).toNat, by omega, by omega⟩
  refine .asr (small_of (by omega)) (.asr (small_of (by omega)) (.foldK (fun k s => SetsOk (size - low) low k s) (sets_zero (by omega)) (fun k s f hf hI => ?_) fun sets hS => ?_))
  · obtain ⟨ef, hk⟩ := rng_at' hf
    subst ef
    have hl : s.length ≤ 64 := by
      have := hI.len
      have : 2 ^ k ≤ 2 ^ 6 := Nat.pow_le_pow_right (by decide) (by omega)
      omega
    have st := sets_step hI
    have fl := List.length_filter_le (fun s : List Int => decide ((s.length : Int) < size - low)) s
    unfold m_beginnings_of_l2
    refine .asr (by rw [sizeLine_eq]; omega) (.asr (fun x hx hd => ?_) (.asr (by rw [sizeLine_eq, List.length_map]; omega) (.let_ ⟨_, rfl, st⟩)))
    have := of_decide_eq_true hd
    rw [sizeLine_eq]; simp only [List.length_cons, List.length_nil]; omega
  · rw [rng_length, show (high - low).toNat = w by omega] at hS
    have hsl : sets.length ≤ 64 := by
      have := hS.len
      have : 2 ^ w ≤ 2 ^ 6 := Nat.pow_le_pow_right (by decide) hw.2
      omega
    refine .let_ (.bindM (P := fun f => f = (sets.filter fun x => decide (BegX many shift size low high x)).map fun x => (Tup.mk (rng 0 low ++ x))) ?_ fun found hf => ?_)
    · have key : ∀ (xs : List (List Int)) (s : List (Tup Int)), (∀ x ∈ xs, x ∈ sets) → s.length + xs.length ≤ 64 → foldM' (m_beginnings_of_l1 shift size low high) s xs = .ok (s ++ (xs.filter fun x => decide (BegX many shift size low high x)).map fun x => (Tup.mk (rng 0 low ++ x))) := by
        intro xs
        induction xs with
        | nil => intro s _ _; simp [foldM']
        | cons x xs ih =>
          intro s hx hz
          simp only [List.length_cons] at hz
          obtain ⟨x1, x2, x3⟩ := (hS.mem x).mp (hx x (List.mem_cons_self ..))
          have x2' : ∀ y ∈ x, low ≤ y ∧ y < high := fun y hy => by have := x2 y hy; omega
          have hll : (lack x low high).length ≤ 1000 := by
            have := List.length_filter_le (fun y => !decide (y ∈ x)) (rng low high)
            rw [rng_length] at this
            unfold lack; omega
          have n1 := m_near_ok (xs := x) (place := low) (shift := shift) (by omega)
          have n2 := m_near_ok (xs := lack x low high) (place := size) (shift := shift) (by omega)
          have eg : ((decide ((x.length : Int) = size - low)) && (((enumL x).all fun q => decide (iabs (q.2 - low - q.1) ≤ shift)) && ((enumL (lack x low high)).all fun q => decide (iabs (q.2 - size - q.1) ≤ shift)))) = decide (BegX many shift size low high x) := by
            by_cases g : BegX many shift size low high x
            · rw [decide_eq_true g, decide_eq_true g.len, all_near.mpr ((near_mem g.up g.rg h0.1).mpr g.mem), all_near.mpr ((near_non g.up g.rg g.len).mpr g.non)]; rfl
            · rw [decide_eq_false g]
              by_cases l : (x.length : Int) = size - low
              · rw [decide_eq_true l, Bool.true_and]
                refine Bool.eq_false_iff.mpr fun c => ?_
                rw [Bool.and_eq_true] at c
                exact g ⟨x1, x2', l, (near_mem x1 x2' h0.1).mp (all_near.mp c.1), (near_non x1 x2' l).mp (all_near.mp c.2)⟩
              · rw [decide_eq_false l]; rfl
          have e : m_beginnings_of_l1 shift size low high s x = .ok (cond (decide (BegX many shift size low high x)) (s ++ [(Tup.mk (rng 0 low ++ x))]) s) := by
            unfold m_beginnings_of_l1
            rw [asr_pos (by rw [rng_length, sizeLine_eq]; omega)]
            simp only [bindV_eq]
            have elk : ((rng low high).filter fun y => !decide (y ∈ x)).map (fun y => y) = lack x low high := by rw [List.map_id']; rfl
            rw [elk, asr_pos fun _ => ⟨_, n1⟩, asr_pos fun _ _ => ⟨_, n2⟩, n1, n2]
            simp only [M.get]
            rw [eg]
            cases decide (BegX many shift size low high x) with
            | false => rfl
            | true =>
              simp only [cond_true]
              rw [asr_pos (by omega), asr_pos (by rw [rng_length, sizeLine_eq]; omega), asr_pos (by rw [sizeLine_eq]; omega)]
          unfold foldM'
          rw [e, bindM_ok]
          have hx' : ∀ y ∈ xs, y ∈ sets := fun y hy => hx y (List.mem_cons_of_mem _ hy)
          rw [List.filter_cons]
          cases decide (BegX many shift size low high x) with
          | false =>
            simp only [cond_false]
            rw [ih s hx' (by omega)]; rfl
          | true =>
            simp only [cond_true]
            rw [ih _ hx' (by simp only [List.length_append, List.length_cons, List.length_nil]; omega)]
            simp
      exact ⟨_, by rw [key sets [] (fun _ h => h) (by simp; omega)]; rfl, rfl⟩
    · have hmem : ∀ t, t ∈ found ↔ Beg many shift t.l ∧ (t.l.length : Int) = size := fun t => by
        rw [hf, List.mem_map]
        constructor
        · rintro ⟨x, hx, rfl⟩
          have := (begX_iff (many := many) h0.1 hs el eh).mp (of_decide_eq_true (List.mem_filter.mp hx).2)
          exact ⟨this.1, this.2.1⟩
        · rintro ⟨b, hl⟩
          obtain ⟨x, e, hx⟩ := beg_cut b h0.1 hl hs el
          rw [e] at b hl
          have bx := (begX_iff (many := many) h0.1 hs el eh).mpr ⟨b, hl, hx⟩
          refine ⟨x, List.mem_filter.mpr ⟨(hS.mem x).mpr ⟨bx.up, fun y hy => by have := bx.rg y hy; omega, by have := bx.len; omega⟩, decide_eq_true bx⟩, ?_⟩
          cases t; simp only [] at e; rw [e]
      have hnd : found.Nodup := by
        rw [hf]
        exact List.Pairwise.map _ (fun a b hne e => hne (List.append_cancel_left (Tup.mk.inj e))) (hS.nd.filter _)
      have hlen : found.length ≤ 64 := by
        rw [hf, List.length_map]
        have := List.length_filter_le (fun x => decide (BegX many shift size low high x)) sets
        omega
      refine .asr ?_ ⟨_, rfl, (srt_perm found).nodup_iff.mpr hnd, fun t => by rw [mem_srt]; exact hmem t, srt_tup found, by rw [srt_length]; exact hlen⟩
      by_cases z : size = 0
      · right
        cases hc : found with
        | nil => simp
        | cons a as =>
          cases as with
          | nil => simp
          | cons b bs =>
            exfalso
            rw [hc] at hmem hnd
            have ha := (hmem a).mp (List.mem_cons_self ..)
            have hb := (hmem b).mp (List.mem_cons_of_mem _ (List.mem_cons_self ..))
            have ea : a.l = [] := List.length_eq_zero_iff.mp (by omega)
            have eb : b.l = [] := List.length_eq_zero_iff.mp (by omega)
            have : a = b := by cases a; cases b; simp only [] at ea eb; rw [ea, eb]
            exact (List.nodup_cons.mp hnd).1 (this ▸ List.mem_cons_self ..)
      · left
        intro t ht e
        have := (hmem t).mp ht
        rw [e] at this
        simp at this; omega
-- pack 52_runs.lean
/-! ### runs: how an order within the shift may begin -/
def cand (n s k : Int) (o : List Int) : List Int := (rng (imax 0 (k - s)) (imin n (k + s + 1))).filter fun x => !decide (x ∈ o)
def runs (n s : Int) : Nat → List (List Int)
  | 0 => [[]]
  | k + 1 => (runs n s k).flatMap fun o => (cand n s k o).map fun x => o ++ [x]
theorem imin_eq (a b : Int) : imin a b = if b < a then b else a := rfl
theorem mem_cand {n s k x : Int} {o : List Int} : x ∈ cand n s k o ↔ (0 ≤ x ∧ x < n) ∧ (k - s ≤ x ∧ x ≤ k + s) ∧ x ∉ o := by
  unfold cand
  rw [List.mem_filter, mem_rng, imax_eq, imin_eq]
  simp only [Bool.not_eq_true', decide_eq_false_iff_not]
  constructor
  · rintro ⟨⟨a, b⟩, c⟩
    refine ⟨?_, ?_, c⟩
    · split at b <;> omega
    · split at b <;> omega
  · rintro ⟨a, b, c⟩
    refine ⟨⟨by omega, ?_⟩, c⟩
    split <;> omega
theorem cand_up (n s k : Int) (o : List Int) : Up (cand n s k o) := (rng_up _ _).filter _
theorem run_len {n s : Int} : ∀ {k : Nat} {o : List Int}, o ∈ runs n s k → o.length = k
  | 0, o, h => by
    have : o = [] := by simpa [runs] using h
    rw [this]; rfl
  | k + 1, o, h => by
    obtain ⟨p, hp, hx⟩ := List.mem_flatMap.mp h
    obtain ⟨x, _, rfl⟩ := List.mem_map.mp hx
    rw [app1, run_len hp]
theorem run_nodup {n s : Int} : ∀ {k : Nat} {o : List Int}, o ∈ runs n s k → o.Nodup ∧ ∀ x ∈ o, 0 ≤ x ∧ x < n
  | 0, o, h => by
    have : o = [] := by simpa [runs] using h
    rw [this]; exact ⟨List.nodup_nil, fun _ h => nomatch h⟩
  | k + 1, o, h => by
    obtain ⟨p, hp, hx0⟩ := List.mem_flatMap.mp h
    obtain ⟨x, hx, rfl⟩ := List.mem_map.mp hx0
    obtain ⟨a, b⟩ := run_nodup hp
    have c := mem_cand.mp hx
    refine ⟨List.nodup_append.mpr ⟨a, by simp, fun u hu v hv => ?_⟩, fun y hy => ?_⟩
    · rw [List.mem_singleton.mp hv]; exact fun z => c.2.2 (z ▸ hu)
    · rcases List.mem_append.mp hy with q | q
      · exact b y q
      · rw [List.mem_singleton.mp q]; exact c.1
/-- each of a run has few beside it below -/
theorem run_mem {n s : Int} (hs : 0 ≤ s) : ∀ {k : Nat} {o : List Int}, o ∈ runs n s k → ∀ y ∈ o, y - cb o y ≤ s
  | 0, o, h => by
    have : o = [] := by simpa [runs] using h
    rw [this]; exact fun _ h => nomatch h
  | k + 1, o, h => by
    obtain ⟨p, hp, hx0⟩ := List.mem_flatMap.mp h
    obtain ⟨x, hx, rfl⟩ := List.mem_map.mp hx0
    have c := mem_cand.mp hx
    have ih := run_mem hs hp
    have hl := run_len hp
    have nd := (run_nodup hp).1
    intro y hy
    rw [cb_app]
    rcases List.mem_append.mp hy with q | q
    · have := ih y q; omega
    · rw [List.mem_singleton.mp q]
      -- the least above x
      by_cases e : ∃ z ∈ p, x < z
      · have key : ∀ (m : Nat), (∃ z ∈ p, x < z ∧ z ≤ x + m) → ∃ z ∈ p, x < z ∧ ∀ u ∈ p, x < u → z ≤ u := by
          intro m
          induction m with
          | zero => rintro ⟨z, _, a, b⟩; omega
          | succ m ih =>
            rintro ⟨z, hz, a, b⟩
            by_cases w : ∃ z ∈ p, x < z ∧ z ≤ x + m
            · exact ih w
            · refine ⟨z, hz, a, fun u hu v => ?_⟩
              have : ¬ (u ≤ x + m) := fun t => w ⟨u, hu, v, t⟩
              omega
        obtain ⟨z0, hz0, a0⟩ := e
        obtain ⟨z, hz, a, b⟩ := key (z0 - x).toNat ⟨z0, hz0, a0, by omega⟩
        have e1 : cb p z = cb p x := by
          unfold cb
          refine List.countP_congr fun u hu => ?_
          simp only [decide_eq_true_eq]
          constructor
          · intro t
            have : ¬ x < u := fun v => by have := b u hu v; omega
            have : u ≠ x := fun v => c.2.2 (v ▸ hu)
            omega
          · intro t; omega
        have := ih z hz
        omega
      · have : cb p x = p.length := cb_all fun u hu => by
          have : ¬ x < u := fun v => e ⟨u, hu, v⟩
          have : u ≠ x := fun v => c.2.2 (v ▸ hu)
          omega
        omega
theorem flatMap_nodup {α β : Type} {f : α → List β} : ∀ {xs : List α}, xs.Nodup → (∀ x ∈ xs, (f x).Nodup) → (∀ x ∈ xs, ∀ y ∈ xs, ∀ z, z ∈ f x → z ∈ f y → x = y) → (xs.flatMap f).Nodup
  | [], _, _, _ => by simp
  | x :: xs, h, h1, h2 => by
    have ⟨a, b⟩ := List.nodup_cons.mp h
    rw [List.flatMap_cons]
    refine List.nodup_append.mpr ⟨h1 x (List.mem_cons_self ..), flatMap_nodup b (fun y hy => h1 y (List.mem_cons_of_mem _ hy)) fun y hy z hz w => h2 y (List.mem_cons_of_mem _ hy) z (List.mem_cons_of_mem _ hz) w, fun u hu v hv e => ?_⟩
    subst e
    obtain ⟨y, hy, hv⟩ := List.mem_flatMap.mp hv
    have := h2 x (List.mem_cons_self ..) y (List.mem_cons_of_mem _ hy) u hu hv
    exact a (this ▸ hy)
theorem snoc_inj {α : Type} {a b : List α} {x y : α} (h : a ++ [x] = b ++ [y]) : a = b ∧ x = y := by
  have := List.append_inj' h rfl
  exact ⟨this.1, by simpa using this.2⟩
theorem runs_nodup (n s : Int) : ∀ k, (runs n s k).Nodup
  | 0 => by simp [runs]
  | k + 1 => flatMap_nodup (runs_nodup n s k) (fun o _ => by
      refine List.pairwise_map.mpr ((cand_up n s k o).imp fun {a b} h e => ?_)
      have := (snoc_inj e).2
      omega) (fun o _ p _ z h1 h2 => by
      obtain ⟨x, _, rfl⟩ := List.mem_map.mp h1
      obtain ⟨y, _, e⟩ := List.mem_map.mp h2
      exact (snoc_inj e).1.symm)
/-! ### how many runs have just these flights -/
def nRun (n s : Int) (k : Nat) (b : List Int) : Nat := (runs n s k).countP fun o => decide (srt o = b)
theorem srt_up {o : List Int} (h : o.Nodup) : Up (srt o) := by
  have a := srt_int o
  have b : (srt o).Nodup := (srt_perm o).nodup_iff.mpr h
  exact (a.and b).imp fun {x y} h => by omega
theorem srt_eq {o b : List Int} (h : o.Nodup) (hb : Up b) : srt o = b ↔ ∀ x, x ∈ o ↔ x ∈ b := by
  constructor
  · intro e x; rw [← e, mem_srt]
  · intro e; exact up_ext (srt_up h) hb fun x => by rw [mem_srt]; exact e x
def rem (b : List Int) (x : Int) : List Int := b.filter fun y => !decide (y = x)
theorem mem_rem {b : List Int} {x y : Int} : y ∈ rem b x ↔ y ∈ b ∧ y ≠ x := by
  unfold rem; rw [List.mem_filter]; simp
theorem rem_up {b : List Int} (h : Up b) (x : Int) : Up (rem b x) := h.filter _
theorem rem_perm {b : List Int} {x : Int} (h : Up b) (hx : x ∈ b) : b.Perm (x :: rem b x) := by
  refine (List.perm_ext_iff_of_nodup h.nodup (List.nodup_cons.mpr ⟨fun z => (mem_rem.mp z).2 rfl, (rem_up h x).nodup⟩)).mpr fun y => ?_
  rw [List.mem_cons, mem_rem]
  constructor
  · intro hy
    by_cases e : y = x
    · exact .inl e
    · exact .inr ⟨hy, e⟩
  · rintro (e | e)
    · rw [e]; exact hx
    · exact e.1
theorem rem_len {b : List Int} {x : Int} (h : Up b) (hx : x ∈ b) : (rem b x).length + 1 = b.length := by
  have := (rem_perm h hx).length_eq
  simpa using this.symm
theorem ca_cons (x : Int) (t : List Int) (r : Int) : ca (x :: t) r = ca t r + if r < x then 1 else 0 := by
  unfold ca
  rw [List.countP_cons]
  by_cases e : r < x
  · rw [if_pos e, if_pos (by simpa using e)]
  · rw [if_neg e, if_neg (by simpa using e)]
theorem cb_cons (x : Int) (t : List Int) (r : Int) : cb (x :: t) r = cb t r + if x < r then 1 else 0 := by
  unfold cb
  rw [List.countP_cons]
  by_cases e : x < r
  · rw [if_pos e, if_pos (by simpa using e)]
  · rw [if_neg e, if_neg (by simpa using e)]
theorem ca_anti {t : List Int} {x y : Int} (h : x ≤ y) : ca t y ≤ ca t x := List.countP_mono_left fun z _ hz => by
  simp only [decide_eq_true_eq] at hz ⊢; omega
section
variable {n s : Int} {k : Nat} {b : List Int} {x : Int}
/-- a member whose going leaves a beginning is near, and one of the last -/
theorem rem_near (hb : Beg n s b) (hl : b.length = k + 1) (hx : x ∈ b) (h : Beg n s (rem b x)) : (k : Int) - s ≤ x ∧ x ≤ k + s ∧ (k : Int) - s ≤ cb b x := by
  have hp := rem_perm hb.up hx
  have hln := rem_len hb.up hx
  have hr := hb.rg x hx
  have hn : x ∉ rem b x := fun z => (mem_rem.mp z).2 rfl
  have a := (beg_add h hn hr.1 hr.2 hb.up hp).mp hb
  have c := h.non x hr.1 hr.2 hn
  have d := cb_ca hn
  have e := h.cb_le hr.1
  have f : cb b x = cb (rem b x) x := by rw [cb_perm hp, cb_cons, if_neg (by omega)]; omega
  omega
/-- a run behind which a beginning comes has a beginning's flights -/
theorem run_beg (hs : 0 ≤ s) {o : List Int} (ho : o ∈ runs n s k) (hx : x ∈ cand n s k o) (hb : Beg n s (srt (o ++ [x]))) : Beg n s (srt o) := by
  obtain ⟨nd, rg⟩ := run_nodup ho
  have c := mem_cand.mp hx
  have hl := run_len ho
  have hm := run_mem hs ho
  have p0 := srt_perm o
  have p1 : (srt (o ++ [x])).Perm (x :: srt o) := (srt_perm _).trans ((List.perm_append_comm).trans (List.Perm.cons x p0.symm))
  have hca : ∀ r, ca (srt (o ++ [x])) r = ca (srt o) r + if r < x then 1 else 0 := fun r => by rw [ca_perm p1, ca_cons]
  have hxn : x ∉ srt o := fun z => c.2.2 (mem_srt.mp z)
  refine ⟨srt_up nd, fun y hy => rg y (mem_srt.mp hy), fun y hy => by rw [cb_perm p0]; exact hm y (mem_srt.mp hy), fun r r0 r1 hr => ?_⟩
  by_cases e : r = x
  · subst e
    by_cases w : ∃ q, 0 ≤ q ∧ q < r ∧ q ∉ srt (o ++ [r])
    · obtain ⟨q, q0, q1, q2⟩ := w
      have a := hb.non q q0 (by omega) q2
      rw [hca q, if_pos q1] at a
      have := ca_anti (t := srt o) (x := q) (y := r) (by omega)
      omega
    · have all : ∀ y, 0 ≤ y → y < r → y ∈ srt o := fun y y0 y1 => by
        have : y ∈ srt (o ++ [r]) := Classical.byContradiction fun z => w ⟨y, y0, y1, z⟩
        rcases List.mem_cons.mp (p1.mem_iff.mp this) with z | z
        · omega
        · exact z
      have e1 := lack_cb (srt_up nd).nodup (fun y hy => (rg y (mem_srt.mp hy)).1) r0 (Int.le_refl r)
      have nl : lack (srt o) 0 r = [] := List.eq_nil_iff_forall_not_mem.mpr fun y hy => by
        have := mem_lack.mp hy
        exact this.2 (all y this.1.1 this.1.2)
      rw [nl] at e1
      have e2 : cb ([] : List Int) r = 0 := rfl
      rw [e2] at e1
      have d := cb_ca hxn
      have : (srt o).length = k := by rw [srt_length]; exact hl
      omega
  · have : r ∉ srt (o ++ [x]) := fun z => by
      rcases List.mem_cons.mp (p1.mem_iff.mp z) with q | q
      · exact e q
      · exact hr q
    have a := hb.non r r0 r1 this
    rw [hca r] at a
    omega
theorem countP_one {α : Type} {p : α → Bool} : ∀ {xs : List α}, xs.Nodup → (∀ a ∈ xs, ∀ b ∈ xs, p a = true → p b = true → a = b) → (∃ a ∈ xs, p a = true) → xs.countP p = 1
  | [], _, _, ⟨a, h, _⟩ => by cases h
  | a :: xs, nd, u, h => by
    have ⟨n1, n2⟩ := List.nodup_cons.mp nd
    by_cases e : p a = true
    · rw [List.countP_cons_of_pos e]
      have : xs.countP p = 0 := List.countP_eq_zero.mpr fun b hb hp => n1 (u a (List.mem_cons_self ..) b (List.mem_cons_of_mem _ hb) e hp ▸ hb)
      omega
    · rw [List.countP_cons_of_neg e]
      refine countP_one n2 (fun x hx y hy => u x (List.mem_cons_of_mem _ hx) y (List.mem_cons_of_mem _ hy)) ?_
      obtain ⟨b, hb, hp⟩ := h
      rcases List.mem_cons.mp hb with q | q
      · subst q; exact absurd hp e
      · exact ⟨b, q, hp⟩
theorem sum_swap {α β : Type} (r : α → β → Bool) : ∀ (xs : List α) (ys : List β), (xs.map fun a => ys.countP fun b => r a b).sum = (ys.map fun b => xs.countP fun a => r a b).sum
  | [], ys => by
    simp only [List.map_nil, List.sum_nil, List.countP_nil]
    induction ys with
    | nil => rfl
    | cons y ys ih => rw [List.map_cons, List.sum_cons]; omega
  | a :: xs, ys => by
    rw [List.map_cons, List.sum_cons, sum_swap r xs ys]
    induction ys with
    | nil => rfl
    | cons y ys ih =>
      rw [List.map_cons, List.sum_cons, List.map_cons, List.sum_cons, List.countP_cons, List.countP_cons]
      omega
open Classical in
/-- one flight more -/
theorem nRun_succ (hs : 0 ≤ s) (hb : Beg n s b) (hl : b.length = k + 1) (m : Nat) (hm : (m : Int) = imax 0 (k - s)) :
    nRun n s (k + 1) b = ((b.drop m).map fun x => if Beg n s (rem b x) then nRun n s k (rem b x) else 0).sum := by
  have ndd : (b.drop m).Nodup := (List.drop_sublist _ _).nodup hb.up.nodup
  have one : ∀ o ∈ runs n s k, ((cand n s k o).map fun x => o ++ [x]).countP (fun o => decide (srt o = b)) = (b.drop m).countP fun x => decide (Beg n s (rem b x) ∧ srt o = rem b x) := fun o ho => by
    obtain ⟨nd, rg⟩ := run_nodup ho
    have ndx : ∀ x ∈ cand n s k o, (o ++ [x]).Nodup := fun x hx => by
      have c := mem_cand.mp hx
      refine List.nodup_append.mpr ⟨nd, by simp, fun u hu v hv => ?_⟩
      rw [List.mem_singleton.mp hv]; exact fun z => c.2.2 (z ▸ hu)
    rw [List.countP_map]
    show (cand n s k o).countP (fun x => decide (srt (o ++ [x]) = b)) = _
    -- from a step to a member and back
    have fwd : ∀ x ∈ cand n s k o, srt (o ++ [x]) = b → x ∈ b.drop m ∧ Beg n s (rem b x) ∧ srt o = rem b x := fun x hx e => by
      have hxb : x ∈ b := by rw [← e, mem_srt]; simp
      have c := mem_cand.mp hx
      have er : srt o = rem b x := (srt_eq nd (rem_up hb.up x)).mpr fun y => by
        rw [mem_rem, ← e, mem_srt, List.mem_append, List.mem_singleton]
        constructor
        · intro h; exact ⟨.inl h, fun z => c.2.2 (z ▸ h)⟩
        · rintro ⟨h | h, w⟩
          · exact h
          · exact absurd h w
      have hB : Beg n s (rem b x) := by rw [← er]; exact run_beg hs ho hx (by rw [e]; exact hb)
      refine ⟨?_, hB, er⟩
      have hn := (rem_near hb hl hxb hB).2.2
      have ha := up_of_at hb.up hxb
      rw [imax_eq] at hm
      refine List.mem_of_getElem? (i := cb b x - m) ?_
      rw [List.getElem?_drop, show m + (cb b x - m) = cb b x by omega]
      exact ha
    have bwd : ∀ x ∈ b.drop m, Beg n s (rem b x) → srt o = rem b x → x ∈ cand n s k o ∧ srt (o ++ [x]) = b := fun x hx hB er => by
      have hxb := List.mem_of_mem_drop hx
      have hn := rem_near hb hl hxb hB
      have hxo : x ∉ o := fun z => (mem_rem.mp (er ▸ mem_srt.mpr z)).2 rfl
      have hc : x ∈ cand n s k o := mem_cand.mpr ⟨hb.rg x hxb, ⟨hn.1, hn.2.1⟩, hxo⟩
      refine ⟨hc, (srt_eq (ndx x hc) hb.up).mpr fun y => ?_⟩
      rw [List.mem_append, List.mem_singleton]
      have : y ∈ o ↔ y ∈ rem b x := by rw [← er, mem_srt]
      rw [this, mem_rem]
      constructor
      · rintro (h | h)
        · exact h.1
        · rw [h]; exact hxb
      · intro h
        by_cases w : y = x
        · exact .inr w
        · exact .inl ⟨h, w⟩
    by_cases w : ∃ x ∈ cand n s k o, srt (o ++ [x]) = b
    · obtain ⟨x, hx, e⟩ := w
      obtain ⟨f1, f2, f3⟩ := fwd x hx e
      rw [countP_one (cand_up n s k o).nodup (fun u hu v hv pu pv => ?_) ⟨x, hx, decide_eq_true e⟩, countP_one ndd (fun u hu v hv pu pv => ?_) ⟨x, f1, decide_eq_true ⟨f2, f3⟩⟩]
      · have pu := of_decide_eq_true pu
        have pv := of_decide_eq_true pv
        refine Classical.byContradiction fun q => ?_
        have hu' : u ∈ rem b v := mem_rem.mpr ⟨List.mem_of_mem_drop hu, q⟩
        exact (mem_rem.mp (show u ∈ rem b u by rw [← pu.2, pv.2]; exact hu')).2 rfl
      · have pu := of_decide_eq_true pu
        have pv := of_decide_eq_true pv
        have : u ∈ o ++ [v] := by
          have : u ∈ srt (o ++ [v]) := by rw [pv, ← pu, mem_srt]; simp
          exact mem_srt.mp this
        rcases List.mem_append.mp this with q | q
        · exact absurd q (mem_cand.mp hu).2.2
        · exact List.mem_singleton.mp q
    · rw [List.countP_eq_zero.mpr fun x hx hp => w ⟨x, hx, of_decide_eq_true hp⟩, List.countP_eq_zero.mpr fun x hx hp => ?_]
      have hp := of_decide_eq_true hp
      have := bwd x hx hp.1 hp.2
      exact w ⟨x, this.1, this.2⟩
  unfold nRun
  show ((runs n s k).flatMap _).countP _ = _
  rw [List.countP_flatMap]
  have e1 : (runs n s k).map ((List.countP fun o => decide (srt o = b)) ∘ fun o => (cand n s k o).map fun x => o ++ [x]) = (runs n s k).map fun o => (b.drop m).countP fun x => decide (Beg n s (rem b x) ∧ srt o = rem b x) := List.map_congr_left one
  rw [e1, sum_swap]
  congr 1
  refine List.map_congr_left fun x _ => ?_
  by_cases w : Beg n s (rem b x)
  · rw [if_pos w]
    exact List.countP_congr fun o _ => by simp [w]
  · rw [if_neg w]
    exact List.countP_eq_zero.mpr fun o _ hp => w (of_decide_eq_true hp).1
end
-- pack 53_manyorders.lean
theorem rng_drop {α : Type} [Inhabited α] (xs : List α) {m : Nat} (h : m ≤ xs.length) : ((rng (m : Int) xs.length).map fun j => ix xs j) = xs.drop m := by
  refine List.ext_getElem? fun i => ?_
  rw [List.getElem?_map, List.getElem?_drop]
  by_cases e : m + i < xs.length
  · rw [rng_at (by omega), Option.map_some]
    have := ix_at (xs := xs) (i := (m : Int) + i) (by omega)
    rw [show ((m : Int) + (i : Int)).toNat = m + i by omega] at this
    exact this.symm
  · rw [List.getElem?_eq_none (by rw [rng_length]; omega), List.getElem?_eq_none (by omega)]; rfl
theorem rem_at {t : List Int} (h : Up t) {j : Int} (hj : 0 ≤ j ∧ j < t.length) : slc t none (some j) ++ slc t (some (j + 1)) none = rem t (ix t j) := by
  rw [slc_to _ hj.1, slc_from _ (by omega)]
  have e1 : t.drop j.toNat = ix t j :: t.drop (j + 1).toNat := by
    have a := ix_at (xs := t) hj
    rw [List.getElem?_eq_getElem (show j.toNat < t.length by omega)] at a
    have a := Option.some.inj a
    rw [List.drop_eq_getElem_cons (show j.toNat < t.length by omega), a, show (j + 1).toNat = j.toNat + 1 by omega]
  have e2 : t = t.take j.toNat ++ (ix t j :: t.drop (j + 1).toNat) := by rw [← e1, List.take_append_drop]
  have nd := h.nodup
  rw [e2] at nd
  have ⟨n1, n2, n3⟩ := List.nodup_append.mp nd
  have hup : Up (t.take j.toNat ++ t.drop (j + 1).toNat) := by
    have h' := h
    rw [e2] at h'
    have ⟨p1, p2, p3⟩ := List.pairwise_append.mp h'
    exact List.pairwise_append.mpr ⟨p1, (List.pairwise_cons.mp p2).2, fun a ha b hb => p3 a ha b (List.mem_cons_of_mem _ hb)⟩
  refine up_ext hup (rem_up h _) fun y => ?_
  rw [mem_rem]
  constructor
  · intro hy
    rcases List.mem_append.mp hy with q | q
    · exact ⟨List.mem_of_mem_take q, fun z => n3 y q _ (List.mem_cons_self ..) z⟩
    · exact ⟨List.mem_of_mem_drop q, fun z => (List.nodup_cons.mp n2).1 (z ▸ q)⟩
  · rintro ⟨hy, ne⟩
    rw [e2] at hy
    rcases List.mem_append.mp hy with q | q
    · exact List.mem_append_left _ q
    · rcases List.mem_cons.mp q with w | w
      · exact absurd w ne
      · exact List.mem_append_right _ w
theorem steps_ok {t : Tup Int} {s : Int} (h : Up t.l) (hl : t.l.length ≤ 1000) (h0 : 0 ≤ s ∧ s ≤ 1000) : m_steps_to t s = .ok ((rng (imax 0 ((t.l.length : Int) - 1 - s)) t.l.length).map fun j => (ix t.l j, (⟨rem t.l (ix t.l j)⟩ : Tup Int))) := by
  refine Y.eq ?_
  unfold m_steps_to
  have hi : imax 0 ((t.l.length : Int) - 1 - s) = if (t.l.length : Int) - 1 - s > 0 then (t.l.length : Int) - 1 - s else 0 := rfl
  have hlo : 0 ≤ imax 0 ((t.l.length : Int) - 1 - s) ∧ imax 0 ((t.l.length : Int) - 1 - s) ≤ 1000 := by rw [hi]; split <;> omega
  refine .let_ (.asr (small_of (by omega)) (.asr (small_of (by omega)) (.foldK (fun n f => f = ((rng (imax 0 ((t.l.length : Int) - 1 - s)) t.l.length).take n).map fun j => (ix t.l j, (⟨rem t.l (ix t.l j)⟩ : Tup Int))) (by simp) (fun n f j hx hI => ?_) fun f hI => ⟨_, rfl, ?_⟩)))
  · have hn := lt_of_at hx
    rw [rng_length] at hn
    have hxr := rng_atF hx
    have hfl : f.length ≤ n := by rw [hI, List.length_map, List.length_take]; omega
    unfold m_steps_to_l1
    have e := rem_at h (j := j) (by omega)
    have e' : (slcT t none (some j)).l ++ (slcT t (some (j + 1)) none).l = rem t.l (ix t.l j) := e
    have n1 := slc_len t.l none (some j)
    have n2 := slc_len t.l (some (j + 1)) none
    refine .asr (by omega) (.asr (by show (slc t.l none (some j)).length + (slc t.l (some (j + 1)) none).length ≤ _; rw [sizeLine_eq]; omega) (.asr (lt_size (by omega)) (.let_ ⟨_, rfl, ?_⟩)))
    rw [e', List.take_succ, hx, List.map_append, ← hI]; rfl
  · rw [hI, List.take_length]
/-! ### counts -/
theorem dc_map_at {κ β : Type} [DecidableEq κ] (v : κ → β) (k : κ) : ∀ bs : List κ, (Dc.mk (bs.map fun b => (b, v b))).at k = if k ∈ bs then some (v k) else none
  | [] => rfl
  | b :: bs => by
    have ih := dc_map_at v k bs
    unfold Dc.at at ih ⊢
    rw [List.map_cons]
    by_cases e : b = k
    · subst e; simp
    · rw [List.find?_cons]
      simp only [decide_eq_false e]
      rw [ih]
      by_cases w : k ∈ bs
      · rw [if_pos w, if_pos (List.mem_cons_of_mem _ w)]
      · rw [if_neg w, if_neg fun z => by
          rcases List.mem_cons.mp z with q | q
          · exact e q.symm
          · exact w q]
theorem dc_put_new {κ β : Type} [DecidableEq κ] (d : Dc κ β) {k : κ} (h : d.at k = none) (v : β) : d.put k v = ⟨d.l ++ [(k, v)]⟩ := by
  unfold Dc.put; rw [h]; rfl
structure CntOk (n s : Int) (k : Nat) (d : Dc (Tup Int) Int) : Prop where
  ex : ∃ bs, BegsOk n s k bs ∧ d.l = bs.map fun b => (b, (nRun n s k b.l : Int))
theorem beg_full {n s : Int} {t : List Int} (b : Beg n s t) (hl : (t.length : Int) = n) : t = rng 0 n := by
  refine up_ext b.up (rng_up _ _) fun x => ?_
  rw [mem_rng]
  refine ⟨fun h => b.rg x h, fun h => ?_⟩
  refine Classical.byContradiction fun w => ?_
  have e := lack_cb (t := t) (a := 0) (b := n) (x := n) b.up.nodup (fun y hy => (b.rg y hy).1) (by omega) (Int.le_refl n)
  have a : cb t n = t.length := cb_all fun y hy => (b.rg y hy).2
  have c : x ∈ lack t 0 n := mem_lack.mpr ⟨h, w⟩
  have d : cb (lack t 0 n) n = (lack t 0 n).length := cb_all fun y hy => (mem_lack.mp hy).1.2
  have := List.length_pos_of_mem c
  omega
theorem run_full {n s : Int} {o : List Int} (hn : 0 ≤ n) (h : o ∈ runs n s n.toNat) : srt o = rng 0 n := by
  obtain ⟨nd, rg⟩ := run_nodup h
  have hl := run_len h
  refine (srt_eq nd (rng_up _ _)).mpr fun x => ?_
  rw [mem_rng]
  refine ⟨rg x, fun hx => ?_⟩
  refine Classical.byContradiction fun w => ?_
  have e := lack_cb (t := o) (a := 0) (b := n) (x := n) nd (fun y hy => (rg y hy).1) (by omega) (Int.le_refl n)
  have a : cb o n = o.length := cb_all fun y hy => (rg y hy).2
  have c : x ∈ lack o 0 n := mem_lack.mpr ⟨hx, w⟩
  have d : cb (lack o 0 n) n = (lack o 0 n).length := cb_all fun y hy => (mem_lack.mp hy).1.2
  have := List.length_pos_of_mem c
  omega
/-- how many orders are within a shift -/
def moV (n s : Int) : Int := (runs n s n.toNat).length
theorem nRun_full {n s : Int} (hn : 0 ≤ n) : (nRun n s n.toNat (rng 0 n) : Int) = moV n s := by
  unfold nRun moV
  rw [List.countP_eq_length.mpr fun o ho => decide_eq_true (run_full hn ho)]
open Classical in
theorem many_orders_ok {n s : Int} (hn : 0 ≤ n ∧ n ≤ 1000) (hs : 0 ≤ s ∧ s ≤ 3) : m_many_orders n s = .ok (moV n s) := by
  refine Y.eq ?_
  unfold m_many_orders
  have b0 : BegsOk n s ((0 : Nat) : Int) [⟨[]⟩] := ⟨by simp, fun t => by
      rw [List.mem_singleton]
      constructor
      · intro e; rw [e]
        have := beg_first (many := n) hs.1 (n := 0) hn.1
        rw [rng_nil (Int.le_refl 0)] at this
        exact ⟨this, rfl⟩
      · rintro ⟨_, e⟩
        have : t.l = [] := List.length_eq_zero_iff.mp (by simpa using e)
        cases t; simp only at this; rw [this], by simp, by simp⟩
  refine .let_ (.asr (small_of (by omega)) (.foldK (fun i d => CntOk n s i d) ⟨[⟨[]⟩], b0, ?_⟩ (fun i d size hx hI => ?_) fun d hI => ⟨_, rfl, ?_⟩))
  · show [((⟨[]⟩ : Tup Int), (1 : Int))] = [((⟨[]⟩ : Tup Int), (nRun n s 0 [] : Int))]
    have : nRun n s 0 [] = 1 := by
      unfold nRun runs
      have e : srt ([] : List Int) = [] := List.length_eq_zero_iff.mp (by rw [srt_length]; rfl)
      simp [e]
    rw [this]; rfl
  · have hi := lt_of_at hx
    rw [rng_length] at hi
    have hx := rng_atF hx
    obtain ⟨bs, hb, hd⟩ := hI.ex
    have es : size = ((i + 1 : Nat) : Int) := by omega
    subst es
    unfold m_many_orders_l2
    refine .let_ (.bindO (begs_ok (by omega) hs (by omega)) fun bs' hb' => ?_)
    let v : Tup Int → Int := fun b => (nRun n s (i + 1) b.l : Int)
    refine .foldK (fun j a => a.l = (bs'.take j).map fun b => (b, v b)) rfl (fun j a b hbj hJ => ?_) fun a hJ => ⟨_, rfl, bs', hb', by rw [hJ, List.take_length]⟩
    have hj := lt_of_at hbj
    have hbm := List.mem_of_getElem? hbj
    obtain ⟨hB, hlen⟩ := (hb'.mem b).mp hbm
    have hlen' : b.l.length = i + 1 := by omega
    have hal : a.l.length ≤ 64 := by
      rw [hJ, List.length_map, List.length_take]
      have := hb'.len
      omega
    unfold m_many_orders_l1
    rw [steps_ok hB.up (by omega) (by omega), bindO_ok]
    have him : 0 ≤ imax 0 ((b.l.length : Int) - 1 - s) := by rw [imax_eq]; omega
    refine .asr (by rw [List.length_map, rng_length, sizeLine_eq]; omega) (.asr (lt_size (by omega)) (.let_ ⟨_, rfl, ?_⟩))
    have hsum : (((rng (imax 0 ((b.l.length : Int) - 1 - s)) b.l.length).map fun j => (ix b.l j, (⟨rem b.l (ix b.l j)⟩ : Tup Int))).map fun (f : Int × Tup Int) => (d.at f.2).getD 0).sum = v b := by
      rw [List.map_map]
      have hm0 : 0 ≤ imax 0 ((b.l.length : Int) - 1 - s) ∧ imax 0 ((b.l.length : Int) - 1 - s) ≤ b.l.length := by
        rw [imax_eq]; omega
      generalize hmm : (imax 0 ((b.l.length : Int) - 1 - s)).toNat = m
      have em : ((m : Nat) : Int) = imax 0 ((b.l.length : Int) - 1 - s) := by omega
      rw [← em]
      have e1 : ((rng (m : Int) b.l.length).map ((fun (f : Int × Tup Int) => (d.at f.2).getD 0) ∘ fun j => (ix b.l j, (⟨rem b.l (ix b.l j)⟩ : Tup Int)))) = (b.l.drop m).map fun x => (d.at ⟨rem b.l x⟩).getD 0 := by
        rw [← rng_drop b.l (m := m) (by omega), List.map_map]
        rfl
      rw [e1]
      show _ = ((nRun n s (i + 1) b.l : Nat) : Int)
      rw [nRun_succ hs.1 hB hlen' m (by rw [em, hlen']; congr 1; omega)]
      have e2 : ∀ x ∈ b.l.drop m, (d.at ⟨rem b.l x⟩).getD 0 = (((if Beg n s (rem b.l x) then nRun n s i (rem b.l x) else 0 : Nat)) : Int) := fun x hx => by
        have hxb := List.mem_of_mem_drop hx
        have hl2 := rem_len hB.up hxb
        have ed : d = ⟨bs.map fun b => (b, (nRun n s i b.l : Int))⟩ := by cases d; simp only at hd; rw [hd]
        rw [ed, dc_map_at]
        by_cases w : Beg n s (rem b.l x)
        · have hmem : (⟨rem b.l x⟩ : Tup Int) ∈ bs := (hb.mem ⟨rem b.l x⟩).mpr ⟨w, show ((rem b.l x).length : Int) = i by omega⟩
          rw [if_pos w, if_pos hmem]; rfl
        · have hno : (⟨rem b.l x⟩ : Tup Int) ∉ bs := fun z => w ((hb.mem ⟨rem b.l x⟩).mp z).1
          rw [if_neg w, if_neg hno]; rfl
      rw [List.map_congr_left e2]
      generalize b.l.drop m = xs
      induction xs with
      | nil => rfl
      | cons x xs ih => rw [List.map_cons, List.sum_cons, List.map_cons, List.sum_cons, ih]; simp
    rw [hsum]
    have hnew : a.at b = none := by
      have ea : a = ⟨(bs'.take j).map fun b => (b, v b)⟩ := by cases a; simp only at hJ; rw [hJ]
      rw [ea, dc_map_at, if_neg fun z => ?_]
      obtain ⟨i', h1, h2⟩ := List.getElem_of_mem z
      rw [List.length_take] at h1
      have : bs'[i']? = bs'[j]? := by rw [hbj, List.getElem?_eq_getElem (by omega), ← h2, List.getElem_take]
      have := (List.getElem?_inj (by omega) hb'.nd).mp this
      omega
    rw [dc_put_new _ hnew, hJ, List.take_succ, hbj, List.map_append]; rfl
  · rw [rng_length] at hI
    have en : (n + 1 - 1).toNat = n.toNat := by omega
    rw [en] at hI
    obtain ⟨bs, hb, hd⟩ := hI.ex
    have hbs : bs = [⟨rng 0 n⟩] := by
      have all : ∀ t ∈ bs, t = ⟨rng 0 n⟩ := fun t ht => by
        obtain ⟨h1, h2⟩ := (hb.mem t).mp ht
        have := beg_full h1 (by omega)
        cases t; simp only at this; rw [this]
      have one : (⟨rng 0 n⟩ : Tup Int) ∈ bs := (hb.mem _).mpr ⟨beg_first hs.1 (Int.le_refl n), by show ((rng 0 n).length : Int) = _; rw [rng_length]; omega⟩
      have nd := hb.nd
      cases bs with
      | nil => cases one
      | cons t ts =>
        have e := all t (List.mem_cons_self ..)
        cases ts with
        | nil => rw [e]
        | cons u us =>
          have e2 := all u (List.mem_cons_of_mem _ (List.mem_cons_self ..))
          rw [e, e2] at nd
          simp at nd
    show (d.l.map (·.2)).sum = _
    rw [hd, hbs]
    show ((nRun n s n.toNat (rng 0 n) : Nat) : Int) + 0 = _
    rw [nRun_full hn.1]; omega
-- pack 54_runcount.lean
/-! ### how many: counted by what of the window is taken -/
theorem run_hi {n s : Int} : ∀ {k : Nat} {o : List Int}, o ∈ runs n s k → ∀ y ∈ o, y < k + s
  | 0, o, h => by
    have : o = [] := by simpa [runs] using h
    rw [this]; exact fun _ h => nomatch h
  | k + 1, o, h => by
    obtain ⟨p, hp, hx0⟩ := List.mem_flatMap.mp h
    obtain ⟨x, hx, rfl⟩ := List.mem_map.mp hx0
    have c := mem_cand.mp hx
    intro y hy
    rcases List.mem_append.mp hy with q | q
    · have := run_hi hp y q; omega
    · rw [List.mem_singleton.mp q]; omega
def vOk (s : Int) (k : Nat) (o : List Int) : Bool := (rng 0 ((k : Int) - s)).all fun f => decide (f ∈ o)
def vruns (n s : Int) (k : Nat) : List (List Int) := (runs n s k).filter (vOk s k)
def vcand (n s : Int) (k : Nat) (o : List Int) : List Int := (cand n s k o).filter fun x => decide ((k : Int) - s < 0) || decide ((k : Int) - s ∈ o ++ [x])
theorem filter_flatMap' {α β : Type} (p : β → Bool) (f : α → List β) : ∀ xs : List α, (xs.flatMap f).filter p = xs.flatMap fun x => (f x).filter p
  | [] => rfl
  | x :: xs => by rw [List.flatMap_cons, List.flatMap_cons, List.filter_append, filter_flatMap' p f xs]
theorem flatMap_filter' {α β : Type} (p : α → Bool) (f : α → List β) : ∀ xs : List α, (xs.filter p).flatMap f = xs.flatMap fun x => if p x then f x else []
  | [] => rfl
  | x :: xs => by
    rw [List.flatMap_cons, List.filter_cons]
    split
    · rw [List.flatMap_cons, flatMap_filter' p f xs]
    · rw [flatMap_filter' p f xs]; rfl
theorem flatMap_congr' {α β : Type} {f g : α → List β} : ∀ {xs : List α}, (∀ x ∈ xs, f x = g x) → xs.flatMap f = xs.flatMap g
  | [], _ => rfl
  | x :: xs, h => by rw [List.flatMap_cons, List.flatMap_cons, h x (List.mem_cons_self ..), flatMap_congr' fun y hy => h y (List.mem_cons_of_mem _ hy)]
theorem vruns_succ {n s : Int} (hs : 0 ≤ s) (k : Nat) : vruns n s (k + 1) = (vruns n s k).flatMap fun o => (vcand n s k o).map fun x => o ++ [x] := by
  unfold vruns
  rw [flatMap_filter']
  show ((runs n s k).flatMap _).filter _ = _
  rw [filter_flatMap']
  refine flatMap_congr' fun o _ => ?_
  have key : ∀ x ∈ cand n s k o, vOk s (k + 1) (o ++ [x]) = (vOk s k o && (decide ((k : Int) - s < 0) || decide ((k : Int) - s ∈ o ++ [x]))) := fun x hx => by
    have c := mem_cand.mp hx
    rw [Bool.eq_iff_iff, Bool.and_eq_true, Bool.or_eq_true, decide_eq_true_eq, decide_eq_true_eq]
    unfold vOk
    rw [List.all_eq_true, List.all_eq_true]
    simp only [decide_eq_true_eq, mem_rng]
    constructor
    · intro h
      refine ⟨fun f hf => ?_, ?_⟩
      · rcases List.mem_append.mp (h f ⟨hf.1, by omega⟩) with q | q
        · exact q
        · have := List.mem_singleton.mp q; omega
      · by_cases e : (k : Int) - s < 0
        · exact .inl e
        · exact .inr (h _ ⟨by omega, by omega⟩)
    · rintro ⟨h1, h2⟩ f hf
      by_cases e : f < (k : Int) - s
      · exact List.mem_append_left _ (h1 f ⟨hf.1, e⟩)
      · have : f = (k : Int) - s := by omega
        subst this
        rcases h2 with h2 | h2
        · omega
        · exact h2
  rw [List.filter_map]
  by_cases e : vOk s k o = true
  · rw [if_pos e]
    congr 1
    refine List.filter_congr fun x hx => ?_
    show vOk s (k + 1) (o ++ [x]) = _
    rw [key x hx, e, Bool.true_and]
  · rw [if_neg e]
    have : (cand n s k o).filter (vOk s (k + 1) ∘ fun x => o ++ [x]) = [] := List.filter_eq_nil_iff.mpr fun x hx => by
      show ¬ vOk s (k + 1) (o ++ [x]) = true
      rw [key x hx]
      simp [e]
    rw [this]; rfl
def wF (s k : Nat) (o : List Int) : List Bool := (List.range (2 * s)).map fun (j : Nat) => decide ((k : Int) - s + j ∈ o)
def okF (n s k : Nat) (t : List Bool) (j : Nat) : Bool := decide (s ≤ k + j) && (decide (k + j < n + s) && ((!(t ++ [false]).getD j true) && (decide (k < s) || ((t ++ [false]).set j true).getD 0 false)))
def nxF (t : List Bool) (j : Nat) : List Bool := ((t ++ [false]).set j true).drop 1
def addF : List (List Bool × Nat) → List Bool → Nat → List (List Bool × Nat)
  | [], t, c => [(t, c)]
  | (u, d) :: r, t, c => if u = t then (u, d + c) :: r else (u, d) :: addF r t c
def inF (n s k : Nat) (e : List Bool × Nat) : List Nat → List (List Bool × Nat) → List (List Bool × Nat)
  | [], acc => acc
  | j :: js, acc => inF n s k e js (if okF n s k e.1 j then addF acc (nxF e.1 j) e.2 else acc)
def stF (n s k : Nat) (js : List Nat) : List (List Bool × Nat) → List (List Bool × Nat) → List (List Bool × Nat)
  | [], acc => acc
  | e :: st, acc => stF n s k js st (inF n s k e js acc)
def runF (n s : Nat) : Nat → List (List Bool × Nat)
  | 0 => [(List.replicate (2 * s) false, 1)]
  | k + 1 => stF n s k (List.range (2 * s + 1)) (runF n s k) []
def totF : List (List Bool × Nat) → Nat
  | [] => 0
  | e :: st => e.2 + totF st
/-- how many orders, to be computed -/
def cntF (n s : Nat) : Nat := totF (runF n s n)
def sumF (f : List Bool → Nat) (st : List (List Bool × Nat)) : Nat := (st.map fun e => e.2 * f e.1).sum
theorem sum_add (f : List Bool → Nat) (t : List Bool) (c : Nat) : ∀ st, sumF f (addF st t c) = sumF f st + c * f t
  | [] => by simp [sumF, addF]
  | (u, d) :: r => by
    unfold addF
    split
    · rename_i h
      subst h
      simp only [sumF, List.map_cons, List.sum_cons, Nat.add_mul]; omega
    · have := sum_add f t c r
      simp only [sumF, List.map_cons, List.sum_cons] at this ⊢; omega
def gF (n s k : Nat) (f : List Bool → Nat) (js : List Nat) (t : List Bool) : Nat := (js.map fun j => if okF n s k t j then f (nxF t j) else 0).sum
theorem sum_in (n s k : Nat) (f : List Bool → Nat) (e : List Bool × Nat) : ∀ (js : List Nat) (acc), sumF f (inF n s k e js acc) = sumF f acc + e.2 * gF n s k f js e.1
  | [], acc => by simp [inF, gF]
  | j :: js, acc => by
    unfold inF
    rw [sum_in n s k f e js]
    unfold gF
    rw [List.map_cons, List.sum_cons]
    split
    · rw [sum_add, Nat.mul_add]; omega
    · rw [Nat.zero_add]
theorem sum_st (n s k : Nat) (f : List Bool → Nat) (js : List Nat) : ∀ (st acc), sumF f (stF n s k js st acc) = sumF f acc + sumF (gF n s k f js) st
  | [], acc => by simp [stF, sumF]
  | e :: st, acc => by
    unfold stF
    rw [sum_st n s k f js st, sum_in]
    simp only [sumF, List.map_cons, List.sum_cons]; omega
theorem sum_flat {α β : Type} (g : β → Nat) (h : α → List β) : ∀ xs : List α, ((xs.flatMap h).map g).sum = (xs.map fun x => ((h x).map g).sum).sum
  | [] => rfl
  | x :: xs => by rw [List.flatMap_cons, List.map_append, List.sum_append, List.map_cons, List.sum_cons, sum_flat g h xs]
theorem sum_filter {α : Type} (p : α → Bool) (g : α → Nat) : ∀ xs : List α, ((xs.filter p).map g).sum = (xs.map fun x => if p x then g x else 0).sum
  | [] => rfl
  | x :: xs => by
    rw [List.filter_cons, List.map_cons, List.sum_cons]
    split
    · rw [List.map_cons, List.sum_cons, sum_filter p g xs]
    · rw [sum_filter p g xs]; omega
theorem wF_at {s k : Nat} {o : List Int} {j : Nat} (h : j < 2 * s) : (wF s k o)[j]? = some (decide ((k : Int) - s + j ∈ o)) := by
  unfold wF
  rw [List.getElem?_map, List.getElem?_range h]; rfl
theorem wF_len (s k : Nat) (o : List Int) : (wF s k o).length = 2 * s := by unfold wF; simp
section
variable {n s k : Nat} {o : List Int}
theorem ext_at (ho : ∀ y ∈ o, y < (k : Int) + s) {j : Nat} (h : j < 2 * s + 1) : (wF s k o ++ [false])[j]? = some (decide ((k : Int) - s + j ∈ o)) := by
  by_cases e : j < 2 * s
  · rw [List.getElem?_append_left (by rw [wF_len]; exact e)]; exact wF_at e
  · rw [List.getElem?_append_right (by rw [wF_len]; omega), wF_len, show j - 2 * s = 0 by omega]
    have : ¬ ((k : Int) - s + j ∈ o) := fun z => by have := ho _ z; omega
    rw [decide_eq_false this]; rfl
theorem nx_is (ho : ∀ y ∈ o, y < (k : Int) + s) {j : Nat} (h : j < 2 * s + 1) : nxF (wF s k o) j = wF s (k + 1) (o ++ [(k : Int) - s + j]) := by
  have len : ((wF s k o ++ [false]).set j true).length = 2 * s + 1 := by rw [List.length_set, app1, wF_len]
  refine List.ext_getElem? fun i => ?_
  unfold nxF
  rw [List.getElem?_drop]
  by_cases e : i < 2 * s
  · rw [wF_at e, List.getElem?_set]
    by_cases w : j = 1 + i
    · rw [if_pos w, if_pos (by rw [app1, wF_len]; omega)]
      congr 1
      exact (decide_eq_true (by
        rw [List.mem_append, List.mem_singleton]
        exact .inr (by omega))).symm
    · rw [if_neg w, ext_at ho (by omega)]
      congr 1
      rw [Bool.eq_iff_iff, decide_eq_true_eq, decide_eq_true_eq, List.mem_append, List.mem_singleton, show ((k + 1 : Nat) : Int) - s + i = (k : Int) - s + ((1 + i : Nat) : Int) by omega]
      constructor
      · intro q; exact .inl q
      · rintro (q | q)
        · exact q
        · omega
  · rw [List.getElem?_eq_none (by rw [len]; omega), List.getElem?_eq_none (by rw [wF_len]; omega)]
theorem ok_is (ho : ∀ y ∈ o, y < (k : Int) + s) {j : Nat} (h : j < 2 * s + 1) : okF n s k (wF s k o) j = true ↔ (k : Int) - s + j ∈ vcand n s k o := by
  have e1 : (wF s k o ++ [false]).getD j true = decide ((k : Int) - s + j ∈ o) := by rw [List.getD_eq_getElem?_getD, ext_at ho h]; rfl
  have e2 : ((wF s k o ++ [false]).set j true).getD 0 false = decide ((k : Int) - s ∈ o ++ [(k : Int) - s + j]) := by
    rw [List.getD_eq_getElem?_getD, List.getElem?_set]
    by_cases w : j = 0
    · subst w
      rw [if_pos rfl, if_pos (by rw [app1]; omega)]
      exact (decide_eq_true (by rw [List.mem_append, List.mem_singleton]; exact .inr (by omega))).symm
    · rw [if_neg w, ext_at ho (by omega)]
      show decide _ = _
      rw [Bool.eq_iff_iff, decide_eq_true_eq, decide_eq_true_eq, List.mem_append, List.mem_singleton]
      constructor
      · intro q; exact .inl (by rwa [show (k : Int) - s + ((0 : Nat) : Int) = (k : Int) - s by omega] at q)
      · rintro (q | q)
        · rwa [show (k : Int) - s + ((0 : Nat) : Int) = (k : Int) - s by omega]
        · omega
  unfold okF vcand
  rw [e1, e2, List.mem_filter, mem_cand]
  simp only [Bool.and_eq_true, Bool.or_eq_true, decide_eq_true_eq, Bool.not_eq_true', decide_eq_false_iff_not]
  constructor
  · rintro ⟨a, b, c, d⟩
    exact ⟨⟨by omega, by omega, c⟩, by
      rcases d with d | d
      · exact .inl (by omega)
      · exact .inr d⟩
  · rintro ⟨⟨a, b, c⟩, d⟩
    exact ⟨by omega, by omega, c, by
      rcases d with d | d
      · exact .inl (by omega)
      · exact .inr d⟩
theorem vcand_is (ho : ∀ y ∈ o, y < (k : Int) + s) : vcand n s k o = ((List.range (2 * s + 1)).filter (okF n s k (wF s k o))).map fun (j : Nat) => (k : Int) - s + j := by
  refine up_ext ((cand_up _ _ _ _).filter _) (List.pairwise_map.mpr ((List.pairwise_lt_range.filter _).imp fun {a b} h => by omega)) fun x => ?_
  rw [List.mem_map]
  constructor
  · intro h
    have c := mem_cand.mp (List.mem_filter.mp h).1
    refine ⟨(x - (k - s)).toNat, List.mem_filter.mpr ⟨List.mem_range.mpr (by omega), (ok_is ho (by omega)).mpr ?_⟩, by omega⟩
    rw [show (k : Int) - s + ((x - (k - s)).toNat : Nat) = x by omega]; exact h
  · rintro ⟨j, hj, rfl⟩
    obtain ⟨h1, h2⟩ := List.mem_filter.mp hj
    exact (ok_is ho (List.mem_range.mp h1)).mp h2
end
theorem runF_is (n s : Nat) : ∀ (k : Nat) (f : List Bool → Nat), sumF f (runF n s k) = ((vruns n s k).map fun o => f (wF s k o)).sum
  | 0, f => by
    have e : vruns n s 0 = [[]] := by
      unfold vruns runs
      rw [List.filter_cons, if_pos (by unfold vOk; rw [rng_nil (by omega)]; rfl)]; rfl
    rw [e]
    have : wF s 0 [] = List.replicate (2 * s) false := by
      rw [List.eq_replicate_iff]
      refine ⟨wF_len .., fun b hb => ?_⟩
      unfold wF at hb
      obtain ⟨j, _, rfl⟩ := List.mem_map.mp hb
      simp
    simp [sumF, runF, this]
  | k + 1, f => by
    have e0 : sumF f [] = 0 := rfl
    unfold runF
    rw [sum_st, e0, Nat.zero_add, runF_is n s k, vruns_succ (by omega), sum_flat]
    congr 1
    refine List.map_congr_left fun o ho => ?_
    have hi : ∀ y ∈ o, y < (k : Int) + s := run_hi (List.mem_filter.mp ho).1
    rw [List.map_map, vcand_is hi, List.map_map, sum_filter]
    unfold gF
    congr 1
    refine List.map_congr_left fun j hj => ?_
    have hj := List.mem_range.mp hj
    show (if okF n s k (wF s k o) j = true then f (nxF (wF s k o) j) else 0) = if okF n s k (wF s k o) j = true then f (wF s (k + 1) (o ++ [(k : Int) - s + j])) else 0
    rw [nx_is hi hj]
theorem tot_is : ∀ st, totF st = sumF (fun _ => 1) st
  | [] => rfl
  | e :: st => by
    unfold totF
    rw [tot_is st]
    simp only [sumF, List.map_cons, List.sum_cons, Nat.mul_one]
theorem cntF_is (n s : Nat) : cntF n s = (runs n s n).length := by
  unfold cntF
  rw [tot_is, runF_is]
  have : vruns n s n = runs n s n := List.filter_eq_self.mpr fun o ho => by
    unfold vOk
    rw [List.all_eq_true]
    intro f hf
    have hf := mem_rng.mp hf
    obtain ⟨nd, rg⟩ := run_nodup ho
    have hl := run_len ho
    refine decide_eq_true (Classical.byContradiction fun w => ?_)
    have e := lack_cb (t := o) (a := 0) (b := (n : Int)) (x := (n : Int)) nd (fun y hy => (rg y hy).1) (by omega) (Int.le_refl _)
    have a : cb o n = o.length := cb_all fun y hy => (rg y hy).2
    have c : f ∈ lack o 0 n := mem_lack.mpr ⟨by omega, w⟩
    have d : cb (lack o 0 n) n = (lack o 0 n).length := cb_all fun y hy => (mem_lack.mp hy).1.2
    have := List.length_pos_of_mem c
    omega
  rw [this]
  generalize runs n s n = xs
  induction xs with
  | nil => rfl
  | cons x xs ih => rw [List.map_cons, List.sum_cons, ih, List.length_cons]; omega
theorem nodup_le {α : Type} [DecidableEq α] : ∀ {xs ys : List α}, xs.Nodup → (∀ x ∈ xs, x ∈ ys) → xs.length ≤ ys.length
  | [], _, _, _ => Nat.zero_le _
  | x :: xs, ys, nd, h => by
    have ⟨n1, n2⟩ := List.nodup_cons.mp nd
    have hx := h x (List.mem_cons_self ..)
    have := nodup_le (ys := ys.erase x) n2 fun y hy => (List.mem_erase_of_ne (fun (e : y = x) => n1 (by rw [← e]; exact hy))).mpr (h y (List.mem_cons_of_mem _ hy))
    rw [List.length_erase_of_mem hx] at this
    have := List.length_pos_of_mem hx
    simp only [List.length_cons]; omega
def subs (a : Int) : Nat → List (List Int)
  | 0 => [[]]
  | m + 1 => subs (a + 1) m ++ (subs (a + 1) m).map fun t => a :: t
theorem subs_len : ∀ (m : Nat) (a : Int), (subs a m).length = 2 ^ m
  | 0, _ => rfl
  | m + 1, a => by unfold subs; rw [List.length_append, List.length_map, subs_len m, Nat.pow_succ]; omega
theorem mem_subs : ∀ {m : Nat} {a : Int} {t : List Int}, Up t → (∀ x ∈ t, a ≤ x ∧ x < a + m) → t ∈ subs a m
  | 0, a, t, _, h => by
    cases t with
    | nil => exact List.mem_singleton.mpr rfl
    | cons x t => have := h x (List.mem_cons_self ..); omega
  | m + 1, a, t, u, h => by
    unfold subs
    cases t with
    | nil => exact List.mem_append_left _ (mem_subs u fun x hx => nomatch hx)
    | cons x t =>
      have ⟨u1, u2⟩ := List.pairwise_cons.mp u
      by_cases e : x = a
      · subst e
        exact List.mem_append_right _ (List.mem_map.mpr ⟨t, mem_subs u2 fun y hy => by
          have := h y (List.mem_cons_of_mem _ hy)
          have := u1 y hy
          omega, rfl⟩)
      · exact List.mem_append_left _ (mem_subs u fun y hy => by
          have hx := h x (List.mem_cons_self ..)
          rcases List.mem_cons.mp hy with q | q
          · rw [q]; omega
          · have := u1 y q
            have := h y (List.mem_cons_of_mem _ q)
            omega)
theorem moF {n s : Int} (hn : 0 ≤ n) (hs : 0 ≤ s) : ((runs n s n.toNat).length : Int) = cntF n.toNat s.toNat := by
  rw [cntF_is]
  rw [show ((n.toNat : Nat) : Int) = n by omega, show ((s.toNat : Nat) : Int) = s by omega]
end LW

set_option Elab.async false
set_option linter.all false
set_option maxRecDepth 100000
set_option maxHeartbeats 4000000
namespace LW
open PySem PySem.Spec PyProof.Rows L2 GL
/-! ### a dict of counts as sums -/
def dSum (f : Tup Int → Int) (l : List (Tup Int × Int)) : Int := (l.map fun e => e.2 * f e.1).sum
theorem dsum_cons (f : Tup Int → Int) (e : Tup Int × Int) (l : List (Tup Int × Int)) : dSum f (e :: l) = e.2 * f e.1 + dSum f l := by
  unfold dSum; rw [List.map_cons, List.sum_cons]
theorem dsum_app (f : Tup Int → Int) : ∀ (a b : List (Tup Int × Int)), dSum f (a ++ b) = dSum f a + dSum f b
  | [], b => by show dSum f b = 0 + _; omega
  | e :: a, b => by rw [List.cons_append, dsum_cons, dsum_cons, dsum_app f a b]; omega
theorem dput_sum (f : Tup Int → Int) (k : Tup Int) (c : Int) : ∀ (l : List (Tup Int × Int)), (l.map (·.1)).Nodup → ((Dc.mk l).put k (((Dc.mk l).at k).getD 0 + c)).l.map (·.1) = (if k ∈ l.map (·.1) then l.map (·.1) else l.map (·.1) ++ [k]) ∧ dSum f ((Dc.mk l).put k (((Dc.mk l).at k).getD 0 + c)).l = dSum f l + c * f k
  | [], _ => by
    refine ⟨rfl, ?_⟩
    show dSum f [(k, (0 : Int) + c)] = dSum f [] + c * f k
    rw [dsum_cons]; show (0 + c) * f k + 0 = 0 + _
    rw [Int.zero_add]; omega
  | (u, d) :: l, nd => by
    rw [List.map_cons] at nd
    have ⟨n1, n2⟩ := List.nodup_cons.mp nd
    have ih := dput_sum f k c l n2
    unfold Dc.put Dc.at at ih ⊢
    by_cases e : u = k
    · subst e
      simp only [List.find?_cons, decide_true, Option.map_some, Option.isSome_some, if_true, Option.getD_some, List.map_cons, if_pos, List.mem_cons, true_or]
      have same : ∀ (w : Int), (l.map fun e : Tup Int × Int => if e.1 = u then (e.1, w) else e) = l := fun w => by
        have : (l.map fun e : Tup Int × Int => if e.1 = u then (e.1, w) else e) = l.map id := List.map_congr_left fun e he => if_neg fun (z : e.1 = u) => n1 (by rw [← z]; exact List.mem_map.mpr ⟨e, he, rfl⟩)
        rw [this, List.map_id]
      rw [same]
      refine ⟨rfl, ?_⟩
      rw [dsum_cons, dsum_cons]
      show (d + c) * f u + _ = d * f u + _ + _
      rw [Int.add_mul]; omega
    · have ek : ¬ k = u := fun z => e z.symm
      simp only [List.find?_cons, decide_eq_false e, List.map_cons, List.mem_cons, ek, false_or]
      by_cases w : ((l.find? fun e => decide (e.1 = k)).map (·.2)).isSome = true
      · rw [if_pos w] at ih ⊢
        simp only [List.map_cons, if_neg e]
        obtain ⟨i1, i2⟩ := ih
        refine ⟨?_, ?_⟩
        · rw [i1]; split <;> simp
        · rw [dsum_cons, dsum_cons, i2]; omega
      · rw [if_neg w] at ih ⊢
        obtain ⟨i1, i2⟩ := ih
        refine ⟨?_, ?_⟩
        · rw [List.cons_append, List.map_cons, i1]; split <;> simp
        · rw [List.cons_append, dsum_cons, dsum_cons, i2]; omega
/-- what of the window a run has taken -/
def wT (s : Int) (p : Nat) (o : List Int) : Tup Int := ⟨(srt o).filter fun y => decide ((p : Int) - s ≤ y)⟩
def hadT (s p : Int) (t : List Int) (x : Int) : List Int := srt ((t.filter fun y => decide (p - s ≤ y)) ++ [x])
def okT (s p : Int) (t : List Int) (x : Int) : Bool := (!decide (x ∈ t)) && (decide (p - s < 0) || decide (p - s ∈ hadT s p t x))
def nxT (s p : Int) (t : List Int) (x : Int) : Tup Int := ⟨(hadT s p t x).filter fun y => decide (p - s < y)⟩
theorem map_id' {xs : List Int} : (xs.map fun (y : Int) => y) = xs := List.map_id xs
/-- keys in the window -/
def KeyW (s : Int) (p : Int) (t : Tup Int) : Prop := Up t.l ∧ ∀ x ∈ t.l, p - s ≤ x ∧ x < p + s
theorem keys_few {s p : Int} (hs : 0 ≤ s ∧ s ≤ 3) {ks : List (Tup Int)} (nd : ks.Nodup) (h : ∀ t ∈ ks, KeyW s p t) : ks.length ≤ 64 := by
  have nd2 : (ks.map fun t => t.l).Nodup := List.pairwise_map.mpr (nd.imp fun {a b} n e => n (by cases a; cases b; simp only at e; rw [e]))
  have := nodup_le nd2 (ys := subs (p - s) 6) fun x hx => by
    obtain ⟨t, ht, rfl⟩ := List.mem_map.mp hx
    obtain ⟨u, r⟩ := h t ht
    exact mem_subs u fun y hy => by have := r y hy; omega
  rw [List.length_map, subs_len] at this
  exact this
structure CtI (n s : Int) (p : Nat) (d : Dc (Tup Int) Int) : Prop where
  nd : (d.l.map (·.1)).Nodup
  key : ∀ t ∈ d.l.map (·.1), KeyW s p t
  sum : ∀ f, dSum f d.l = ((vruns n s p).map fun o => f (wT s p o)).sum
theorem isum_flat {α β : Type} (g : β → Int) (h : α → List β) : ∀ xs : List α, ((xs.flatMap h).map g).sum = (xs.map fun x => ((h x).map g).sum).sum
  | [] => rfl
  | x :: xs => by rw [List.flatMap_cons, List.map_append, List.sum_append, List.map_cons, List.sum_cons, isum_flat g h xs]
theorem isum_filter {α : Type} (p : α → Bool) (g : α → Int) : ∀ xs : List α, ((xs.filter p).map g).sum = (xs.map fun x => if p x then g x else 0).sum
  | [] => rfl
  | x :: xs => by
    rw [List.filter_cons, List.map_cons, List.sum_cons]
    split
    · rw [List.map_cons, List.sum_cons, isum_filter p g xs]
    · rw [isum_filter p g xs]; omega
/-- one flight's turn -/
theorem turn1 {n s : Int} {p : Int} (hs : 0 ≤ s ∧ s ≤ 3) {t : Tup Int} (ht : KeyW s p t) (c : Int) {x : Int} (hx : p - s ≤ x ∧ x ≤ p + s) {d : Dc (Tup Int) Int} (nd : (d.l.map (·.1)).Nodup) (hk : ∀ u ∈ d.l.map (·.1), KeyW s (p + 1) u) :
    Y (m_L_counted_l1 s p (t, c) d x) fun d' => (d'.l.map (·.1)).Nodup ∧ (∀ u ∈ d'.l.map (·.1), KeyW s (p + 1) u) ∧ ∀ f, dSum f d'.l = dSum f d.l + c * (if okT s p t.l x then f (nxT s p t.l x) else 0) := by
  have hfew := keys_few hs nd hk
  rw [List.length_map] at hfew
  have htl : t.l.length ≤ 64 := by
    have := nodup_le ht.1.nodup (ys := rng (p - s) (p + s)) fun y hy => mem_rng.mpr (ht.2 y hy)
    rw [rng_length] at this; omega
  have hfl : (t.l.filter fun y => decide (p - s ≤ y)).length ≤ 64 := Nat.le_trans (List.length_filter_le _ _) htl
  unfold m_L_counted_l1
  simp only [map_id']
  refine .cond (fun h => ?_) fun h => ⟨_, rfl, nd, hk, fun f => ?_⟩
  · have hxt : decide (x ∈ t.l) = false := by simpa using h
    refine .asr (by show t.l.length ≤ _; rw [sizeLine_eq]; omega) (.asr (by rw [sizeLine_eq]; simp only [List.length_cons, List.length_nil]; show (t.l.filter fun y => decide (p - s ≤ y)).length + 1 ≤ _; omega) (.let_ ?_))
    show Y (cond (decide (p - s < 0) || decide (p - s ∈ hadT s p t.l x)) _ _) _
    have hadl : (hadT s p t.l x).length ≤ 65 := by unfold hadT; rw [srt_length, app1]; omega
    refine .cond (fun h2 => .asr (by show (hadT s p t.l x).length ≤ _; rw [sizeLine_eq]; omega) (.let_ (.asr (lt_size (by omega)) (.let_ ⟨_, rfl, ?_⟩)))) fun h2 => ⟨_, rfl, nd, hk, fun f => ?_⟩
    · show ((Dc.put d (nxT s p t.l x) (((d.at (nxT s p t.l x)).getD 0) + c)).l.map (·.1)).Nodup ∧ (∀ u ∈ (Dc.put d (nxT s p t.l x) (((d.at (nxT s p t.l x)).getD 0) + c)).l.map (·.1), KeyW s (p + 1) u) ∧ ∀ f, dSum f (Dc.put d (nxT s p t.l x) (((d.at (nxT s p t.l x)).getD 0) + c)).l = _
      have hput := fun f => dput_sum f (nxT s p t.l x) c d.l nd
      have ed : Dc.mk d.l = d := by cases d; rfl
      rw [ed] at hput
      have hkey : KeyW s (p + 1) (nxT s p t.l x) := by
        have ndh : ((t.l.filter fun y => decide (p - s ≤ y)) ++ [x]).Nodup := List.nodup_append.mpr ⟨Up.nodup (ht.1.filter _), by simp, fun u hu v hv e => by
          rw [List.mem_singleton.mp hv] at e
          subst e
          exact of_decide_eq_false hxt (List.mem_filter.mp hu).1⟩
        refine ⟨(srt_up ndh).filter _, fun y hy => ?_⟩
        obtain ⟨h3, h4⟩ := List.mem_filter.mp hy
        have h4 := of_decide_eq_true h4
        have h3 := mem_srt.mp h3
        rcases List.mem_append.mp h3 with q | q
        · have := ht.2 y (List.mem_filter.mp q).1; omega
        · rw [List.mem_singleton.mp q] at h4 ⊢; omega
      refine ⟨?_, fun u hu => ?_, fun f => ?_⟩
      · have e1 := (hput fun _ => 0).1
        show List.Nodup (List.map (·.1) (Dc.put d _ (((d.at (nxT s p t.l x)).getD 0) + c)).l)
        rw [e1]
        split
        · exact nd
        · rename_i w
          exact List.nodup_append.mpr ⟨nd, by simp, fun u hu v hv e => by
            rw [List.mem_singleton.mp hv] at e
            exact w (e ▸ hu)⟩
      · have e1 := (hput fun _ => 0).1
        have hu : u ∈ List.map (·.1) (Dc.put d _ (((d.at (nxT s p t.l x)).getD 0) + c)).l := hu
        rw [e1] at hu
        split at hu
        · exact hk u hu
        · rcases List.mem_append.mp hu with q | q
          · exact hk u q
          · rw [List.mem_singleton.mp q]; exact hkey
      · have ok : okT s p t.l x = true := by unfold okT; rw [hxt, h2]; rfl
        rw [ok, if_pos rfl]
        exact (hput f).2
    · have ok : okT s p t.l x = false := by unfold okT; rw [h2]; simp
      rw [ok]; simp
  · have ok : okT s p t.l x = false := by
      have : decide (x ∈ t.l) = true := by simpa using h
      unfold okT; rw [this]; rfl
    rw [ok]; simp
theorem counted_ok {n s : Int} (hn : 0 ≤ n ∧ n ≤ 40) (hs : 0 ≤ s ∧ s ≤ 3) : m_L_counted n s = .ok (moV n s) := by
  refine Y.eq ?_
  unfold m_L_counted
  have v0 : vruns n s 0 = [[]] := by
    unfold vruns runs
    rw [List.filter_cons, if_pos (by unfold vOk; rw [rng_nil (by omega)]; rfl)]; rfl
  have s0 : srt ([] : List Int) = [] := List.length_eq_zero_iff.mp (by rw [srt_length]; rfl)
  refine .let_ (.asr (small_of (by omega)) (.foldK (fun p d => CtI n s p d) ⟨by simp, fun t h => ?_, fun f => ?_⟩ (fun p d place hx hI => ?_) fun d hI => ⟨_, rfl, ?_⟩))
  · have : t = ⟨[]⟩ := by simpa using h
    rw [this]; exact ⟨List.Pairwise.nil, fun _ h => nomatch h⟩
  · rw [v0]
    have : wT s 0 [] = ⟨[]⟩ := by unfold wT; rw [s0]; rfl
    show dSum f [((⟨[]⟩ : Tup Int), (1 : Int))] = (([[]] : List (List Int)).map fun o => f (wT s 0 o)).sum
    rw [dsum_cons, List.map_cons, List.sum_cons, this]
    show 1 * f ⟨[]⟩ + 0 = f ⟨[]⟩ + 0
    omega
  · have hp := lt_of_at hx
    rw [rng_length] at hp
    have hx := rng_atF hx
    have ep : place = (p : Int) := by omega
    subst ep
    have him : imin n ((p : Int) + s + 1) ≤ n ∧ 0 ≤ imax 0 ((p : Int) - s) ∧ 0 ≤ imin n ((p : Int) + s + 1) ∧ imax 0 ((p : Int) - s) ≤ 100 := by
      rw [imax_eq, imin_eq]; refine ⟨?_, by omega, ?_, by omega⟩ <;> split <;> omega
    let js := rng (imax 0 ((p : Int) - s)) (imin n ((p : Int) + s + 1))
    have hjs : ∀ x ∈ js, (p : Int) - s ≤ x ∧ x ≤ p + s := fun x hx => by
      have := mem_rng.mp hx
      rw [imax_eq, imin_eq] at this
      obtain ⟨a, b⟩ := this
      split at b <;> omega
    let g : (Tup Int → Int) → Tup Int → Int := fun f t => (js.map fun x => if okT s p t.l x then f (nxT s p t.l x) else 0).sum
    have fin : ∀ a : Dc (Tup Int) Int, (a.l.map (·.1)).Nodup → (∀ u ∈ a.l.map (·.1), KeyW s ((p : Int) + 1) u) → (∀ f, dSum f a.l = dSum (g f) d.l) → CtI n s (p + 1) a := fun a a1 a2 a3 => by
      refine ⟨a1, fun t ht => by have := a2 t ht; rwa [show ((p + 1 : Nat) : Int) = (p : Int) + 1 by omega], fun f => ?_⟩
      rw [a3 f, hI.sum, vruns_succ hs.1, isum_flat]
      congr 1
      refine List.map_congr_left fun o ho => ?_
      have ho' := (List.mem_filter.mp ho).1
      obtain ⟨nd, rg⟩ := run_nodup ho'
      have hhi := run_hi ho'
      -- the two ways to go on
      have e1 : ((vcand n s p o).map fun x => o ++ [x]).map (fun o => f (wT s (p + 1) o)) = (vcand n s p o).map fun x => f (wT s (p + 1) (o ++ [x])) := by rw [List.map_map]; rfl
      rw [e1]
      unfold vcand cand
      rw [List.filter_filter, isum_filter]
      show (js.map fun x => if okT s p (wT s p o).l x then f (nxT s p (wT s p o).l x) else 0).sum = (js.map _).sum
      congr 1
      refine List.map_congr_left fun x hx => ?_
      have hxr := hjs x hx
      have mw : ∀ y, y ∈ (wT s p o).l ↔ y ∈ o ∧ (p : Int) - s ≤ y := fun y => by
        unfold wT; rw [List.mem_filter, mem_srt, decide_eq_true_eq]
      have up : Up (wT s p o).l := (srt_up nd).filter _
      have mh : ∀ y, y ∈ hadT s p (wT s p o).l x ↔ (y ∈ o ∧ (p : Int) - s ≤ y) ∨ y = x := fun y => by
        unfold hadT
        rw [mem_srt, List.mem_append, List.mem_singleton, List.mem_filter, mw, decide_eq_true_eq]
        constructor
        · rintro (⟨h, _⟩ | h)
          · exact .inl h
          · exact .inr h
        · rintro (h | h)
          · exact .inl ⟨h, h.2⟩
          · exact .inr h
      have ok : okT s p (wT s p o).l x = ((decide ((p : Int) - s < 0) || decide ((p : Int) - s ∈ o ++ [x])) && !decide (x ∈ o)) := by
        unfold okT
        rw [Bool.eq_iff_iff]
        simp only [Bool.and_eq_true, Bool.or_eq_true, Bool.not_eq_true', decide_eq_true_eq, decide_eq_false_iff_not, mw, mh, List.mem_append, List.mem_singleton]
        constructor
        · rintro ⟨a, b⟩
          refine ⟨?_, fun z => a ⟨z, hxr.1⟩⟩
          rcases b with b | b
          · exact .inl b
          · rcases b with b | b
            · exact .inr (.inl b.1)
            · exact .inr (.inr b)
        · rintro ⟨a, b⟩
          refine ⟨fun z => b z.1, ?_⟩
          rcases a with a | a | a
          · exact .inl a
          · exact .inr (.inl ⟨a, Int.le_refl _⟩)
          · exact .inr (.inr a)
      rw [ok]
      split
      · rename_i w
        rw [Bool.and_eq_true] at w
        have hxo : x ∉ o := by simpa using w.2
        congr 1
        have nd1 : (o ++ [x]).Nodup := List.nodup_append.mpr ⟨nd, by simp, fun u hu v hv e => by
          rw [List.mem_singleton.mp hv] at e
          exact hxo (e ▸ hu)⟩
        have ndh : (((wT s p o).l.filter fun y => decide ((p : Int) - s ≤ y)) ++ [x]).Nodup := List.nodup_append.mpr ⟨Up.nodup (up.filter _), by simp, fun u hu v hv e => by
          rw [List.mem_singleton.mp hv] at e
          exact hxo (e ▸ ((mw u).mp (List.mem_filter.mp hu).1).1)⟩
        unfold nxT wT
        congr 1
        refine up_ext ((srt_up ndh).filter _) ((srt_up nd1).filter _) fun y => ?_
        rw [List.mem_filter, List.mem_filter, decide_eq_true_eq, decide_eq_true_eq, mem_srt, List.mem_append, List.mem_singleton]
        have := mh y
        unfold wT at this
        rw [this]
        constructor
        · rintro ⟨h | h, h2⟩
          · exact ⟨.inl h.1, by omega⟩
          · exact ⟨.inr h, by omega⟩
        · rintro ⟨h | h, h2⟩
          · exact ⟨.inl ⟨h, by omega⟩, by omega⟩
          · exact ⟨.inr h, by omega⟩
      · rfl
    unfold m_L_counted_l3
    refine .let_ (.foldK (fun i a => (a.l.map (·.1)).Nodup ∧ (∀ u ∈ a.l.map (·.1), KeyW s ((p : Int) + 1) u) ∧ ∀ f, dSum f a.l = dSum (g f) (d.l.take i)) ⟨by simp, fun _ h => by simp at h, fun f => rfl⟩ (fun i a e he hJ => ?_) fun a hJ => ⟨_, rfl, fin a hJ.1 hJ.2.1 fun f => by have := hJ.2.2 f; rwa [List.take_length] at this⟩)
    have hek : KeyW s p e.1 := hI.key _ (List.mem_map.mpr ⟨e, List.mem_of_getElem? he, rfl⟩)
    unfold m_L_counted_l2
    refine .asr (small_of (by omega)) (.asr (small_of (by omega)) (.foldK (fun j b => (b.l.map (·.1)).Nodup ∧ (∀ u ∈ b.l.map (·.1), KeyW s ((p : Int) + 1) u) ∧ ∀ f, dSum f b.l = dSum f a.l + e.2 * ((js.take j).map fun x => if okT s p e.1.l x then f (nxT s p e.1.l x) else 0).sum) ⟨hJ.1, hJ.2.1, fun f => by simp⟩ (fun j b x hx hL => ?_) fun b hL => ⟨_, rfl, hL.1, hL.2.1, fun f => ?_⟩))
    · have hxm : x ∈ js := List.mem_of_getElem? hx
      refine (turn1 (n := n) hs hek e.2 (hjs x hxm) hL.1 hL.2.1).imp fun b' hb' => ⟨hb'.1, hb'.2.1, fun f => ?_⟩
      rw [hb'.2.2 f, hL.2.2 f, List.take_succ, show js[j]? = some x from hx, List.map_append, List.sum_append]
      simp only [Option.toList_some, List.map_cons, List.map_nil, List.sum_cons, List.sum_nil]
      rw [Int.mul_add]; simp only [Int.add_zero]; omega
    · have hL2 := hL.2.2 f
      rw [show (rng (imax 0 ((p : Int) - s)) (imin n ((p : Int) + s + 1))).length = js.length from rfl, List.take_length] at hL2
      rw [hL2, hJ.2.2 f, List.take_succ, he, dsum_app]
      show _ + e.2 * g f e.1 = _ + dSum (g f) [e]
      rw [dsum_cons]; show _ = _ + (_ + 0); omega
  · rw [rng_length] at hI
    have e1 := hI.sum fun _ => 1
    have e2 : dSum (fun _ => 1) d.l = (d.l.map (·.2)).sum := by unfold dSum; congr 1; exact List.map_congr_left fun e _ => Int.mul_one _
    show (d.l.map (·.2)).sum = _
    rw [← e2, e1]
    have ev : vruns n s (n - 0).toNat = runs n s n.toNat := by
      rw [Int.sub_zero]
      refine List.filter_eq_self.mpr fun o ho => ?_
      unfold vOk
      rw [List.all_eq_true]
      intro f hf
      have hf := mem_rng.mp hf
      have := run_full hn.1 ho
      exact decide_eq_true (mem_srt.mp (by rw [this]; exact mem_rng.mpr (by omega)))
    rw [ev]
    unfold moV
    generalize runs n s n.toNat = xs
    induction xs with
    | nil => rfl
    | cons x xs ih => rw [List.map_cons, List.sum_cons, ih, List.length_cons]; omega
/-! ### what is asked beside, by numbers -/
def fac : Nat → Nat
  | 0 => 1
  | n + 1 => (n + 1) * fac n
def chk4 (n a0 a1 a2 a3 b1 c1 : Nat) : Bool := decide (a0 = 1) && (decide (n < 2) || decide (a1 = b1 + c1)) && decide (a0 ≤ a1) && decide (a1 ≤ a2) && decide (a2 ≤ a3) && decide (a3 ≤ fac n) && (decide (1 < n) || decide (a0 = fac n)) && (decide (2 < n) || decide (a1 = fac n)) && (decide (3 < n) || decide (a2 = fac n)) && (decide (4 < n) || decide (a3 = fac n))
def chk (n : Nat) : Bool := chk4 n (cntF n 0) (cntF n 1) (cntF n 2) (cntF n 3) (cntF (n - 1) 1) (cntF (n - 2) 1)
set_option maxRecDepth 1000000 in
theorem tab : (List.range 41).all chk = true := by decide +kernel
theorem cnt_facts {n s : Nat} (hn : n ≤ 40) (hs : s ≤ 3) : cntF n s ≤ fac n ∧ (n ≤ s + 1 → cntF n s = fac n) ∧ (s < 3 → cntF n s ≤ cntF n (s + 1)) ∧ cntF n 0 = 1 ∧ (1 < n → cntF n 1 = cntF (n - 1) 1 + cntF (n - 2) 1) := by
  have t := List.all_eq_true.mp tab n (List.mem_range.mpr (by omega))
  unfold chk chk4 at t
  simp only [Bool.and_eq_true, Bool.or_eq_true, decide_eq_true_eq] at t
  obtain ⟨⟨⟨⟨⟨⟨⟨⟨⟨t0, t1⟩, t2⟩, t3⟩, t4⟩, t5⟩, t6⟩, t7⟩, t8⟩, t9⟩ := t
  refine ⟨?_, ?_, ?_, t0, by omega⟩
  · rcases (by omega : s = 0 ∨ s = 1 ∨ s = 2 ∨ s = 3) with e | e | e | e <;> subst e <;> omega
  · intro h; rcases (by omega : s = 0 ∨ s = 1 ∨ s = 2 ∨ s = 3) with e | e | e | e <;> subst e <;> omega
  · intro h; rcases (by omega : s = 0 ∨ s = 1 ∨ s = 2 ∨ s = 3) with e | e | e | e <;> subst e <;> omega
theorem law_true (ns : List Int) (hl : ns.length ≤ 63) : m_law ns = .ok true := by
  refine Y.eq ?_
  unfold m_law
  refine .bindO (cell_ok ns (by omega)) fun c0 _ => .let_ (.bindO (cell_ok ns (by omega)) fun c1 _ => .let_ ?_)
  have hm : 0 ≤ c0 % 41 ∧ c0 % 41 ≤ 40 := by omega
  have hs : 0 ≤ c1 % 4 ∧ c1 % 4 ≤ 3 := by omega
  generalize c0 % 41 = many at hm ⊢
  generalize c1 % 4 = shift at hs ⊢
  obtain ⟨n, rfl⟩ : ∃ n : Nat, many = n := ⟨many.toNat, by omega⟩
  obtain ⟨s, rfl⟩ : ∃ s : Nat, shift = s := ⟨shift.toNat, by omega⟩
  obtain ⟨f1, f2, f3, f4, f5⟩ := cnt_facts (n := n) (s := s) (by omega) (by omega)
  have mo : ∀ (a b : Int), 0 ≤ a → 0 ≤ b → moV a b = cntF a.toNat b.toNat := fun a b ha hb => moF ha hb
  have ok : ∀ (a b : Int), 0 ≤ a ∧ a ≤ 40 → 0 ≤ b ∧ b ≤ 3 → m_many_orders a b = .ok ((cntF a.toNat b.toNat : Nat) : Int) := fun a b ha hb => by rw [many_orders_ok (by omega) hb, mo a b ha.1 hb.1]
  refine .bindOe (ok n s hm hs) (.asr (fun _ _ => ⟨_, counted_ok hm hs⟩) (.cond (fun h => ?_) fun _ => .bindOe (ok n 0 hm (by omega)) (.cond (fun h => ?_) fun _ => .asr (fun _ => ⟨_, ok n 1 hm (by omega)⟩) (.asr (fun h => ⟨_, ok (n - 1) 1 (by have := of_decide_eq_true h; omega) (by omega)⟩) (.asr (fun h => ⟨_, ok (n - 2) 1 (by have := of_decide_eq_true h; omega) (by omega)⟩) (.cond (fun h => ?_) fun _ => .let_ (.asr (small_of (by omega)) (.foldK (fun i f => f = (fac i : Int)) rfl (fun i f x hx hI => ?_) fun f hf => .cond (fun h => ?_) fun h => .asr (fun h => ⟨_, ok n (s + 1) hm (by have := of_decide_eq_false h; omega)⟩) ⟨_, rfl, ?_⟩))))))))
  · exfalso
    rw [counted_ok hm hs, M.get_ok, mo _ _ hm.1 hs.1] at h
    simp at h
  · exfalso
    simp only [Int.toNat_natCast, Int.toNat_zero, f4] at h
    simp at h
  · exfalso
    rw [Bool.and_eq_true] at h
    have h1 := of_decide_eq_true h.1
    have h2 := h.2
    rw [ok n 1 hm (by omega), ok (n - 1) 1 (by omega) (by omega), ok (n - 2) 1 (by omega) (by omega)] at h2
    simp only [M.get_ok] at h2
    have h5 := f5 (by omega)
    rw [show ((n : Int)).toNat = n by omega, show ((n : Int) - 1).toNat = n - 1 by omega, show ((n : Int) - 2).toNat = n - 2 by omega, show (1 : Int).toNat = 1 from rfl] at h2
    rw [Bool.not_eq_true'] at h2
    exact absurd (by rw [h5, Int.natCast_add]) (of_decide_eq_false h2)
  · have hx := rng_at' hx
    subst hI
    unfold m_law_l1
    refine .asr ?_ (.let_ ⟨_, rfl, ?_⟩)
    · exact Or.inr (by omega)
    · show (fac i : Int) * x = ((((i + 1) * fac i : Nat)) : Int)
      rw [Int.natCast_mul, hx.1, Int.mul_comm]; congr 1; omega
  · exfalso
    rw [rng_length] at hf
    rw [show ((n : Int) + 1 - 1).toNat = n by omega] at hf
    simp only [Bool.or_eq_true, Bool.and_eq_true, decide_eq_true_eq, Bool.not_eq_true', decide_eq_false_iff_not, Int.toNat_natCast] at h
    omega
  · simp only [Bool.or_eq_true, decide_eq_true_eq]
    by_cases e : s = 3
    · exact .inl (by omega)
    · refine .inr ?_
      rw [ok n (s + 1) hm (by omega), M.get_ok]
      have := f3 (by omega)
      rw [show ((n : Int)).toNat = n by omega, show ((s : Int)).toNat = s by omega, show ((s : Int) + 1).toNat = s + 1 by omega]
      omega
end LW

set_option Elab.async false
set_option linter.all false
set_option maxRecDepth 100000
set_option maxHeartbeats 0
namespace LW
open PySem PySem.Spec PyProof.Rows L2 GL
theorem law_spec {K : Fg} {H : Hp} {a : Addr} {ns : List Int} (hl : ns.length ≤ 63) (hO : L2.Only H) (hS : SqL K H a (ns.map V.int)) : sp_law P w K [.ref a] H (fun v _ => v = .bl true) fun _ _ _ => False := by
  have e : m_law ns = .ok true := law_true ns hl
  refine ⟨ns, H, Evl.Ex.refl H, .cons ⟨a, rfl, hS⟩ .nil, ⟨true, e⟩, fun v F H' g p => ?_⟩
  have p' : (py K (enc (m_law ns).get)).p F v := p
  rw [e] at p'
  cases p'
  rfl
end LW
namespace LW
open PySem PySem.Spec PyProof.Rows L2 GL
def mkD (x : Str) (st : Stmt) : He.DefD := ⟨(x, none), x, x, defArgs st, defBody st, defScope st, [], []⟩
def mkM (c m q : Str) (st : Stmt) : He.DefD := ⟨(c, some m), m, q, defArgs st, defBody st, defScope st, [], []⟩
def fn : List He.DefD := ([mkD "is_near" s_is_near, mkD "beginnings_of" s_beginnings_of, mkD "steps_to" s_steps_to, mkD "many_orders" s_many_orders, mkD "_law_cell" s_L_cell, mkD "_law_counted" s_L_counted, mkD "law" s_law] : List He.DefD)
def fa : List He.Fa := ([.glo "is_near", .glo "beginnings_of", .glo "steps_to", .glo "many_orders", .glo "_law_cell", .glo "_law_counted", .glo "law", .free "len", .free "range", .free "list", .free "tuple", .free "isinstance", .free "int", .free "bool", .free "max", .free "min", .free "sorted", .free "enumerate", .free "zip", .free "sum", .free "all", .free "any", .free "set", .free "abs", .free "reversed", .free "str", .free "dict", .free "ValueError"] : List He.Fa)
def loose : List Str := (["is_near", "beginnings_of", "steps_to", "many_orders", "_law_cell", "_law_counted"] : List Str)
abbrev R : PySem.W.OpenRow := PySem.W.OpenLaw.row PySem.Challenge.rw_wakeorder_k43_how_many_orders
abbrev hk : PySem.W.Hook := He.hookD 5 fa fn
def ob (s : PySem.W.SharedT) : He.AlD := He.obsDG 5 fa fn (HandSHeadRun.getT s)
theorem ob_eq (s : PySem.W.SharedT) : ob s = hk.obs s.abs := He.obsDG_eq (HandSHeadRun.getT_eq s)
theorem run (w : World) : HandSHeadRun.RunEq R (PySem.W.view R.prog [8]) hk ob 30000 loose w := by
  intro os
  kernel_rfl
theorem facts {P : Program} {w : World} {K : Fg} {h : Heap} {mg : Str → Option Value} {f : Addr} (X : K.In h) (G : h.Ns mainGlobals mg) (hfa : mg ("law" : Str) = some (.ref f)) (c : He.SaysD fa fn K) :
    ∃ fd : FuncData, (∀ (s : Shared) (v : Value), BindsTo s fd ⟨[v], []⟩ [("_law_script", v)]) ∧ ∀ base : Heap, K.In base → base.Ns mainGlobals mg → FnOk P w K mg base CX0 4 f fd ["_law_script"] (sp_law P w K) := by
  obtain ⟨fd0, F0⟩ := c.def_ 0 (d := mkD "is_near" s_is_near) rfl
  obtain ⟨fd1, F1⟩ := c.def_ 1 (d := mkD "beginnings_of" s_beginnings_of) rfl
  obtain ⟨fd2, F2⟩ := c.def_ 2 (d := mkD "steps_to" s_steps_to) rfl
  obtain ⟨fd3, F3⟩ := c.def_ 3 (d := mkD "many_orders" s_many_orders) rfl
  obtain ⟨fd4, F4⟩ := c.def_ 4 (d := mkD "_law_cell" s_L_cell) rfl
  obtain ⟨fd5, F5⟩ := c.def_ 5 (d := mkD "_law_counted" s_L_counted) rfl
  obtain ⟨fd6, F6⟩ := c.def_ 6 (d := mkD "law" s_law) rfl
  have e := hfa.symm.trans (He.glo_ok X G (c.fact 6 (f := .glo "law") rfl))
  cases e
  have b := FunD.bindsA (ps := ["_law_script"]) F6 fun _ _ _ _ _ _ us hl => match us, hl with | [_], _ => rfl
  have B : Blt mg := ⟨He.free_ok X G (c.fact 7 (f := .free "len") rfl), He.free_ok X G (c.fact 8 (f := .free "range") rfl), He.free_ok X G (c.fact 9 (f := .free "list") rfl), He.free_ok X G (c.fact 10 (f := .free "tuple") rfl), He.free_ok X G (c.fact 11 (f := .free "isinstance") rfl), He.free_ok X G (c.fact 12 (f := .free "int") rfl), He.free_ok X G (c.fact 13 (f := .free "bool") rfl), He.free_ok X G (c.fact 14 (f := .free "max") rfl), He.free_ok X G (c.fact 15 (f := .free "min") rfl), He.free_ok X G (c.fact 16 (f := .free "sorted") rfl), He.free_ok X G (c.fact 17 (f := .free "enumerate") rfl), He.free_ok X G (c.fact 18 (f := .free "zip") rfl), He.free_ok X G (c.fact 19 (f := .free "sum") rfl), He.free_ok X G (c.fact 20 (f := .free "all") rfl), He.free_ok X G (c.fact 21 (f := .free "any") rfl), He.free_ok X G (c.fact 22 (f := .free "set") rfl), He.free_ok X G (c.fact 23 (f := .free "abs") rfl), He.free_ok X G (c.fact 24 (f := .free "reversed") rfl), He.free_ok X G (c.fact 25 (f := .free "str") rfl), He.free_ok X G (c.fact 26 (f := .free "dict") rfl), He.free_ok X G (c.fact 27 (f := .free "ValueError") rfl)⟩
  have E0 : Env0 K mg := ⟨B⟩
  refine ⟨fd6, fun s v => b s [v] rfl, fun base _ _ => ?_⟩
  have G__law_cell : FnG P w K mg base CX0 1 "_law_cell" (sp_L_cell P w K) := ok_L_cell F4 (He.glo_ok X G (c.fact 4 (f := .glo "_law_cell") rfl)) E0 
  have G_is_near : FnG P w K mg base CX0 1 "is_near" (sp_is_near P w K) := ok_is_near F0 (He.glo_ok X G (c.fact 0 (f := .glo "is_near") rfl)) E0 
  have G_beginnings_of : FnG P w K mg base CX0 2 "beginnings_of" (sp_beginnings_of P w K) := ok_beginnings_of F1 (He.glo_ok X G (c.fact 1 (f := .glo "beginnings_of") rfl)) E0 G_is_near
  have G_steps_to : FnG P w K mg base CX0 1 "steps_to" (sp_steps_to P w K) := ok_steps_to F2 (He.glo_ok X G (c.fact 2 (f := .glo "steps_to") rfl)) E0 
  have G_many_orders : FnG P w K mg base CX0 3 "many_orders" (sp_many_orders P w K) := ok_many_orders F3 (He.glo_ok X G (c.fact 3 (f := .glo "many_orders") rfl)) E0 G_beginnings_of G_steps_to
  have G__law_counted : FnG P w K mg base CX0 1 "_law_counted" (sp_L_counted P w K) := ok_L_counted F5 (He.glo_ok X G (c.fact 5 (f := .glo "_law_counted") rfl)) E0 
  exact ok_law F6 (He.glo_ok X G (c.fact 6 (f := .glo "law") rfl)) E0 G__law_cell G_many_orders G__law_counted
end LW
open PySem PySem.W PySem.Calls PyProof.Rows
theorem PySem.Challenge.cw_wakeorder_k43_how_many_orders_holds : PySem.Challenge.rw_wakeorder_k43_how_many_orders.Holds := by
  w_on; o_law
  refine HandSHeadRun.head_any (r := OpenLaw.row PySem.Challenge.rw_wakeorder_k43_how_many_orders) (q := view (OpenLaw.row PySem.Challenge.rw_wakeorder_k43_how_many_orders).prog [8]) (H := LW.hk) (ob := LW.ob) (M := 30000) (loose := LW.loose) (d := HandSHeadRun.topDef (OpenLaw.row PySem.Challenge.rw_wakeorder_k43_how_many_orders).prog 8) (kwd := []) LW.ob_eq
    (by kernel_rfl) (fun s => by kernel_rfl) LW.run (by kernel_rfl) (by kernel_rfl) (by kernel_rfl) (by rfl) (by first | assumption | decide +kernel) (by decide +kernel) ⟨rfl, rfl, rfl, rfl, rfl, by decide +kernel⟩ ?hw ?hc
  case hw => w_witness2
  case hc =>
    refine L2.walk_ofE (l := PySem.Challenge.rw_wakeorder_k43_how_many_orders) (n := 63) (k := 4) (x := "_law_script") (CX := L2.CX0) rfl (by decide) (by kernel_rfl) ⟨rfl, by decide, by decide⟩ ?F (fun _ _ _ _ z => z)
    intro w mg fa h Y G hmg0
    obtain ⟨K, KX, c⟩ := Y
    have hmg : mg ("law" : PySem.Str) = some (.ref fa) := by
      have e : (HandSHeadRun.topDef (OpenLaw.row PySem.Challenge.rw_wakeorder_k43_how_many_orders).prog 8).name = ("law" : PySem.Str) := by kernel_rfl
      rw [← e]
      exact hmg0
    obtain ⟨fd, hb, hF⟩ := LW.facts (P := (PySem.Challenge.rw_wakeorder_k43_how_many_orders).prog) (w := w) KX G hmg c
    exact ⟨K, fd, LW.sp_law (PySem.Challenge.rw_wakeorder_k43_how_many_orders).prog w K, KX, hb, fun H a ns hl hO hS => LW.law_spec hl hO hS, hF⟩

